import PyProof.Rows.All
import Wide.All
import OpenK.AllK
import Wide.FinOn
import HandS.ForMost
import HandS.Evl
import HandS.Strs
import HandS.Style
import HandS.IsInst
import HandS.Codes
import HandS.DictComp
import HandS.Zip
import HandS.Walk
import HandS.Exc
import HandS.ExcCtx
import HandS.OwnEq
import KE.GoesEnum
import KE.GoesZip
import PySem.Challenge.RW_boundorvoid_k07_whole_forms_of_one_web
import HandS.SetFor
import KE.DataMinMax
import HandS.Lambda
import PyProof.ReprReads
import PyProof.ReprRoads
import HandS.ReCall
import KE.SortData
import PyProof.StrLawsRepr
import HandS.ExcSuper
import HandS.ExcField
import KE.KExcSuper
import PyProof.Rows.FactsExc_KeyError
import HandS.WordsExc
import HandS.EndTab
import KE.KNestM

set_option Elab.async false
set_option maxRecDepth 100000
set_option maxHeartbeats 4000000
/-! The base of the proof: the text by places, what the top has left, rules that the hand layer lacks. -/
namespace KB
open PySem PySem.Spec PyProof.Rows L2
def top (i : Nat) : Stmt := PySem.Challenge.pw_boundorvoid_k07_whole_forms_of_one_web.main.body.getD i (.Pass ⟨0, 0, 0, 0⟩)

/-- the built-in names that the walk leans on, and the module's constants -/
structure Txt (mg : Str → Option Value) : Prop where
  m_isinstance : mg "isinstance" = none
  m_len : mg "len" = none
  m_all : mg "all" = none
  m_tuple : mg "tuple" = none
  m_sorted : mg "sorted" = none
  m_set : mg "set" = none
  m_list : mg "list" = none
  m_enumerate : mg "enumerate" = none
  m_zip : mg "zip" = none
  m_range : mg "range" = none
  m_int : mg "int" = none
  m_abs : mg "abs" = none
  m_min : mg "min" = none
  m_repr : mg "repr" = none
  m_str : mg "str" = none
  c_LETTERS : ∃ t, mg "LETTERS" = some (.str "abcdefghijklmnopqrstuvwxyz" t)
  c_LONGEST : ∃ t, mg "LONGEST" = some (.int 8 t)
  c_FEWEST_HANDS : ∃ t, mg "FEWEST_HANDS" = some (.int 2 t)
  c_MOST_HANDS : ∃ t, mg "MOST_HANDS" = some (.int 6 t)
  c_FEWEST_NOTES : ∃ t, mg "FEWEST_NOTES" = some (.int 2 t)
  c_MOST_NOTES : ∃ t, mg "MOST_NOTES" = some (.int 40 t)

/-- a def of the module that keeps a promise -/
structure Cal (P : Program) (w : World) (K : PySem.W.Frag) (mg : Str → Option Value) (base : Heap) (CX : CXT) (k : Nat) (x : Str) (ps : List Str) (sp : Sp) : Prop where
  ex : ∃ (f : Addr) (fd : FuncData), FnOk P w K mg base CX k f fd ps sp ∧ mg x = some (.ref f) ∧ PySem.W.keepIn K (.ref f) = true ∧ Binds K fd ps []

section
variable {X : Cx} {CX : CXT} {k : Nat} {x : Str} {ps : List Str} {sp : Sp} {E : XK} {p pos : Pos} {e : Expr} {es : List Expr} {t : TA}
theorem pe_cal (c : Cal X.prog X.w X.K X.mg X.base CX k x ps sp) (hr : Room k X.A) (hg : Gl X x) (hx : Passes CX X E) (ha : PA X (e :: es) t)
    (hdb : (x == ("__debug__" : Str)) = false := by decide)
    (he : starEach (e :: es) X.env = (false, eval e X.env) :: starEach es X.env := by rfl) (hpl : (backTo pos (starEach es X.env)).any (·.1) = false := by rfl) :
    PE X (.Call (.Name x p) (e :: es) [] pos) (tCall sp [] E t) := by
  obtain ⟨f, fd, F, hm, hk, hb⟩ := c.ex
  exact pe_call F hr hg hm hk hb .nil hx ha hdb he hpl
end

section
variable {X : Cx} {pos : Pos}
theorem pg_n (i : Nat) {x : Str} (hN : X.N.Nodup) (hi : X.N[i]? = some x := by rfl) (hx : Loc X.env.scope x := by first | exact Or.inl rfl | exact Or.inr rfl)
    (hf : X.fn x = true ∨ X.env.scope.names.lookup x = some .local := by first | exact .inl rfl | exact .inr rfl) : PG X (.Name x pos) (gName i) := pg_name hN hi hx hf
theorem ps_n (i : Nat) {x : Str} {e : Expr} {te : TE} {pos' : Pos} (hN : X.N.Nodup) (he : PE X e te) (hi : X.N[i]? = some x := by rfl) (hx : Loc X.env.scope x := by first | exact Or.inl rfl | exact Or.inr rfl)
    (hs : swapsWith e (some (.Name x pos')) pos.line X.env = pure false := by rfl) (hf : X.fn x = true ∨ X.env.scope.names.lookup x = some .local := by first | exact .inl rfl | exact .inr rfl) :
    PS X (.Assign [.Name x pos'] e pos) (tAsg te (gName i)) := ps_set hN hi hx he hs hf
theorem ps_augn (i : Nat) {x : Str} {e : Expr} {te : TE} {op : Operator} {ti : TIp} {pos' : Pos} (hN : X.N.Nodup) (he : PE X e te) (ho : PIp X op ti) (hi : X.N[i]? = some x := by rfl) (hx : Loc X.env.scope x := by first | exact Or.inl rfl | exact Or.inr rfl)
    (hf : X.fn x = true ∨ X.env.scope.names.lookup x = some .local := by first | exact .inl rfl | exact .inr rfl) :
    PS X (.AugAssign (.Name x pos') op e pos) (tAug i te ti) := ps_aug hN hi hx he ho hf
theorem pe_gint {x : Str} {n : Int} {pos : Pos} (hg : Gl X x) (h : ∃ t, X.mg x = some (.int n t)) (hd : (x == ("__debug__" : Str)) = false := by decide) : PE X (.Name x pos) (tC (.int n)) := by
  obtain ⟨t, h⟩ := h
  exact pe_glob hg h ⟨t, rfl⟩ hd
theorem pe_gstr {x : Str} {n : Str} {pos : Pos} (hg : Gl X x) (h : ∃ t, X.mg x = some (.str n t)) (hd : (x == ("__debug__" : Str)) = false := by decide) : PE X (.Name x pos) (tC (.str n)) := by
  obtain ⟨t, h⟩ := h
  exact pe_glob hg h ⟨t, rfl⟩ hd
end
end KB

set_option Elab.async false
set_option linter.all false
set_option maxRecDepth 100000
set_option maxHeartbeats 4000000
/-! What a for walks: a list or a tuple; enumerate of either; zip of either with either. -/
namespace KB
open PySem PySem.Spec PyProof.Rows L2
def SqA (K : PySem.W.Frag) (H : Hp) (a : Addr) (xs : List V) : Prop := SqL K H a xs ∨ SqT K H a xs
def iSeq (K : PySem.W.Frag) (te : TE) : TI := fun σ H R => te σ H fun x H1 => ∃ a xs, x = .ref a ∧ ((SqL K H1 a xs ∧ R (Itl K a) H1) ∨ (SqT K H1 a xs ∧ R (Itt K a) H1))
section
variable {X : Cx} {tg : Expr}
theorem pi_seq {l : Expr} {tl : TE} (hl : PE X l tl) : PI X tg l (iSeq X.K tl) := by
  refine ⟨fun pins s σ H R I h => ?_⟩
  refine thn (hl.run pins s σ H _ I h) fun v s1 ⟨x, H1, I1, r1, a, xs, e, q1⟩ => ?_
  subst e
  cases r1
  have fr : ∀ b ∈ [s1.heap.objs.size], FpOk X pins H1 b := fun b hb => by
    have e : b = s1.heap.objs.size := by simpa using hb
    subst e
    exact I1.fpOk (Nat.le_refl _) (I1.hok.fresh (Nat.le_refl _))
  rcases q1 with ⟨hq, q⟩ | ⟨hq, q⟩
  · obtain ⟨its, rv, p, hz⟩ := I1.list hq
    refine wpAny_pyIter_list p.isList ?_
    exact ⟨_, [s1.heap.objs.size], _, _, H1, rfl, I1.kept (t' := s1.toks) fun b o e => Heap.get?_push_of_some _ e, turn_list a _, ⟨_, Heap.get?_push_size _ rfl, rfl, rfl⟩, fr, q⟩
  · obtain ⟨its, rv, p, hz⟩ := I1.tuple hq
    refine wpAny_pyIter_tuple (show s1.heap.IsTuple a its.toArray from p) ?_
    exact ⟨_, [s1.heap.objs.size], _, _, H1, rfl, I1.kept (t' := s1.toks) fun b o e => Heap.get?_push_of_some _ e, turn_tuple a _, ⟨_, Heap.get?_push_size _ rfl, rfl, rfl⟩, fr, q⟩
end

/-! ### enumerate of a tuple -/
theorem meets_enum1 {v : Value} {o : Obj} {Z : Heap → Prop} (B : Begins v o Z) :
    Meets (Builtin.«enumerate.__new__» ⟨[.type "enumerate", v], []⟩) (fun _ R s => Z s.heap ∧
      R (.ok (.ret (.ref (s.heap.push o).objs.size))) { s with heap := (s.heap.push o).push { cls := .type "enumerate", data := .fields #[.none, .bool false, .ref s.heap.objs.size, rawInt 0, .none, .none] } }) :=
  .of_wp fun prog w A R s h => by
    obtain ⟨hp, g, d, tk, os⟩ := s
    obtain ⟨h1, h⟩ := h
    have hsub := sub_enumerate
    have q1 : ∀ {A' : Around} {E : Value → Shared → Prop} {Q : Value → Shared → Prop}, Q (.ref hp.objs.size) ⟨hp.push o, g, d, tk, os⟩ → wpAny (model prog w) A' (pyIter v) Q E ⟨hp, g, d, tk, os⟩ :=
      fun q => B.iter prog w _ _ ⟨hp, g, d, tk, os⟩ _ h1 q
    wp_walk using q1
    refine wpAny_stack_any fun st => wpAny_pure ?_
    split
    · rename_i c _ _ _ _ _
      cases (c == Value.type "enumerate")
      · wp_walk using q1
        exact ⟨_, rfl, h⟩
      · wp_walk using q1
        exact ⟨_, rfl, h⟩
    · wp_walk using q1
      exact ⟨_, rfl, h⟩
section
variable {prog : Program} {w : World} {A : Around} {E : Value → Shared → Prop} {s : Shared}
theorem enum1_begins {v : Value} {o : Obj} {Z : Heap → Prop} {Q : Value → Shared → Prop} (B : Begins v o Z) (h1 : Z s.heap)
    (h : ∀ h', IsEnum h' (s.heap.objs.size + 1) s.heap.objs.size 0 .none → h'.get? s.heap.objs.size = some o → (∀ b o, s.heap.get? b = some o → h'.get? b = some o) → Q (.ref (s.heap.objs.size + 1)) { s with heap := h' }) :
    wpAny (model prog w) A (call (.type "enumerate") [v]) Q E s := by
  refine callType_new F.called_enumerate (by decide) (F.typeCall_enumerate_1 _) (F.newCall_enumerate_1 _) (fun obj => F.args_object_init_2 obj _) F.entry_enumerate_new
    (meets_enum1 B) ⟨h1, ?_⟩
  have hz : (s.heap.push o).objs.size = s.heap.objs.size + 1 := Heap.size_push ..
  show _ ∧ _
  rw [hz]
  have he : IsEnum ((s.heap.push o).push { cls := .type "enumerate", data := .fields #[.none, .bool false, .ref s.heap.objs.size, rawInt 0, .none, .none] }) (s.heap.objs.size + 1) s.heap.objs.size 0 .none := by
    have := Heap.get?_push_size (s.heap.push o) (o := { cls := .type "enumerate", data := .fields #[.none, .bool false, .ref s.heap.objs.size, rawInt 0, .none, .none] }) rfl
    rw [hz] at this
    exact this
  exact ⟨⟨_, he, rfl⟩, h _ he (Heap.get?_push_of_some _ (Heap.get?_push_size _ B.free)) fun b o e => Heap.get?_push_of_some _ (Heap.get?_push_of_some _ e)⟩
end
/-- the tuple at a, each item in a new pair with its number -/
def ItE (K : PySem.W.Frag) (a : Addr) : It :=
  ⟨fun i H => ∃ (xs : List V) (x : V), SqT K H a xs ∧ xs[i]? = some x, fun i H v H' => ∃ T x, v = .ref T ∧ H T = none ∧ H' = upd H T (.tup [.int (i : Nat), x]) ∧ ∀ xs, SqT K H a xs → xs[i]? = some x, fun i H => ∃ xs : List V, SqT K H a xs ∧ xs.length = i⟩
theorem turn_enumT {P : Program} {w : World} {K : PySem.W.Frag} {elts : List Expr} {kk : Nat} {tpos : Pos} (a e it : Addr) :
    Turn P w K (.Tuple elts kk tpos) (ItE K a) [e, it] e (fun i h => (∃ old, IsEnum h e it ((i : Nat) : Int) old) ∧ h.IsTupleIter it a i ∧ e ≠ it) where
  mem := by simp
  obj := fun i h st b hb => by
    obtain ⟨⟨old, he⟩, ⟨o, ho, hc, hd⟩, _⟩ := st
    have e' : b = e ∨ b = it := by simpa using hb
    rcases e' with z | z
    · subst z; exact ⟨_, he, fun v q => nomatch q⟩
    · subst z; exact ⟨o, ho, fun v q => by rw [hd] at q; cases q⟩
  keep := fun i h h' st k => by
    obtain ⟨⟨old, he⟩, ⟨o, ho, r⟩, hne⟩ := st
    exact ⟨⟨old, k e (by simp) _ he⟩, ⟨o, k it (by simp) _ ho, r⟩, hne⟩
  item := by
    intro X hP hw hK hc i pins s σ H E I hf st hg
    subst hP hw hK
    obtain ⟨⟨old, he⟩, hit, hne⟩ := st
    obtain ⟨xs, x, hq, hx⟩ := hg
    obtain ⟨its, rv, p, hz⟩ := I.tuple hq
    obtain ⟨u, hu, ru⟩ := rv.get hx
    have hel : e < s.heap.objs.size := Heap.lt_size he
    have hil : it < s.heap.objs.size := by obtain ⟨_, q, _⟩ := hit; exact Heap.lt_size q
    have hai : a ≠ it := fun z => by
      obtain ⟨o1, q1, c1, _⟩ := hit
      obtain ⟨o2, q2, c2, _⟩ := p
      rw [z, q1] at q2
      cases q2
      rw [c1] at c2
      exact absurd (Value.type.inj c2) (by decide)
    have hae : a ≠ e := fun z => by
      obtain ⟨o2, q2, c2, _⟩ := p
      rw [z] at q2
      have he' : s.heap.get? e = some _ := he
      rw [he'] at q2
      cases q2
      exact absurd (Value.type.inj c2) (by decide)
    have hlt : i < its.toArray.size := by
      have := (List.getElem?_eq_some_iff.mp hu).1
      simpa using this
    have Dr := Draws.tuple (prog := X.prog) (w := X.w) (A := X.A.in1) (show X.A.in1.handled = none from I.ok.hd hc) it a hai its.toArray
    refine wpAny_pyNext_enum_itemD Dr he ⟨hit, show s.heap.IsTuple a its.toArray from p⟩ hlt hne (by simp [hne, Ne.symm hae]) fun y h' tk hy ho st' hT hsz hk => ?_
    have ey : y = u := by
      have hu' : its.toArray[i]? = some u := by simpa using hu
      rw [hu'] at hy
      exact (Option.some.inj hy).symm
    subst ey
    refine ⟨_, rfl, wpAny_letOwnedTupleGo_enum (s := { s with heap := h', toks := tk + 1 }) ho fun h'' he' sb => ?_⟩
    have hT2 : h''.get? s.heap.objs.size = some { cls := .type "tuple", data := .seq #[.int i tk, y] } := (sb.2 _ (Nat.ne_of_gt hel)).trans hT
    have new : ObjOk X.prog X.w (upd H s.heap.objs.size (.tup [.int (i : Nat), x])) h'' s.heap.objs.size (.tup [.int (i : Nat), x]) :=
      ⟨by show 2 ≤ sizeLine; decide, [.int i tk, y], .cons ⟨_, rfl⟩ (.cons ru .nil), ⟨_, hT2, rfl, _, rfl⟩⟩
    have I1 : Inv X pins σ (upd H s.heap.objs.size (.tup [.int (i : Nat), x])) { s with heap := h'', toks := tk + 1 } :=
      I.turnedNew (ch := [e, it]) (fun b ob hb q => (sb.2 b (fun z => hb (by simp [z]))).trans (hk b ob (fun z => hb (by simp [z])) (fun z => hb (by simp [z])) q)) hf (Nat.le_refl _) new
    refine ⟨.ref s.heap.objs.size, _, I1, rfl, ⟨_, x, rfl, I.hok.fresh (Nat.le_refl _), rfl, fun ys hy => by rw [I.tuple_inj hy hq]; exact hx⟩, ⟨⟨y, ?_⟩, ?_, hne⟩, fun b hb => ?_⟩
    · have e1 : ((i + 1 : Nat) : Int) = (i : Int) + 1 := by omega
      rw [e1]; exact he'
    · obtain ⟨o, q1, r⟩ := st'.1
      exact ⟨o, (sb.2 it (Ne.symm hne)).trans q1, r⟩
    · have hb' : b < s.heap.objs.size := by
        have e' : b = e ∨ b = it := by simpa using hb
        rcases e' with z | z
        · rw [z]; exact hel
        · rw [z]; exact hil
      rw [upd_ne (Nat.ne_of_lt hb')]
      exact (hf b hb).1
  done := by
    intro X hP hw hK hc i pins s σ H E I hf st hg
    subst hP hw hK
    obtain ⟨⟨old, he⟩, hit, hne⟩ := st
    obtain ⟨xs, hq, hx⟩ := hg
    obtain ⟨its, rv, p, hz⟩ := I.tuple hq
    have hai : a ≠ it := fun z => by
      obtain ⟨o1, q1, c1, _⟩ := hit
      obtain ⟨o2, q2, c2, _⟩ := p
      rw [z, q1] at q2
      cases q2
      rw [c1] at c2
      exact absurd (Value.type.inj c2) (by decide)
    have hl := rv.length
    have hn : its.toArray.size = i := by rw [List.size_toArray, ← hl, hx]
    have Dr := Draws.tuple (prog := X.prog) (w := X.w) (A := X.A.in1) (show X.A.in1.handled = none from I.ok.hd hc) it a hai its.toArray
    rw [hn] at Dr
    exact wpAny_pyNext_enum_endD Dr he ⟨hit, show s.heap.IsTuple a its.toArray from p⟩ fun h' eb => ⟨rfl, I.turnedL (t' := s.toks) (ch := [e, it]) (fun b o hb q => eb b o (fun z => hb (by simp [z])) q) hf⟩
  self := fun A i s Q E st h => let ⟨⟨_, he⟩, _⟩ := st; wpAny_pyIter_enum he h

def iEnumS (K : PySem.W.Frag) (ta : TA) : TI := fun σ H R => ta σ H fun vs H1 => ∃ a xs, vs = [.ref a] ∧ ((SqL K H1 a xs ∧ R (Ite K a) H1) ∨ (SqT K H1 a xs ∧ R (ItE K a) H1))
theorem pi_enumS {X : Cx} {e : Expr} {ta : TA} {p pos tpos : Pos} {elts : List Expr} {kk : Nat} (hg : Gl X "enumerate") (hm : X.mg "enumerate" = none) (ha : PA X [e] ta) (hs : starEach [e] X.env = [(false, eval e X.env)] := by rfl) :
    PI X (.Tuple elts kk tpos) (.Call (.Name "enumerate" p) [e] [] pos) (iEnumS X.K ta) := by
  refine ⟨fun pins s σ H R I h => ?_⟩
  refine Call_ (ld_blt I hg hm boot_enumerate (PyProof.Rows.callWith_type1 (thn (ha.run pos pins s σ H _ I h) fun us s1 ⟨vs, H1, I1, r1, q1⟩ => ?_) hs rfl))
  obtain ⟨a, xs, ex, q1⟩ := q1
  subst ex
  cases r1 with
  | cons r rr =>
    cases rr
    cases r
    have fr : ∀ b ∈ [s1.heap.objs.size + 1, s1.heap.objs.size], FpOk X pins H1 b := fun b hb => by
      have e' : b = s1.heap.objs.size + 1 ∨ b = s1.heap.objs.size := by simpa using hb
      have hle : s1.heap.objs.size ≤ b := by
        rcases e' with z | z
        · rw [z]; exact Nat.le_add_right _ _
        · rw [z]; exact Nat.le_refl _
      exact I1.fpOk hle (I1.hok.fresh hle)
    rcases q1 with ⟨hq, q⟩ | ⟨hq, q⟩
    · obtain ⟨its, rv, p', hz⟩ := I1.list hq
      refine call_enumerate_list p'.isList fun h' he hit hsz hk => wpAny_pyIter_enum he ?_
      exact ⟨s1.heap.objs.size + 1, _, _, _, H1, rfl, I1.kept (t' := s1.toks) hk, turn_enum a (s1.heap.objs.size + 1) s1.heap.objs.size, ⟨⟨.none, he⟩, hit, Nat.succ_ne_self _⟩, fr, q⟩
    · obtain ⟨its, rv, p', hz⟩ := I1.tuple hq
      refine enum1_begins (begins_tuple a its.toArray) (show s1.heap.IsTuple a its.toArray from p') fun h' he hit hk => wpAny_pyIter_enum he ?_
      exact ⟨s1.heap.objs.size + 1, _, _, _, H1, rfl, I1.kept (t' := s1.toks) hk, turn_enumT a (s1.heap.objs.size + 1) s1.heap.objs.size, ⟨⟨.none, he⟩, ⟨_, hit, rfl, rfl⟩, Nat.succ_ne_self _⟩, fr, q⟩
theorem walk_enumT {K : PySem.W.Frag} {a : Addr} {xs : List V} : Walk (ItE K a) xs.length (fun H => SqT K H a xs) (fun i H v H' => ∃ T x, v = .ref T ∧ H T = none ∧ H' = upd H T (.tup [.int (i : Nat), x]) ∧ xs[i]? = some x) :=
  ⟨fun i H hi h => ⟨xs, xs[i], h, by simp [hi]⟩, fun H h => ⟨xs, h, rfl⟩, fun i H v H' hi h ⟨T, x, e1, e2, e3, e4⟩ => ⟨T, x, e1, e2, e3, e4 xs h⟩⟩

/-! ### zip of a list and a tuple -/
def ItZ (K : PySem.W.Frag) (a b : Addr) : It :=
  ⟨fun i H => ∃ (xs ys : List V) (x y : V), SqL K H a xs ∧ SqT K H b ys ∧ xs[i]? = some x ∧ ys[i]? = some y,
    fun i H v H' => ∃ T x y, v = .ref T ∧ H T = none ∧ H' = upd H T (.tup [x, y]) ∧ (∀ xs, SqL K H a xs → xs[i]? = some x) ∧ ∀ ys, SqT K H b ys → ys[i]? = some y,
    fun i H => ∃ xs ys : List V, SqL K H a xs ∧ SqT K H b ys ∧ xs.length = i ∧ ys.length = i⟩
theorem turn_zipLT {P : Program} {w : World} {K : PySem.W.Frag} {elts : List Expr} {kk : Nat} {tpos : Pos} {a b z TI TO i1 i2 : Addr} (S : ZipSep2 z TI TO i1 i2 [i1, a] [i2, b]) :
    Turn P w K (.Tuple elts kk tpos) (ItZ K a b) [z, TI, TO, i1, i2] z (fun i h => IsZip h z TI TO .none ∧ IsTupOf2 h TI (.ref i1) (.ref i2) ∧ (∃ x y, IsTupOf2 h TO x y) ∧ h.IsListIter i1 a i ∧ h.IsTupleIter i2 b i) where
  mem := by simp
  obj := fun i h st c hc => by
    obtain ⟨hz, hTI, ⟨x, y, hTO⟩, ⟨o1, e1, _, d1⟩, ⟨o2, e2, _, d2⟩⟩ := st
    have e' : c = z ∨ c = TI ∨ c = TO ∨ c = i1 ∨ c = i2 := by simpa using hc
    rcases e' with q | q | q | q | q
    · subst q; exact ⟨_, hz, fun v q => nomatch q⟩
    · subst q; exact ⟨_, hTI, fun v q => nomatch q⟩
    · subst q; exact ⟨_, hTO, fun v q => nomatch q⟩
    · subst q; exact ⟨o1, e1, fun v q => by rw [d1] at q; cases q⟩
    · subst q; exact ⟨o2, e2, fun v q => by rw [d2] at q; cases q⟩
  keep := fun i h h' st k => by
    obtain ⟨hz, hTI, ⟨x, y, hTO⟩, h1, ⟨o2, e2, r2⟩⟩ := st
    exact ⟨k z (by simp) _ hz, k TI (by simp) _ hTI, ⟨x, y, k TO (by simp) _ hTO⟩, h1.at fun o q => k i1 (by simp) o q, ⟨o2, k i2 (by simp) o2 e2, r2⟩⟩
  item := by
    intro X hP hw hK hc i pins s σ H E I hf st hg
    subst hP hw hK
    obtain ⟨hz, hTI, ⟨x0, y0, hTO⟩, h1, h2⟩ := st
    obtain ⟨xs, ys, x, y, hqx, hqy, hx, hy⟩ := hg
    obtain ⟨its, rv, p, _⟩ := I.list hqx
    obtain ⟨its2, rv2, p2, _⟩ := I.tuple hqy
    obtain ⟨u, hu, ru⟩ := rv.get hx
    obtain ⟨u2, hu2, ru2⟩ := rv2.get hy
    have hzl : z < s.heap.objs.size := Heap.lt_size hz
    have hTIl : TI < s.heap.objs.size := Heap.lt_size hTI
    have hTOl : TO < s.heap.objs.size := Heap.lt_size hTO
    have h1l : i1 < s.heap.objs.size := by obtain ⟨_, e1, _⟩ := h1; exact Heap.lt_size e1
    have h2l : i2 < s.heap.objs.size := by obtain ⟨_, e2, _⟩ := h2; exact Heap.lt_size e2
    have ha1 : a ≠ i1 := fun q => by
      obtain ⟨o1, q1, c1, _⟩ := h1
      obtain ⟨o2, _, q2, c2, _⟩ := p
      rw [q, q1] at q2
      cases q2
      rw [c1] at c2
      exact absurd (Value.type.inj c2) (by decide)
    have hb2 : b ≠ i2 := fun q => by
      obtain ⟨o1, q1, c1, _⟩ := h2
      obtain ⟨o2, q2, c2, _⟩ := p2
      rw [q, q1] at q2
      cases q2
      rw [c1] at c2
      exact absurd (Value.type.inj c2) (by decide)
    have hh : X.A.in1.handled = none := I.ok.hd hc
    have D1 := Draws.list (prog := X.prog) (w := X.w) (A := X.A.in1) hh i1 a ha1 its.toArray
    have D2 := Draws.tuple (prog := X.prog) (w := X.w) (A := X.A.in1) hh i2 b hb2 its2.toArray
    have hlt1 : i < its.toArray.size := by have := (List.getElem?_eq_some_iff.mp hu).1; simpa using this
    have hlt2 : i < its2.toArray.size := by have := (List.getElem?_eq_some_iff.mp hu2).1; simpa using this
    refine wpAny_pyNext_zipD2_item S D1 D2 hz hTI hTO ⟨h1, p.isList⟩ ⟨h2, show s.heap.IsTuple b its2.toArray from p2⟩ hlt1 hlt2 fun y1 y2 h' tk e1 e2 z' TO' st1 st2 hT hsz hk => ?_
    have f1 : y1 = u := by
      have hu' : its.toArray[i]? = some u := by simpa using hu
      rw [hu'] at e1
      exact (Option.some.inj e1).symm
    have f2 : y2 = u2 := by
      have hu' : its2.toArray[i]? = some u2 := by simpa using hu2
      rw [hu'] at e2
      exact (Option.some.inj e2).symm
    subst f1
    subst f2
    refine ⟨_, rfl, wpAny_letOwnedTupleGo_zip (s := { s with heap := h', toks := tk }) z' fun h'' z'' sb => ?_⟩
    have hT2 : h''.get? s.heap.objs.size = some { cls := .type "tuple", data := .seq #[y1, y2] } := (sb.2 _ (Nat.ne_of_gt hzl)).trans hT
    have new : ObjOk X.prog X.w (upd H s.heap.objs.size (.tup [x, y])) h'' s.heap.objs.size (.tup [x, y]) :=
      ⟨by show 2 ≤ sizeLine; decide, [y1, y2], .cons ru (.cons ru2 .nil), ⟨_, hT2, rfl, _, rfl⟩⟩
    have I1 : Inv X pins σ (upd H s.heap.objs.size (.tup [x, y])) { s with heap := h'', toks := tk } :=
      I.turnedNew (ch := [z, TI, TO, i1, i2]) (fun c o hb q => (sb.2 c (fun q' => hb (by simp [q']))).trans (hk c o (fun q' => hb (by simp [q'])) (fun q' => hb (by simp [q'])) (fun q' => hb (by simp [q'])) (fun q' => hb (by simp [q'])) q)) hf (Nat.le_refl _) new
    refine ⟨.ref s.heap.objs.size, _, I1, rfl, ⟨_, x, y, rfl, I.hok.fresh (Nat.le_refl _), rfl, fun l hl => by rw [I.list_inj hl hqx]; exact hx, fun l hl => by rw [I.tuple_inj hl hqy]; exact hy⟩, ⟨z'', ?_, ⟨y1, y2, ?_⟩, ?_, ?_⟩, fun c hcm => ?_⟩
    · exact (sb.2 _ S.TIz).trans (hk _ _ S.TIz S.TITO S.TIi1 S.TIi2 hTI)
    · exact (sb.2 _ S.TOz).trans TO'
    · exact st1.1.at fun o q => (sb.2 _ (Ne.symm S.zi1)).trans q
    · obtain ⟨o, q1, r⟩ := st2.1
      exact ⟨o, (sb.2 _ (Ne.symm S.zi2)).trans q1, r⟩
    · have hlt : c < s.heap.objs.size := by
        have e' : c = z ∨ c = TI ∨ c = TO ∨ c = i1 ∨ c = i2 := by simpa using hcm
        rcases e' with q | q | q | q | q <;> (rw [q]; assumption)
      rw [upd_ne (Nat.ne_of_lt hlt)]
      exact (hf c hcm).1
  done := by
    intro X hP hw hK hc i pins s σ H E I hf st hg
    subst hP hw hK
    obtain ⟨hz, hTI, ⟨x0, y0, hTO⟩, h1, h2⟩ := st
    obtain ⟨xs, ys, hqx, hqy, hl1, hl2⟩ := hg
    obtain ⟨its, rv, p, _⟩ := I.list hqx
    obtain ⟨its2, rv2, p2, _⟩ := I.tuple hqy
    have ha1 : a ≠ i1 := fun q => by
      obtain ⟨o1, q1, c1, _⟩ := h1
      obtain ⟨o2, _, q2, c2, _⟩ := p
      rw [q, q1] at q2
      cases q2
      rw [c1] at c2
      exact absurd (Value.type.inj c2) (by decide)
    have hb2 : b ≠ i2 := fun q => by
      obtain ⟨o1, q1, c1, _⟩ := h2
      obtain ⟨o2, q2, c2, _⟩ := p2
      rw [q, q1] at q2
      cases q2
      rw [c1] at c2
      exact absurd (Value.type.inj c2) (by decide)
    have hh : X.A.in1.handled = none := I.ok.hd hc
    have D1 := Draws.list (prog := X.prog) (w := X.w) (A := X.A.in1) hh i1 a ha1 its.toArray
    have D2 := Draws.tuple (prog := X.prog) (w := X.w) (A := X.A.in1) hh i2 b hb2 its2.toArray
    have n1 : its.toArray.size = i := by rw [List.size_toArray, ← rv.length, hl1]
    have n2 : its2.toArray.size = i := by rw [List.size_toArray, ← rv2.length, hl2]
    exact wpAny_pyNext_zipD2_end S D1 D2 hz hTI hTO ⟨h1, p.isList⟩ ⟨h2, show s.heap.IsTuple b its2.toArray from p2⟩ (Nat.le_of_eq n1.symm) (Nat.le_of_eq n2.symm) (.inl n1.symm) fun h' tk hk =>
      ⟨rfl, I.turnedL (ch := [z, TI, TO, i1, i2]) (fun c o hb q => hk c o (fun q' => hb (by simp [q'])) (fun q' => hb (by simp [q'])) (fun q' => hb (by simp [q'])) (fun q' => hb (by simp [q'])) q) hf⟩
  self := fun A i s Q E st h => wpAny_pyIter_zip st.1 h
theorem walk_zipLT {K : PySem.W.Frag} {a b : Addr} {xs ys : List V} (hn : xs.length = ys.length) : Walk (ItZ K a b) xs.length (fun H => SqL K H a xs ∧ SqT K H b ys) (YPair (fun i => xs[i]?) (fun i => ys[i]?)) :=
  ⟨fun i H hi h => ⟨xs, ys, xs[i], ys[i]'(hn ▸ hi), h.1, h.2, by simp [hi], by simp [hn ▸ hi]⟩, fun H h => ⟨xs, ys, h.1, h.2, rfl, hn.symm⟩,
    fun i H v H' hi h ⟨T, x, y, e1, e2, e3, e4, e5⟩ => ⟨T, x, y, e1, e2, e3, e4 xs h.1, e5 ys h.2⟩⟩
theorem walk_zipT {K : PySem.W.Frag} {a b : Addr} {xs ys : List V} (hn : xs.length = ys.length) : Walk (RZ.ItzT K a b) xs.length (fun H => SqT K H a xs ∧ SqT K H b ys) (YPair (fun i => xs[i]?) (fun i => ys[i]?)) :=
  ⟨fun i H hi h => ⟨xs, ys, xs[i], ys[i]'(hn ▸ hi), h.1, h.2, by simp [hi], by simp [hn ▸ hi]⟩, fun H h => ⟨xs, ys, h.1, h.2, .inl (Nat.le_refl _)⟩,
    fun i H v H' hi h ⟨T, x, y, e1, e2, e3, e4, e5⟩ => ⟨T, x, y, e1, e2, e3, e4 xs h.1, e5 ys h.2⟩⟩
theorem ad_ne {c d : Nat} (h : c ≠ d) : (c : Addr) ≠ d := h
theorem ad_nm {c d e : Nat} (h1 : c ≠ d) (h2 : c ≠ e) : ¬ (c : Addr) ∈ [(d : Addr), (e : Addr)] := fun hm => by
  rcases List.mem_cons.mp hm with q | q
  · exact h1 q
  · rcases List.mem_cons.mp q with q | q
    · exact h2 q
    · cases q
theorem zip_apart (n a b : Nat) (la : a < n) (lb : b < n) : ZipSep2 (n + 4) (n + 2) (n + 3) n (n + 1) [n, a] [n + 1, b] := by
  constructor <;> first | exact List.mem_cons_self | (refine ad_ne ?_; omega) | (refine ad_nm ?_ ?_ <;> omega)
def iZipS (K : PySem.W.Frag) (ta : TA) : TI := fun σ H R => ta σ H fun vs H1 => ∃ a b xs ys, vs = [.ref a, .ref b] ∧ ((SqL K H1 a xs ∧ SqL K H1 b ys ∧ R (Itz K a b) H1) ∨ (SqT K H1 a xs ∧ SqT K H1 b ys ∧ R (RZ.ItzT K a b) H1) ∨ (SqL K H1 a xs ∧ SqT K H1 b ys ∧ R (ItZ K a b) H1))
theorem pi_zipS {X : Cx} {e e2 : Expr} {ta : TA} {p pos tpos : Pos} {elts : List Expr} {kk : Nat} (hg : Gl X "zip") (hm : X.mg "zip" = none) (ha : PA X [e, e2] ta)
    (hs : starEach [e, e2] X.env = (false, eval e X.env) :: starEach [e2] X.env := by rfl) (hpl : (backTo pos (starEach [e2] X.env)).any (·.1) = false := by rfl) :
    PI X (.Tuple elts kk tpos) (.Call (.Name "zip" p) [e, e2] [] pos) (iZipS X.K ta) := by
  refine ⟨fun pins s σ H R I h => ?_⟩
  refine Call_ (ld_blt I hg hm PyProof.Rows.boot_zip (PyProof.Rows.callWith_type1 (thn (ha.run pos pins s σ H _ I h) fun us s1 ⟨vs, H1, I1, r1, q1⟩ => ?_) hs hpl))
  obtain ⟨a, b, xs, ys, ex, q1⟩ := q1
  subst ex
  cases r1 with
  | cons r rr =>
    cases rr with
    | cons r' rr =>
      cases rr
      cases r
      cases r'
      have fresh5 : ∀ c, c ∈ [s1.heap.objs.size + 4, s1.heap.objs.size + 2, s1.heap.objs.size + 3, s1.heap.objs.size, s1.heap.objs.size + 1] → FpOk X pins H1 c := fun c hcm => by
        have e' : c = s1.heap.objs.size + 4 ∨ c = s1.heap.objs.size + 2 ∨ c = s1.heap.objs.size + 3 ∨ c = s1.heap.objs.size ∨ c = s1.heap.objs.size + 1 := by simpa using hcm
        have hle : s1.heap.objs.size ≤ c := by
          rcases e' with z | z | z | z | z <;> (rw [z]; first | exact Nat.le_add_right _ _ | exact Nat.le_refl _)
        exact I1.fpOk hle (I1.hok.fresh hle)
      rcases q1 with ⟨hqx, hqy, q⟩ | ⟨hqx, hqy, q⟩ | ⟨hqx, hqy, q⟩
      · obtain ⟨its, rv, p1, _⟩ := I1.list hqx
        obtain ⟨its2, rv2, p2, _⟩ := I1.list hqy
        refine call_zip_2 p1.isList p2.isList fun h' hz hTI hTO h1 h2 hsz hk => wpAny_pyIter_zip hz ?_
        exact ⟨s1.heap.objs.size + 4, _, _, _, H1, rfl, I1.kept (t' := s1.toks) hk, turn_zip (PySem.W.ktu_apart s1.heap.objs.size a b p1.lt p2.lt), ⟨hz, hTI, ⟨_, _, hTO⟩, h1, h2⟩, fresh5, q⟩
      · obtain ⟨its, rv, p1, _⟩ := I1.tuple hqx
        obtain ⟨its2, rv2, p2, _⟩ := I1.tuple hqy
        obtain ⟨o1, ho1, _⟩ := id p1
        obtain ⟨o2, ho2, _⟩ := id p2
        refine RZ.call_zipT (show s1.heap.IsTuple a its.toArray from p1) (show s1.heap.IsTuple b its2.toArray from p2) fun h' hz hTI hTO h1 h2 hsz hk => wpAny_pyIter_zip hz ?_
        exact ⟨s1.heap.objs.size + 4, _, _, _, H1, rfl, I1.kept (t' := s1.toks) hk, RZ.turn_zipT (PySem.W.ktu_apart s1.heap.objs.size a b (Heap.lt_size ho1) (Heap.lt_size ho2)), ⟨hz, hTI, ⟨_, _, hTO⟩, h1, h2⟩, fresh5, q⟩
      · obtain ⟨its, rv, p1, _⟩ := I1.list hqx
        obtain ⟨its2, rv2, p2, _⟩ := I1.tuple hqy
        obtain ⟨o2, ho2, _⟩ := id p2
        have la : a < s1.heap.objs.size := p1.lt
        have lb : b < s1.heap.objs.size := Heap.lt_size ho2
        refine zip_begins2 (begins_list a its.toArray) (begins_tuple b its2.toArray) p1.isList (show s1.heap.IsTuple b its2.toArray from p2) fun h' hz hTI hTO h1 h2 hsz hk => wpAny_pyIter_zip hz ?_
        have hsep := zip_apart s1.heap.objs.size a b la lb
        exact ⟨s1.heap.objs.size + 4, _, _, _, H1, rfl, I1.kept (t' := s1.toks) hk, turn_zipLT hsep, ⟨hz, hTI, ⟨_, _, hTO⟩, ⟨_, h1, rfl, rfl⟩, ⟨_, h2, rfl, rfl⟩⟩, fresh5, q⟩
end KB

set_option Elab.async false
set_option linter.all false
set_option maxRecDepth 100000
set_option maxHeartbeats 4000000
/-! Sets of texts: set(xs), sorted(set), len(set); after HandS's sets of ints. -/
namespace KS
open PySem PySem.Spec PyProof.Rows L2
def keyS (e : Int × Value) : Str := match e.2 with | .str k _ => k | _ => Str.empty
def GoodS (w : World) (e : Int × Value) : Prop := ∃ k tk, e.2 = Value.str k tk ∧ e.1 = hashStr w k

/-- the set of ints at a: S its members, n their number; its table rises and can be walked -/
def SetRS (w : World) (h : Heap) (a : Addr) (S : Str → Bool) (n : Nat) : Prop :=
  ∃ o es ep t, h.get? a = some o ∧ o.ExactSet ∧ o.data = .set es ep t ∧ (∀ e ∈ es.toList, GoodS w e) ∧ (es.toList.map keyS).Nodup ∧ (∀ k, S k = true ↔ k ∈ es.toList.map keyS) ∧
    es.size < scanBound ∧ t.fits es.size = true ∧ es.size = n ∧ Ris t.place.toList ∧ (w.params.followText "set-order" = true ∨ t.led = true)

section
variable {P : Program} {w : World} {h h' : Heap} {a : Addr} {S : Str → Bool} {n : Nat}

theorem SetRS.at (R : SetRS w h a S n) (k : ∀ o, h.get? a = some o → h'.get? a = some o) : SetRS w h' a S n := by
  obtain ⟨o, es, ep, t, ho, r⟩ := R
  exact ⟨o, es, ep, t, k o ho, r⟩
theorem SetRS.lt (R : SetRS w h a S n) : a < h.objs.size := by
  obtain ⟨o, es, ep, t, ho, r⟩ := R
  exact Heap.lt_size ho
theorem SetRS.congr {S' : Str → Bool} (R : SetRS w h a S n) (e : ∀ k, S' k = S k) : SetRS w h a S' n := by
  have q : S' = S := funext e
  rw [q]; exact R
theorem goods_elems {l : List (Int × Value)} (g : ∀ e ∈ l, GoodS w e) : ElemsOf (PySem.strKind P w) l := fun e he => by
  obtain ⟨k, tk, h1, h2⟩ := g e he
  exact ⟨⟨k, by rw [h1]; exact strKind_is P w k tk, h2⟩, by rw [h1] <;> rfl⟩
theorem goods_is {e : Int × Value} (g : GoodS w e) (k : Str) : (PySem.strKind P w).is k e.2 = true ↔ keyS e = k := by
  obtain ⟨k0, tk, h1, _⟩ := g
  unfold keyS
  rw [h1]
  show ((k0 == k) = true) ↔ k0 = k
  exact beq_iff_eq
theorem goods_mem {l : List (Int × Value)} (g : ∀ e ∈ l, GoodS w e) (k : Str) : k ∈ l.map keyS ↔ ∃ e ∈ l, (PySem.strKind P w).is k e.2 = true := by
  rw [List.mem_map]
  constructor
  · rintro ⟨e, he, q⟩
    exact ⟨e, he, (goods_is (g e he) k).2 q⟩
  · rintro ⟨e, he, q⟩
    exact ⟨e, he, (goods_is (g e he) k).1 q⟩
theorem SetRS.setOf (R : SetRS w h a S n) : h.SetOf (PySem.strKind P w) a S n := by
  obtain ⟨o, es, ep, t, ho, hx, hd, g, nd, hm, hb, hf, hn, _⟩ := R
  exact ⟨o, es, ep, t, ho, hx, hd, goods_elems g, fun k => (hm k).trans (goods_mem g k), hb, hf, hn⟩
end

section
variable {P : Program} {w : World} {A : Around} {E : Value → Shared → Prop} {s : Shared} {a : Addr} {S : Str → Bool} {n : Nat}

/-! ### add -/
theorem setRS_add_tail {g : Bool → Sem Unit} (hg : ∀ (b : Bool) (s₁ : Shared) (Q' : Unit → Shared → Prop), Q' () s₁ → wpAny (model P w) A (g b) Q' E s₁)
    {o : Obj} {es : Array (Int × Value)} {ep : Nat} {t : SetTable} (ho : s.heap.get? a = some o) (hex : o.ExactSet) (hd : o.data = .set es ep t)
    {es1 : Array (Int × Value)} {t2 : SetTable} {S' : Str → Bool} (g1 : ∀ e ∈ es1.toList, GoodS w e) (nd1 : (es1.toList.map keyS).Nodup) (m1 : ∀ k, S' k = true ↔ k ∈ es1.toList.map keyS)
    (hb1 : es1.size < scanBound) (hf2 : t2.fits es1.size = true) (hr : Ris t2.place.toList) (hl : w.params.followText "set-order" = true ∨ t2.led = true) {wasDummy : Bool} {R : Option Bool → Shared → Prop}
    (hR : ∀ h', Heap.SameBut a s.heap h' → SetRS w h' a S' es1.size → R (some true) { s with heap := h' }) :
    wpAny (model P w) A (do
        storeSet a es1 t2
        if (!wasDummy && t2.tooFull) = true then do
            g (relayAll t2 es1 (SetTable.grown es1.size)).2.2
            storeSet a (relayAll t2 es1 (SetTable.grown es1.size)).1 (relayAll t2 es1 (SetTable.grown es1.size)).2.1
            pure (some true)
          else pure (some true)) R E s := by
  refine wpAny_bind (wpAny_storeSet_of ho hd ?_ (fits_of_scanBound hb1))
  have ho1 := store_at (es' := es1) (t' := t2) ho hd
  have sb1 := Heap.SameBut.update s.heap a (Obj.putSet es1 t2)
  split
  · have pm := relayAll_perm t2 es1 (SetTable.grown es1.size)
    have hf3 := relayAll_fits t2 es1 (SetTable.grown es1.size)
    have hr3 := relayAll_ris t2 es1 (SetTable.grown es1.size)
    have hl3 := relayAll_led t2 es1 (SetTable.grown es1.size)
    generalize relayAll t2 es1 (SetTable.grown es1.size) = Z at pm hf3 hr3 hl3 ⊢
    obtain ⟨es2, t3, gave⟩ := Z
    dsimp only at pm hf3 hr3 hl3 ⊢
    have hsz : es2.size = es1.size := by rw [← Array.length_toList, pm.length_eq, Array.length_toList]
    have hb2 : es2.size < scanBound := by rw [hsz]; exact hb1
    refine wpAny_bind (hg _ _ _ ?_)
    refine wpAny_bind (wpAny_storeSet_of ho1 rfl ?_ (fits_of_scanBound hb2))
    have ho2 := store_at (es' := es2) (t' := t3) ho1 rfl
    refine wpAny_pure (hR _ (sb1.trans (Heap.SameBut.update _ a _)) ?_)
    exact ⟨_, es2, _, t3, ho2, hex, rfl, fun e he => g1 e (pm.mem_iff.mp he), (pm.map keyS).nodup_iff.mpr nd1, fun k => (m1 k).trans (pm.map keyS).mem_iff.symm, hb2, hf3, hsz, hr3,
      hl.imp id fun z => by rw [hl3]; exact z⟩
  · exact wpAny_pure (hR _ sb1 ⟨_, es1, _, t2, ho1, hex, rfl, g1, nd1, m1, hb1, hf2, rfl, hr, hl⟩)

theorem setRS_add_hashed {k : Str} {tk : Tok} {Q : Bool → Shared → Prop} (R : SetRS w s.heap a S n) (room : n + 1 < scanBound)
    (hQ : ∀ h', Heap.SameBut a s.heap h' → SetRS w h' a (fun j => S j || decide (j = k)) (if S k = true then n else n + 1) → Q (!S k) { s with heap := h' }) :
    wpAny (model P w) A (setAddHashed a (.str k tk) ((PySem.strKind P w).hash k)) Q E s := by
  obtain ⟨o, es, ep, t, ho, hex, hd, g, nd, hm, hb, hf, hn, hr, hl⟩ := R
  have hkey : (PySem.strKind P w).is k (.str k tk) = true := strKind_is P w k tk
  have hsc : (Value.str k tk).scannable = true := rfl
  have hel : ElemsOf (PySem.strKind P w) es.toList := goods_elems g
  unfold setAddHashed setAddHashedIn
  refine wpAny_holding (wpAny_bind (wpAny_setState_of ho hd hf ?_))
  dsimp only
  rw [byScan_of hsc hb hel]
  simp only [↓reduceIte]
  unfold setAddByScan
  refine wpAny_bind ?_
  refine wpAny_bind (wpAny_rule ?_)
  refine wpAny_bind (wpAny_setScan_of hkey ho hd hf hel ?_)
  cases hfi : List.findIdx? (fun e => (PySem.strKind P w).is k e.2) es.toList with
  | some j =>
    dsimp only
    obtain ⟨hj, pj, _⟩ := List.findIdx?_eq_some_iff_getElem.mp hfi
    have hSk : S k = true := (hm k).2 ((goods_mem (P := P) (w := w) g k).2 ⟨es.toList[j], List.getElem_mem hj, pj⟩)
    refine wpAny_pure (wpAny_pure ?_)
    have q := hQ s.heap (Heap.SameBut.refl a s.heap) ⟨o, es, ep, t, ho, hex, hd, g, nd, fun i => by
      rw [Bool.or_eq_true, decide_eq_true_eq, ← hm i]
      exact ⟨fun z => z.elim id (fun e => e ▸ hSk), .inl⟩, hb, hf, by rw [if_pos hSk]; exact hn, hr, hl⟩
    rw [hSk] at q
    exact q
  | none =>
    dsimp only
    have hnk : k ∉ es.toList.map keyS := fun z => by
      obtain ⟨e, he, q⟩ := (goods_mem (P := P) (w := w) g k).1 z
      have c := List.findIdx?_eq_none_iff.mp hfi e he
      rw [q] at c
      cases c
    have hSk : S k = false := by
      cases q : S k with
      | false => rfl
      | true => exact absurd ((hm k).1 q) hnk
    have hgw : ∀ (b : Bool) {s₁ : Shared} {Q' : Unit → Shared → Prop}, Q' () s₁ → wpAny (model P w) A (match b with | true => rule "set.scan.the-table-gave-way" | false => pure ()) Q' E s₁ :=
      fun b s₁ Q' q => by cases b <;> first | exact wpAny_pure q | exact wpAny_rule q
    have pm := layNew_perm t es ((PySem.strKind P w).hash k) (.str k tk)
    have hf1 := layNew_fits t es ((PySem.strKind P w).hash k) (.str k tk)
    have hr1 := layNew_ris t es ((PySem.strKind P w).hash k) (.str k tk) hr
    have hl1 := layNew_led t es ((PySem.strKind P w).hash k) (.str k tk)
    generalize layNew t es ((PySem.strKind P w).hash k) (.str k tk) = Z at pm hf1 hr1 hl1 ⊢
    obtain ⟨es1, t1, wasDummy, gave⟩ := Z
    dsimp only at pm hf1 hr1 hl1 ⊢
    rw [Array.toList_push] at pm
    have pc : es1.toList.Perm (((PySem.strKind P w).hash k, Value.str k tk) :: es.toList) := pm.trans (List.perm_append_singleton _ _)
    have pk : (es1.toList.map keyS).Perm (k :: es.toList.map keyS) := pc.map keyS
    have g1 : ∀ e ∈ es1.toList, GoodS w e := fun e he => by
      rcases List.mem_cons.mp (pc.mem_iff.mp he) with z | z
      · rw [z]; exact ⟨k, tk, rfl, rfl⟩
      · exact g e z
    have nd1 : (es1.toList.map keyS).Nodup := pk.nodup_iff.mpr (List.nodup_cons.mpr ⟨hnk, nd⟩)
    have m1 : ∀ i, (S i || decide (i = k)) = true ↔ i ∈ es1.toList.map keyS := fun i => by
      rw [Bool.or_eq_true, decide_eq_true_eq, hm i, pk.mem_iff, List.mem_cons]
      exact Or.comm
    have hsz : es1.size = n + 1 := by rw [← Array.length_toList, pc.length_eq, List.length_cons, Array.length_toList, hn]
    have hb1 : es1.size < scanBound := by rw [hsz]; exact room
    have hled : w.params.followText "set-order" = true ∨ t1.led = true := hl.imp id fun z => by rw [hl1]; exact z
    have fin : ∀ h', Heap.SameBut a s.heap h' → SetRS w h' a (fun j => S j || decide (j = k)) es1.size → Q true { s with heap := h' } := fun h' sb r => by
      have q := hQ h' sb
      rw [hSk] at q
      rw [hsz] at r
      exact q r
    refine wpAny_bind (hgw _ ?_)
    split
    · refine wpAny_bind ?_
      rw [hashByValue_scannable 8 hsc]
      refine wpAny_pure ?_
      refine setRS_add_tail ?_ ho hex hd g1 nd1 m1 hb1 ?_ ?_ ?_ ?_
      · intro b s₁ Q' q; cases b <;> first | exact wpAny_pure q | exact wpAny_rule q
      · first | (split <;> first | exact hf1 | exact SetTable.fits_plain_off hf1) | exact hf1
      · first | (split <;> exact hr1) | exact hr1
      · first | (split <;> exact hled) | exact hled
      · intro h' sb r; dsimp only; exact wpAny_pure (fin h' sb r)
    · refine wpAny_bind (wpAny_pure ?_)
      simp only [↓reduceIte]
      refine setRS_add_tail ?_ ho hex hd g1 nd1 m1 hb1 hf1 hr1 hled ?_
      · intro b s₁ Q' q; cases b <;> first | exact wpAny_pure q | exact wpAny_rule q
      · intro h' sb r; dsimp only; exact wpAny_pure (fin h' sb r)

end
theorem setRS_new_at {w : World} {h : Heap} {a : Addr} {ns : List Str} (ho : h.get? a = some { cls := .type "set", dict := none, data := .set #[] 0 (.fresh 0 0 (!w.params.followText "set-order")) }) : SetRS w h a (fun j => decide (j ∈ ns.take 0)) 0 :=
  ⟨_, #[], 0, _, ho, ⟨rfl, rfl, rfl⟩, rfl, (fun e he => by simp at he), (by simp), (fun k => by simp), (by decide), (by rfl), rfl, List.Pairwise.nil, by
    show _ ∨ (!w.params.followText "set-order") = true
    cases w.params.followText "set-order"
    · exact .inr rfl
    · exact .inl rfl⟩
section
variable {P : Program} {w : World} {A : Around} {E : Value → Shared → Prop} {s : Shared}
theorem set_update_ints {I : Addr} {fp wr : List Addr} {G : Array GenState → Array GenState → Prop} {n : Nat} {Pv : Nat → Value → Prop} {St : Nat → Shared → Prop} {R : Result → Shared → Prop}
    (W : WalksS P w A.in1 I fp wr G n Pv St) (S : Addr) (hSf : S ∉ fp) (ns : List Str) (hn : n = ns.length) (hb : ns.length + 1 < scanBound) (hval : ∀ i v, Pv i v → ∃ k t, ns[i]? = some k ∧ v = .str k t) :
    ∀ (k i : Nat) (s : Shared), n - i = k → i ≤ n → St i s → (∃ c, c ≤ i ∧ SetRS w s.heap S (fun j => decide (j ∈ ns.take i)) c) →
      (∀ s' c, Moved (S :: wr) G s s' → c ≤ n → SetRS w s'.heap S (fun j => decide (j ∈ ns)) c → R (.ok (.ret .none)) s') →
      codeAny (model P w) A (.builtin "set.update.loop" ⟨[.ref S, .ref I], []⟩) R s := by
  have hSw : S ∉ wr := fun h => hSf (W.sub _ h)
  have hsub : ∀ b ∈ wr, b ∈ S :: wr := fun b hb => List.mem_cons_of_mem _ hb
  intro k
  induction k with
  | zero =>
    intro i s hk' hi hst ⟨c, hc, hS⟩ hR
    have hin : i = n := by omega
    subst hin
    refine codeAny_builtin F.entry_set_update_loop ?_
    rw [Around.under_plainId F.plain_set_update_loop _]
    show wpAny _ A.in1 (pyNext (.ref I) >>= _) _ _ s
    refine wpAny_bind (W.done s _ _ hst fun s' hm => ?_)
    show wpAny _ A.in1 (ret Value.none) _ _ s'
    have e : ns.take i = ns := List.take_of_length_le (by omega)
    rw [e] at hS
    exact wpAny_pure (hR s' c (hm.mono hsub) hc (hS.at fun o e => hm.heap S o hSw e))
  | succ k ih =>
    intro i s hk' hi hst ⟨c, hc, hS⟩ hR
    have hlt : i < n := by omega
    refine codeAny_builtin F.entry_set_update_loop ?_
    rw [Around.under_plainId F.plain_set_update_loop _]
    show wpAny _ A.in1 (pyNext (.ref I) >>= _) _ _ s
    refine wpAny_bind (W.item i s _ _ hlt hst fun v s' hP hst' hm => ?_)
    obtain ⟨z, t, hz, rfl⟩ := hval i v hP
    have hS' : SetRS w s'.heap S (fun j => decide (j ∈ ns.take i)) c := hS.at fun o e => hm.heap S o hSw e
    show wpAny _ A.in1 (holding [Value.str z t] (setAdd S (.str z t)) >>= _) _ _ s'
    refine wpAny_bind (wpAny_holding ?_)
    unfold setAdd
    refine wpAny_holding ?_
    refine wpAny_bind ((PySem.strKind P w).pyHash (k := z) (strKind_is _ _ _ _) ?_)
    refine setRS_add_hashed (s := { s' with toks := s'.toks + 1 }) hS' (by omega) fun h' hsb hS2 => ?_
    have hS3 : SetRS w h' S (fun j => decide (j ∈ ns.take (i + 1))) (if decide (z ∈ ns.take i) = true then c else c + 1) := hS2.congr fun j => by
      rw [List.take_add_one, hz]
      simp [List.mem_append]
    have hc3 : (if decide (z ∈ ns.take i) = true then c else c + 1) ≤ i + 1 := by
      split <;> omega
    refine wpAny_pure ⟨plainId_quiet F.plain_set_update_loop _, ih (i + 1) _ (by omega) hlt (W.frame _ s' _ _ hst' (Nat.le_succ _) fun b hb o e => ?_) ⟨_, hc3, hS3⟩ fun s'' c2 hm'' hc'' hS'' => ?_⟩
    · rw [hsb.2 b (fun h : b = S => hSf (by rw [← h]; exact hb))]; exact e
    · refine hR s'' c2 (Moved.trans W.gtrans ((hm.mono hsub).then_heap (Nat.le_succ _) fun b o hb e => ?_) hm'') hc'' hS''
      rw [hsb.2 b (fun h : b = S => hb (by rw [h]; exact List.mem_cons_self))]; exact e
theorem call_set_tupT {l : Addr} {items : Array Value} (ns : List Str) {Q : Value → Shared → Prop} (hh : A.handled = none) (hl : s.heap.IsTuple l items) (hit : StrsAre items.toList ns) (hb : ns.length + 1 < scanBound)
    (h : ∀ (h' : Heap) (tk c : Nat), SetRS w h' s.heap.objs.size (fun j => decide (j ∈ ns)) c → c ≤ ns.length → (∀ b o, s.heap.get? b = some o → h'.get? b = some o) → Q (.ref s.heap.objs.size) { s with heap := h', toks := tk }) :
    wpAny (model P w) A (call (.type "set") [.ref l]) Q E s := by
  have hisz : items.size = ns.length := by
    have q := StrsAre.len_eq hit
    rw [Array.length_toList] at q
    exact q
  obtain ⟨c, tl, hmro⟩ := F.called_set.mro
  have hmade := F.called_set.made
  have hsub := F.called_set.sub
  refine wpAny_call (codeAny_of_tree ?_)
  show wpAny _ _ (callAny (.type "set") _) _ _ _
  refine wpAny_pure ⟨Code.quiet_builtin _ (by decide +kernel), codeAny_builtin F.entry_type_call ?_⟩
  rw [Around.under_plain (weight_type_call_type "set" [.ref l] []) rfl]
  have h1 := F.called_set.notType
  have h2 := F.called_set.canCreate
  have hct := F.typeCall_set_1 (.ref l)
  repeat (any_goals (first | assumption | wp_step))

  refine codeAny_mono (code_set_led1 (.ref l) (E := E) (Q₁ := fun obj s₁ => obj = .ref s.heap.objs.size ∧ s₁ = { s with heap := s.heap.push { cls := .type "set", dict := none, data := .set #[] 0 (.fresh 0 0 (!w.params.followText "set-order")) } }) ⟨rfl, rfl⟩) fun r s₁ hr => ?_
  cases r with
  | error e => exact hr
  | ok fl =>
    cases fl with
    | ret obj =>
      obtain ⟨rfl, rfl⟩ := hr
      have hS : (s.heap.push { cls := .type "set", dict := none, data := .set #[] 0 (.fresh 0 0 (!w.params.followText "set-order")) }).get? s.heap.objs.size = some { cls := .type "set", dict := none, data := .set #[] 0 (.fresh 0 0 (!w.params.followText "set-order")) } := Heap.get?_push_size _ rfl
      have hT : Shared.TypeIs { s with heap := s.heap.push { cls := .type "set", dict := none, data := .set #[] 0 (.fresh 0 0 (!w.params.followText "set-order")) } } (.ref s.heap.objs.size) "set" := ⟨_, hS, rfl⟩
      have hli := F.called_set.init.lookup
      have hbi := F.called_set.init.bind (.ref s.heap.objs.size)
      repeat (any_goals (first | assumption | wp_step))

      refine codeAny_mono (codeAny_call_builtin (R := wants (fun r s₂ => r = .none ∧ ∃ h' tk c, s₂ = { s with heap := h', toks := tk } ∧ SetRS w h' s.heap.objs.size (fun j => decide (j ∈ ns)) c ∧ c ≤ ns.length ∧
          (∀ b o, s.heap.get? b = some o → h'.get? b = some o)) E) F.called_set.init.plain F.entry_set_init (check_set_init_1 hT ?_)) fun r₂ s₂ hr₂ => ?_
      · obtain ⟨ol, hol, hcl, nl, hdl⟩ := hl
        obtain ⟨ocls, odict, odata, oslots⟩ := ol
        simp only at hcl hdl
        subst hcl; subst hdl
        have hol' : (s.heap.push { cls := .type "set", dict := none, data := .set #[] 0 (.fresh 0 0 (!w.params.followText "set-order")) }).get? l = some { cls := .type "tuple", dict := odict, data := .seq items nl, slots := oslots } := Heap.get?_push_of_some _ hol
        have hsls := F.sub_tuple_set
        have hslf := F.sub_tuple_frozenset
        have hne : (Value.type "tuple" == Value.type "dict") = false := by decide
        have hl1 : (s.heap.push { cls := .type "set", dict := none, data := .set #[] 0 (.fresh 0 0 (!w.params.followText "set-order")) }).IsTuple l items := ⟨_, hol', rfl, nl, rfl⟩
        unfold Builtin.«set.__init__» noKeywords Builtin.Frozenset.updateFrom
        generalize hPI : pyIter = PI
        wp_walk
        subst hPI

        refine wpAny_pyIter_tuple hl1 ?_
        refine wpAny_bind (wpAny_runValue ?_)
        have hlS : l < s.heap.objs.size := Heap.lt_size hol
        have hh3 : A.in1.in1.in1.handled = none := by simp [hh]
        have hz1 : (s.heap.push { cls := .type "set", dict := none, data := .set #[] 0 (.fresh 0 0 (!w.params.followText "set-order")) }).objs.size = s.heap.objs.size + 1 := Heap.size_push ..
        have hneI : l ≠ (s.heap.push { cls := .type "set", dict := none, data := .set #[] 0 (.fresh 0 0 (!w.params.followText "set-order")) }).objs.size := by
          rw [Heap.size_push]; exact Nat.ne_of_lt (Nat.lt_succ_of_lt hlS)
        have hSf : s.heap.objs.size ∉ [(s.heap.push { cls := .type "set", dict := none, data := .set #[] 0 (.fresh 0 0 (!w.params.followText "set-order")) }).objs.size, l] := by
          rw [Heap.size_push]; simp only [List.mem_cons, List.mem_singleton, List.not_mem_nil, or_false, not_or]
          exact ⟨Nat.ne_of_lt (Nat.lt_succ_self _), Nat.ne_of_gt hlS⟩
        have hval : ∀ (i : Nat) (v : Value), items[i]? = some v → ∃ k t, ns[i]? = some k ∧ v = .str k t := fun i v hv => by
          obtain ⟨y, t, e1, e2⟩ := StrsAre.item hit i v (by rw [Array.getElem?_toList]; exact hv)
          exact ⟨y, t, e2, e1⟩
        refine set_update_ints ((Walks.tuple hh3 _ l hneI items).toS) s.heap.objs.size
          hSf ns hisz hb hval (items.size - 0) 0 _ (by omega) (Nat.zero_le _)
          ⟨⟨_, Heap.get?_push_size _ rfl, rfl, rfl⟩, (hl1.push _)⟩ ?hS0 ?hR
        case hS0 =>
          have hget : ((s.heap.push { cls := .type "set", dict := none, data := .set #[] 0 (.fresh 0 0 (!w.params.followText "set-order")) }).push { cls := .type "tuple_iterator", data := .fields #[.ref l, .int 0 0] }).get? s.heap.objs.size
              = some { cls := .type "set", dict := none, data := .set #[] 0 (.fresh 0 0 (!w.params.followText "set-order")) } := Heap.get?_push_of_some _ hS
          exact ⟨0, Nat.le_refl 0, setRS_new_at hget⟩
        case hR =>
          intro s' c' hm hc' hS'
          obtain ⟨h', g2, d', tk', os'⟩ := s'
          have eg : g2 = s.gens := hm.gens
          have ed : d' = s.drawn := hm.drawn
          have eo : os' = s.os := hm.os
          subst eg; subst ed; subst eo
          show wpAny _ _ _ _ _ _
          refine wpAny_pure ?_
          show wpAny _ _ (ret Value.none) _ _ _
          rw [hisz] at hc'
          refine wpAny_pure ⟨rfl, h', tk', c', rfl, hS', hc', fun b o e => ?_⟩
          have hb0 : b < s.heap.objs.size := Heap.lt_size e
          have hb1 : b ≠ s.heap.objs.size := Nat.ne_of_lt hb0
          have hb2 : b ≠ (s.heap.push { cls := .type "set", dict := none, data := .set #[] 0 (.fresh 0 0 (!w.params.followText "set-order")) }).objs.size := by
            rw [Heap.size_push]; exact Nat.ne_of_lt (Nat.lt_succ_of_lt hb0)
          exact hm.heap b o (by simp only [List.mem_cons, List.mem_singleton, List.not_mem_nil, or_false, not_or]; exact ⟨hb1, hb2⟩) (Heap.get?_push_of_some _ (Heap.get?_push_of_some _ e))

      · cases r₂ with
        | error e => exact hr₂
        | ok fl₂ =>
          cases fl₂ with
          | ret r =>
            obtain ⟨rfl, h', tk, c', rfl, hS', hc', hk'⟩ := hr₂
            repeat (any_goals (first | assumption | wp_step))
            exact h _ _ _ hS' hc' hk'
          | _ => exact hr₂.elim
    | _ => exact hr.elim

theorem call_set_lstT {l : Addr} {items : Array Value} (ns : List Str) {Q : Value → Shared → Prop} (hh : A.handled = none) (hl : s.heap.IsList l items) (hit : StrsAre items.toList ns) (hb : ns.length + 1 < scanBound)
    (h : ∀ (h' : Heap) (tk c : Nat), SetRS w h' s.heap.objs.size (fun j => decide (j ∈ ns)) c → c ≤ ns.length → (∀ b o, s.heap.get? b = some o → h'.get? b = some o) → Q (.ref s.heap.objs.size) { s with heap := h', toks := tk }) :
    wpAny (model P w) A (call (.type "set") [.ref l]) Q E s := by
  have hisz : items.size = ns.length := by
    have q := StrsAre.len_eq hit
    rw [Array.length_toList] at q
    exact q
  obtain ⟨c, tl, hmro⟩ := F.called_set.mro
  have hmade := F.called_set.made
  have hsub := F.called_set.sub
  refine wpAny_call (codeAny_of_tree ?_)
  show wpAny _ _ (callAny (.type "set") _) _ _ _
  refine wpAny_pure ⟨Code.quiet_builtin _ (by decide +kernel), codeAny_builtin F.entry_type_call ?_⟩
  rw [Around.under_plain (weight_type_call_type "set" [.ref l] []) rfl]
  have h1 := F.called_set.notType
  have h2 := F.called_set.canCreate
  have hct := F.typeCall_set_1 (.ref l)
  repeat (any_goals (first | assumption | wp_step))

  refine codeAny_mono (code_set_led1 (.ref l) (E := E) (Q₁ := fun obj s₁ => obj = .ref s.heap.objs.size ∧ s₁ = { s with heap := s.heap.push { cls := .type "set", dict := none, data := .set #[] 0 (.fresh 0 0 (!w.params.followText "set-order")) } }) ⟨rfl, rfl⟩) fun r s₁ hr => ?_
  cases r with
  | error e => exact hr
  | ok fl =>
    cases fl with
    | ret obj =>
      obtain ⟨rfl, rfl⟩ := hr
      have hS : (s.heap.push { cls := .type "set", dict := none, data := .set #[] 0 (.fresh 0 0 (!w.params.followText "set-order")) }).get? s.heap.objs.size = some { cls := .type "set", dict := none, data := .set #[] 0 (.fresh 0 0 (!w.params.followText "set-order")) } := Heap.get?_push_size _ rfl
      have hT : Shared.TypeIs { s with heap := s.heap.push { cls := .type "set", dict := none, data := .set #[] 0 (.fresh 0 0 (!w.params.followText "set-order")) } } (.ref s.heap.objs.size) "set" := ⟨_, hS, rfl⟩
      have hli := F.called_set.init.lookup
      have hbi := F.called_set.init.bind (.ref s.heap.objs.size)
      repeat (any_goals (first | assumption | wp_step))

      refine codeAny_mono (codeAny_call_builtin (R := wants (fun r s₂ => r = .none ∧ ∃ h' tk c, s₂ = { s with heap := h', toks := tk } ∧ SetRS w h' s.heap.objs.size (fun j => decide (j ∈ ns)) c ∧ c ≤ ns.length ∧
          (∀ b o, s.heap.get? b = some o → h'.get? b = some o)) E) F.called_set.init.plain F.entry_set_init (check_set_init_1 hT ?_)) fun r₂ s₂ hr₂ => ?_
      · obtain ⟨ol, hol, hcl, nl, hdl⟩ := hl
        obtain ⟨ocls, odict, odata, oslots⟩ := ol
        simp only at hcl hdl
        subst hcl; subst hdl
        have hol' : (s.heap.push { cls := .type "set", dict := none, data := .set #[] 0 (.fresh 0 0 (!w.params.followText "set-order")) }).get? l = some { cls := .type "list", dict := odict, data := .seq items nl, slots := oslots } := Heap.get?_push_of_some _ hol
        have hsls := F.sub_list_set
        have hslf := F.sub_list_frozenset
        have hne : (Value.type "list" == Value.type "dict") = false := by decide
        have hl1 : (s.heap.push { cls := .type "set", dict := none, data := .set #[] 0 (.fresh 0 0 (!w.params.followText "set-order")) }).IsList l items := ⟨_, hol', rfl, nl, rfl⟩
        unfold Builtin.«set.__init__» noKeywords Builtin.Frozenset.updateFrom
        generalize hPI : pyIter = PI
        wp_walk
        subst hPI

        refine wpAny_pyIter_list hl1 ?_
        refine wpAny_bind (wpAny_runValue ?_)
        have hlS : l < s.heap.objs.size := Heap.lt_size hol
        have hh3 : A.in1.in1.in1.handled = none := by simp [hh]
        have hz1 : (s.heap.push { cls := .type "set", dict := none, data := .set #[] 0 (.fresh 0 0 (!w.params.followText "set-order")) }).objs.size = s.heap.objs.size + 1 := Heap.size_push ..
        have hneI : l ≠ (s.heap.push { cls := .type "set", dict := none, data := .set #[] 0 (.fresh 0 0 (!w.params.followText "set-order")) }).objs.size := by
          rw [Heap.size_push]; exact Nat.ne_of_lt (Nat.lt_succ_of_lt hlS)
        have hSf : s.heap.objs.size ∉ [(s.heap.push { cls := .type "set", dict := none, data := .set #[] 0 (.fresh 0 0 (!w.params.followText "set-order")) }).objs.size, l] := by
          rw [Heap.size_push]; simp only [List.mem_cons, List.mem_singleton, List.not_mem_nil, or_false, not_or]
          exact ⟨Nat.ne_of_lt (Nat.lt_succ_self _), Nat.ne_of_gt hlS⟩
        have hval : ∀ (i : Nat) (v : Value), items[i]? = some v → ∃ k t, ns[i]? = some k ∧ v = .str k t := fun i v hv => by
          obtain ⟨y, t, e1, e2⟩ := StrsAre.item hit i v (by rw [Array.getElem?_toList]; exact hv)
          exact ⟨y, t, e2, e1⟩
        refine set_update_ints ((Walks.list hh3 _ l hneI items).toS) s.heap.objs.size
          hSf ns hisz hb hval (items.size - 0) 0 _ (by omega) (Nat.zero_le _)
          ⟨⟨_, Heap.get?_push_size _ rfl, rfl, rfl⟩, (hl1.push _)⟩ ?hS0 ?hR
        case hS0 =>
          have hget : ((s.heap.push { cls := .type "set", dict := none, data := .set #[] 0 (.fresh 0 0 (!w.params.followText "set-order")) }).push { cls := .type "list_iterator", data := .fields #[.ref l, .int 0 0] }).get? s.heap.objs.size
              = some { cls := .type "set", dict := none, data := .set #[] 0 (.fresh 0 0 (!w.params.followText "set-order")) } := Heap.get?_push_of_some _ hS
          exact ⟨0, Nat.le_refl 0, setRS_new_at hget⟩
        case hR =>
          intro s' c' hm hc' hS'
          obtain ⟨h', g2, d', tk', os'⟩ := s'
          have eg : g2 = s.gens := hm.gens
          have ed : d' = s.drawn := hm.drawn
          have eo : os' = s.os := hm.os
          subst eg; subst ed; subst eo
          show wpAny _ _ _ _ _ _
          refine wpAny_pure ?_
          show wpAny _ _ (ret Value.none) _ _ _
          rw [hisz] at hc'
          refine wpAny_pure ⟨rfl, h', tk', c', rfl, hS', hc', fun b o e => ?_⟩
          have hb0 : b < s.heap.objs.size := Heap.lt_size e
          have hb1 : b ≠ s.heap.objs.size := Nat.ne_of_lt hb0
          have hb2 : b ≠ (s.heap.push { cls := .type "set", dict := none, data := .set #[] 0 (.fresh 0 0 (!w.params.followText "set-order")) }).objs.size := by
            rw [Heap.size_push]; exact Nat.ne_of_lt (Nat.lt_succ_of_lt hb0)
          exact hm.heap b o (by simp only [List.mem_cons, List.mem_singleton, List.not_mem_nil, or_false, not_or]; exact ⟨hb1, hb2⟩) (Heap.get?_push_of_some _ (Heap.get?_push_of_some _ e))

      · cases r₂ with
        | error e => exact hr₂
        | ok fl₂ =>
          cases fl₂ with
          | ret r =>
            obtain ⟨rfl, h', tk, c', rfl, hS', hc', hk'⟩ := hr₂
            repeat (any_goals (first | assumption | wp_step))
            exact h _ _ _ hS' hc' hk'
          | _ => exact hr₂.elim
    | _ => exact hr.elim

theorem keyS_of {w : World} {e : Int × Value} (g : GoodS w e) : strOf e.2 = keyS e := by
  obtain ⟨k, tk, h1, _⟩ := g
  unfold keyS
  rw [h1]
  rfl
theorem sorted_setT {S : Str → Bool} {n : Nat} {Q : Value → Shared → Prop} (R : SetRS w s.heap a S n) (hh : A.handled = none) (h64 : n < 64)
    (hQ : ∀ s' p (out : Array Value) (c : Nat) (ss : List Str), (∀ b o, s.heap.get? b = some o → s'.heap.get? b = some o) → s'.gens = s.gens → s'.os = s.os → s.heap.objs.size ≤ p →
      s'.heap.get? p = some (seqObj "list" out c) → StrsAre out.toList ss → sortedS ss = true → ss.Nodup → (∀ k, k ∈ ss ↔ S k = true) → ss.length = n → Q (.ref p) s') :
    wpAny (model P w) A (call (.builtin "sorted") [.ref a]) Q E s := by
  obtain ⟨o, es, ep, t, ho, hex, hd, g, nd, hm, hb, hf, hn, hr, hl⟩ := R
  refine Calls.call_function_entry kind_sorted plain_sorted entry_sorted (args_sorted1 _) ?_
  unfold Builtin.«sorted»
  refine wpAny_bind (m := checkCount "sorted" 1 1 _) (wpAny_pure ?_)
  refine wpAny_bind (collect_set (A := A.in1) hh ⟨o, ho, hex.1, hd⟩ hf hb hr hl fun s1 vs k1 hz g1 o1 pm => ?_)
  have hvl : vs.length = n := by rw [pm.length_eq, List.length_map, Array.length_toList]; exact hn
  have hI : StrsAre vs (vs.map strOf) := strsAre_map vs fun v hv => by
    obtain ⟨e, he, q⟩ := List.mem_map.mp (pm.mem_iff.mp hv)
    obtain ⟨k, tk, h1, _⟩ := g e he
    exact ⟨k, tk, by rw [← q]; exact h1⟩
  have pk : (vs.map strOf).Perm (es.toList.map keyS) := by
    have q := pm.map strOf
    rw [List.map_map] at q
    have e : es.toList.map (strOf ∘ fun x => x.2) = es.toList.map keyS := List.map_congr_left fun e he => keyS_of (g e he)
    rw [e] at q
    exact q
  refine wpAny_bind (wpAny_newList ?_ (by rw [hvl, sizeLine_eq]; omega))
  have hoL : (s1.heap.push (seqObj "list" vs.toArray 0)).get? s1.heap.objs.size = some (seqObj "list" vs.toArray 0) := Heap.get?_push_size _ rfl
  refine wpAny_bind (wpAny_holding (wpAny_call_entry slot_list_sort ⟨_, hoL, rfl⟩ entry_list_sort (list_sort_treeK strKind_oneLt hoL hI.keysOf (fun v₁ v₂ rest e => keyKind_strs (by rw [← e]; exact hI)) (by rw [hvl]; exact h64) fun st' hp hs => ⟨_, rfl, ?_⟩) (args_list_sort _)))
  obtain ⟨ss', a1, a2, a3⟩ := sorted_out_str hI hp hs
  obtain ⟨c, hc⟩ := sortedHeap_at (vs := vs) (out := (arrOf st').map (·.2)) hoL
  have pn : ss'.Perm (es.toList.map keyS) := a2.trans pk
  refine wpAny_pure ⟨_, rfl, hQ _ s1.heap.objs.size ((arrOf st').map (·.2)) c ss' (fun b u e => ?_) g1 o1 hz hc a1 a3 (pn.nodup_iff.mpr nd) (fun k => by rw [pn.mem_iff, ← hm k]) ?_⟩
  · have q := k1 b u e
    have hlt := Heap.lt_size q
    show (sortedHeap (s1.heap.push (seqObj "list" vs.toArray 0)) s1.heap.objs.size vs ((arrOf st').map (·.2))).get? b = some u
    rw [sortedHeap_old (Nat.ne_of_lt hlt) (by rw [size_push']; exact Nat.lt_succ_of_lt hlt)]
    exact Heap.get?_push_of_some _ q
  · rw [pn.length_eq, List.length_map, Array.length_toList]; exact hn
end
/-! ### the rules -/
def SetSO (w : World) (a : Addr) (L : List Str) : HO := .ext fun h => L.Nodup ∧ SetRS w h a (fun k => decide (k ∈ L)) L.length
theorem setSO_new {P : Program} {w : World} {H : Hp} {h : Heap} {a : Addr} {L : List Str} (nd : L.Nodup) (R : SetRS w h a (fun k => decide (k ∈ L)) L.length) : ObjOk P w H h a (SetSO w a L) :=
  ⟨⟨nd, R⟩, (by obtain ⟨o, _, _, _, ho, _⟩ := R; exact ⟨o, ho⟩), fun h1 h2 ⟨nd, R⟩ k => ⟨nd, R.at fun o q => k _ q⟩⟩
def rSetS (K : PySem.W.Frag) (w : World) : List V → Hp → VK → Prop := fun vs H Q => ∃ (a : Addr) (xs : List Str), vs = [.ref a] ∧ KB.SqA K H a (xs.map V.str) ∧ xs.length < 64 ∧ ∀ p (L : List Str), H p = none → L.Nodup → (∀ x, x ∈ L ↔ x ∈ xs) → Q (.ref p) (upd H p (SetSO w p L))
def rSortedSetS (w : World) : List V → Hp → VK → Prop := fun vs H Q => ∃ (a : Addr) (L : List Str), vs = [.ref a] ∧ H a = some (SetSO w a L) ∧ L.length < 64 ∧ ∀ (ys : List Str) p, ys.Perm L → sortedS ys = true → H p = none → Q (.ref p) (upd H p (.lst (ys.map V.str)))
def rLenSetS (w : World) : List V → Hp → VK → Prop := fun vs H Q => ∃ (a : Addr) (L : List Str), vs = [.ref a] ∧ H a = some (SetSO w a L) ∧ Q (.int (L.length : Nat)) H
section
variable {X : Cx}
theorem setSO_get {pins : List (Addr × Obj)} {σ : L2.St} {H : Hp} {s : Shared} {a : Addr} {L : List Str} (I : Inv X pins σ H s) (ha : H a = some (SetSO X.w a L)) : L.Nodup ∧ SetRS X.w s.heap a (fun k => decide (k ∈ L)) L.length := by
  have x : ObjOk X.prog X.w H s.heap a (.ext fun h => L.Nodup ∧ SetRS X.w h a (fun k => decide (k ∈ L)) L.length) := I.hok a _ ha
  exact x.1
/-- what stands in it, as a list -/
theorem set_list {w : World} {h : Heap} {a : Addr} {xs : List Str} {c : Nat} (R : SetRS w h a (fun j => decide (j ∈ xs)) c) : ∃ L : List Str, L.Nodup ∧ (∀ x, x ∈ L ↔ x ∈ xs) ∧ SetRS w h a (fun k => decide (k ∈ L)) L.length := by
  obtain ⟨o, es, ep, t, ho, hex, hd, g, nd, hm, hb, hf, hn, hr, hl⟩ := R
  have m : ∀ x, x ∈ es.toList.map keyS ↔ x ∈ xs := fun x => by rw [← hm x, decide_eq_true_eq]
  exact ⟨es.toList.map keyS, nd, m, o, es, ep, t, ho, hex, hd, g, nd, fun k => by rw [decide_eq_true_eq], hb, hf, by rw [List.length_map, Array.length_toList], hr, hl⟩
theorem cr_setS (hc : X.calm = true) : CallR X (.type "set") (rSetS X.K X.w) := by
  intro pins s σ H vs us Q I r h
  obtain ⟨a, xs, rfl, hs, h64, q⟩ := h
  rw [Vals.ref1 r]
  have hn : H s.heap.objs.size = none := I.hok.fresh (Nat.le_refl _)
  have hb : xs.length + 1 < scanBound := by unfold scanBound; omega
  have fin : ∀ (h' : Heap) (tk c : Nat), SetRS X.w h' s.heap.objs.size (fun j => decide (j ∈ xs)) c → c ≤ xs.length → (∀ b o, s.heap.get? b = some o → h'.get? b = some o) → EP X pins σ Q (.ref s.heap.objs.size) { s with heap := h', toks := tk } := fun h' tk c R _ k => by
    obtain ⟨L, nd, m, R2⟩ := set_list R
    exact ⟨.ref s.heap.objs.size, upd H s.heap.objs.size (SetSO X.w s.heap.objs.size L), I.laid (t' := tk) k (Nat.le_refl _) (setSO_new nd R2), rfl, q _ L hn nd m⟩
  rcases hs with hs | hs
  · obtain ⟨its, rv, pl, _⟩ := I.list hs
    exact call_set_lstT xs (I.ok.hd hc) pl.isList (by simpa using strsAre_of rv) hb fin
  · obtain ⟨its, rv, pl, _⟩ := I.tuple hs
    exact call_set_tupT xs (I.ok.hd hc) (show s.heap.IsTuple a its.toArray from pl) (by simpa using strsAre_of rv) hb fin
theorem cr_sortedSetS (hc : X.calm = true) : CallR X (.builtin "sorted") (rSortedSetS X.w) := by
  intro pins s σ H vs us Q I r h
  obtain ⟨a, L, rfl, ha, h64, q⟩ := h
  obtain ⟨nd, R⟩ := setSO_get I ha
  rw [Vals.ref1 r]
  refine sorted_setT R (I.ok.hd hc) h64 fun s' p out c ss k g o hp hg hi hs hnd hm hl => ?_
  have hlen : (ss.map V.str).length ≤ sizeLine := by rw [List.length_map, hl, sizeLine_eq]; omega
  have hn : H p = none := I.hok.fresh hp
  have J : Inv X pins σ (upd H p (.lst (ss.map V.str))) { s with heap := s'.heap, gens := s'.gens, drawn := s'.drawn, toks := s'.toks } :=
    I.call (ch := []) (Un.laid k hp hn) (I.hok.laid k hp ⟨hlen, out.toList, c, vals_of_strs hi, hg⟩) (by rw [g]; exact I.bare) (fun _ z => nomatch z)
  have e : s' = { s with heap := s'.heap, gens := s'.gens, drawn := s'.drawn, toks := s'.toks } := by
    cases s'
    cases s
    cases o
    rfl
  rw [e]
  have pm : ss.Perm L := (List.perm_ext_iff_of_nodup hnd nd).mpr fun k => by rw [hm k, decide_eq_true_eq]
  exact ⟨.ref p, _, J, rfl, q ss p pm hs hn⟩
theorem call_lenSetS : CallR X (.builtin "len") (rLenSetS X.w) := by
  intro pins s σ H vs us Q I r h
  obtain ⟨a, L, rfl, ha, q⟩ := h
  obtain ⟨_, o, es, ep, t, ho, hex, hd, g, nd, hm, hb, hf, hn, hr, hl⟩ := setSO_get I ha
  rw [Vals.ref1 r]
  exact call_len_set ho hex hd hf (by have hb2 := hb; unfold scanBound at hb2; omega) ⟨.int L.length, H, I.tok _, ⟨_, by rw [hn]⟩, q⟩
end
end KS

set_option Elab.async false
set_option linter.all false
set_option maxRecDepth 100000
set_option maxHeartbeats 4000000
/-! min of a list of texts. -/
namespace KS
open PySem PySem.Spec PyProof.Rows L2
def cpsAt (xs : List Str) (i : Nat) : List Nat := (xs.getD i Str.empty).cps.toList
theorem cmp_strs {prog : Program} {w : World} {A : Around} {P : Nat → Value → Prop} (xs : List Str) (hval : ∀ i v, P i v → ∃ t, v = .str (xs.getD i Str.empty) t) :
    CmpOf prog w A .Lt P (fun i j => decide (cpsAt xs i < cpsAt xs j)) := fun i j vi vj s Q E hi hj h => by
  obtain ⟨t, rfl⟩ := hval i vi hi
  obtain ⟨u, rfl⟩ := hval j vj hj
  exact richCompare_gives (op := .Lt) (typeIs_str s _ t) (typeIs_str s _ u) F.slot_str_lt F.entry_str_lt (F.args_str_lt_2 _ _) (gives_str_lt _ _ t u) (fun x => nomatch x) h
theorem best_strs (num : Nat → List Nat) : ∀ k, argBest (fun i j => decide (num i < num j)) k ≤ k ∧ ∀ j, j ≤ k → ¬ num j < num (argBest (fun i j => decide (num i < num j)) k)
  | 0 => ⟨Nat.le_refl _, fun j hj => by
    have e : j = 0 := by omega
    subst e
    exact List.lt_irrefl _⟩
  | k + 1 => by
    obtain ⟨h1, h2⟩ := best_strs num k
    unfold argBest
    by_cases q : num (k + 1) < num (argBest (fun i j => decide (num i < num j)) k)
    · rw [if_pos (decide_eq_true q)]
      refine ⟨Nat.le_refl _, fun j hj hl => ?_⟩
      by_cases e : j = k + 1
      · subst e; exact List.lt_irrefl _ hl
      · exact h2 j (by omega) (List.lt_trans hl q)
    · rw [if_neg (by simpa using q)]
      refine ⟨by omega, fun j hj hl => ?_⟩
      by_cases e : j = k + 1
      · subst e; exact q hl
      · exact h2 j (by omega) hl
section
variable {prog : Program} {w : World} {A : Around} {E : Value → Shared → Prop} {s : Shared} {l : Addr} {its : List Value}
theorem min_strs {xs : List Str} {Q : Value → Shared → Prop} (hh : A.handled = none) (hl : s.heap.IsList l its.toArray) (hi : StrsAre its xs) (hne : 0 < xs.length)
    (h : ∀ h' tk m t, (∀ b o, s.heap.get? b = some o → h'.get? b = some o) → m ∈ xs → (∀ y, y ∈ xs → ¬ y.cps.toList < m.cps.toList) → Q (.str m t) { s with heap := h', toks := tk }) : wpAny (model prog w) A (call (.builtin "min") [.ref l]) Q E s := by
  have hn : its.length = xs.length := StrsAre.len_eq hi
  refine call_min_walkS (PySem.W.iter_listW (A := A.in1) hh hl fun s₂ e W st hfp hw hk => ?_)
  have hval : ∀ (i : Nat) (v : Value), its.toArray[i]? = some v → ∃ t, v = .str (xs.getD i Str.empty) t := fun i v hv => SS.strs_at hi i v (by simpa using hv)
  refine ⟨_, _, _, _, _, _, _, _, rfl, W, st, hfp, by rw [List.size_toArray, hn]; exact hne, cmp_strs xs hval, fun v s' hP m => ?_⟩
  obtain ⟨h', tk, rfl, hk'⟩ := PySem.W.moved_old e rfl m
  obtain ⟨t, rfl⟩ := hval _ v hP
  have e1 : its.toArray.size - 1 = xs.length - 1 := by rw [List.size_toArray, hn]
  rw [e1]
  obtain ⟨b1, b2⟩ := best_strs (cpsAt xs) (xs.length - 1)
  generalize argBest (fun i j => decide (cpsAt xs i < cpsAt xs j)) (xs.length - 1) = B at *
  have hB : B < xs.length := by omega
  have eB : xs.getD B Str.empty = xs[B] := by rw [List.getD_eq_getElem?_getD, List.getElem?_eq_getElem hB]; rfl
  refine h h' tk _ t hk' (by rw [eB]; exact List.getElem_mem hB) fun y hy => ?_
  obtain ⟨j, hj, rfl⟩ := List.mem_iff_getElem.mp hy
  have q := b2 j (by omega)
  unfold cpsAt at q
  have ej : xs.getD j Str.empty = xs[j] := by rw [List.getD_eq_getElem?_getD, List.getElem?_eq_getElem hj]; rfl
  rw [ej] at q
  exact q
end
def rMinS (K : PySem.W.Frag) : List V → Hp → VK → Prop := fun vs H Q => ∃ (a : Addr) (xs : List Str), vs = [.ref a] ∧ SqL K H a (xs.map V.str) ∧ 0 < xs.length ∧ ∀ m, m ∈ xs → (∀ y, y ∈ xs → ¬ y.cps.toList < m.cps.toList) → Q (.str m) H
theorem cr_minS {X : Cx} (hc : X.calm = true) : CallR X (.builtin "min") (rMinS X.K) := by
  intro pins s σ H vs us Q I r h
  obtain ⟨a, xs, rfl, hs, hne, q⟩ := h
  obtain ⟨its, rv, hl, _⟩ := I.list hs
  rw [Vals.ref1 r]
  exact min_strs (I.ok.hd hc) hl.isList (strsAre_of rv) hne fun h' tk m t hk h1 h2 => ⟨.str m, H, I.kept hk, ⟨_, rfl⟩, q m h1 h2⟩
end KS

set_option Elab.async false
set_option linter.all false
set_option maxRecDepth 100000
set_option maxHeartbeats 4000000
/-! Rules that the hand layer lacks. -/
namespace KB
open PySem PySem.Spec PyProof.Rows L2
abbrev SetSO (w : World) (a : Addr) (L : List Str) : HO := KS.SetSO w a L
abbrev rSetS := KS.rSetS
abbrev rSortedSetS := KS.rSortedSetS
abbrev rLenSetS := KS.rLenSetS
abbrev rMinS := KS.rMinS
theorem cr_setS {X : Cx} (hc : X.calm = true) : CallR X (.type "set") (rSetS X.K X.w) := KS.cr_setS hc
theorem cr_sortedSetS {X : Cx} (hc : X.calm = true) : CallR X (.builtin "sorted") (rSortedSetS X.w) := KS.cr_sortedSetS hc
theorem call_lenSetS {X : Cx} : CallR X (.builtin "len") (rLenSetS X.w) := KS.call_lenSetS
theorem cr_minS {X : Cx} (hc : X.calm = true) : CallR X (.builtin "min") (rMinS X.K) := KS.cr_minS hc
/-! ### repr of data: no repr is under way -/
def rReprD (K : PySem.W.Frag) : List V → Hp → VK → Prop := fun vs H Q => ∃ (x : V) (d : PyData), vs = [x] ∧ Dp K H x d ∧ d.showable = true ∧ d.depth ≤ 60 ∧ d.shown.length ≤ sizeLine ∧ Q (.str d.shown) H
mutual
theorem dp_nodict {K : PySem.W.Frag} {H : Hp} : ∀ (d : PyData) (v : V), Dp K H v d → d.hasDict = false
  | .none, _, _ => by simp [PyData.hasDict]
  | .bool b, _, _ => by simp [PyData.hasDict]
  | .int i, _, _ => by simp [PyData.hasDict]
  | .str x, _, _ => by simp [PyData.hasDict]
  | .list ds, _, h => by
    cases h with
    | lst a b => simpa [PyData.hasDict] using dpAll_nodict ds _ b
  | .tuple ds, _, h => by
    cases h with
    | tup a b => simpa [PyData.hasDict] using dpAll_nodict ds _ b
  | .dict _, _, h => by cases h
theorem dpAll_nodict {K : PySem.W.Frag} {H : Hp} : ∀ (ds : List PyData) (vs : List V), DpAll K H vs ds → PyData.hasDictAll ds = false
  | [], _, _ => by simp [PyData.hasDictAll]
  | d :: ds, _, h => by
    cases h with
    | cons a b => simp [PyData.hasDictAll, dp_nodict d _ a, dpAll_nodict ds _ b]
end
theorem call_reprD {X : Cx} (hg : X.A.guards = some []) (hr : Room 1 X.A) : CallR X (.builtin "repr") (rReprD X.K) := by
  intro pins s σ H vs us Q I r h
  obtain ⟨x, d, rfl, hd, hs, h64, hz, q⟩ := h
  cases r with
  | cons rx rn =>
    rename_i u us'
    cases rn
    obtain ⟨as, rd⟩ := Dp.reads I d x u hd rx
    have nd := dp_nodict d x hd
    have hu : X.A.units + (d.depth + 1) < cLine := by have := hr.un; omega
    have fin : ∀ (h' : Heap) (t : Tok) (tk : Nat), (∀ b o, s.heap.get? b = some o → h'.get? b = some o) → EP X pins σ Q (.str d.shown t) { s with heap := h', toks := tk } := fun h' t tk k => ⟨.str d.shown, H, I.kept (t' := tk) k, ⟨_, rfl⟩, q⟩
    have far : ∀ {a : Addr}, u = .ref a → wpAny (model X.prog X.w) X.A (call (.builtin "repr") [u]) (EP X pins σ Q) X.xe s := fun {a} e => by
      subst e
      exact repr_of_reads' rd hs (fun z => by rw [nd] at z; cases z) hg hu (fun _ _ e => e) fin hz
    cases d with
    | none =>
      cases hd
      cases rx
      exact P.repr_of_none (fin s.heap _ _ fun _ _ e => e)
    | bool b =>
      cases hd
      cases rx
      refine P.repr_of_bool ?_
      have := fin s.heap s.toks (s.toks + 1) fun _ _ e => e
      simpa only [PyData.shown] using this
    | int i =>
      cases hd
      obtain ⟨t, rfl⟩ := rx
      refine P.repr_of_int (by simpa [PyData.showable] using hs) ?_
      have := fin s.heap s.toks (s.toks + 1) fun _ _ e => e
      simpa only [PyData.shown] using this
    | str y =>
      cases hd
      obtain ⟨t, rfl⟩ := rx
      refine P.repr_of_str ?_ (by simpa only [PyData.shown] using hz)
      have := fin s.heap s.toks (s.toks + 1) fun _ _ e => e
      simpa only [PyData.shown] using this
    | list ds =>
      cases hd with
      | lst a b => exact far rx
    | tuple ds =>
      cases hd with
      | tup a b => exact far rx
    | dict kvs => cases hd
/-! ### defs that are called where no repr is under way -/
structure FnOkG (P : Program) (w : World) (K : PySem.W.Frag) (mg : Str → Option Value) (base : Heap) (k : Nat) (f : Addr) (fd : FuncData) (ps : List Str) (sp : Sp) : Prop where
  len : ∀ vs H Q E, sp vs H Q E → vs.length = ps.length
  run : ∀ (A : Around) (outer : List Env) (s : Shared) (H : Hp) (args : Args) (us : List Value) (vs : List V) (Q : VK) (E : XK), Room k A → A.guards = some [] → Env0 P w K mg base A outer s H → BindsTo s fd args (ps.zip us) → Vals vs us → sp vs H Q E →
    codeAny (model P w) A (.call (.ref f) args) (CR CX0 outer P w H s Q E) s
theorem fn_ofG {P : Program} {w : World} {K : PySem.W.Frag} {mg : Str → Option Value} {base : Heap} {k : Nat} {f : Addr} {name qual : Str} {params : Arguments} {body : List Stmt} {scope : Scope} {dV kV doc pm cdv ct oc : Value} {an od : Option Addr}
    {osl : Array (Option Value)} {N ps : List Str} {sp : Sp} (lk : K.lookup f = some ⟨oc, od, .func (PySem.W.fnOf name qual params body scope dV kV doc pm an cdv ct), osl⟩) (hcd : PySem.W.codeIn K cdv qual = true) (S : FnScope N ps scope)
    (len : ∀ vs H Q E, sp vs H Q E → vs.length = ps.length)
    (hbody : ∀ (A : Around) (outer : List Env) (s : Shared) (H : Hp) (vs : List V) (Q : VK) (E : XK), Room k (A.deeper (envOfC qual scope s.heap.objs.size f cdv)) → A.guards = some [] → sp vs H Q E →
      ∃ t, PSs (cxOf CX0 P w K mg base N qual scope f cdv A outer s H E).nox body t ∧ t { nx := fun _ H' => Q .non H', rt := Q } (start N vs) H) :
    FnOkG P w K mg base (k + 1) f (PySem.W.fnOf name qual params body scope dV kV doc pm an cdv ct) ps sp :=
  ⟨len, fun A outer s H args us vs Q E hr hg e0 hb r hsp => LamX.run_ofS lk hcd S hr e0 hb r (len _ _ _ _ hsp) fun hr' => by
    obtain ⟨t, a, b⟩ := hbody A outer s H vs Q E hr' hg hsp
    exact ⟨t, a.nox, b⟩⟩
theorem Fun.okG {P : Program} {w : World} {K : PySem.W.Frag} {mg : Str → Option Value} {base : Heap} {x qual : Str} {st : Stmt} {f : Addr} {fd : FuncData} {N ps : List Str} {k : Nat} {sp : Sp} (F : Fun K x qual st f fd) (S : FnScope N ps (defScope st)) (len : ∀ vs H Q E, sp vs H Q E → vs.length = ps.length)
    (hbody : ∀ (cdv : Value) (A : Around) (outer : List Env) (s : Shared) (H : Hp) (vs : List V) (Q : VK) (E : XK), Room k (A.deeper (envOfC qual (defScope st) s.heap.objs.size f cdv)) → A.guards = some [] → sp vs H Q E →
      ∃ t, PSs (cxOf CX0 P w K mg base N qual (defScope st) f cdv A outer s H E).nox (defBody st) t ∧ t { nx := fun _ H' => Q .non H', rt := Q } (start N vs) H) : FnOkG P w K mg base (k + 1) f fd ps sp := by
  obtain ⟨oc, od, kV, doc, pm, an, cdv, ct, osl, rfl, lk, hcd⟩ := F.ex
  exact fn_ofG lk hcd S len (hbody cdv)
structure CalG (P : Program) (w : World) (K : PySem.W.Frag) (mg : Str → Option Value) (base : Heap) (k : Nat) (x : Str) (ps : List Str) (sp : Sp) : Prop where
  ex : ∃ (f : Addr) (fd : FuncData), FnOkG P w K mg base k f fd ps sp ∧ mg x = some (.ref f) ∧ PySem.W.keepIn K (.ref f) = true ∧ Binds K fd ps []
theorem pe_calG {X : Cx} {k : Nat} {x : Str} {ps : List Str} {sp : Sp} {p pos : Pos} {e : Expr} {es : List Expr} {t : TA} (c : CalG X.prog X.w X.K X.mg X.base k x ps sp) (hgu : X.A.guards = some []) (hr : Room k X.A) (hg : Gl X x) (ha : PA X (e :: es) t)
    (hdb : (x == ("__debug__" : Str)) = false := by decide)
    (he : starEach (e :: es) X.env = (false, eval e X.env) :: starEach es X.env := by rfl) (hpl : (backTo pos (starEach es X.env)).any (·.1) = false := by rfl) :
    PE X (.Call (.Name x p) (e :: es) [] pos) (tCall sp [] E0 t) := by
  obtain ⟨f, fd, F, hm, hk, hb⟩ := c.ex
  refine ⟨fun pins s σ H Q I h => ?_⟩
  refine wpAny_Call_Name_kw (ld_glob I hg hm ?_ hdb)
  refine PySem.W.callWith_K (h₀ := X.base) I.ok.mod.kin hk (thn (ha.run pos pins s σ H _ I h) fun us s1 ⟨vs, H1, I1, r, q⟩ => ⟨I1.kIn, ?_⟩) he hpl
  have q : sp vs H1 Q E0 := by
    have q' : sp (vs ++ []) H1 Q E0 := q
    rwa [List.append_nil] at q'
  have hl : us.length = ps.length := by rw [← r.length]; exact F.len _ _ _ _ q
  have b := hb s1 us I1.kIn (by rw [List.append_nil]; exact hl)
  rw [List.append_nil] at b
  show wpAny _ _ (call (.ref f) us) _ _ _
  refine wpAny_call (codeAny_mono (F.run X.A X.stack s1 H1 ⟨us, []⟩ us vs Q E0 hr hgu I1.env0 b r q) fun r s' hq => ?_)
  cases r with
  | error e => exact (show False from hq).elim
  | ok fl =>
    cases fl with
    | ret u => exact I1.after hq
    | next => exact False.elim hq
    | brk => exact False.elim hq
    | cont => exact False.elim hq
theorem ip_bor {X : Cx} : PIp X .BitOr (ipI fun i j => Builtin.bitOr i j) := iop_or
section
variable {X : Cx} {CX : CXT} {k : Nat} {x : Str} {ps : List Str} {sp : Sp} {E : XK} {p pos : Pos} {e : Expr} {es : List Expr} {t : TA}
/-- the class Pact -/
structure MkP (P : Program) (w : World) (K : PySem.W.Frag) (mg : Str → Option Value) (base : Heap) (k : Nat) (x : Str) (ps : List Str) (C : Addr) (sp : Sp) : Prop where
  ex : ∃ (f : Addr) (fd : FuncData), FnOk P w K mg base CX0 k f fd ps sp ∧ Mk K C f ∧ Binds K fd ps []
  mgC : mg x = some (.ref C)
theorem pe_mk {C : Addr} (c : MkP X.prog X.w X.K X.mg X.base k x ps C sp) (hr : Room (k + 1) X.A) (hg : Gl X x) (ha : PA X (e :: es) t)
    (hdb : (x == ("__debug__" : Str)) = false := by decide)
    (he : starEach (e :: es) X.env = (false, eval e X.env) :: starEach es X.env := by rfl) (hpl : (backTo pos (starEach es X.env)).any (·.1) = false := by rfl) :
    PE X (.Call (.Name x p) (e :: es) [] pos) (tMake C sp [] E0 t) := by
  obtain ⟨f, fd, F, M, hb⟩ := c.ex
  exact pe_make M F hr hg c.mgC hb .nil pass0 ha hdb he hpl
end
theorem m1 {X : Cx} {o : Expr} {m : Str} {apos : Pos} {e : Expr} {cpos : Pos} (base : attributeBase o m X.env (eval o X.env) = eval o X.env := by rfl)
  (few : ((backTo cpos (starEach [e] X.env)).all (fun x => !x.1) && (backToKw cpos (keywordEach [] X.env)).all (fun x => x.1.isSome)
    && decide (([e] : List Expr).length + ([] : List Keyword).length + (if ([] : List Keyword).isEmpty then 0 else 1) < 30)) = true := by rfl)
  (line : (apos.endLine == cpos.line) = true := by rfl)
  (trees : backTo cpos (starEach [e] X.env) = [(false, eval e X.env)] := by rfl) : M1 X o m apos e cpos := ⟨base, few, line, trees⟩
theorem m2 {X : Cx} {o : Expr} {m : Str} {apos : Pos} {e f : Expr} {cpos : Pos} (base : attributeBase o m X.env (eval o X.env) = eval o X.env := by rfl)
  (few : ((backTo cpos (starEach [e, f] X.env)).all (fun x => !x.1) && (backToKw cpos (keywordEach [] X.env)).all (fun x => x.1.isSome)
    && decide (([e, f] : List Expr).length + ([] : List Keyword).length + (if ([] : List Keyword).isEmpty then 0 else 1) < 30)) = true := by rfl)
  (line : (apos.endLine == cpos.line) = true := by rfl)
  (trees : backTo cpos (starEach [e, f] X.env) = [(false, eval e X.env), (false, eval f X.env)] := by rfl) : M2 X o m apos e f cpos := ⟨base, few, line, trees⟩
/-! ### the rules with their K told -/
section
variable {X : Cx} (K : PySem.W.Frag)
def rLenV : List V → Hp → VK → Prop := fun xs H Q => ∃ x n, xs = [x] ∧ LenV K x H n ∧ Q (.int (n : Nat)) H
def rLstOf : List V → Hp → VK → Prop := fun xs H Q => ∃ p ys, xs = [.ref p] ∧ (SqL K H p ys ∨ SqT K H p ys) ∧ ∀ l, H l = none → Q (.ref l) (upd H l (.lst ys))
def rTupOf : List V → Hp → VK → Prop := fun xs H Q => ∃ p ys, xs = [.ref p] ∧ ((SqL K H p ys ∧ ∀ l, H l = none → Q (.ref l) (upd H l (.tup ys))) ∨ (SqT K H p ys ∧ Q (.ref p) H))
def rTIx : V → List V → Hp → VK → Prop := fun x xs H Q => ∃ p, ∃ ys : List Str, ∃ z j, x = .ref p ∧ xs = [.str z] ∧ SqT K H p (ys.map V.str) ∧ ys[j]? = some z ∧ (∀ m, m < j → ys[m]? ≠ some z) ∧ Q (.int (j : Nat)) H
theorem kIx (h : X.K = K := by rfl) : IxR X (rIx K) := by subst h; exact ix_seq
theorem kSl (h : X.K = K := by rfl) : SlR X (rSlL K) := by subst h; exact sl_list
theorem kIn (h : X.K = K := by rfl) : OpR X (compareOp .In) (rIn K false) := by subst h; exact op_in_seq
theorem kNi (h : X.K = K := by rfl) : OpR X (compareOp .NotIn) (rIn K true) := by subst h; exact op_notIn_seq
theorem kEq (hu : X.A.units + 64 < cLine) (h : X.K = K := by rfl) : OpR X (compareOp .Eq) (rEqD K) := by subst h; exact op_eqD hu
theorem kNe (hu : X.A.units + 64 < cLine) (h : X.K = K := by rfl) : OpR X (compareOp .NotEq) (rNeD K) := by subst h; exact op_neD hu
theorem kLen (h : X.K = K := by rfl) : CallR X (.builtin "len") (rLenV K) := by subst h; exact call_len
theorem kAll (hc : X.calm = true) (h : X.K = K := by rfl) : CallR X (.builtin "all") (rAll K) := by subst h; exact cr_all hc
theorem kLst (h : X.K = K := by rfl) : CallR X (.type "list") (rLstOf K) := by subst h; exact call_list_of
theorem kTup (h : X.K = K := by rfl) : CallR X (.type "tuple") (rTupOf K) := by subst h; exact call_tuple_of
theorem kSrt (h : X.K = K := by rfl) : CallR X (.builtin "sorted") (rSortedS K) := by subst h; exact cr_sortedS
theorem kSet (w : World) (hc : X.calm = true) (h : X.K = K := by rfl) (hw : X.w = w := by rfl) : CallR X (.type "set") (rSetS K w) := by subst h; subst hw; exact cr_setS hc
theorem kSrtSet (w : World) (hc : X.calm = true) (hw : X.w = w := by rfl) : CallR X (.builtin "sorted") (rSortedSetS w) := by subst hw; exact cr_sortedSetS hc
theorem kLenSet (w : World) (hw : X.w = w := by rfl) : CallR X (.builtin "len") (rLenSetS w) := by subst hw; exact call_lenSetS
theorem kMin (hc : X.calm = true) (h : X.K = K := by rfl) : CallR X (.builtin "min") (rMinS K) := by subst h; exact cr_minS hc
theorem kRepr (hg : X.A.guards = some []) (hr : Room 1 X.A) (h : X.K = K := by rfl) : CallR X (.builtin "repr") (rReprD K) := by subst h; exact call_reprD hg hr
theorem kIsi (h : X.K = K := by rfl) : CallR X (.builtin "isinstance") (rIsi K) := by subst h; exact call_isi
theorem kIsiT (h : X.K = K := by rfl) : CallR X (.builtin "isinstance") (rIsiT K) := by subst h; exact call_isiT
theorem kIndex (h : X.K = K := by rfl) : MtR X "list.index" (rIndex K) := by subst h; exact mt_index
theorem kTIndex (h : X.K = K := by rfl) : MtR X "tuple.index" (rTIx K) := by subst h; exact mt_tup_index
theorem kTg (n : Nat) {es : List Expr} {k : Nat} {t : TGs} {pos : Pos} (hc : X.calm = true) (hg : PGs X es t) (h : X.K = K := by rfl)
    (hn : (assignEach es X.env).length = n := by rfl) (hst : (assignEach es X.env).findIdx? (·.1) = none := by rfl) : PG X (.Tuple es k pos) (gTup K n t) := by subst h; exact pg_tup hc hg hn hst
theorem kSeq {tg l : Expr} {tl : TE} (hl : PE X l tl) (h : X.K = K := by rfl) : PI X tg l (iSeq K tl) := by subst h; exact pi_seq hl
theorem kEnum {e : Expr} {ta : TA} {p pos tpos : Pos} {elts : List Expr} {kk : Nat} (hg : Gl X "enumerate") (hm : X.mg "enumerate" = none) (ha : PA X [e] ta) (h : X.K = K := by rfl) (hs : starEach [e] X.env = [(false, eval e X.env)] := by rfl) :
    PI X (.Tuple elts kk tpos) (.Call (.Name "enumerate" p) [e] [] pos) (iEnumS K ta) := by subst h; exact pi_enumS hg hm ha hs
theorem kZip {e e2 : Expr} {ta : TA} {p pos tpos : Pos} {elts : List Expr} {kk : Nat} (hg : Gl X "zip") (hm : X.mg "zip" = none) (ha : PA X [e, e2] ta) (h : X.K = K := by rfl)
    (hs : starEach [e, e2] X.env = (false, eval e X.env) :: starEach [e2] X.env := by rfl) (hpl : (backTo pos (starEach [e2] X.env)).any (·.1) = false := by rfl) :
    PI X (.Tuple elts kk tpos) (.Call (.Name "zip" p) [e, e2] [] pos) (iZipS K ta) := by subst h; exact pi_zipS hg hm ha hs hpl
theorem kFld {e : Expr} {f : Str} {ta : TE} {pos : Pos} (he : PE X e ta) (h : X.K = K := by rfl) (hb : attributeBase e f X.env (eval e X.env) = eval e X.env := by rfl) : PE X (.Attribute e f pos) (tFld K ta f) := by subst h; exact pe_fld he hb
theorem kRev {e : Expr} {te : TE} {k : Nat} {p1 p2 p3 pos : Pos} (he : PE X e te) (h : X.K = K := by rfl) : PE X (.Subscript e (.Slice none none (some (.UnaryOp .USub (.Constant (.int 1) k p1) p2)) p3) pos) (tRevL K te) := by subst h; exact pe_revL he
end
theorem hrU_of {A : Around} {k : Nat} (hr : Room k A) : A.units + 64 < cLine := by have := hr.un; omega
end KB

set_option Elab.async false
set_option linter.all false
set_option maxRecDepth 100000
set_option maxHeartbeats 4000000
/-! What an expression's reading evaluates to, over a frozen part G of the heap: all that is said of values is said of G;
the current heap has G and, beside it, the cells that the body changes. -/
namespace KB
open PySem PySem.Spec PyProof.Rows L2

/-- from (G, H) to (G2, H2): both grow, and what was a changing cell is not frozen -/
structure Grow (G H G2 H2 : Hp) : Prop where
  up : Same G G2
  sub : Same G2 H2
  keep : Same H H2
  off : ∀ b, H b ≠ none → G b = none → G2 b = none
theorem Grow.refl {G H : Hp} (s : Same G H) : Grow G H G H := ⟨Same.refl G, s, Same.refl H, fun _ _ n => n⟩
theorem Grow.trans {G H G2 H2 G3 H3 : Hp} (a : Grow G H G2 H2) (b : Grow G2 H2 G3 H3) : Grow G H G3 H3 :=
  ⟨a.up.trans b.up, b.sub, a.keep.trans b.keep, fun c hc n => b.off c (fun z => hc (a.keep.free z)) (a.off c hc n)⟩
theorem Grow.new {G H : Hp} {p : Addr} {o : HO} (s : Same G H) (hp : H p = none) : Grow G H (upd G p o) (upd H p o) := by
  have gp : G p = none := s.free hp
  refine ⟨fun b u e => ?_, fun b u e => ?_, fun b u e => ?_, fun b hb n => ?_⟩
  · rw [upd_ne (ne_of_none e gp)]; exact e
  · by_cases q : b = p
    · subst q; rw [upd_same] at e ⊢; exact e
    · rw [upd_ne q] at e ⊢; exact s b u e
  · rw [upd_ne (ne_of_none e hp)]; exact e
  · have q : b ≠ p := fun z => hb (z ▸ hp)
    rw [upd_ne q]; exact n
/-- a new cell, not frozen -/
theorem Grow.cell {G H : Hp} {p : Addr} {o : HO} (s : Same G H) (hp : H p = none) : Grow G H G (upd H p o) := by
  have gp : G p = none := s.free hp
  exact ⟨Same.refl G, fun b u e => by rw [upd_ne (ne_of_none e gp)]; exact s b u e, fun b u e => by rw [upd_ne (ne_of_none e hp)]; exact e, fun _ _ n => n⟩
theorem Same.new {G : Hp} {p : Addr} {o : HO} (gp : G p = none) : Same G (upd G p o) := fun b u e => by rw [upd_ne (ne_of_none e gp)]; exact e
/-- a cell is written -/
theorem Same.mut {G H : Hp} {p : Addr} {o : HO} (s : Same G H) (gp : G p = none) : Same G (upd H p o) := fun b u e => by rw [upd_ne (ne_of_none e gp)]; exact s b u e

abbrev RP := V → Hp → Prop
class Stb (R : RP) : Prop where
  up : ∀ {v : V} {H H' : Hp}, Same H H' → R v H → R v H'
theorem stb {R : RP} [S : Stb R] {v : V} {H H' : Hp} (s : Same H H') (r : R v H) : R v H' := S.up s r

/-! ### data -/
theorem same_rd {H H' : Hp} {a : Addr} {u : HO} (e : Same H H') (h : Rd H a u) : Rd H' a u := by
  rcases h with h | ⟨o, h⟩
  · exact .inl (e a _ h)
  · exact .inr ⟨o, e a _ h⟩
theorem same_t {K : PySem.W.Frag} {H H' : Hp} {a : Addr} {xs : List V} (e : Same H H') (h : SqT K H a xs) : SqT K H' a xs := by
  rcases h with h | h
  · exact .inl (same_rd e h)
  · exact .inr h
theorem same_a {K : PySem.W.Frag} {H H' : Hp} {a : Addr} {xs : List V} (e : Same H H') (h : SqA K H a xs) : SqA K H' a xs := by
  rcases h with h | h
  · exact .inl (e.seq h)
  · exact .inr (same_t e h)
mutual
theorem Dp.up {K : PySem.W.Frag} {H H' : Hp} (e : Same H H') : ∀ (d : PyData) (v : V), Dp K H v d → Dp K H' v d
  | .none, _, h => by cases h; exact .non
  | .bool b, _, h => by cases h; exact .bl b
  | .int i, _, h => by cases h; exact .int i
  | .str x, _, h => by cases h; exact .str x
  | .list ds, _, h => by
    cases h with
    | lst a b => exact .lst (e.seq a) (DpAll.up e ds _ b)
  | .tuple ds, _, h => by
    cases h with
    | tup a b => exact .tup (same_t e a) (DpAll.up e ds _ b)
  | .dict _, _, h => by cases h
theorem DpAll.up {K : PySem.W.Frag} {H H' : Hp} (e : Same H H') : ∀ (ds : List PyData) (vs : List V), DpAll K H vs ds → DpAll K H' vs ds
  | [], _, h => by cases h; exact .nil
  | d :: ds, _, h => by
    cases h with
    | cons a b => exact .cons (Dp.up e d _ a) (DpAll.up e ds _ b)
end
abbrev D (K : PySem.W.Frag) (d : PyData) : RP := fun v H => Dp K H v d
instance {K : PySem.W.Frag} {d : PyData} : Stb (D K d) := ⟨fun s r => Dp.up s d _ r⟩
abbrev Pu (p : V → Prop) : RP := fun v _ => p v
instance {p : V → Prop} : Stb (Pu p) := ⟨fun _ r => r⟩
theorem d_int {K : PySem.W.Frag} {H : Hp} {v : V} {i : Int} (h : Dp K H v (.int i)) : v = .int i := by cases h; rfl
theorem d_str {K : PySem.W.Frag} {H : Hp} {v : V} {i : Str} (h : Dp K H v (.str i)) : v = .str i := by cases h; rfl
theorem d_bl {K : PySem.W.Frag} {H : Hp} {v : V} {i : Bool} (h : Dp K H v (.bool i)) : v = .bl i := by cases h; rfl
theorem dp_len {K : PySem.W.Frag} {H : Hp} : ∀ {vs : List V} {ds : List PyData}, DpAll K H vs ds → vs.length = ds.length
  | _, _, .nil => rfl
  | _, _, .cons _ t => by simp [dp_len t]
theorem dp_get {K : PySem.W.Frag} {H : Hp} : ∀ {vs : List V} {ds : List PyData} {i : Nat} {d : PyData}, DpAll K H vs ds → ds[i]? = some d → ∃ v, vs[i]? = some v ∧ Dp K H v d
  | _, _, _, _, .nil, e => by simp at e
  | _, _, 0, _, .cons a _, e => by simp at e; subst e; exact ⟨_, rfl, a⟩
  | _, _, i + 1, d, .cons _ t, e => by
    obtain ⟨v, h1, h2⟩ := dp_get (i := i) (d := d) t (by simpa using e)
    exact ⟨v, by simpa using h1, h2⟩
theorem dp_get' {K : PySem.W.Frag} {H : Hp} : ∀ {vs : List V} {ds : List PyData} {i : Nat} {v : V}, DpAll K H vs ds → vs[i]? = some v → ∃ d, ds[i]? = some d ∧ Dp K H v d
  | _, _, _, _, .nil, e => by simp at e
  | _, _, 0, _, .cons a _, e => by simp at e; subst e; exact ⟨_, rfl, a⟩
  | _, _, i + 1, v, .cons _ t, e => by
    obtain ⟨d, h1, h2⟩ := dp_get' (i := i) (v := v) t (by simpa using e)
    exact ⟨d, by simpa using h1, h2⟩
theorem dp_app {K : PySem.W.Frag} {H : Hp} : ∀ {vs ws : List V} {ds es : List PyData}, DpAll K H vs ds → DpAll K H ws es → DpAll K H (vs ++ ws) (ds ++ es)
  | _, _, _, _, .nil, h => h
  | _, _, _, _, .cons a t, h => .cons a (dp_app t h)
theorem dp_take {K : PySem.W.Frag} {H : Hp} : ∀ {vs : List V} {ds : List PyData} (n : Nat), DpAll K H vs ds → DpAll K H (vs.take n) (ds.take n)
  | _, _, 0, _ => .nil
  | _, _, _ + 1, .nil => .nil
  | _, _, n + 1, .cons a t => .cons a (dp_take n t)
theorem dp_drop {K : PySem.W.Frag} {H : Hp} : ∀ {vs : List V} {ds : List PyData} (n : Nat), DpAll K H vs ds → DpAll K H (vs.drop n) (ds.drop n)
  | _, _, 0, h => h
  | _, _, _ + 1, .nil => .nil
  | _, _, n + 1, .cons _ t => dp_drop n t
theorem dp_rev {K : PySem.W.Frag} {H : Hp} : ∀ {vs : List V} {ds : List PyData}, DpAll K H vs ds → DpAll K H vs.reverse ds.reverse
  | _, _, .nil => .nil
  | _, _, .cons a t => by
    rw [List.reverse_cons, List.reverse_cons]
    exact dp_app (dp_rev t) (.cons a .nil)
/-- texts, ints, bools as data -/
abbrev sds (xs : List Str) : List PyData := xs.map PyData.str
theorem dp_sds {K : PySem.W.Frag} {H : Hp} : ∀ {xs : List Str} {vs : List V}, DpAll K H vs (sds xs) → vs = xs.map V.str
  | [], _, h => by cases h; rfl
  | x :: xs, _, h => by
    cases h with
    | cons a b => cases a; rw [dp_sds b]; rfl
theorem sds_dp {K : PySem.W.Frag} {H : Hp} : ∀ (xs : List Str), DpAll K H (xs.map V.str) (sds xs)
  | [] => .nil
  | x :: xs => .cons (.str x) (sds_dp xs)
theorem dp_ints {K : PySem.W.Frag} {H : Hp} : ∀ {xs : List Int} {vs : List V}, DpAll K H vs (xs.map PyData.int) → vs = xs.map V.int
  | [], _, h => by cases h; rfl
  | x :: xs, _, h => by
    cases h with
    | cons a b => cases a; rw [dp_ints b]; rfl
theorem ints_dp {K : PySem.W.Frag} {H : Hp} : ∀ (xs : List Int), DpAll K H (xs.map V.int) (xs.map PyData.int)
  | [] => .nil
  | x :: xs => .cons (.int x) (ints_dp xs)
theorem dp_bools {K : PySem.W.Frag} {H : Hp} : ∀ {xs : List Bool} {vs : List V}, DpAll K H vs (xs.map PyData.bool) → vs = xs.map V.bl
  | [], _, h => by cases h; rfl
  | x :: xs, _, h => by
    cases h with
    | cons a b => cases a; rw [dp_bools b]; rfl
/-- a list or a tuple of data -/
inductive SqD : PyData → List PyData → Prop where
  | l (ds : List PyData) : SqD (.list ds) ds
  | t (ds : List PyData) : SqD (.tuple ds) ds
theorem d_seq {K : PySem.W.Frag} {H : Hp} {v : V} {d : PyData} {ds : List PyData} (q : SqD d ds) (h : Dp K H v d) : ∃ a vs, v = .ref a ∧ SqA K H a vs ∧ DpAll K H vs ds := by
  cases q with
  | l => cases h with | lst a b => exact ⟨_, _, rfl, .inl a, b⟩
  | t => cases h with | tup a b => exact ⟨_, _, rfl, .inr a, b⟩
theorem d_list {K : PySem.W.Frag} {H : Hp} {v : V} {ds : List PyData} (h : Dp K H v (.list ds)) : ∃ a vs, v = .ref a ∧ SqL K H a vs ∧ DpAll K H vs ds := by
  cases h with | lst a b => exact ⟨_, _, rfl, a, b⟩
theorem d_tup {K : PySem.W.Frag} {H : Hp} {v : V} {ds : List PyData} (h : Dp K H v (.tuple ds)) : ∃ a vs, v = .ref a ∧ SqT K H a vs ∧ DpAll K H vs ds := by
  cases h with | tup a b => exact ⟨_, _, rfl, a, b⟩
-- no list in it: it leans on tuples alone
mutual
def flatD : PyData → Bool
  | .list _ => false
  | .dict _ => false
  | .tuple ds => flatDs ds
  | _ => true
def flatDs : List PyData → Bool
  | [] => true
  | d :: ds => flatD d && flatDs ds
end
/-- tuples are as they were -/
def SameT (H H' : Hp) : Prop := ∀ b o, H b = some o → (∃ xs, o = .tup xs) ∨ (∃ ob xs, o = .frz ob (.tup xs)) → H' b = some o
theorem sameT_t {K : PySem.W.Frag} {H H' : Hp} {a : Addr} {xs : List V} (e : SameT H H') (h : SqT K H a xs) : SqT K H' a xs := by
  rcases h with (h | ⟨o, h⟩) | h
  · exact .inl (.inl (e _ _ h (.inl ⟨_, rfl⟩)))
  · exact .inl (.inr ⟨o, e _ _ h (.inr ⟨_, _, rfl⟩)⟩)
  · exact .inr h
mutual
theorem Dp.flat {K : PySem.W.Frag} {H H' : Hp} (e : SameT H H') : ∀ (d : PyData) (v : V), flatD d = true → Dp K H v d → Dp K H' v d
  | .none, _, _, h => by cases h; exact .non
  | .bool b, _, _, h => by cases h; exact .bl b
  | .int i, _, _, h => by cases h; exact .int i
  | .str x, _, _, h => by cases h; exact .str x
  | .list ds, _, f, h => by simp [flatD] at f
  | .tuple ds, _, f, h => by
    cases h with
    | tup a b => exact .tup (sameT_t e a) (DpAll.flat e ds _ (by simpa [flatD] using f) b)
  | .dict _, _, _, h => by cases h
theorem DpAll.flat {K : PySem.W.Frag} {H H' : Hp} (e : SameT H H') : ∀ (ds : List PyData) (vs : List V), flatDs ds = true → DpAll K H vs ds → DpAll K H' vs ds
  | [], _, _, h => by cases h; exact .nil
  | d :: ds, _, f, h => by
    cases h with
    | cons a b =>
      have f' : flatD d = true ∧ flatDs ds = true := by simpa [flatDs] using f
      exact .cons (Dp.flat e d _ f'.1 a) (DpAll.flat e ds _ f'.2 b)
end
theorem flatDs_sds (xs : List Str) : flatDs (sds xs) = true := by
  induction xs with
  | nil => rfl
  | cons x xs ih => show (flatD (.str x) && flatDs (sds xs)) = true; rw [ih]; rfl
theorem flatDs_app (a b : List PyData) : flatDs (a ++ b) = (flatDs a && flatDs b) := by
  induction a with
  | nil => simp [flatDs]
  | cons x a ih => simp [flatDs, ih, Bool.and_assoc]

/-! ### expressions -/
def EvS (te : TE) (σ : L2.St) (G : Hp) (R : RP) : Prop := ∀ G1 H, Same G G1 → Same G1 H → ∀ Q : VK, (∀ v G2 H2, Grow G1 H G2 H2 → R v G2 → Q v H2) → te σ H Q
/-- a test: p of the answer -/
def EtP (tt : TT) (σ : L2.St) (G : Hp) (p : Bool → Prop) : Prop := ∀ G1 H, Same G G1 → Same G1 H → ∀ Q : Bool → Hp → Prop, (∀ b G2 H2, Grow G1 H G2 H2 → p b → Q b H2) → tt σ H Q
abbrev Et (tt : TT) (σ : L2.St) (G : Hp) (b : Bool) : Prop := EtP tt σ G (fun c => c = b)
/-- a new list, still to be changed: what it holds is R -/
def EvN (K : PySem.W.Frag) (te : TE) (σ : L2.St) (G : Hp) (R : List PyData → Prop) : Prop := ∀ G1 H, Same G G1 → Same G1 H → ∀ Q : VK,
  (∀ p vs ds G2 H2, Grow G1 H G2 H2 → H p = none → G2 p = none → H2 p = some (.lst vs) → DpAll K G2 vs ds → R ds → Q (.ref p) H2) → te σ H Q
def Alls : List RP → List V → Hp → Prop
  | [], vs, _ => vs = []
  | R :: Rs, vs, H => ∃ v r, vs = v :: r ∧ R v H ∧ Alls Rs r H
def EvA (ta : TA) (σ : L2.St) (G : Hp) (Rs : List RP) : Prop := ∀ G1 H, Same G G1 → Same G1 H → ∀ Q : List V → Hp → Prop, (∀ vs G2 H2, Grow G1 H G2 H2 → Alls Rs vs G2 → Q vs H2) → ta σ H Q
def EvO (to : TO) (σ : L2.St) (G : Hp) (o : Option Int) : Prop := ∀ G1 H, Same G G1 → Same G1 H → ∀ Q : Option Int → Hp → Prop, (∀ G2 H2, Grow G1 H G2 H2 → Q o H2) → to σ H Q
/-- an operation on values: from G and H -/
def RvS (r : Hp → VK → Prop) (G : Hp) (R : RP) : Prop := ∀ H, Same G H → ∀ Q : VK, (∀ z G2 H2, Grow G H G2 H2 → R z G2 → Q z H2) → r H Q

section
variable {K : PySem.W.Frag} {σ : L2.St} {G G2 H : Hp} {ta tb tc te : TE} {tt tu : TT} {R Ra Rb Rc : RP} {p q : Bool → Prop} {t : TA} {Rs : List RP}
theorem EvS.up (h : EvS te σ G R) (u : Same G G2) : EvS te σ G2 R := fun G1 H u1 s Q k => h G1 H (u.trans u1) s Q k
theorem EtP.up (h : EtP tt σ G p) (u : Same G G2) : EtP tt σ G2 p := fun G1 H u1 s Q k => h G1 H (u.trans u1) s Q k
theorem EvA.up (h : EvA t σ G Rs) (u : Same G G2) : EvA t σ G2 Rs := fun G1 H u1 s Q k => h G1 H (u.trans u1) s Q k
theorem EvN.up {R : List PyData → Prop} (h : EvN K te σ G R) (u : Same G G2) : EvN K te σ G2 R := fun G1 H u1 s Q k => h G1 H (u.trans u1) s Q k
theorem EvS.imp {R' : RP} (h : EvS te σ G R) (i : ∀ v H, R v H → R' v H) : EvS te σ G R' := fun G1 H u s Q k => h G1 H u s Q fun v G2 H2 g r => k v G2 H2 g (i v G2 r)
theorem EtP.imp (h : EtP tt σ G p) (i : ∀ b, p b → q b) : EtP tt σ G q := fun G1 H u s Q k => h G1 H u s Q fun v G2 H2 g r => k v G2 H2 g (i v r)
theorem EvN.imp {R R' : List PyData → Prop} (h : EvN K te σ G R) (i : ∀ ds, R ds → R' ds) : EvN K te σ G R' := fun G1 H u s Q k => h G1 H u s Q fun p vs ds G2 H2 g a b c d r => k p vs ds G2 H2 g a b c d (i ds r)
theorem EvS.to {d d' : PyData} (h : EvS te σ G (D K d)) (e : d = d') : EvS te σ G (D K d') := e ▸ h
theorem EtP.to {a b : Bool} (h : Et tt σ G a) (e : a = b) : Et tt σ G b := e ▸ h
/-- a new list, frozen as it comes -/
theorem EvN.s {R : List PyData → Prop} (h : EvN K te σ G R) : EvS te σ G (fun v H => ∃ ds, R ds ∧ Dp K H v (.list ds)) := fun G1 H u s Q k => h G1 H u s Q fun p vs ds G2 H2 g hp gp h2 hd r => by
  refine k (.ref p) (upd G2 p (.lst vs)) H2 ⟨g.up.trans (Same.new gp), fun b o e => ?_, g.keep, fun b hb n => ?_⟩ ⟨ds, r, .lst (SqL.of upd_same) (DpAll.up (Same.new gp) ds _ hd)⟩
  · by_cases q : b = p
    · subst q; rw [upd_same] at e; rw [← e]; exact h2
    · rw [upd_ne q] at e; exact g.sub b o e
  · have q : b ≠ p := fun z => hb (z ▸ hp)
    rw [upd_ne q]; exact g.off b hb n
theorem EvN.d {ds : List PyData} (h : EvN K te σ G (fun x => x = ds)) : EvS te σ G (D K (.list ds)) := h.s.imp fun v H ⟨_, e, r⟩ => e ▸ r
instance {ds : List PyData → Prop} : Stb (fun v H => ∃ x, ds x ∧ Dp K H v (.list x)) := ⟨fun s ⟨x, a, b⟩ => ⟨x, a, Dp.up s _ _ b⟩⟩

theorem e_var [Stb R] {i : Nat} {v : V} (hs : σ[i]? = some (some v)) (h : R v G) : EvS (tVar i) σ G R := fun G1 H u s Q k => ⟨v, hs, k v G1 H (.refl s) (stb u h)⟩
theorem e_c [Stb R] {v : V} (h : R v G) : EvS (tC v) σ G R := fun G1 H u s Q k => k v G1 H (.refl s) (stb u h)
theorem ed_int {i : Int} : EvS (tC (.int i)) σ G (D K (.int i)) := e_c (.int i)
theorem ed_str {i : Str} : EvS (tC (.str i)) σ G (D K (.str i)) := e_c (.str i)
theorem ed_bl {i : Bool} : EvS (tC (.bl i)) σ G (D K (.bool i)) := e_c (.bl i)
theorem ed_non : EvS (tC .non) σ G (D K .none) := e_c .non

theorem e_op {r : R2} [Stb Ra] (ha : EvS ta σ G Ra) (hb : EvS tb σ G Rb)
    (hr : ∀ x y G1, Same G G1 → Ra x G1 → Rb y G1 → RvS (r x y) G1 R) : EvS (tOp r ta tb) σ G R := fun G0 H u s Q k =>
  ha G0 H u s _ fun x G1 H1 g1 ra => hb G1 H1 (u.trans g1.up) g1.sub _ fun y G2 H2 g2 rb => hr x y G2 ((u.trans g1.up).trans g2.up) (stb g2.up ra) rb H2 g2.sub Q fun v G3 H3 g3 r => k v G3 H3 ((g1.trans g2).trans g3) r
theorem e_un {r : V → Hp → VK → Prop} (ha : EvS ta σ G Ra) (hr : ∀ x G1, Same G G1 → Ra x G1 → RvS (r x) G1 R) : EvS (tUn r ta) σ G R := fun G0 H u s Q k =>
  ha G0 H u s _ fun x G1 H1 g1 ra => hr x G1 (u.trans g1.up) ra H1 g1.sub Q fun v G3 H3 g3 r => k v G3 H3 (g1.trans g3) r
/-- ints in, an int out -/
theorem ed_I {f : Int → Int → Int} {a b : Int} (ha : EvS ta σ G (D K (.int a))) (hb : EvS tb σ G (D K (.int b))) : EvS (tOp (rI0 fun i j => .int (f i j)) ta tb) σ G (D K (.int (f a b))) :=
  e_op ha hb fun x y G1 _ rx ry H s Q k => by
    cases d_int rx; cases d_int ry
    exact ⟨a, b, rfl, rfl, k _ G1 H (.refl s) (.int _)⟩
theorem ed_IB {f : Int → Int → Bool} {a b : Int} (ha : EvS ta σ G (D K (.int a))) (hb : EvS tb σ G (D K (.int b))) : EvS (tOp (rI0 fun i j => .bl (f i j)) ta tb) σ G (D K (.bool (f a b))) :=
  e_op ha hb fun x y G1 _ rx ry H s Q k => by
    cases d_int rx; cases d_int ry
    exact ⟨a, b, rfl, rfl, k _ G1 H (.refl s) (.bl _)⟩
theorem ed_IC {C : Int → Int → Prop} {f : Int → Int → Int} {a b : Int} (ha : EvS ta σ G (D K (.int a))) (hb : EvS tb σ G (D K (.int b))) (hc : C a b) : EvS (tOp (rI C fun i j => .int (f i j)) ta tb) σ G (D K (.int (f a b))) :=
  e_op ha hb fun x y G1 _ rx ry H s Q k => by
    cases d_int rx; cases d_int ry
    exact ⟨a, b, rfl, rfl, hc, k _ G1 H (.refl s) (.int _)⟩
theorem ed_neg {a : Int} (ha : EvS ta σ G (D K (.int a))) : EvS (tUn (rU fun i => .int (-i)) ta) σ G (D K (.int (-a))) :=
  e_un ha fun x G1 _ rx H s Q k => by
    cases d_int rx
    exact ⟨a, rfl, k _ G1 H (.refl s) (.int _)⟩
/-- == of flat data -/
theorem ed_eqS {a b : Str} (ha : EvS ta σ G (D K (.str a))) (hb : EvS tb σ G (D K (.str b))) : EvS (tOp rEq ta tb) σ G (D K (.bool (decide (a = b)))) :=
  e_op ha hb fun x y G1 _ rx ry H s Q k => by
    cases d_str rx; cases d_str ry
    refine ⟨rfl, ?_⟩
    have e : decide (V.str a = V.str b) = decide (a = b) := by by_cases h : a = b <;> simp [h]
    rw [e]; exact k _ G1 H (.refl s) (.bl _)
theorem ed_neS {a b : Str} (ha : EvS ta σ G (D K (.str a))) (hb : EvS tb σ G (D K (.str b))) : EvS (tOp rNe ta tb) σ G (D K (.bool (!decide (a = b)))) :=
  e_op ha hb fun x y G1 _ rx ry H s Q k => by
    cases d_str rx; cases d_str ry
    refine ⟨rfl, ?_⟩
    have e : decide (V.str a = V.str b) = decide (a = b) := by by_cases h : a = b <;> simp [h]
    rw [e]; exact k _ G1 H (.refl s) (.bl _)
theorem ed_eqI {a b : Int} (ha : EvS ta σ G (D K (.int a))) (hb : EvS tb σ G (D K (.int b))) : EvS (tOp rEq ta tb) σ G (D K (.bool (decide (a = b)))) :=
  e_op ha hb fun x y G1 _ rx ry H s Q k => by
    cases d_int rx; cases d_int ry
    refine ⟨rfl, ?_⟩
    have e : decide (V.int a = V.int b) = decide (a = b) := by by_cases h : a = b <;> simp [h]
    rw [e]; exact k _ G1 H (.refl s) (.bl _)
theorem ed_neI {a b : Int} (ha : EvS ta σ G (D K (.int a))) (hb : EvS tb σ G (D K (.int b))) : EvS (tOp rNe ta tb) σ G (D K (.bool (!decide (a = b)))) :=
  e_op ha hb fun x y G1 _ rx ry H s Q k => by
    cases d_int rx; cases d_int ry
    refine ⟨rfl, ?_⟩
    have e : decide (V.int a = V.int b) = decide (a = b) := by by_cases h : a = b <;> simp [h]
    rw [e]; exact k _ G1 H (.refl s) (.bl _)
theorem ed_neB {a b : Bool} (ha : EvS ta σ G (D K (.bool a))) (hb : EvS tb σ G (D K (.bool b))) : EvS (tOp rNe ta tb) σ G (D K (.bool (!decide (a = b)))) :=
  e_op ha hb fun x y G1 _ rx ry H s Q k => by
    cases d_bl rx; cases d_bl ry
    refine ⟨rfl, ?_⟩
    have e : decide (V.bl a = V.bl b) = decide (a = b) := by by_cases h : a = b <;> simp [h]
    rw [e]; exact k _ G1 H (.refl s) (.bl _)
/-- == of data -/
theorem ed_eqD {a b : PyData} (ha : EvS ta σ G (D K a)) (hb : EvS tb σ G (D K b)) (sa : SeqAt.shaped a = true) (sb : SeqAt.shaped b = true) : EvS (tOp (rEqD K) ta tb) σ G (D K (.bool (PyData.eqv a b))) :=
  e_op ha hb fun x y G1 _ rx ry H s Q k => ⟨a, b, Dp.up s a x rx, Dp.up s b y ry, sa, sb, k _ G1 H (.refl s) (.bl _)⟩
theorem ed_neD {a b : PyData} (ha : EvS ta σ G (D K a)) (hb : EvS tb σ G (D K b)) (sa : SeqAt.shaped a = true) (sb : SeqAt.shaped b = true) : EvS (tOp (rNeD K) ta tb) σ G (D K (.bool (!PyData.eqv a b))) :=
  e_op ha hb fun x y G1 _ rx ry H s Q k => ⟨a, b, Dp.up s a x rx, Dp.up s b y ry, sa, sb, k _ G1 H (.refl s) (.bl _)⟩
abbrev rLtS : R2 := fun x y H Q => ∃ i j, x = .str i ∧ y = .str j ∧ Q (.bl (decide (i.cps.toList < j.cps.toList))) H
theorem ed_ltS {a b : Str} (ha : EvS ta σ G (D K (.str a))) (hb : EvS tb σ G (D K (.str b))) : EvS (tOp rLtS ta tb) σ G (D K (.bool (decide (a.cps.toList < b.cps.toList)))) :=
  e_op ha hb fun x y G1 _ rx ry H s Q k => by
    cases d_str rx; cases d_str ry
    exact ⟨a, b, rfl, rfl, k _ G1 H (.refl s) (.bl _)⟩
abbrev rInSign : R2 := fun x y H Q => ∃ (c : Nat) (z : Str), x = .str ⟨#[c]⟩ ∧ y = .str z ∧ Q (.bl (decide (c ∈ z.cps.toList))) H
theorem ed_inSign {c : Nat} {b : Str} (ha : EvS ta σ G (D K (.str ⟨#[c]⟩))) (hb : EvS tb σ G (D K (.str b))) : EvS (tOp rInSign ta tb) σ G (D K (.bool (decide (c ∈ b.cps.toList)))) :=
  e_op ha hb fun x y G1 _ rx ry H s Q k => by
    cases d_str rx; cases d_str ry
    exact ⟨c, b, rfl, rfl, k _ G1 H (.refl s) (.bl _)⟩
abbrev rAddS : R2 := fun x y H Q => ∃ i j, x = .str i ∧ y = .str j ∧ i.length + j.length ≤ sizeLine ∧ Q (.str (i ++ j)) H
theorem ed_addS {a b : Str} (ha : EvS ta σ G (D K (.str a))) (hb : EvS tb σ G (D K (.str b))) (hl : a.length + b.length ≤ sizeLine) : EvS (tOp rAddS ta tb) σ G (D K (.str (a ++ b))) :=
  e_op ha hb fun x y G1 _ rx ry H s Q k => by
    cases d_str rx; cases d_str ry
    exact ⟨a, b, rfl, rfl, hl, k _ G1 H (.refl s) (.str _)⟩
/-- x in a sequence of texts -/
theorem inV_strs (x : Str) (xs : List Str) : inV (.str x) (xs.map V.str) = decide (x ∈ xs) := by
  unfold inV
  induction xs with
  | nil => simp
  | cons y ys ih =>
    rw [List.map_cons, List.any_cons, ih]
    show ((y == x) || decide (x ∈ ys)) = _
    by_cases h : y = x
    · subst h; simp
    · have h' : ¬ x = y := fun e => h e.symm
      simp [h', beq_eq_false_iff_ne.mpr h]
theorem flat_strs' (xs : List Str) : (xs.map V.str).all flatV = true := by
  rw [List.all_eq_true]
  intro v hv
  obtain ⟨x, _, rfl⟩ := List.mem_map.mp hv
  rfl
theorem ed_in {neg : Bool} {a : Str} {xs : List Str} {d : PyData} (hd : SqD d (sds xs)) (ha : EvS ta σ G (D K (.str a))) (hb : EvS tb σ G (D K d)) :
    EvS (tOp (rIn K neg) ta tb) σ G (D K (.bool (if neg then !decide (a ∈ xs) else decide (a ∈ xs)))) :=
  e_op ha hb fun x y G1 _ rx ry H s Q k => by
    cases d_str rx
    obtain ⟨p, vs, rfl, hq, hall⟩ := d_seq hd ry
    have e := dp_sds hall
    subst e
    refine ⟨p, _, rfl, same_a s hq, rfl, flat_strs' xs, ?_⟩
    rw [inV_strs]
    exact k _ G1 H (.refl s) (.bl _)
theorem ed_isIn {a : Str} {xs : List Str} {d : PyData} (hd : SqD d (sds xs)) (ha : EvS ta σ G (D K (.str a))) (hb : EvS tb σ G (D K d)) : EvS (tOp (rIn K false) ta tb) σ G (D K (.bool (decide (a ∈ xs)))) := ed_in hd ha hb
theorem ed_niIn {a : Str} {xs : List Str} {d : PyData} (hd : SqD d (sds xs)) (ha : EvS ta σ G (D K (.str a))) (hb : EvS tb σ G (D K d)) : EvS (tOp (rIn K true) ta tb) σ G (D K (.bool (!decide (a ∈ xs)))) := ed_in hd ha hb
/-- xs[i] -/
theorem ixN_of {n : Nat} {i : Int} {j : Nat} (h : (i = j ∧ j < n) ∨ (i = (j : Int) - n ∧ j < n)) : ixN n i = some j := by
  unfold ixN
  rcases h with ⟨rfl, h⟩ | ⟨rfl, h⟩
  · rw [if_pos (by omega), if_pos (by omega)]; simp
  · rw [if_neg (by omega), if_pos (by omega)]
    congr 1
    omega
theorem ed_ix {d e : PyData} {ds : List PyData} {i : Int} (j : Nat) (hd : SqD d ds) (ha : EvS ta σ G (D K d)) (hb : EvS tb σ G (D K (.int i))) (hi : (i = j ∧ j < ds.length) ∨ (i = (j : Int) - ds.length ∧ j < ds.length)) (he : ds[j]? = some e) :
    EvS (tOp (rIx K) ta tb) σ G (D K e) :=
  e_op ha hb fun x y G1 _ rx ry H s Q k => by
    cases d_int ry
    obtain ⟨p, vs, rfl, hq, hall⟩ := d_seq hd rx
    obtain ⟨v, hv, rv⟩ := dp_get hall he
    have hat : atI vs i = some v := by
      unfold atI
      rw [dp_len hall, ixN_of hi]
      exact hv
    rcases hq with hq | hq
    · exact .inl ⟨p, vs, i, v, rfl, rfl, s.seq hq, hat, k _ G1 H (.refl s) rv⟩
    · exact .inr (.inl ⟨p, vs, i, v, rfl, rfl, same_t s hq, hat, k _ G1 H (.refl s) rv⟩)
theorem ed_ixS {a : Str} {i : Int} {c : Nat} (ha : EvS ta σ G (D K (.str a))) (hb : EvS tb σ G (D K (.int i))) (hl : a.length ≤ sizeLine) (he : atI a.cps.toList i = some c) : EvS (tOp (rIx K) ta tb) σ G (D K (.str ⟨#[c]⟩)) :=
  e_op ha hb fun x y G1 _ rx ry H s Q k => by
    cases d_int ry; cases d_str rx
    exact .inr (.inr ⟨a, i, c, rfl, rfl, hl, he, k _ G1 H (.refl s) (.str _)⟩)
/-- tests -/
theorem et_B {b : Bool} (h : EvS te σ G (D K (.bool b))) : Et (tB te) σ G b := fun G1 H u s Q k => h G1 H u s _ fun v G2 H2 g r => ⟨b, d_bl r, k b G2 H2 g rfl⟩
theorem et_T {b : Bool} (h : EvS te σ G (D K (.bool b))) : Et (tTest te) σ G b := fun G1 H u s Q k => h G1 H u s _ fun v G2 H2 g r => ⟨b, d_bl r, k b G2 H2 g rfl⟩
theorem etP_T (h : EvS te σ G (Pu fun v => ∃ b, v = .bl b ∧ p b)) : EtP (tTest te) σ G p := fun G1 H u s Q k => h G1 H u s _ fun v G2 H2 g ⟨b, e, r⟩ => ⟨b, e, k b G2 H2 g r⟩
theorem et_not {b : Bool} (h : Et tt σ G b) : Et (tNot tt) σ G (!b) := fun G1 H u s Q k => h G1 H u s _ fun c G2 H2 g e => by subst e; exact k _ G2 H2 g rfl
theorem etP_and (h : EtP tt σ G p) (h2 : p true → EtP tu σ G q) : EtP (tAnd tt tu) σ G (fun b => (p true ∧ q b) ∨ (p false ∧ b = false)) := fun G1 H u s Q k =>
  h G1 H u s _ fun c G2 H2 g e => by
    cases c with
    | true =>
      show tu σ H2 Q
      exact h2 e G2 H2 (u.trans g.up) g.sub Q fun b G3 H3 g3 r => k b G3 H3 (g.trans g3) (.inl ⟨e, r⟩)
    | false =>
      show Q false H2
      exact k false G2 H2 g (.inr ⟨e, rfl⟩)
theorem et_and {a b : Bool} (h : Et tt σ G a) (h2 : a = true → Et tu σ G b) : Et (tAnd tt tu) σ G (a && b) :=
  (etP_and h fun e => h2 e.symm).imp fun c e => by
    rcases e with ⟨e1, e2⟩ | ⟨e1, e2⟩
    · subst e2; rw [← e1]; rfl
    · subst e2; rw [← e1]; rfl
theorem etP_or (h : EtP tt σ G p) (h2 : p false → EtP tu σ G q) : EtP (tOr tt tu) σ G (fun b => (p false ∧ q b) ∨ (p true ∧ b = true)) := fun G1 H u s Q k =>
  h G1 H u s _ fun c G2 H2 g e => by
    cases c with
    | true =>
      show Q true H2
      exact k true G2 H2 g (.inr ⟨e, rfl⟩)
    | false =>
      show tu σ H2 Q
      exact h2 e G2 H2 (u.trans g.up) g.sub Q fun b G3 H3 g3 r => k b G3 H3 (g.trans g3) (.inl ⟨e, r⟩)
theorem et_or {a b : Bool} (h : Et tt σ G a) (h2 : a = false → Et tu σ G b) : Et (tOr tt tu) σ G (a || b) :=
  (etP_or h fun e => h2 e.symm).imp fun c e => by
    rcases e with ⟨e1, e2⟩ | ⟨e1, e2⟩
    · subst e2; rw [← e1]; rfl
    · subst e2; rw [← e1]; rfl
theorem ed_andV {a b : Bool} (h : EvS ta σ G (D K (.bool a))) (h2 : a = true → EvS tb σ G (D K (.bool b))) : EvS (tAndV ta tb) σ G (D K (.bool (a && b))) := fun G1 H u s Q k =>
  h G1 H u s _ fun v G2 H2 g r => ⟨a, d_bl r, by
    cases a with
    | true =>
      show tb σ H2 Q
      exact h2 rfl G2 H2 (u.trans g.up) g.sub Q fun b' G3 H3 g3 r => k _ G3 H3 (g.trans g3) r
    | false =>
      show Q (.bl false) H2
      exact k _ G2 H2 g (.bl _)⟩
theorem ed_notV {a : Bool} (h : EvS ta σ G (D K (.bool a))) : EvS (tNotV ta) σ G (D K (.bool (!a))) := fun G1 H u s Q k => h G1 H u s _ fun v G2 H2 g r => ⟨a, d_bl r, k _ G2 H2 g (.bl _)⟩
theorem ed_chain {f h : Int → Int → Bool} {a b c : Int} (ha : EvS ta σ G (D K (.int a))) (hb : EvS tb σ G (D K (.int b))) (hc : EvS tc σ G (D K (.int c))) :
    EvS (tChain (rI0 fun i j => .bl (f i j)) (rI0 fun i j => .bl (h i j)) ta tb tc) σ G (D K (.bool (f a b && h b c))) := fun G0 H u s Q k =>
  ha G0 H u s _ fun x G1 H1 g1 rx => hb G1 H1 (u.trans g1.up) g1.sub _ fun y G2 H2 g2 ry => ⟨a, b, d_int rx, d_int ry, f a b, rfl, by
    cases e : f a b with
    | true =>
      rw [if_pos rfl]
      refine hc G2 H2 ((u.trans g1.up).trans g2.up) g2.sub _ fun z G3 H3 g3 rz => ?_
      refine ⟨b, c, d_int ry, d_int rz, k _ G3 H3 ((g1.trans g2).trans g3) ?_⟩
      rw [e]; exact .bl _
    | false =>
      rw [if_neg Bool.false_ne_true]
      refine k _ G2 H2 (g1.trans g2) ?_
      rw [e]; exact .bl _⟩
theorem e_ifP (h : EtP tt σ G p) (h1 : p true → EvS ta σ G R) (h2 : p false → EvS tb σ G R) : EvS (tIf tt ta tb) σ G R := fun G1 H u s Q k =>
  h G1 H u s _ fun c G2 H2 g e => by
    cases c with
    | true =>
      show ta σ H2 Q
      exact h1 e G2 H2 (u.trans g.up) g.sub Q fun v G3 H3 g3 r => k v G3 H3 (g.trans g3) r
    | false =>
      show tb σ H2 Q
      exact h2 e G2 H2 (u.trans g.up) g.sub Q fun v G3 H3 g3 r => k v G3 H3 (g.trans g3) r
theorem e_if {b : Bool} (h : Et tt σ G b) (h1 : b = true → EvS ta σ G R) (h2 : b = false → EvS tb σ G R) : EvS (tIf tt ta tb) σ G R := e_ifP h (fun e => h1 e.symm) fun e => h2 e.symm
/-- argument lists -/
theorem ea_nil : EvA tNil σ G [] := fun G1 H u s Q k => k [] G1 H (.refl s) rfl
theorem ea_cons [Stb R] (h : EvS te σ G R) (ht : EvA t σ G Rs) : EvA (tCons te t) σ G (R :: Rs) := fun G0 H u s Q k =>
  h G0 H u s _ fun v G1 H1 g1 r => ht G1 H1 (u.trans g1.up) g1.sub _ fun vs G2 H2 g2 rs => k _ G2 H2 (g1.trans g2) ⟨v, vs, rfl, stb g2.up r, rs⟩
/-- a built-in called -/
theorem e_cb {r : List V → Hp → VK → Prop} (ha : EvA t σ G Rs) (hr : ∀ vs G1, Same G G1 → Alls Rs vs G1 → RvS (r vs) G1 R) : EvS (tCB r t) σ G R := fun G0 H u s Q k =>
  ha G0 H u s _ fun vs G1 H1 g1 rs => hr vs G1 (u.trans g1.up) rs H1 g1.sub Q fun v G3 H3 g3 r => k v G3 H3 (g1.trans g3) r
end
end KB

set_option Elab.async false
set_option linter.all false
set_option maxRecDepth 100000
set_option maxHeartbeats 4000000
/-! Evaluation: calls, displays, built-ins, comprehensions, loops, dicts, statements. -/
namespace KB
open PySem PySem.Spec PyProof.Rows L2

/-- the promises: arguments told by args, under pre; the answer told by res -/
def SpG {Γ : Type} (args : Γ → List RP) (pre : Γ → Prop) (res : Γ → RP) : Sp := fun vs H Q _ => ∃ (g : Γ) (G : Hp), Same G H ∧ Alls (args g) vs G ∧ pre g ∧ ∀ v G2 H2, Grow G H G2 H2 → res g v G2 → Q v H2

section
variable {K : PySem.W.Frag} {σ : L2.St} {G G2 H : Hp} {ta tb tc te : TE} {tt tu : TT} {R Ra Rb Rc : RP} {p q : Bool → Prop} {t : TA} {Rs : List RP} {ds es : List PyData} {d e : PyData}
theorem e_call {Γ : Type} {args : Γ → List RP} {pre : Γ → Prop} {res : Γ → RP} {E : XK} (g : Γ) (ha : EvA t σ G (args g)) (hp : pre g) : EvS (tCall (SpG args pre res) [] E t) σ G (res g) := fun G0 H u s Q k =>
  ha G0 H u s _ fun vs G1 H1 g1 rs => ⟨g, G1, g1.sub, by rw [List.append_nil]; exact rs, hp, fun v G2 H2 g2 r => k v G2 H2 (g1.trans g2) r⟩

/-! ### data in argument lists -/
def EvD (K : PySem.W.Frag) (ta : TA) (σ : L2.St) (G : Hp) (ds : List PyData) : Prop := ∀ G1 H, Same G G1 → Same G1 H → ∀ Q : List V → Hp → Prop, (∀ vs G2 H2, Grow G1 H G2 H2 → DpAll K G2 vs ds → Q vs H2) → ta σ H Q
theorem dd_nil : EvD K tNil σ G [] := fun G1 H u s Q k => k [] G1 H (.refl s) .nil
theorem dd_cons (h : EvS te σ G (D K d)) (ht : EvD K t σ G ds) : EvD K (tCons te t) σ G (d :: ds) := fun G0 H u s Q k =>
  h G0 H u s _ fun v G1 H1 g1 r => ht G1 H1 (u.trans g1.up) g1.sub _ fun vs G2 H2 g2 rs => k _ G2 H2 (g1.trans g2) (.cons (Dp.up g2.up _ _ r) rs)
theorem Grow.tup {G H : Hp} {vs : List V} {p : Addr} (s : Same G H) (hp : H p = none) (h : DpAll K G vs ds) : Dp K (upd G p (.tup vs)) (.ref p) (.tuple ds) :=
  .tup (.inl (.inl upd_same)) (DpAll.up (Same.new (s.free hp)) ds _ h)
theorem small9 {n : Nat} (h : n ≤ 1000000) : n ≤ sizeLine := Nat.le_trans h (by decide)
theorem ed_tup (h : EvD K t σ G ds) (hl : ds.length ≤ 1000000) : EvS (tTup t) σ G (D K (.tuple ds)) := fun G0 H u s Q k =>
  h G0 H u s _ fun vs G1 H1 g1 rs => ⟨by rw [dp_len rs]; exact small9 hl, fun p hp => k _ _ _ (g1.trans (Grow.new g1.sub hp)) (Grow.tup g1.sub hp rs)⟩
theorem en_lst (h : EvD K t σ G ds) (hl : ds.length ≤ 1000000) : EvN K (tLst t) σ G (fun x => x = ds) := fun G0 H u s Q k =>
  h G0 H u s _ fun vs G1 H1 g1 rs => ⟨by rw [dp_len rs]; exact small9 hl, fun p hp => k p vs ds G1 _ (g1.trans (Grow.cell g1.sub hp)) (g1.keep.free hp) (g1.sub.free hp) upd_same rs rfl⟩
theorem eo_none : EvO tNoPart σ G none := fun G1 H u s Q k => k G1 H (.refl s)
theorem eo_some {i : Int} (h : EvS te σ G (D K (.int i))) : EvO (tPart te) σ G (some i) := fun G1 H u s Q k => h G1 H u s _ fun v G2 H2 g r => ⟨i, d_int r, k G2 H2 g⟩
def cutD (xs : List PyData) (lo hi : Option Int) : List PyData := (xs.drop (HT.sIx xs.length 0 lo)).take (HT.sIx xs.length xs.length hi - HT.sIx xs.length 0 lo)
theorem dp_cut {vs : List V} {lo hi : Option Int} (h : DpAll K G vs ds) : DpAll K G (cutV vs lo hi) (cutD ds lo hi) := by
  unfold cutV cutD
  rw [dp_len h]
  exact dp_take _ (dp_drop _ h)
theorem en_sl {tl th : TO} {lo hi : Option Int} (h : EvS te σ G (D K (.list ds))) (h1 : EvO tl σ G lo) (h2 : EvO th σ G hi) : EvN K (tSl (rSlL K) te tl th) σ G (fun x => x = cutD ds lo hi) := fun G0 H u s Q k =>
  h G0 H u s _ fun v G1 H1 g1 r => h1 G1 H1 (u.trans g1.up) g1.sub _ fun G2 H2 g2 => h2 G2 H2 ((u.trans g1.up).trans g2.up) g2.sub _ fun G3 H3 g3 => by
    obtain ⟨a, vs, rfl, hq, hd⟩ := d_list (Dp.up (g2.up.trans g3.up) _ _ r)
    exact ⟨a, vs, rfl, g3.sub.seq hq, fun p hp => k p _ _ G3 _ (((g1.trans g2).trans g3).trans (Grow.cell g3.sub hp)) (((g1.keep.trans g2.keep).trans g3.keep).free hp) (g3.sub.free hp) upd_same (dp_cut hd) rfl⟩
theorem en_rev (h : EvS te σ G (D K (.list ds))) : EvN K (tRevL K te) σ G (fun x => x = ds.reverse) := fun G0 H u s Q k =>
  h G0 H u s _ fun v G1 H1 g1 r => by
    obtain ⟨a, vs, rfl, hq, hd⟩ := d_list r
    exact ⟨a, vs, rfl, g1.sub.seq hq, fun p hp => k p _ _ G1 _ (g1.trans (Grow.cell g1.sub hp)) (g1.keep.free hp) (g1.sub.free hp) upd_same (dp_rev hd) rfl⟩
/-- list + list -/
def rCatL (K : PySem.W.Frag) : R2 := fun x y H Q => ∃ l b xs zs, x = .ref l ∧ y = .ref b ∧ SqL K H l xs ∧ SqL K H b zs ∧ xs.length + zs.length ≤ sizeLine ∧ ∀ p, H p = none → Q (.ref p) (upd H p (.lst (xs ++ zs)))
theorem en_cat (ha : EvS ta σ G (D K (.list ds))) (hb : EvS tb σ G (D K (.list es))) (hl : ds.length + es.length ≤ 1000000) : EvN K (tOp (rCatL K) ta tb) σ G (fun x => x = ds ++ es) := fun G0 H u s Q k =>
  ha G0 H u s _ fun v G1 H1 g1 r => hb G1 H1 (u.trans g1.up) g1.sub _ fun w G2 H2 g2 r2 => by
    obtain ⟨a, vs, rfl, hq, hd⟩ := d_list (Dp.up g2.up _ _ r)
    obtain ⟨b, ws, rfl, hq2, hd2⟩ := d_list r2
    exact ⟨a, b, vs, ws, rfl, rfl, g2.sub.seq hq, g2.sub.seq hq2, by rw [dp_len hd, dp_len hd2]; exact small9 hl, fun p hp =>
      k p _ _ G2 _ ((g1.trans g2).trans (Grow.cell g2.sub hp)) ((g1.keep.trans g2.keep).free hp) (g2.sub.free hp) upd_same (dp_app hd hd2) rfl⟩

/-! ### built-ins -/
theorem ed_len (hd : SqD d ds) (h : EvS te σ G (D K d)) : EvS (tCB (rLenV K) (tCons te tNil)) σ G (D K (.int (ds.length : Nat))) := fun G0 H u s Q k =>
  h G0 H u s _ fun v G1 H1 g1 r => by
    obtain ⟨a, vs, rfl, hq, hall⟩ := d_seq hd r
    refine ⟨.ref a, vs.length, rfl, ?_, ?_⟩
    · rcases hq with hq | hq
      · exact .inl ⟨vs, g1.sub.seq hq, rfl⟩
      · exact .inr ⟨vs, same_t g1.sub hq, rfl⟩
    · rw [dp_len hall]; exact k _ G1 H1 g1 (.int _)
theorem ed_lenS {a : Str} (hl : a.length ≤ sizeLine) (h : EvS te σ G (D K (.str a))) : EvS (tCB (rLenV K) (tCons te tNil)) σ G (D K (.int (a.length : Nat))) := fun G0 H u s Q k =>
  h G0 H u s _ fun v G1 H1 g1 r => by
    cases d_str r
    exact ⟨.str a, a.length, rfl, ⟨hl, rfl⟩, k _ G1 H1 g1 (.int _)⟩
theorem ed_all {bs : List Bool} (h : EvS te σ G (D K (.list (bs.map PyData.bool)))) : EvS (tCB (rAll K) (tCons te tNil)) σ G (D K (.bool (bs.all id))) := fun G0 H u s Q k =>
  h G0 H u s _ fun v G1 H1 g1 r => by
    obtain ⟨a, vs, rfl, hq, hall⟩ := d_list r
    have e := dp_bools hall
    subst e
    exact ⟨a, bs, rfl, g1.sub.seq hq, k _ G1 H1 g1 (.bl _)⟩
theorem ed_tupOf (hd : SqD d ds) (h : EvS te σ G (D K d)) : EvS (tCB (rTupOf K) (tCons te tNil)) σ G (D K (.tuple ds)) := fun G0 H u s Q k =>
  h G0 H u s _ fun v G1 H1 g1 r => by
    cases hd with
    | l =>
      obtain ⟨a, vs, rfl, hq, hall⟩ := d_list r
      exact ⟨a, vs, rfl, .inl ⟨g1.sub.seq hq, fun p hp => k _ _ _ (g1.trans (Grow.new g1.sub hp)) (Grow.tup g1.sub hp hall)⟩⟩
    | t =>
      obtain ⟨a, vs, rfl, hq, hall⟩ := d_tup r
      exact ⟨a, vs, rfl, .inr ⟨same_t g1.sub hq, k _ G1 H1 g1 r⟩⟩
theorem en_lstOf (hd : SqD d ds) (h : EvS te σ G (D K d)) : EvN K (tCB (rLstOf K) (tCons te tNil)) σ G (fun x => x = ds) := fun G0 H u s Q k =>
  h G0 H u s _ fun v G1 H1 g1 r => by
    obtain ⟨a, vs, rfl, hq, hall⟩ := d_seq hd r
    exact ⟨a, vs, rfl, same_a g1.sub hq, fun p hp => k p _ _ G1 _ (g1.trans (Grow.cell g1.sub hp)) (g1.keep.free hp) (g1.sub.free hp) upd_same hall rfl⟩
theorem ed_int1 {i : Int} {r : List V → Hp → VK → Prop} (hr : ∀ H Q, Q (.int i) H → r [.int i] H Q) (h : EvS te σ G (D K (.int i))) : EvS (tCB r (tCons te tNil)) σ G (D K (.int i)) := fun G0 H u s Q k =>
  h G0 H u s _ fun v G1 H1 g1 r => by
    cases d_int r
    exact hr H1 Q (k _ G1 H1 g1 (.int _))
/-- isinstance -/
theorem tyx_tuple {K : PySem.W.Frag} {H : Hp} {a : Addr} {xs : List V} (h : SqT K H a xs) : TyX K H (.ref a) (.type "tuple") := by
  rcases h with (h | ⟨o, h⟩) | ⟨o, its, n, hk, hc, _⟩
  · exact .base (.tup h)
  · exact .fTuple h
  · exact .kTuple hk hc
theorem tyx_list {K : PySem.W.Frag} {H : Hp} {a : Addr} {xs : List V} (h : SqL K H a xs) : TyX K H (.ref a) (.type "list") := by
  rcases h with (h | ⟨o, h⟩) | ⟨o, its, n, hk, hc, _⟩
  · exact .base (.lst h)
  · exact .base (.frz h)
  · exact .kList hk hc
theorem ed_isiStr {a : Str} (h : EvS te σ G (D K (.str a))) : EvS (tCB (rIsi K) (tCons te (tCons (tC (.ty "str")) tNil))) σ G (D K (.bool true)) := fun G0 H u s Q k =>
  h G0 H u s _ fun v G1 H1 g1 r => by
    cases d_str r
    exact ⟨_, _, _, _, true, rfl, .ty _, .base (.str a), kit_ty (by decide +kernel), k _ G1 H1 g1 (.bl _)⟩
theorem ed_isiTup {ds : List PyData} (h : EvS te σ G (D K (.tuple ds))) : EvS (tCB (rIsi K) (tCons te (tCons (tC (.ty "tuple")) tNil))) σ G (D K (.bool true)) := fun G0 H u s Q k =>
  h G0 H u s _ fun v G1 H1 g1 r => by
    obtain ⟨a, vs, rfl, hq, hall⟩ := d_tup r
    exact ⟨_, _, _, _, true, rfl, .ty _, tyx_tuple (same_t g1.sub hq), kit_ty (by decide +kernel), k _ G1 H1 g1 (.bl _)⟩
theorem ed_isiSeq (hd : SqD d ds) (h : EvS te σ G (D K d)) : EvS (tCB (rIsiT K) (tCons te (tCons (tTup (tCons (tC (.ty "list")) (tCons (tC (.ty "tuple")) tNil))) tNil))) σ G (D K (.bool true)) := fun G0 H u s Q k =>
  h G0 H u s _ fun v G1 H1 g1 r => by
    refine ⟨by show 2 ≤ sizeLine; decide, fun p hp => ?_⟩
    have g2 : Grow G0 H G1 (upd H1 p (.tup [.ty "list", .ty "tuple"])) := g1.trans (Grow.cell g1.sub hp)
    cases hd with
    | l =>
      obtain ⟨a, vs, rfl, hq, hall⟩ := d_list r
      exact ⟨.ref a, p, _, _, _, true, rfl, upd_same, .cons (.ty _) (.cons (.ty _) .nil), tyx_list (g2.sub.seq hq), kitAny_cons (kit_ty (r := true) (by decide +kernel)) (fun z => nomatch z) (fun _ => rfl), k _ G1 _ g2 (.bl _)⟩
    | t =>
      obtain ⟨a, vs, rfl, hq, hall⟩ := d_tup r
      exact ⟨.ref a, p, _, _, _, true, rfl, upd_same, .cons (.ty _) (.cons (.ty _) .nil), tyx_tuple (same_t g2.sub hq), kitAny_cons (kit_ty (r := false) (by decide +kernel)) (fun _ => kitAny_cons (kit_ty (r := true) (by decide +kernel)) (fun z => nomatch z) (fun _ => rfl)) (fun z => nomatch z), k _ G1 _ g2 (.bl _)⟩

/-! ### comprehensions -/
theorem cell_up {G H H2 : Hp} {p : Addr} {o : HO} (s : Same H H2) (h : H p = some o) : H2 p = some o := s p o h
/-- at the list's cell: what is frozen stays -/
theorem sameT_mut {H : Hp} {p : Addr} {xs : List V} {o : HO} (h : H p = some (.lst xs)) : SameT H (upd H p o) := fun b u e z => by
  have q : b ≠ p := fun q => by
    subst q; rw [h] at e; cases e
    rcases z with ⟨_, z⟩ | ⟨_, _, z⟩ <;> cases z
  rw [upd_ne q]; exact e
/-- the frozen part with p taken out -/
def hid (p : Addr) (G : Hp) : Hp := fun b => if b = p then none else G b
theorem hid_self {p : Addr} {G : Hp} : hid p G p = none := by unfold hid; rw [if_pos rfl]
theorem hid_ne {p b : Addr} {G : Hp} (h : b ≠ p) : hid p G b = G b := by unfold hid; rw [if_neg h]
theorem hid_same {p : Addr} {G : Hp} : Same (hid p G) G := fun b o e => by
  by_cases q : b = p
  · subst q; rw [hid_self] at e; cases e
  · rw [hid_ne q] at e; exact e
theorem same_hid {p : Addr} {G G2 : Hp} (s : Same G G2) (gp : G p = none) : Same G (hid p G2) := fun b o e => by
  rw [hid_ne (ne_of_none e gp)]; exact s b o e

/-- a target takes a value -/
def Tg (g : TG) (x : V) (σ : L2.St) (G : Hp) (σ2 : L2.St) : Prop := ∀ H, Same G H → ∀ Q : L2.St → Hp → Prop, Q σ2 H → g x σ H Q
def Tgs (g : TGs) (xs : List V) (σ : L2.St) (G : Hp) (σ2 : L2.St) : Prop := ∀ H, Same G H → ∀ Q : L2.St → Hp → Prop, Q σ2 H → g xs σ H Q
theorem tg_name {j : Nat} {x : V} : Tg (gName j) x σ G (σ.set j (some x)) := fun H s Q k => k
theorem tgs_nil : Tgs gNil [] σ G σ := fun H s Q k => ⟨rfl, k⟩
theorem tgs_cons {g : TG} {gs : TGs} {x : V} {xs : List V} {σ2 σ3 : L2.St} (h : Tg g x σ G σ2) (hs : Tgs gs xs σ2 G σ3) : Tgs (gCons g gs) (x :: xs) σ G σ3 := fun H s Q k => ⟨x, xs, rfl, h H s _ (hs H s Q k)⟩
theorem tg_tup {gs : TGs} {x : V} {a : Addr} {xs : List V} {σ2 : L2.St} {n : Nat} (hx : x = .ref a) (hq : SqT K G a xs) (hl : xs.length = n) (h : Tgs gs xs σ G σ2) : Tg (gTup K n gs) x σ G σ2 := fun H s Q k => ⟨a, xs, hx, same_t s hq, hl, h H s Q k⟩
theorem tg_2 {g1 g2 : TG} {x : V} {d1 d2 : PyData} (h : Dp K G x (.tuple [d1, d2])) : ∃ v1 v2, Dp K G v1 d1 ∧ Dp K G v2 d2 ∧ ∀ σ σ2 σ3, Tg g1 v1 σ G σ2 → Tg g2 v2 σ2 G σ3 → Tg (gTup K 2 (gCons g1 (gCons g2 gNil))) x σ G σ3 := by
  obtain ⟨a, vs, rfl, hq, hd⟩ := d_tup h
  cases hd with
  | cons a1 t1 => cases t1 with
    | cons a2 t2 =>
      cases t2
      exact ⟨_, _, a1, a2, fun σ σ2 σ3 h1 h2 => tg_tup rfl hq rfl (tgs_cons h1 (tgs_cons h2 tgs_nil))⟩
theorem tg_3 {g1 g2 g3 : TG} {x : V} {d1 d2 d3 : PyData} (h : Dp K G x (.tuple [d1, d2, d3])) : ∃ v1 v2 v3, Dp K G v1 d1 ∧ Dp K G v2 d2 ∧ Dp K G v3 d3 ∧
    ∀ σ σ2 σ3 σ4, Tg g1 v1 σ G σ2 → Tg g2 v2 σ2 G σ3 → Tg g3 v3 σ3 G σ4 → Tg (gTup K 3 (gCons g1 (gCons g2 (gCons g3 gNil)))) x σ G σ4 := by
  obtain ⟨a, vs, rfl, hq, hd⟩ := d_tup h
  cases hd with
  | cons a1 t1 => cases t1 with
    | cons a2 t2 => cases t2 with
      | cons a3 t3 =>
        cases t3
        exact ⟨_, _, _, a1, a2, a3, fun σ σ2 σ3 σ4 h1 h2 h3 => tg_tup rfl hq rfl (tgs_cons h1 (tgs_cons h2 (tgs_cons h3 tgs_nil)))⟩
theorem tg_4 {g1 g2 g3 g4 : TG} {x : V} {d1 d2 d3 d4 : PyData} (h : Dp K G x (.tuple [d1, d2, d3, d4])) : ∃ v1 v2 v3 v4, Dp K G v1 d1 ∧ Dp K G v2 d2 ∧ Dp K G v3 d3 ∧ Dp K G v4 d4 ∧
    ∀ σ σ2 σ3 σ4 σ5, Tg g1 v1 σ G σ2 → Tg g2 v2 σ2 G σ3 → Tg g3 v3 σ3 G σ4 → Tg g4 v4 σ4 G σ5 → Tg (gTup K 4 (gCons g1 (gCons g2 (gCons g3 (gCons g4 gNil))))) x σ G σ5 := by
  obtain ⟨a, vs, rfl, hq, hd⟩ := d_tup h
  cases hd with
  | cons a1 t1 => cases t1 with
    | cons a2 t2 => cases t2 with
      | cons a3 t3 => cases t3 with
        | cons a4 t4 =>
          cases t4
          exact ⟨_, _, _, _, a1, a2, a3, a4, fun σ σ2 σ3 σ4 σ5 h1 h2 h3 h4 => tg_tup rfl hq rfl (tgs_cons h1 (tgs_cons h2 (tgs_cons h3 (tgs_cons h4 tgs_nil))))⟩

/-- what is walked: n items, the i-th told by T i -/
def SrcI (wi : TI) (σ : L2.St) (G : Hp) (n : Nat) (T : Nat → RP) : Prop := ∀ G1 H, Same G G1 → Same G1 H → ∀ Q : It → Hp → Prop,
  (∀ J GG G2 H2 Y, Grow G1 H G2 H2 → (∀ H3 : Hp, Same G2 H3 → GG H3) → Walk J n GG Y → (∀ i G3 H3 x H4, i < n → Same G2 G3 → Same G3 H3 → Y i H3 x H4 → ∃ G4, Grow G3 H3 G4 H4 ∧ T i x G4) → Q J H2) → wi σ H Q
theorem SrcI.up {wi : TI} {n : Nat} {T : Nat → RP} (h : SrcI wi σ G n T) (u : Same G G2) : SrcI wi σ G2 n T := fun G1 H u1 s Q k => h G1 H (u.trans u1) s Q k
theorem yat_step {vs : List V} (hall : DpAll K G vs ds) : ∀ i (G3 H3 : Hp) (x : V) (H4 : Hp), i < ds.length → Same G G3 → Same G3 H3 → YAt vs i H3 x H4 → ∃ G4, Grow G3 H3 G4 H4 ∧ ∃ e, ds[i]? = some e ∧ Dp K G4 x e := fun i G3 H3 x H4 hi u s ⟨e1, e2⟩ => by
  subst e1
  obtain ⟨d, h1, h2⟩ := dp_get' hall e2
  exact ⟨G3, .refl s, d, h1, Dp.up u _ _ h2⟩
theorem src_seq (hd : SqD d ds) (h : EvS te σ G (D K d)) : SrcI (iSeq K te) σ G ds.length (fun i v H => ∃ e, ds[i]? = some e ∧ Dp K H v e) := fun G0 H u s Q k => h G0 H u s _ fun v G1 H1 g1 r => by
  cases hd with
  | l =>
    obtain ⟨a, vs, rfl, hq, hall⟩ := d_list r
    exact ⟨a, vs, rfl, .inl ⟨g1.sub.seq hq, k _ _ G1 H1 _ g1 (fun H3 s3 => s3.seq hq) (dp_len hall ▸ walk_list) (yat_step hall)⟩⟩
  | t =>
    obtain ⟨a, vs, rfl, hq, hall⟩ := d_tup r
    exact ⟨a, vs, rfl, .inr ⟨same_t g1.sub hq, k _ _ G1 H1 _ g1 (fun H3 s3 => same_t s3 hq) (dp_len hall ▸ walk_tup) (yat_step hall)⟩⟩
/-- the i-th pair -/
def PairT (K : PySem.W.Frag) (f g : Nat → Option PyData) : Nat → RP := fun i v H => ∃ a b, f i = some a ∧ g i = some b ∧ Dp K H v (.tuple [a, b])
theorem new_pair {G3 H3 : Hp} {T : Addr} {x y : V} {a b : PyData} (s : Same G3 H3) (hT : H3 T = none) (ha : Dp K G3 x a) (hb : Dp K G3 y b) : ∃ G4, Grow G3 H3 G4 (upd H3 T (.tup [x, y])) ∧ Dp K G4 (.ref T) (.tuple [a, b]) :=
  ⟨_, Grow.new s hT, Grow.tup s hT (.cons ha (.cons hb .nil))⟩
theorem src_enum (hd : SqD d ds) (h : EvS te σ G (D K d)) : SrcI (iEnumS K (tCons te tNil)) σ G ds.length (PairT K (fun i => some (.int (i : Nat))) (fun i => ds[i]?)) := fun G0 H u s Q k => h G0 H u s _ fun v G1 H1 g1 r => by
  have fin : ∀ {vs : List V}, DpAll K G1 vs ds → ∀ i (G3 H3 : Hp) (x : V) (H4 : Hp), i < ds.length → Same G1 G3 → Same G3 H3 → (∃ T y, x = .ref T ∧ H3 T = none ∧ H4 = upd H3 T (.tup [.int (i : Nat), y]) ∧ vs[i]? = some y) →
      ∃ G4, Grow G3 H3 G4 H4 ∧ PairT K (fun i => some (.int (i : Nat))) (fun i => ds[i]?) i x G4 := fun hall i G3 H3 x H4 hi u s ⟨T, y, e1, hT, e2, e3⟩ => by
    subst e1
    subst e2
    obtain ⟨d, h1, h2⟩ := dp_get' hall e3
    obtain ⟨G4, g4, r4⟩ := new_pair s hT (.int (i : Nat)) (Dp.up u _ _ h2)
    exact ⟨G4, g4, _, _, rfl, h1, r4⟩
  cases hd with
  | l =>
    obtain ⟨a, vs, rfl, hq, hall⟩ := d_list r
    exact ⟨a, vs, rfl, .inl ⟨g1.sub.seq hq, k _ _ G1 H1 _ g1 (fun H3 s3 => s3.seq hq) (dp_len hall ▸ walk_enum) fun i G3 H3 x H4 hi u s y => fin hall i G3 H3 x H4 hi u s (by
      obtain ⟨T, x', y', e1, e2, e3, e4, e5⟩ := y
      cases e4
      exact ⟨T, y', e1, e2, e3, e5⟩)⟩⟩
  | t =>
    obtain ⟨a, vs, rfl, hq, hall⟩ := d_tup r
    exact ⟨a, vs, rfl, .inr ⟨same_t g1.sub hq, k _ _ G1 H1 _ g1 (fun H3 s3 => same_t s3 hq) (dp_len hall ▸ walk_enumT) fun i G3 H3 x H4 hi u s y => fin hall i G3 H3 x H4 hi u s y⟩⟩
theorem src_zip {d e : PyData} (hk : (d = .list ds ∧ e = .list es) ∨ (d = .tuple ds ∧ e = .tuple es) ∨ (d = .list ds ∧ e = .tuple es)) (hl : ds.length = es.length) (h : EvS ta σ G (D K d)) (h2 : EvS tb σ G (D K e)) :
    SrcI (iZipS K (tCons ta (tCons tb tNil))) σ G ds.length (PairT K (fun i => ds[i]?) (fun i => es[i]?)) := fun G0 H u s Q k => h G0 H u s _ fun v G1 H1 g1 r => h2 G1 H1 (u.trans g1.up) g1.sub _ fun w G2 H2 g2 r2 => by
  replace r := Dp.up g2.up _ _ r
  have fin : ∀ {vs ws : List V}, DpAll K G2 vs ds → DpAll K G2 ws es → ∀ i (G3 H3 : Hp) (x : V) (H4 : Hp), i < ds.length → Same G2 G3 → Same G3 H3 → YPair (fun i => vs[i]?) (fun i => ws[i]?) i H3 x H4 →
      ∃ G4, Grow G3 H3 G4 H4 ∧ PairT K (fun i => ds[i]?) (fun i => es[i]?) i x G4 := fun hall hall2 i G3 H3 x H4 hi u s ⟨T, y, z, e1, hT, e2, e3, e4⟩ => by
    subst e1
    subst e2
    obtain ⟨d, h1, q1⟩ := dp_get' hall e3
    obtain ⟨d', h2, q2⟩ := dp_get' hall2 e4
    obtain ⟨G4, g4, r4⟩ := new_pair s hT (Dp.up u _ _ q1) (Dp.up u _ _ q2)
    exact ⟨G4, g4, _, _, h1, h2, r4⟩
  rcases hk with ⟨rfl, rfl⟩ | ⟨rfl, rfl⟩ | ⟨rfl, rfl⟩
  · obtain ⟨a, vs, rfl, hq, hall⟩ := d_list r
    obtain ⟨b, ws, rfl, hq2, hall2⟩ := d_list r2
    have hn : vs.length = ws.length := by rw [dp_len hall, dp_len hall2, hl]
    exact ⟨a, b, vs, ws, rfl, .inl ⟨g2.sub.seq hq, g2.sub.seq hq2, k _ _ G2 H2 _ (g1.trans g2) (fun H3 s3 => ⟨s3.seq hq, s3.seq hq2⟩) (walk_zip (by rw [dp_len hall, dp_len hall2, hl, Nat.min_self])) (fin hall hall2)⟩⟩
  · obtain ⟨a, vs, rfl, hq, hall⟩ := d_tup r
    obtain ⟨b, ws, rfl, hq2, hall2⟩ := d_tup r2
    have hn : vs.length = ws.length := by rw [dp_len hall, dp_len hall2, hl]
    exact ⟨a, b, vs, ws, rfl, .inr (.inl ⟨same_t g2.sub hq, same_t g2.sub hq2, k _ _ G2 H2 _ (g1.trans g2) (fun H3 s3 => ⟨same_t s3 hq, same_t s3 hq2⟩) (dp_len hall ▸ walk_zipT hn) (fin hall hall2)⟩)⟩
  · obtain ⟨a, vs, rfl, hq, hall⟩ := d_list r
    obtain ⟨b, ws, rfl, hq2, hall2⟩ := d_tup r2
    have hn : vs.length = ws.length := by rw [dp_len hall, dp_len hall2, hl]
    exact ⟨a, b, vs, ws, rfl, .inr (.inr ⟨g2.sub.seq hq, same_t g2.sub hq2, k _ _ G2 H2 _ (g1.trans g2) (fun H3 s3 => ⟨s3.seq hq, same_t s3 hq2⟩) (dp_len hall ▸ walk_zipLT hn) (fin hall hall2)⟩)⟩
theorem src_range {n : Nat} (hn : n ≤ 1000000) (h : EvS te σ G (D K (.int (n : Nat)))) : SrcI (iRng1 (tCons te tNil)) σ G n (fun i => D K (.int (i : Nat))) := fun G0 H u s Q k => h G0 H u s _ fun v G1 H1 g1 r => by
  cases d_int r
  refine ⟨(n : Int), rfl, by omega, by omega, ?_⟩
  rw [Int.toNat_natCast]
  refine k _ _ G1 H1 _ g1 (fun _ _ => trivial) walk_range fun i G3 H3 x H4 hi u s ⟨e1, e2⟩ => ?_
  subst e1
  subst e2
  refine ⟨G3, .refl s, ?_⟩
  show Dp K G3 (.int (0 + (i : Int))) (.int (i : Nat))
  rw [Int.zero_add]
  exact .int _
theorem src_str {a : Str} (h : EvS te σ G (D K (.str a))) : SrcI (iStr te) σ G a.cps.size (fun i v H => ∃ c, a.cps[i]? = some c ∧ Dp K H v (.str ⟨#[c]⟩)) := fun G0 H u s Q k => h G0 H u s _ fun v G1 H1 g1 r => by
  cases d_str r
  refine ⟨a, rfl, k _ _ G1 H1 _ g1 (fun _ _ => trivial) walk_str fun i G3 H3 x H4 hi u s ⟨e1, c, e2, e3⟩ => ?_⟩
  subst e1
  subst e3
  exact ⟨G3, .refl s, c, e2, .str _⟩

/-- a list comprehension: I says what has been gathered behind i turns -/
theorem en_lc {wi : TI} {g : TG} {vs : List Nat} {n : Nat} {T : Nat → RP} (I : Nat → List PyData → Prop) (src : SrcI wi σ G n T) (hn : n ≤ 1000000) (h0 : I 0 []) (hz : ∀ i acc, I i acc → acc.length ≤ i)
    (turn : ∀ i acc G1 x, i < n → I i acc → Same G G1 → T i x G1 → ∃ σ2, Tg g x (wipe σ vs) G1 σ2 ∧ wipe σ2 vs = wipe σ vs ∧ ∃ pb : Bool → Prop, EtP tt σ2 G1 pb ∧ (pb false → I (i + 1) acc) ∧
      (pb true → EvS te σ2 G1 (fun y Hy => ∃ dy, flatD dy = true ∧ Dp K Hy y dy ∧ I (i + 1) (acc ++ [dy])))) : EvN K (tLc wi g tt te vs) σ G (I n) := fun G0 H u s Q k => src G0 H u s _ fun J GG G1 H1 Y g1 hG W yst Dl hD => by
  have gD : G1 Dl = none := g1.sub.free hD
  refine lc_it W (fun i H' => ∃ acc, I i acc ∧ ∃ (G' : Hp) (ws : List V), Same G1 G' ∧ Same G' H' ∧ Same H1 H' ∧ G' Dl = none ∧ (∀ b, H1 b ≠ none → G1 b = none → G' b = none) ∧ H' Dl = some (.lst ws) ∧ DpAll K G' ws acc)
    ⟨[], h0, G1, [], Same.refl _, Same.mut g1.sub gD, Same.new hD, gD, fun _ _ n => n, upd_same, .nil⟩ (fun i H' _ ⟨acc, _, G', ws, s1, s2, _⟩ => hG H' (s1.trans s2)) ?_ ?_
  · rintro i x H2 H3 hi ⟨acc, hI, G', ws, s1, s2, s3, gd, goff, hDl, hall⟩ hy
    obtain ⟨G4, g4, hT⟩ := yst i G' H2 x H3 hi s1 s2 hy
    obtain ⟨σ2, htg, hwp, pb, het, hf, ht⟩ := turn i acc G4 x hi hI ((u.trans g1.up).trans (s1.trans g4.up)) hT
    refine htg H3 g4.sub _ ⟨hwp, het G4 H3 (Same.refl _) g4.sub _ fun b G5 H5 g5 hb => ?_⟩
    have g45 := g4.trans g5
    have hD5 : H5 Dl = some (.lst ws) := g45.keep Dl _ hDl
    have gd5 : G5 Dl = none := g45.off Dl (by rw [hDl]; exact fun z => nomatch z) gd
    have off5 : ∀ b, H1 b ≠ none → G1 b = none → G5 b = none := fun b hb hn => g45.off b (fun z => hb (s3.free z)) (goff b hb hn)
    cases b with
    | false =>
      show ∃ acc, I (i + 1) acc ∧ _
      exact ⟨acc, hf hb, G5, ws, s1.trans g45.up, g45.sub, s3.trans g45.keep, gd5, off5, hD5, DpAll.up g45.up _ _ hall⟩
    | true =>
      show te σ2 H5 _
      refine ht hb G5 H5 g5.up g5.sub _ fun y G6 H6 g6 ⟨dy, fl, hdy, hI'⟩ => ?_
      have g46 := g45.trans g6
      have hD6 : H6 Dl = some (.lst ws) := g46.keep Dl _ hDl
      have gd6 : G6 Dl = none := g46.off Dl (by rw [hDl]; exact fun z => nomatch z) gd
      have hl : ws.length < sizeLine := by
        rw [dp_len hall]
        exact Nat.lt_of_le_of_lt (Nat.le_trans (hz i acc hI) (Nat.le_trans (Nat.le_of_lt hi) hn)) (by decide)
      refine ⟨ws, hD6, hl, acc ++ [dy], hI', G6, ws ++ [y], s1.trans g46.up, Same.mut g46.sub gd6, fun b o e => ?_, gd6, fun b hb hn => g46.off b (fun z => hb (s3.free z)) (goff b hb hn), upd_same, dp_app (DpAll.up g46.up _ _ hall) (.cons hdy .nil)⟩
      rw [upd_ne (ne_of_none e hD)]
      exact g46.keep b o (s3 b o e)
  · rintro H' ⟨acc, hI, G', ws, s1, s2, s3, gd, goff, hDl, hall⟩
    exact k Dl ws acc G' H' (g1.trans ⟨s1, s2, s3, goff⟩) (g1.keep.free hD) gd hDl hall hI
/-- the plain case: what is walked is data, each turn told -/
theorem en_lcD {wi : TI} {g : TG} {vs : List Nat} {T : Nat → RP} {n : Nat} (pf : Nat → Bool) (fr : Nat → PyData) (src : SrcI wi σ G n T) (hn : n ≤ 1000000)
    (turn : ∀ i G1 x, i < n → Same G G1 → T i x G1 → ∃ σ2, Tg g x (wipe σ vs) G1 σ2 ∧ wipe σ2 vs = wipe σ vs ∧ Et tt σ2 G1 (pf i) ∧ (pf i = true → flatD (fr i) = true ∧ EvS te σ2 G1 (D K (fr i)))) :
    EvN K (tLc wi g tt te vs) σ G (fun x => x = ((List.range n).filter pf).map fr) := by
  refine en_lc (fun i acc => acc = ((List.range i).filter pf).map fr) src hn rfl (fun i acc e => ?_) fun i acc G1 x hi e u hT => ?_
  · subst e
    rw [List.length_map]
    exact Nat.le_trans (List.length_filter_le _ _) (by rw [List.length_range]; exact Nat.le_refl _)
  · obtain ⟨σ2, h1, h2, h3, h4⟩ := turn i G1 x hi u hT
    refine ⟨σ2, h1, h2, _, h3, fun hf => ?_, fun ht => ?_⟩
    · subst e
      rw [List.range_succ, List.filter_append, List.filter_cons, ← hf]
      simp
    · obtain ⟨fl, hv⟩ := h4 ht.symm
      refine hv.imp fun v H r => ⟨_, fl, r, ?_⟩
      subst e
      rw [List.range_succ, List.filter_append, List.filter_cons, ← ht]
      simp
/-- a filter-map over positions is one over items -/
theorem range_map {α β : Type} (xs : List α) (pf : α → Bool) (fr : α → β) (p' : Nat → Bool) (f' : Nat → β) (hp : ∀ i x, xs[i]? = some x → p' i = pf x) (hf : ∀ i x, xs[i]? = some x → f' i = fr x) :
    ((List.range xs.length).filter p').map f' = (xs.filter pf).map fr := by
  have key : ∀ n, n ≤ xs.length → ((List.range n).filter p').map f' = ((xs.take n).filter pf).map fr := by
    intro n
    induction n with
    | zero => intro _; simp
    | succ n ih =>
      intro hn
      have hx : xs[n]? = some xs[n] := by simp [hn]
      rw [List.range_succ, List.filter_append, List.map_append, ih (by omega), List.take_add_one, hx]
      simp only [Option.toList_some, List.filter_append, List.map_append]
      congr 1
      rw [List.filter_cons, List.filter_cons, hp n _ hx]
      cases pf xs[n] <;> simp [hf n _ hx]
  rw [key xs.length (Nat.le_refl _), List.take_length]
end
end KB

set_option Elab.async false
set_option linter.all false
set_option maxRecDepth 100000
set_option maxHeartbeats 4000000
/-! Evaluation: statements, loops, dicts, cells. -/
namespace KB
open PySem PySem.Spec PyProof.Rows L2
/-- the cell l is written: o; all else grows -/
structure Wr (l : Addr) (o : HO) (G H G2 H2 : Hp) : Prop where
  up : Same G G2
  sub : Same G2 H2
  «at» : H2 l = some o
  cell : G2 l = none
  oth : ∀ b u, b ≠ l → H b = some u → H2 b = some u
  off : ∀ b, H b ≠ none → G b = none → G2 b = none
theorem Grow.wr {G H G2 H2 : Hp} {l : Addr} {o u : HO} (g : Grow G H G2 H2) (hl : H l = some u) (gl : G l = none) : Wr l o G H G2 (upd H2 l o) := by
  have g2 : G2 l = none := g.off l (by rw [hl]; exact fun z => nomatch z) gl
  exact ⟨g.up, Same.mut g.sub g2, upd_same, g2, fun b w hb e => by rw [upd_ne hb]; exact g.keep b w e, g.off⟩
/-- a cell taken as frozen for a while, and given back -/
theorem same_with {G H : Hp} {l : Addr} {o : HO} (s : Same G H) (hl : H l = some o) : Same (upd G l o) H := fun b u e => by
  by_cases q : b = l
  · subst q; rw [upd_same] at e; rw [← e]; exact hl
  · rw [upd_ne q] at e; exact s b u e
theorem Grow.thaw {G H G2 H2 : Hp} {l : Addr} {o : HO} (g : Grow (upd G l o) H G2 H2) (gl : G l = none) (hl : H l = some o) : Grow G H (hid l G2) H2 := by
  refine ⟨fun b u e => ?_, hid_same.trans g.sub, g.keep, fun b hb n => ?_⟩
  · have q : b ≠ l := ne_of_none e gl
    rw [hid_ne q]
    exact g.up b u (by rw [upd_ne q]; exact e)
  · by_cases q : b = l
    · subst q; exact hid_self
    · rw [hid_ne q]
      exact g.off b hb (by rw [upd_ne q]; exact n)
theorem sameT_hid {G : Hp} {l : Addr} {o : HO} (h : G l = some o) (n1 : ∀ xs, o ≠ .tup xs) (n2 : ∀ ob xs, o ≠ .frz ob (.tup xs)) : SameT G (hid l G) := fun b u e z => by
  have q : b ≠ l := fun q => by
    subst q; rw [h] at e; cases e
    rcases z with ⟨xs, z⟩ | ⟨ob, xs, z⟩
    · exact n1 _ z
    · exact n2 _ _ z
  rw [hid_ne q]; exact e

section
variable {K : PySem.W.Frag} {σ : L2.St} {G G2 H : Hp} {ta tb tc te td ty tv : TE} {tt : TT} {tu tw tz : TS} {R Ra Rb Rc : RP} {p q : Bool → Prop} {t : TA} {Rs : List RP} {ds es : List PyData} {d e : PyData} {En : Ends}
/-! ### statements: s_ at a block's end, q_ ahead of more -/
theorem s_asg {i : Nat} (s : Same G H) (h : EvS te σ G R) (k : ∀ v G2 H2, Grow G H G2 H2 → R v G2 → En.nx (σ.set i (some v)) H2) : tAsg te (gName i) En σ H := h G H (Same.refl G) s _ k
theorem q_asg {i : Nat} (s : Same G H) (h : EvS te σ G R) (k : ∀ v G2 H2, Grow G H G2 H2 → R v G2 → tz En (σ.set i (some v)) H2) : tSeq (tAsg te (gName i)) tz En σ H := s_asg (En := { En with nx := tz En }) s h k
theorem s_asgN {R : List PyData → Prop} {i : Nat} (s : Same G H) (h : EvN K te σ G R) (k : ∀ p vs ds G2 H2, Grow G H G2 H2 → H p = none → G2 p = none → H2 p = some (.lst vs) → DpAll K G2 vs ds → R ds → En.nx (σ.set i (some (.ref p))) H2) :
    tAsg te (gName i) En σ H := h G H (Same.refl G) s _ k
theorem q_asgN {R : List PyData → Prop} {i : Nat} (s : Same G H) (h : EvN K te σ G R) (k : ∀ p vs ds G2 H2, Grow G H G2 H2 → H p = none → G2 p = none → H2 p = some (.lst vs) → DpAll K G2 vs ds → R ds → tz En (σ.set i (some (.ref p))) H2) :
    tSeq (tAsg te (gName i)) tz En σ H := s_asgN (En := { En with nx := tz En }) s h k
theorem s_asgT {g : TG} (s : Same G H) (h : EvS te σ G R) (k : ∀ v G2 H2, Grow G H G2 H2 → R v G2 → ∃ σ2, Tg g v σ G2 σ2 ∧ En.nx σ2 H2) : tAsg te g En σ H := h G H (Same.refl G) s _ fun v G2 H2 g2 r => by
  obtain ⟨σ2, h1, h2⟩ := k v G2 H2 g2 r
  exact h1 H2 g2.sub _ h2
theorem q_asgT {g : TG} (s : Same G H) (h : EvS te σ G R) (k : ∀ v G2 H2, Grow G H G2 H2 → R v G2 → ∃ σ2, Tg g v σ G2 σ2 ∧ tz En σ2 H2) : tSeq (tAsg te g) tz En σ H := s_asgT (En := { En with nx := tz En }) s h k
theorem s_ret (s : Same G H) (h : EvS te σ G R) (k : ∀ v G2 H2, Grow G H G2 H2 → R v G2 → En.rt v H2) : tRet te En σ H := h G H (Same.refl G) s _ k
theorem s_ifP (s : Same G H) (h : EtP tt σ G p) (h1 : p true → ∀ G2 H2, Grow G H G2 H2 → tu En σ H2) (h2 : p false → ∀ G2 H2, Grow G H G2 H2 → tw En σ H2) : tIfS tt tu tw En σ H := h G H (Same.refl G) s _ fun b G2 H2 g e => by
  cases b with
  | true => exact h1 e G2 H2 g
  | false => exact h2 e G2 H2 g
theorem q_ifP (s : Same G H) (h : EtP tt σ G p) (h1 : p true → ∀ G2 H2, Grow G H G2 H2 → tu { En with nx := tz En } σ H2) (h2 : p false → ∀ G2 H2, Grow G H G2 H2 → tw { En with nx := tz En } σ H2) : tSeq (tIfS tt tu tw) tz En σ H :=
  s_ifP (En := { En with nx := tz En }) s h h1 h2
theorem s_if {b : Bool} (s : Same G H) (h : Et tt σ G b) (h1 : b = true → ∀ G2 H2, Grow G H G2 H2 → tu En σ H2) (h2 : b = false → ∀ G2 H2, Grow G H G2 H2 → tw En σ H2) : tIfS tt tu tw En σ H := s_ifP s h (fun e => h1 e.symm) fun e => h2 e.symm
theorem q_if {b : Bool} (s : Same G H) (h : Et tt σ G b) (h1 : b = true → ∀ G2 H2, Grow G H G2 H2 → tu { En with nx := tz En } σ H2) (h2 : b = false → ∀ G2 H2, Grow G H G2 H2 → tw { En with nx := tz En } σ H2) : tSeq (tIfS tt tu tw) tz En σ H :=
  s_if (En := { En with nx := tz En }) s h h1 h2
/-- an if whose test fails, nothing else -/
theorem q_skip {b : Bool} (s : Same G H) (h : Et tt σ G b) (hb : b = false) (k : ∀ G2 H2, Grow G H G2 H2 → tz En σ H2) : tSeq (tIfS tt tu tNext) tz En σ H := q_if s h (fun z => by rw [hb] at z; cases z) fun _ G2 H2 g => k G2 H2 g
theorem s_drop (s : Same G H) (h : EvS te σ G R) (k : ∀ v G2 H2, Grow G H G2 H2 → R v G2 → En.nx σ H2) : tDrop te En σ H := h G H (Same.refl G) s _ k
theorem q_drop (s : Same G H) (h : EvS te σ G R) (k : ∀ v G2 H2, Grow G H G2 H2 → R v G2 → tz En σ H2) : tSeq (tDrop te) tz En σ H := s_drop (En := { En with nx := tz En }) s h k
theorem s_aug {i : Nat} {f : Int → Int → Int} {a b : Int} (s : Same G H) (hx : σ[i]? = some (some (.int a))) (h : EvS te σ G (D K (.int b))) (k : ∀ G2 H2, Grow G H G2 H2 → En.nx (σ.set i (some (.int (f a b)))) H2) : tAug i te (ipI f) En σ H :=
  ⟨.int a, hx, h G H (Same.refl G) s _ fun v G2 H2 g r => ⟨a, b, rfl, d_int r, k G2 H2 g⟩⟩
theorem q_aug {i : Nat} {f : Int → Int → Int} {a b : Int} (s : Same G H) (hx : σ[i]? = some (some (.int a))) (h : EvS te σ G (D K (.int b))) (k : ∀ G2 H2, Grow G H G2 H2 → tz En (σ.set i (some (.int (f a b)))) H2) : tSeq (tAug i te (ipI f)) tz En σ H :=
  s_aug (En := { En with nx := tz En }) s hx h k
/-- xs.append(e), xs a cell -/
theorem s_app {i : Nat} {l : Addr} {vs : List V} (s : Same G H) (hσ : σ[i]? = some (some (.ref l))) (hl : H l = some (.lst vs)) (gl : G l = none) (hz : vs.length ≤ 1000000) (h : EvS te σ G R)
    (k : ∀ v G2 H2, Wr l (.lst (vs ++ [v])) G H G2 H2 → R v G2 → En.nx σ H2) : tDrop (tBM K "list" rAppend (tVar i) (tCons te tNil)) En σ H :=
  ⟨.ref l, hσ, .inl ⟨rfl, vs, SqL.of hl⟩, h G H (Same.refl G) s _ fun v G2 H2 g r => ⟨l, vs, v, rfl, rfl, g.keep l _ hl, Nat.lt_of_le_of_lt hz (by decide), k v G2 _ (g.wr hl gl) r⟩⟩
theorem q_app {i : Nat} {l : Addr} {vs : List V} (s : Same G H) (hσ : σ[i]? = some (some (.ref l))) (hl : H l = some (.lst vs)) (gl : G l = none) (hz : vs.length ≤ 1000000) (h : EvS te σ G R)
    (k : ∀ v G2 H2, Wr l (.lst (vs ++ [v])) G H G2 H2 → R v G2 → tz En σ H2) : tSeq (tDrop (tBM K "list" rAppend (tVar i) (tCons te tNil))) tz En σ H := s_app (En := { En with nx := tz En }) s hσ hl gl hz h k
/-- d[k] = v, d a cell with text keys -/
theorem s_dput {i : Nat} {l : Addr} {kvs : List (Key × V)} {x : Str} (s : Same G H) (hσ : σ[i]? = some (some (.ref l))) (hl : H l = some (.dK kvs)) (gl : G l = none) (hz : kvs.length ≤ 1000000) (hk : EvS ty σ G (D K (.str x))) [Stb R] (hv : EvS tv σ G R)
    (k : ∀ v G2 H2, Wr l (.dK (putK kvs (.inr x) v)) G H G2 H2 → R v G2 → En.nx σ H2) : sDPut (tVar i) ty tv En σ H := hv G H (Same.refl G) s _ fun v G1 H1 g1 r =>
  ⟨.ref l, hσ, hk G1 H1 g1.up g1.sub _ fun y G2 H2 g2 ry => by
    cases d_str ry
    refine ⟨l, _, rfl, DPut.k (k := Sum.inr x) (g2.keep l _ (g1.keep l _ hl)) (Nat.lt_of_le_of_lt hz (by decide)), k v G2 _ ((g1.trans g2).wr hl gl) (stb g2.up r)⟩⟩
theorem q_dput {i : Nat} {l : Addr} {kvs : List (Key × V)} {x : Str} (s : Same G H) (hσ : σ[i]? = some (some (.ref l))) (hl : H l = some (.dK kvs)) (gl : G l = none) (hz : kvs.length ≤ 1000000) (hk : EvS ty σ G (D K (.str x))) [Stb R] (hv : EvS tv σ G R)
    (k : ∀ v G2 H2, Wr l (.dK (putK kvs (.inr x) v)) G H G2 H2 → R v G2 → tz En σ H2) : tSeq (sDPut (tVar i) ty tv) tz En σ H := s_dput (En := { En with nx := tz En }) s hσ hl gl hz hk hv k
/-- loops -/
abbrev Nx (Pv : L2.St → Hp → Hp → Prop) (G : Hp) : L2.St → Hp → Prop := fun σ H => ∃ G2, Same G G2 ∧ Same G2 H ∧ Pv σ G2 H
theorem s_for {wi : TI} {g : TG} {n : Nat} {T : Nat → RP} (s : Same G H) (src : SrcI wi σ G n T) (Pv : Nat → L2.St → Hp → Hp → Prop) (h0 : ∀ G2 H2, Grow G H G2 H2 → Pv 0 σ G2 H2)
    (turn : ∀ i σ' G' H' x G4 H4, i < n → Same G G' → Same G' H' → Pv i σ' G' H' → Grow G' H' G4 H4 → T i x G4 → ∃ σ2, Tg g x σ' G4 σ2 ∧
      tu { En with nx := Nx (Pv (i + 1)) G', ct := Nx (Pv (i + 1)) G', bk := En.nx } σ2 H4)
    (done : ∀ σ' G' H', Same G G' → Same G' H' → Pv n σ' G' H' → En.nx σ' H') : tFor wi g tu En σ H := src G H (Same.refl G) s _ fun J GG G1 H1 Y g1 hG W yst => by
  refine ⟨fun i m σ' H' => m = n - i ∧ i ≤ n ∧ ∃ G', Same G1 G' ∧ Same G' H' ∧ Pv i σ' G' H', ⟨n, by omega, Nat.zero_le _, G1, Same.refl _, g1.sub, h0 G1 H1 g1⟩, ?_⟩
  rintro i m σ' H' ⟨rfl, hi, G', s1, s2, pv⟩
  by_cases hlt : i < n
  · refine .inr ⟨W.goes i H' hlt (hG H' (s1.trans s2)), Nx (Pv (i + 1)) G', fun σ'' H'' ⟨G2, q1, q2, q3⟩ => ⟨n - (i + 1), by omega, rfl, hlt, G2, s1.trans q1, q2, q3⟩, fun x H4 y => ?_⟩
    obtain ⟨G4, g4, hT⟩ := yst i G' H' x H4 hlt s1 s2 (W.yields i H' x H4 hlt (hG H' (s1.trans s2)) y)
    obtain ⟨σ2, htg, hb⟩ := turn i σ' G' H' x G4 H4 hlt (g1.up.trans s1) s2 pv g4 hT
    exact htg H4 g4.sub _ hb
  · have e : i = n := by omega
    subst e
    exact .inl ⟨W.stops H' (hG H' (s1.trans s2)), done σ' G' H' (g1.up.trans s1) s2 pv⟩
theorem q_for {wi : TI} {g : TG} {n : Nat} {T : Nat → RP} (s : Same G H) (src : SrcI wi σ G n T) (Pv : Nat → L2.St → Hp → Hp → Prop) (h0 : ∀ G2 H2, Grow G H G2 H2 → Pv 0 σ G2 H2)
    (turn : ∀ i σ' G' H' x G4 H4, i < n → Same G G' → Same G' H' → Pv i σ' G' H' → Grow G' H' G4 H4 → T i x G4 → ∃ σ2, Tg g x σ' G4 σ2 ∧
      tu { En with nx := Nx (Pv (i + 1)) G', ct := Nx (Pv (i + 1)) G', bk := tz En } σ2 H4)
    (done : ∀ σ' G' H', Same G G' → Same G' H' → Pv n σ' G' H' → tz En σ' H') : tSeq (tFor wi g tu) tz En σ H := s_for (En := { En with nx := tz En }) s src Pv h0 turn done
/-- while, by a word that falls -/
theorem s_while (s : Same G H) (Pv : Nat → L2.St → Hp → Hp → Prop) (m0 : Nat) (h0 : Pv m0 σ G H)
    (turn : ∀ m σ' G' H', Same G G' → Same G' H' → Pv m σ' G' H' → ∃ pb : Bool → Prop, EtP tt σ' G' pb ∧
      (pb true → ∀ G2 H2, Grow G' H' G2 H2 → tu { En with nx := fun σ'' H'' => ∃ m', m' < m ∧ Nx (Pv m') G' σ'' H'', ct := fun σ'' H'' => ∃ m', m' < m ∧ Nx (Pv m') G' σ'' H'', bk := En.nx } σ' H2) ∧
      (pb false → ∀ G2 H2, Grow G' H' G2 H2 → En.nx σ' H2)) : tWhile tt tu En σ H := by
  refine ⟨fun m σ' H' => ∃ G', Same G G' ∧ Same G' H' ∧ Pv m σ' G' H', ⟨m0, G, Same.refl _, s, h0⟩, ?_⟩
  rintro m σ' H' ⟨G', s1, s2, pv⟩
  obtain ⟨pb, ht, h1, h2⟩ := turn m σ' G' H' s1 s2 pv
  refine ht G' H' (Same.refl _) s2 _ fun b G2 H2 g e => ?_
  cases b with
  | true => exact ⟨_, fun σ'' H'' ⟨m', hm, G3, q1, q2, q3⟩ => ⟨m', hm, G3, s1.trans q1, q2, q3⟩, h1 e G2 H2 g⟩
  | false => exact h2 e G2 H2 g
theorem q_while (s : Same G H) (Pv : Nat → L2.St → Hp → Hp → Prop) (m0 : Nat) (h0 : Pv m0 σ G H)
    (turn : ∀ m σ' G' H', Same G G' → Same G' H' → Pv m σ' G' H' → ∃ pb : Bool → Prop, EtP tt σ' G' pb ∧
      (pb true → ∀ G2 H2, Grow G' H' G2 H2 → tu { En with nx := fun σ'' H'' => ∃ m', m' < m ∧ Nx (Pv m') G' σ'' H'', ct := fun σ'' H'' => ∃ m', m' < m ∧ Nx (Pv m') G' σ'' H'', bk := tz En } σ' H2) ∧
      (pb false → ∀ G2 H2, Grow G' H' G2 H2 → tz En σ' H2)) : tSeq (tWhile tt tu) tz En σ H := s_while (En := { En with nx := tz En }) s Pv m0 h0 turn

/-! ### dicts with text keys -/
/-- the pairs kvs are f, as data -/
def KvD (K : PySem.W.Frag) (H : Hp) (kvs : List (Key × V)) (f : List (Str × PyData)) : Prop := kvs.map (·.1) = f.map (fun p => Sum.inr p.1) ∧ DpAll K H (kvs.map (·.2)) (f.map (·.2))
def DT (K : PySem.W.Frag) (f : List (Str × PyData)) : RP := fun v H => ∃ a kvs, v = .ref a ∧ Rd H a (.dK kvs) ∧ KvD K H kvs f
theorem KvD.up {kvs : List (Key × V)} {f : List (Str × PyData)} (u : Same G G2) (h : KvD K G kvs f) : KvD K G2 kvs f := ⟨h.1, DpAll.up u _ _ h.2⟩
instance {f : List (Str × PyData)} : Stb (DT K f) := ⟨fun u ⟨a, kvs, e, h1, h2⟩ => ⟨a, kvs, e, same_rd u h1, h2.up u⟩⟩
theorem KvD.nil : KvD K H [] [] := ⟨rfl, .nil⟩
theorem KvD.len {kvs : List (Key × V)} {f : List (Str × PyData)} (h : KvD K G kvs f) : kvs.length = f.length := by
  have e := congrArg List.length h.1
  simpa using e
theorem KvD.get : ∀ {kvs : List (Key × V)} {f : List (Str × PyData)} {x : Str}, KvD K G kvs f →
    (∀ d, f.lookup x = some d → ∃ v, valV kvs (.inr x) = some v ∧ Dp K G v d) ∧ (f.lookup x = none → valV kvs (.inr x) = none)
  | [], [], x, _ => ⟨fun d e => by simp at e, fun _ => rfl⟩
  | [], _ :: _, x, h => by have e := h.len; simp at e
  | _ :: _, [], x, h => by have e := h.len; simp at e
  | (k, v) :: kvs, (y, d) :: f, x, h => by
    obtain ⟨h1, h2⟩ := h
    simp only [List.map_cons, List.cons.injEq] at h1
    obtain ⟨e1, e2⟩ := h1
    simp only [List.map_cons] at h2
    cases h2 with
    | cons r rs =>
      have ih := KvD.get (x := x) ⟨e2, rs⟩
      subst e1
      by_cases q : y = x
      · subst q
        refine ⟨fun d' e => ?_, fun e => ?_⟩
        · simp only [List.lookup_cons, beq_self_eq_true] at e
          cases e
          exact ⟨v, valV_pos rfl, r⟩
        · simp [List.lookup_cons] at e
      · have q' : (x == y) = false := beq_eq_false_iff_ne.mpr (fun z => q z.symm)
        have q2 : ¬ (Sum.inr y : Key) = Sum.inr x := fun z => q (Sum.inr.inj z)
        simp only [List.lookup_cons, q']
        rw [show valV ((Sum.inr y, v) :: kvs) (.inr x) = valV kvs (.inr x) from valV_neg q2]
        exact ih
/-- in its place, or at the end -/
def putS (f : List (Str × PyData)) (x : Str) (d : PyData) : List (Str × PyData) := if x ∈ f.map (·.1) then f.map (fun p => if p.1 = x then (p.1, d) else p) else f ++ [(x, d)]
theorem DpAll.mapIf {κ : Type} {v : V} {d : PyData} (hd : Dp K G v d) : ∀ {kvs : List (Key × V)} {f : List (Str × PyData)} {x : Str}, kvs.map (·.1) = f.map (fun p => Sum.inr p.1) → DpAll K G (kvs.map (·.2)) (f.map (·.2)) →
    DpAll K G ((kvs.map fun kv => if kv.1 = Sum.inr x then (kv.1, v) else kv).map (·.2)) ((f.map fun p => if p.1 = x then (p.1, d) else p).map (·.2))
  | [], [], x, _, _ => .nil
  | [], _ :: _, x, h, _ => by simp at h
  | _ :: _, [], x, h, _ => by simp at h
  | (k, w) :: kvs, (y, e) :: f, x, h, h2 => by
    simp only [List.map_cons, List.cons.injEq] at h h2 ⊢
    obtain ⟨h1, h3⟩ := h
    subst h1
    cases h2 with
    | cons r rs =>
      have ih := DpAll.mapIf (κ := κ) hd (x := x) h3 rs
      by_cases q : y = x
      · subst q
        simp only [if_true]
        exact .cons hd ih
      · have q2 : ¬ (Sum.inr y : Key) = Sum.inr x := fun z => q (Sum.inr.inj z)
        simp only [if_neg q, if_neg q2]
        exact .cons r ih
theorem KvD.put {kvs : List (Key × V)} {f : List (Str × PyData)} {x : Str} {v : V} {d : PyData} (h : KvD K G kvs f) (hd : Dp K G v d) : KvD K G (putK kvs (.inr x) v) (putS f x d) := by
  obtain ⟨h1, h2⟩ := h
  have hm : (kvs.any fun kv => decide (kv.1 = (Sum.inr x : Key))) = decide (x ∈ f.map (·.1)) := by
    have e : (kvs.any fun kv => decide (kv.1 = (Sum.inr x : Key))) = (kvs.map (·.1)).any fun k => decide (k = Sum.inr x) := by rw [List.any_map]; rfl
    rw [e, h1]
    clear e h1 h2 kvs
    induction f with
    | nil => simp
    | cons p f ih =>
      rw [List.map_cons, List.any_cons, ih, List.map_cons]
      by_cases q : p.1 = x
      · simp [q]
      · have q2 : ¬ (Sum.inr p.1 : Key) = Sum.inr x := fun z => q (Sum.inr.inj z)
        have q3 : ¬ x = p.1 := fun z => q z.symm
        simp [q2, q3]
  unfold putK putS
  rw [hm]
  by_cases q : x ∈ f.map (·.1)
  · rw [if_pos (by simpa using q), if_pos q]
    refine ⟨?_, DpAll.mapIf (κ := Unit) hd h1 h2⟩
    have e1 : (kvs.map fun kv => if kv.1 = (Sum.inr x : Key) then (kv.1, v) else kv).map (·.1) = kvs.map (·.1) := by
      rw [List.map_map]
      apply List.map_congr_left
      intro kv _
      simp only [Function.comp]
      split <;> rfl
    have e2 : (f.map fun p => if p.1 = x then (p.1, d) else p).map (fun p => (Sum.inr p.1 : Key)) = f.map (fun p => (Sum.inr p.1 : Key)) := by
      rw [List.map_map]
      apply List.map_congr_left
      intro p _
      simp only [Function.comp]
      split <;> rfl
    rw [e1, e2]
    exact h1
  · rw [if_neg (by simpa using q), if_neg q]
    refine ⟨?_, ?_⟩
    · rw [List.map_append, List.map_append, h1]; rfl
    · rw [List.map_append, List.map_append]
      exact dp_app h2 (.cons hd .nil)
theorem ed_dget {f : List (Str × PyData)} {x : Str} {d : PyData} (ha : EvS td σ G (DT K f)) (hb : EvS ty σ G (D K (.str x))) (hl : f.lookup x = some d) : EvS (tDGet td ty) σ G (D K d) := fun G0 H u s Q k =>
  ha G0 H u s _ fun v G1 H1 g1 r => hb G1 H1 (u.trans g1.up) g1.sub _ fun y G2 H2 g2 ry => by
    obtain ⟨a, kvs, rfl, h1, h2⟩ := stb g2.up r
    cases d_str ry
    obtain ⟨w, e1, e2⟩ := h2.get.1 d hl
    exact ⟨a, w, rfl, .inl ⟨kvs, .inr x, same_rd g2.sub h1, rfl, e1.symm⟩, k _ G2 H2 (g1.trans g2) e2⟩
theorem ed_din {f : List (Str × PyData)} {x : Str} (hb : EvS ty σ G (D K (.str x))) (ha : EvS td σ G (DT K f)) : EvS (tDIn ty td) σ G (D K (.bool (f.lookup x).isSome)) := fun G0 H u s Q k =>
  hb G0 H u s _ fun y G1 H1 g1 ry => ha G1 H1 (u.trans g1.up) g1.sub _ fun v G2 H2 g2 r => by
    obtain ⟨a, kvs, rfl, h1, h2⟩ := r
    cases d_str ry
    refine ⟨a, _, rfl, .inl ⟨kvs, .inr x, same_rd g2.sub h1, rfl, rfl⟩, ?_⟩
    have e : (valV kvs (Sum.inr x : Key)).isSome = (f.lookup x).isSome := by
      cases q : f.lookup x with
      | none => rw [h2.get.2 q]; rfl
      | some d => obtain ⟨w, e1, _⟩ := h2.get.1 d q; rw [e1]; rfl
    rw [e]
    exact k _ G2 H2 (g1.trans g2) (.bl _)
theorem ed_dnotin {f : List (Str × PyData)} {x : Str} (hb : EvS ty σ G (D K (.str x))) (ha : EvS td σ G (DT K f)) : EvS (tDNotIn ty td) σ G (D K (.bool (!(f.lookup x).isSome))) := fun G0 H u s Q k =>
  hb G0 H u s _ fun y G1 H1 g1 ry => ha G1 H1 (u.trans g1.up) g1.sub _ fun v G2 H2 g2 r => by
    obtain ⟨a, kvs, rfl, h1, h2⟩ := r
    cases d_str ry
    refine ⟨a, _, rfl, .inl ⟨kvs, .inr x, same_rd g2.sub h1, rfl, rfl⟩, ?_⟩
    have e : (valV kvs (Sum.inr x : Key)).isSome = (f.lookup x).isSome := by
      cases q : f.lookup x with
      | none => rw [h2.get.2 q]; rfl
      | some d => obtain ⟨w, e1, _⟩ := h2.get.1 d q; rw [e1]; rfl
    rw [e]
    exact k _ G2 H2 (g1.trans g2) (.bl _)
/-- d.get(k, e) -/
theorem e_dget2 {f : List (Str × PyData)} {x : Str} {tx : TE} (ha : EvS td σ G (DT K f)) (hb : EvS ty σ G (D K (.str x))) [Stb R] (hx : EvS tx σ G R) (h1 : ∀ d v H, f.lookup x = some d → Dp K H v d → R v H) (h2 : f.lookup x = none ∨ ∃ d, f.lookup x = some d) :
    EvS (tDGet2 td ty tx) σ G R := fun G0 H u s Q k =>
  ha G0 H u s _ fun v G1 H1 g1 r => by
    obtain ⟨a, kvs, rfl, hr, hk⟩ := r
    refine ⟨a, rfl, .inl ⟨kvs, same_rd g1.sub hr⟩, hb G1 H1 (u.trans g1.up) g1.sub _ fun y G2 H2 g2 ry => ?_⟩
    cases d_str ry
    refine hx G2 H2 ((u.trans g1.up).trans g2.up) g2.sub _ fun z G3 H3 g3 rz => ?_
    refine ⟨_, .inl ⟨kvs, .inr x, same_rd ((g1.sub.trans g2.keep).trans g3.keep) hr, rfl, rfl⟩, ?_⟩
    rcases h2 with q | ⟨d, q⟩
    · rw [hk.get.2 q]
      exact k _ G3 H3 ((g1.trans g2).trans g3) rz
    · obtain ⟨w, e1, e2⟩ := hk.get.1 d q
      rw [e1]
      exact k _ G3 H3 ((g1.trans g2).trans g3) (h1 d w G3 q (Dp.up (g2.up.trans g3.up) _ _ e2))
theorem ed_dget1 {f : List (Str × PyData)} {x : Str} {d : PyData} (ha : EvS td σ G (DT K f)) (hb : EvS ty σ G (D K (.str x))) (hl : f.lookup x = some d) : EvS (tDGet1 td ty) σ G (D K d) := fun G0 H u s Q k =>
  ha G0 H u s _ fun v G1 H1 g1 r => by
    obtain ⟨a, kvs, rfl, hr, hk⟩ := r
    refine ⟨a, rfl, .inl ⟨kvs, same_rd g1.sub hr⟩, hb G1 H1 (u.trans g1.up) g1.sub _ fun y G2 H2 g2 ry => ?_⟩
    cases d_str ry
    obtain ⟨w, e1, e2⟩ := hk.get.1 d hl
    refine ⟨some w, .inl ⟨kvs, .inr x, same_rd (g1.sub.trans g2.keep) hr, rfl, e1.symm⟩, k _ G2 H2 (g1.trans g2) (Dp.up g2.up _ _ e2)⟩
/-- a new dict, still to be filled -/
theorem q_dnew {i : Nat} (s : Same G H) (k : ∀ p H2, Grow G H G H2 → H p = none → G p = none → H2 p = some (.dK []) → tz En (σ.set i (some (.ref p))) H2) : tSeq (tAsg tDNewK (gName i)) tz En σ H := fun p hp =>
  k p _ (Grow.cell s hp) hp (s.free hp) upd_same
/-- a dict comprehension over text keys: what it holds, item by item -/
theorem e_dc {wi : TI} {g : TG} {vs : List Nat} {n : Nat} {T : Nat → RP} (f : Nat → List (Str × PyData)) (src : SrcI wi σ G n T) (hn : n ≤ 1000000) (h0 : f 0 = []) (hz : ∀ i, (f i).length ≤ i)
    (turn : ∀ i G1 x, i < n → Same G G1 → T i x G1 → ∃ σ2, Tg g x (wipe σ vs) G1 σ2 ∧ wipe σ2 vs = wipe σ vs ∧ Et tt σ2 G1 true ∧ ∃ y d, f (i + 1) = putS (f i) y d ∧ flatD d = true ∧ EvS ty σ2 G1 (D K (.str y)) ∧ EvS tv σ2 G1 (D K d)) :
    EvS (tDc wi g tt ty tv vs) σ G (DT K (f n)) := fun G0 H u s Q k => src G0 H u s _ fun J GG G1 H1 Y g1 hG W yst Dl hD => by
  have gD : G1 Dl = none := g1.sub.free hD
  refine ⟨fun i m H' => m = n - i ∧ i ≤ n ∧ ∃ (G' : Hp) (kvs : List (Key × V)), Same G1 G' ∧ Same G' H' ∧ Same H1 H' ∧ G' Dl = none ∧ (∀ b, H1 b ≠ none → G1 b = none → G' b = none) ∧ H' Dl = some (.dK kvs) ∧ KvD K G' kvs (f i),
    ⟨n, by omega, Nat.zero_le _, G1, [], Same.refl _, Same.mut g1.sub gD, Same.new hD, gD, fun _ _ n => n, upd_same, by rw [h0]; exact .nil⟩, ?_⟩
  rintro i m H2 ⟨rfl, hi, G', kvs, s1, s2, s3, gd, goff, hDl, hall⟩
  by_cases hlt : i < n
  · refine .inr ⟨W.goes i H2 hlt (hG H2 (s1.trans s2)), (fun H' => ∃ (G' : Hp) (kvs : List (Key × V)), Same G1 G' ∧ Same G' H' ∧ Same H1 H' ∧ G' Dl = none ∧ (∀ b, H1 b ≠ none → G1 b = none → G' b = none) ∧ H' Dl = some (.dK kvs) ∧ KvD K G' kvs (f (i + 1))),
      fun H' z => ⟨n - (i + 1), by omega, rfl, hlt, z⟩, fun x H3 hy => ?_⟩
    obtain ⟨G4, g4, hT⟩ := yst i G' H2 x H3 hlt s1 s2 (W.yields i H2 x H3 hlt (hG H2 (s1.trans s2)) hy)
    obtain ⟨σ2, htg, hwp, het, y, d, hf, fl, hk, hv⟩ := turn i G4 x hlt ((u.trans g1.up).trans (s1.trans g4.up)) hT
    refine htg H3 g4.sub _ ⟨hwp, het G4 H3 (Same.refl _) g4.sub _ fun b G5 H5 g5 hb => ?_⟩
    subst hb
    show ty σ2 H5 _
    refine hk G5 H5 g5.up g5.sub _ fun yv G6 H6 g6 ry => hv G6 H6 (g5.up.trans g6.up) g6.sub _ fun zv G7 H7 g7 rz => ?_
    have gg := ((g4.trans g5).trans g6).trans g7
    have gd7 : G7 Dl = none := gg.off Dl (by rw [hDl]; exact fun z => nomatch z) gd
    cases d_str ry
    refine ⟨kvs, .inr y, rfl, gg.keep Dl _ hDl, ?_, G7, putK kvs (.inr y) zv, s1.trans gg.up, Same.mut gg.sub gd7, fun b o e => ?_, gd7, fun b hb hn => gg.off b (fun z => hb (s3.free z)) (goff b hb hn), upd_same, ?_⟩
    · rw [hall.len]
      exact Nat.lt_of_le_of_lt (Nat.le_trans (hz i) (Nat.le_trans (Nat.le_of_lt hlt) hn)) (by decide)
    · rw [upd_ne (ne_of_none e hD)]
      exact gg.keep b o (s3 b o e)
    · rw [hf]
      exact (hall.up gg.up).put rz
  · have e : i = n := by omega
    subst e
    refine .inl ⟨W.stops H2 (hG H2 (s1.trans s2)), ?_⟩
    refine k (.ref Dl) (upd G' Dl (.dK kvs)) H2 ⟨(g1.up.trans s1).trans (Same.new gd), fun b o e => ?_, g1.keep.trans s3, fun b hb hn => ?_⟩ ⟨Dl, kvs, rfl, .inl upd_same, hall.up (Same.new gd)⟩
    · by_cases q : b = Dl
      · subst q; rw [upd_same] at e; rw [← e]; exact hDl
      · rw [upd_ne q] at e; exact s2 b o e
    · have q : b ≠ Dl := fun z => hb (g1.keep.free (z ▸ hD))
      rw [upd_ne q]
      exact goff b (fun z => hb (g1.keep.free z)) (g1.off b hb hn)
end
end KB

set_option Elab.async false
set_option linter.all false
set_option maxRecDepth 100000
/-! The mathematics, first part: lots, rows, what lies under what. -/
namespace KB
open PySem PySem.Spec PyProof.Rows

/-! ### the order of texts -/
abbrev SLt (a b : Str) : Prop := a.cps.toList < b.cps.toList
theorem slt_irrefl (a : Str) : ¬ SLt a a := List.lt_irrefl a.cps.toList
theorem slt_trans {a b c : Str} (h : SLt a b) (h2 : SLt b c) : SLt a c := List.lt_trans h h2
theorem str_ext {a b : Str} (h : a.cps.toList = b.cps.toList) : a = b := by
  obtain ⟨x⟩ := a
  obtain ⟨y⟩ := b
  have : x = y := by simpa using h
  rw [this]
theorem slt_tri (a b : Str) : SLt a b ∨ a = b ∨ SLt b a := by
  by_cases h1 : SLt a b
  · exact .inl h1
  · by_cases h2 : SLt b a
    · exact .inr (.inr h2)
    · refine .inr (.inl (str_ext ?_))
      have q1 : b.cps.toList ≤ a.cps.toList := List.not_lt.mp h1
      have q2 : a.cps.toList ≤ b.cps.toList := List.not_lt.mp h2
      exact List.le_antisymm q2 q1
theorem slt_asymm {a b : Str} (h : SLt a b) (h2 : SLt b a) : False := slt_irrefl a (slt_trans h h2)

/-! ### lots -/
abbrev Asc (xs : List Str) : Prop := xs.Pairwise SLt
def insL (x : Str) : List Str → List Str
  | [] => [x]
  | y :: ys => if SLt x y then x :: y :: ys else if x = y then y :: ys else y :: insL x ys
def lotOf (xs : List Str) : List Str := xs.foldr insL []
theorem mem_insL {x z : Str} : ∀ {ys : List Str}, z ∈ insL x ys ↔ z = x ∨ z ∈ ys
  | [] => by simp [insL]
  | y :: ys => by
    unfold insL
    by_cases h : SLt x y
    · rw [if_pos h]; simp
    · rw [if_neg h]
      by_cases h2 : x = y
      · rw [if_pos h2]; subst h2; simp
      · rw [if_neg h2, List.mem_cons, mem_insL, List.mem_cons]
        constructor
        · rintro (h | h | h)
          · exact .inr (.inl h)
          · exact .inl h
          · exact .inr (.inr h)
        · rintro (h | h | h)
          · exact .inr (.inl h)
          · exact .inl h
          · exact .inr (.inr h)
theorem asc_insL {x : Str} : ∀ {ys : List Str}, Asc ys → Asc (insL x ys)
  | [], _ => by simp [insL]
  | y :: ys, h => by
    obtain ⟨h1, h2⟩ := List.pairwise_cons.mp h
    unfold insL
    by_cases q : SLt x y
    · rw [if_pos q]
      refine List.pairwise_cons.mpr ⟨fun z hz => ?_, h⟩
      rcases List.mem_cons.mp hz with rfl | hz
      · exact q
      · exact slt_trans q (h1 z hz)
    · rw [if_neg q]
      by_cases q2 : x = y
      · rw [if_pos q2]; exact h
      · rw [if_neg q2]
        refine List.pairwise_cons.mpr ⟨fun z hz => ?_, asc_insL h2⟩
        rcases mem_insL.mp hz with rfl | hz
        · rcases slt_tri z y with r | r | r
          · exact absurd r q
          · exact absurd r q2
          · exact r
        · exact h1 z hz
@[simp] theorem mem_lotOf {xs : List Str} {z : Str} : z ∈ lotOf xs ↔ z ∈ xs := by
  unfold lotOf
  induction xs with
  | nil => simp
  | cons x xs ih => rw [List.foldr_cons, mem_insL, ih, List.mem_cons]
theorem asc_lotOf (xs : List Str) : Asc (lotOf xs) := by
  unfold lotOf
  induction xs with
  | nil => simp
  | cons x xs ih => rw [List.foldr_cons]; exact asc_insL ih
theorem asc_nodup {xs : List Str} (h : Asc xs) : xs.Nodup := h.imp fun {a b} l e => by subst e; exact slt_irrefl _ l
theorem asc_uniq : ∀ {xs ys : List Str}, Asc xs → Asc ys → (∀ z, z ∈ xs ↔ z ∈ ys) → xs = ys
  | [], [], _, _, _ => rfl
  | [], y :: ys, _, _, h => absurd ((h y).mpr List.mem_cons_self) (by simp)
  | x :: xs, [], _, _, h => absurd ((h x).mp List.mem_cons_self) (by simp)
  | x :: xs, y :: ys, hx, hy, h => by
    obtain ⟨x1, x2⟩ := List.pairwise_cons.mp hx
    obtain ⟨y1, y2⟩ := List.pairwise_cons.mp hy
    have e : x = y := by
      rcases List.mem_cons.mp ((h x).mp List.mem_cons_self) with q | q
      · exact q
      · rcases List.mem_cons.mp ((h y).mpr List.mem_cons_self) with r | r
        · exact r.symm
        · exact (slt_asymm (y1 x q) (x1 y r)).elim
    subst e
    congr 1
    refine asc_uniq x2 y2 fun z => ?_
    have nx : ∀ {z}, z ∈ xs → z ≠ x := fun hz e => by subst e; exact slt_irrefl _ (x1 _ hz)
    have ny : ∀ {z}, z ∈ ys → z ≠ x := fun hz e => by subst e; exact slt_irrefl _ (y1 _ hz)
    constructor
    · intro hz
      rcases List.mem_cons.mp ((h z).mp (List.mem_cons_of_mem _ hz)) with q | q
      · exact absurd q (nx hz)
      · exact q
    · intro hz
      rcases List.mem_cons.mp ((h z).mpr (List.mem_cons_of_mem _ hz)) with q | q
      · exact absurd q (ny hz)
      · exact q
theorem lot_eq {xs ys : List Str} (h : ∀ z, z ∈ xs ↔ z ∈ ys) : lotOf xs = lotOf ys := asc_uniq (asc_lotOf _) (asc_lotOf _) fun z => by rw [mem_lotOf, mem_lotOf]; exact h z
theorem lot_is {xs ys : List Str} (ha : Asc ys) (h : ∀ z, z ∈ ys ↔ z ∈ xs) : ys = lotOf xs := asc_uniq ha (asc_lotOf _) fun z => by rw [mem_lotOf]; exact h z
theorem lot_self {xs : List Str} (h : Asc xs) : lotOf xs = xs := (lot_is h fun _ => Iff.rfl).symm
theorem lot_len_le (xs : List Str) : (lotOf xs).length ≤ xs.length := by
  unfold lotOf
  induction xs with
  | nil => simp
  | cons x xs ih =>
    rw [List.foldr_cons]
    have : ∀ ys : List Str, (insL x ys).length ≤ ys.length + 1 := by
      intro ys
      induction ys with
      | nil => simp [insL]
      | cons y ys ih =>
        unfold insL
        split
        · simp
        · split
          · simp
          · simp; exact ih
    have := this (xs.foldr insL [])
    simp
    omega
theorem asc_filter {xs : List Str} (p : Str → Bool) (h : Asc xs) : Asc (xs.filter p) := h.filter p
/-- a list without doubles, in order -/
theorem perm_asc {xs ys : List Str} (hp : ys.Perm xs) (hs : ys.Pairwise (fun a b => ¬ SLt b a)) (hn : xs.Nodup) : ys = lotOf xs := by
  have hn2 : ys.Nodup := hp.symm.nodup hn
  refine lot_is ?_ fun z => hp.mem_iff
  have h2 := hs.and hn2
  exact h2.imp fun {a b} ⟨h, h'⟩ => by
    rcases slt_tri a b with r | r | r
    · exact r
    · exact absurd r h'
    · exact absurd r h
theorem sortedS_pw : ∀ {ys : List Str}, sortedS ys = true → ys.Pairwise (fun a b => ¬ SLt b a)
  | [], _ => .nil
  | x :: r, h => by
    have key : ∀ (r : List Str) (p : Str), risingS p r = true → (p :: r).Pairwise (fun a b => ¬ SLt b a) := by
      intro r
      induction r with
      | nil => intro p _; simp
      | cons x r ih =>
        intro p h
        have h' : (!ltCps x.cps.toList p.cps.toList) = true ∧ risingS x r = true := by simpa [risingS] using h
        have h1 : ¬ SLt x p := by
          have := h'.1
          rw [ltCps_eq] at this
          simpa using this
        have ih' := ih x h'.2
        refine List.pairwise_cons.mpr ⟨fun z hz => ?_, ih'⟩
        rcases List.mem_cons.mp hz with rfl | hz
        · exact h1
        · have h2 := (List.pairwise_cons.mp ih').1 z hz
          intro q
          rcases slt_tri x z with r | r | r
          · exact h1 (slt_trans r q)
          · subst r; exact h1 q
          · exact h2 r
    exact key r x h

/-! ### notes -/
abbrev Note := Str × Str × List Str
abbrev nms (ns : List Note) : List Str := ns.map (·.1)
/-- the row of a hand -/
def row (ns : List Note) (h : Str) : List Str := (ns.filter fun n => decide (n.2.1 = h)).map (·.1)
def hnd (ns : List Note) (y : Str) : Str := ((ns.find? fun n => decide (n.1 = y)).map (·.2.1)).getD ⟨#[]⟩
def wts (ns : List Note) (y : Str) : List Str := ((ns.find? fun n => decide (n.1 = y)).map (·.2.2)).getD []
/-- the last one, in a list -/
def lastL (xs : List Str) : List Str := xs.getLast?.toList
/-- the note of the same hand just ahead -/
def prv (ns : List Note) (y : Str) : List Str := lastL ((row ns (hnd ns y)).take ((row ns (hnd ns y)).idxOf y))
/-- what a note waits for, told or not -/
def ahead (ns : List Note) (y : Str) : List Str := wts ns y ++ prv ns y
/-- x lies under y, the notes told from the last -/
def UndR : List Note → Str → Str → Prop
  | [], _, _ => False
  | n :: pre, x, y => if y = n.1 then x = n.1 ∨ ∃ z, (z ∈ n.2.2 ∨ z ∈ lastL (row pre.reverse n.2.1)) ∧ UndR pre x z else UndR pre x y
def Und (ns : List Note) (x y : Str) : Prop := UndR ns.reverse x y
theorem und_nil {x y : Str} : ¬ Und [] x y := fun h => h
theorem und_snoc {pre : List Note} {n : Note} {x y : Str} : Und (pre ++ [n]) x y ↔ if y = n.1 then x = n.1 ∨ ∃ z, (z ∈ n.2.2 ∨ z ∈ lastL (row pre n.2.1)) ∧ Und pre x z else Und pre x y := by
  unfold Und
  rw [List.reverse_append]
  show (if y = n.1 then x = n.1 ∨ ∃ z, (z ∈ n.2.2 ∨ z ∈ lastL (row pre.reverse.reverse n.2.1)) ∧ UndR pre.reverse x z else UndR pre.reverse x y) ↔ _
  rw [List.reverse_reverse]
/-- notes told one behind another -/
inductive Told : List Note → Prop where
  | nil : Told []
  | snoc {pre : List Note} {n : Note} (h : Told pre) (new : n.1 ∉ nms pre) (w : ∀ z ∈ n.2.2, z ∈ nms pre) : Told (pre ++ [n])
theorem snoc_ind {α : Type} {P : List α → Prop} (h0 : P []) (hs : ∀ xs x, P xs → P (xs ++ [x])) (xs : List α) : P xs := by
  have : ∀ ys : List α, P ys.reverse := by
    intro ys
    induction ys with
    | nil => exact h0
    | cons y ys ih => rw [List.reverse_cons]; exact hs _ _ ih
  have := this xs.reverse
  rwa [List.reverse_reverse] at this
theorem nms_app (a b : List Note) : nms (a ++ b) = nms a ++ nms b := List.map_append
theorem row_app (a b : List Note) (h : Str) : row (a ++ b) h = row a h ++ row b h := by unfold row; rw [List.filter_append, List.map_append]
theorem row_one (n : Note) (h : Str) : row [n] h = if n.2.1 = h then [n.1] else [] := by
  unfold row
  by_cases q : n.2.1 = h <;> simp [q]
theorem row_sub (ns : List Note) (h x : Str) (hx : x ∈ row ns h) : x ∈ nms ns := by
  unfold row at hx
  obtain ⟨n, hn, rfl⟩ := List.mem_map.mp hx
  exact List.mem_map.mpr ⟨n, (List.mem_filter.mp hn).1, rfl⟩
theorem mem_lastL {xs : List Str} {z : Str} : z ∈ lastL xs ↔ xs.getLast? = some z := by
  unfold lastL
  cases h : xs.getLast? <;> simp [eq_comm]
theorem lastL_mem {xs : List Str} {z : Str} (h : z ∈ lastL xs) : z ∈ xs := List.mem_of_getLast? (mem_lastL.mp h)
theorem lastL_snoc (xs : List Str) (z : Str) : lastL (xs ++ [z]) = [z] := by unfold lastL; simp
theorem lastL_some {xs : List Str} (h : xs ≠ []) : ∃ z, lastL xs = [z] := by
  unfold lastL
  cases e : xs.getLast? with
  | none => exact absurd (List.getLast?_eq_none_iff.mp e) h
  | some z => exact ⟨z, rfl⟩
theorem Told.nodup {ns : List Note} (t : Told ns) : (nms ns).Nodup := by
  induction t with
  | nil => exact List.nodup_nil
  | @snoc pre n h new w ih =>
    rw [nms_app]
    refine List.nodup_append.mpr ⟨ih, by simp, fun a ha b hb => ?_⟩
    have : b = n.1 := by simpa using hb
    subst this
    exact fun e => new (e ▸ ha)
theorem row_nodup {ns : List Note} (t : (nms ns).Nodup) (h : Str) : (row ns h).Nodup := by
  unfold row
  exact t.sublist ((List.filter_sublist).map _)
theorem Und.mem {ns : List Note} (t : Told ns) : ∀ {x y : Str}, Und ns x y → x ∈ nms ns ∧ y ∈ nms ns := by
  induction t with
  | nil => intro x y h; exact (und_nil h).elim
  | @snoc pre n h new w ih =>
    intro x y u
    rw [nms_app, List.mem_append, List.mem_append]
    rw [und_snoc] at u
    by_cases e : y = n.1
    · rw [if_pos e] at u
      refine ⟨?_, .inr (by simp [e])⟩
      rcases u with u | ⟨z, _, u⟩
      · exact .inr (by simp [u])
      · exact .inl (ih u).1
    · rw [if_neg e] at u
      exact ⟨.inl (ih u).1, .inl (ih u).2⟩
theorem Und.rfl {ns : List Note} (t : Told ns) : ∀ {x : Str}, x ∈ nms ns → Und ns x x := by
  induction t with
  | nil => intro x h; simp at h
  | @snoc pre n h new w ih =>
    intro x hx
    rw [und_snoc]
    by_cases e : x = n.1
    · rw [if_pos e]; exact .inl e
    · rw [if_neg e]
      rw [nms_app, List.mem_append] at hx
      rcases hx with hx | hx
      · exact ih hx
      · exact absurd (by simpa using hx) e
theorem Und.trans {ns : List Note} (t : Told ns) : ∀ {x y z : Str}, Und ns x y → Und ns y z → Und ns x z := by
  induction t with
  | nil => intro x y z h; exact (und_nil h).elim
  | @snoc pre n h new w ih =>
    intro x y z u v
    by_cases e : z = n.1
    · rw [und_snoc, if_pos e] at v
      rcases v with v | ⟨a, ha, v⟩
      · rw [e, ← v]; exact u
      · rw [und_snoc, if_pos e]
        have hy : y ≠ n.1 := fun q => new (q ▸ (v.mem h).1)
        rw [und_snoc, if_neg hy] at u
        exact .inr ⟨a, ha, ih u v⟩
    · rw [und_snoc, if_neg e] at v
      have hy : y ≠ n.1 := fun q => new (q ▸ (v.mem h).1)
      rw [und_snoc, if_neg hy] at u
      rw [und_snoc, if_neg e]
      exact ih u v
theorem idx_lt {xs : List Str} {x : Str} (h : x ∈ xs) : xs.idxOf x < xs.length := List.idxOf_lt_length_iff.mpr h
theorem idx_app_l {xs ys : List Str} {x : Str} (h : x ∈ xs) : (xs ++ ys).idxOf x = xs.idxOf x := by rw [List.idxOf_append, if_pos h]
theorem idx_app_r {xs ys : List Str} {x : Str} (h : x ∉ xs) : (xs ++ ys).idxOf x = xs.length + ys.idxOf x := by rw [List.idxOf_append, if_neg h]; omega
theorem idx_one (x : Str) : List.idxOf x [x] = 0 := by simp
/-- what lies under comes no later -/
theorem Und.le {ns : List Note} (t : Told ns) : ∀ {x y : Str}, Und ns x y → x ≠ y → (nms ns).idxOf x < (nms ns).idxOf y := by
  induction t with
  | nil => intro x y h; exact (und_nil h).elim
  | @snoc pre n h new w ih =>
    intro x y u ne
    rw [nms_app]
    rw [und_snoc] at u
    by_cases e : y = n.1
    · rw [if_pos e] at u
      rcases u with u | ⟨z, _, u⟩
      · exact absurd (u.trans e.symm) ne
      · have hx := (u.mem h).1
        rw [idx_app_l hx, e, idx_app_r new]
        have := idx_lt hx
        omega
    · rw [if_neg e] at u
      obtain ⟨hx, hy⟩ := u.mem h
      rw [idx_app_l hx, idx_app_l hy]
      exact ih u ne
theorem Und.antisymm {ns : List Note} (t : Told ns) {x y : Str} (h : Und ns x y) (h2 : Und ns y x) : x = y := by
  by_cases e : x = y
  · exact e
  · have a := h.le t e
    have b := h2.le t (Ne.symm e)
    omega
theorem find_app_l {pre post : List Note} {y : Str} (h : y ∈ nms pre) : (pre ++ post).find? (fun n => decide (n.1 = y)) = pre.find? (fun n => decide (n.1 = y)) := by
  rw [List.find?_append]
  obtain ⟨n, hn, rfl⟩ := List.mem_map.mp h
  cases e : pre.find? (fun m => decide (m.1 = n.1)) with
  | none =>
    rw [List.find?_eq_none] at e
    exact absurd (by simp) (e n hn)
  | some m => rfl
theorem find_app_r {pre post : List Note} {y : Str} (h : y ∉ nms pre) : (pre ++ post).find? (fun n => decide (n.1 = y)) = post.find? (fun n => decide (n.1 = y)) := by
  rw [List.find?_append]
  have e : pre.find? (fun m => decide (m.1 = y)) = none := by
    rw [List.find?_eq_none]
    intro n hn q
    exact h (List.mem_map.mpr ⟨n, hn, by simpa using q⟩)
  rw [e]; rfl
theorem hnd_l {pre post : List Note} {y : Str} (h : y ∈ nms pre) : hnd (pre ++ post) y = hnd pre y := by unfold hnd; rw [find_app_l h]
theorem wts_l {pre post : List Note} {y : Str} (h : y ∈ nms pre) : wts (pre ++ post) y = wts pre y := by unfold wts; rw [find_app_l h]
theorem hnd_r {pre post : List Note} {n : Note} (h : n.1 ∉ nms pre) : hnd (pre ++ n :: post) n.1 = n.2.1 := by unfold hnd; rw [find_app_r h]; simp
theorem wts_r {pre post : List Note} {n : Note} (h : n.1 ∉ nms pre) : wts (pre ++ n :: post) n.1 = n.2.2 := by unfold wts; rw [find_app_r h]; simp
/-- the row of a note's own hand has it -/
theorem mem_row {ns : List Note} : ∀ {y h : Str}, (nms ns).Nodup → (y ∈ row ns h ↔ y ∈ nms ns ∧ hnd ns y = h) := by
  induction ns using snoc_ind with
  | h0 => intro y h _; simp [row]
  | hs pre n ih =>
    intro y h nd
    rw [nms_app] at nd
    obtain ⟨nd1, _, dj⟩ := List.nodup_append.mp nd
    have new : n.1 ∉ nms pre := fun q => dj _ q n.1 (by simp) rfl
    rw [row_app, List.mem_append, ih nd1, row_one, nms_app, List.mem_append]
    by_cases e : y ∈ nms pre
    · rw [hnd_l e]
      constructor
      · rintro (h1 | h1)
        · exact ⟨.inl h1.1, h1.2⟩
        · exfalso
          by_cases q : n.2.1 = h
          · rw [if_pos q] at h1
            have q1 : y = n.1 := by simpa using h1
            rw [q1] at e
            exact new e
          · rw [if_neg q] at h1; simp at h1
      · rintro ⟨_, h2⟩
        exact .inl ⟨e, h2⟩
    · by_cases q : y = n.1
      · subst q
        rw [hnd_r new]
        constructor
        · rintro (h1 | h1)
          · exact absurd h1.1 e
          · by_cases q : n.2.1 = h
            · exact ⟨.inr (by simp), q⟩
            · rw [if_neg q] at h1; simp at h1
        · rintro ⟨_, h2⟩
          rw [if_pos h2]
          exact .inr (by simp)
      · constructor
        · rintro (h1 | h1)
          · exact absurd h1.1 e
          · by_cases q2 : n.2.1 = h
            · rw [if_pos q2] at h1; exact absurd (by simpa using h1) q
            · rw [if_neg q2] at h1; simp at h1
        · rintro ⟨h1 | h1, h2⟩
          · exact absurd h1 e
          · exact absurd (by simpa using h1) q
theorem prv_l {pre post : List Note} {y : Str} (nd : (nms (pre ++ post)).Nodup) (h : y ∈ nms pre) : prv (pre ++ post) y = prv pre y := by
  unfold prv
  rw [hnd_l h, row_app]
  have nd1 : (nms pre).Nodup := by rw [nms_app] at nd; exact (List.nodup_append.mp nd).1
  have hy : y ∈ row pre (hnd pre y) := (mem_row nd1).mpr ⟨h, rfl⟩
  rw [idx_app_l hy, List.take_append_of_le_length (Nat.le_of_lt (idx_lt hy))]
theorem prv_r {pre post : List Note} {n : Note} (h : n.1 ∉ nms pre) : prv (pre ++ n :: post) n.1 = lastL (row pre n.2.1) := by
  unfold prv
  rw [hnd_r h]
  have e : row (pre ++ n :: post) n.2.1 = row pre n.2.1 ++ n.1 :: row post n.2.1 := by
    rw [row_app]
    congr 1
    unfold row
    simp
  have hn : n.1 ∉ row pre n.2.1 := fun q => h (row_sub _ _ _ q)
  rw [e, idx_app_r hn]
  congr 1
  simp
theorem ahead_l {pre post : List Note} {y : Str} (nd : (nms (pre ++ post)).Nodup) (h : y ∈ nms pre) : ahead (pre ++ post) y = ahead pre y := by unfold ahead; rw [wts_l h, prv_l nd h]
theorem ahead_mem {ns : List Note} (t : Told ns) : ∀ {y z : Str}, y ∈ nms ns → z ∈ ahead ns y → z ∈ nms ns ∧ (nms ns).idxOf z < (nms ns).idxOf y := by
  induction t with
  | nil => intro y z h; simp at h
  | @snoc pre n h new w ih =>
    intro y z hy hz
    have nd : (nms (pre ++ [n])).Nodup := (Told.snoc h new w).nodup
    rw [nms_app]
    by_cases e : y ∈ nms pre
    · rw [ahead_l nd e] at hz
      obtain ⟨a, b⟩ := ih e hz
      rw [idx_app_l a, idx_app_l e]
      exact ⟨List.mem_append_left _ a, b⟩
    · have ey : y = n.1 := by
        rw [nms_app, List.mem_append] at hy
        rcases hy with hy | hy
        · exact absurd hy e
        · simpa using hy
      subst ey
      have hz2 : z ∈ nms pre := by
        unfold ahead at hz
        rw [wts_r new, prv_r new] at hz
        rcases List.mem_append.mp hz with hz | hz
        · exact w z hz
        · exact row_sub _ _ _ (lastL_mem hz)
      rw [idx_app_l hz2, idx_app_r new]
      have := idx_lt hz2
      exact ⟨List.mem_append_left _ hz2, by omega⟩
/-- one step down -/
theorem und_step {ns : List Note} (t : Told ns) : ∀ {x y : Str}, y ∈ nms ns → (Und ns x y ↔ x = y ∨ ∃ z, z ∈ ahead ns y ∧ Und ns x z) := by
  induction t with
  | nil => intro x y h; simp at h
  | @snoc pre n h new w ih =>
    intro x y hy
    have nd : (nms (pre ++ [n])).Nodup := (Told.snoc h new w).nodup
    have up : ∀ {z : Str}, z ∈ nms pre → (Und (pre ++ [n]) x z ↔ Und pre x z) := fun {z} hz => by
      have hq : z ≠ n.1 := fun q => new (q ▸ hz)
      rw [und_snoc, if_neg hq]
    by_cases e : y = n.1
    · subst e
      rw [und_snoc, if_pos _root_.rfl]
      unfold ahead
      rw [wts_r new, prv_r new]
      refine or_congr Iff.rfl ⟨?_, ?_⟩
      · rintro ⟨z, hz, u⟩
        exact ⟨z, List.mem_append.mpr hz, (up (u.mem h).2).mpr u⟩
      · rintro ⟨z, hz, u⟩
        refine ⟨z, List.mem_append.mp hz, (up ?_).mp u⟩
        rcases List.mem_append.mp hz with hz | hz
        · exact w z hz
        · exact row_sub _ _ _ (lastL_mem hz)
    · have hp : y ∈ nms pre := by
        rw [nms_app, List.mem_append] at hy
        rcases hy with hy | hy
        · exact hy
        · exact absurd (by simpa using hy) e
      rw [up hp, ih hp, ahead_l nd hp]
      refine or_congr Iff.rfl ⟨?_, ?_⟩
      · rintro ⟨z, hz, u⟩
        exact ⟨z, hz, (up (u.mem h).2).mpr u⟩
      · rintro ⟨z, hz, u⟩
        refine ⟨z, hz, ?_⟩
        rw [und_snoc] at u
        by_cases q : z = n.1
        · exfalso
          have hz2 := (ahead_mem h hp hz).1
          rw [q] at hz2
          exact new hz2
        · rw [if_neg q] at u; exact u
end KB

set_option Elab.async false
set_option linter.all false
set_option maxRecDepth 100000
/-! The mathematics, second part: webs and their forms. -/
namespace KB
open PySem PySem.Spec PyProof.Rows
noncomputable def bP (P : Prop) : Bool := @decide P (Classical.propDecidable P)
theorem bP_iff {P : Prop} : bP P = true ↔ P := by unfold bP; exact @decide_eq_true_iff P (Classical.propDecidable P)
theorem bP_congr {P Q : Prop} (h : P ↔ Q) : bP P = bP Q := by rw [propext h]
theorem bP_dec {P : Prop} [Decidable P] : bP P = decide P := by
  by_cases h : P
  · rw [bP_iff.mpr h, decide_eq_true h]
  · have : bP P = false := by
      cases e : bP P with
      | true => exact absurd (bP_iff.mp e) h
      | false => rfl
    rw [this, decide_eq_false h]
theorem bP_of {P : Prop} {b : Bool} (h : b = true ↔ P) : b = bP P := by
  cases b with
  | true => exact (bP_iff.mpr (h.mp rfl)).symm
  | false =>
    cases e : bP P with
    | false => rfl
    | true => exact absurd (h.mpr (bP_iff.mp e)) (by simp)

theorem row_last {ns : List Note} (t : Told ns) : ∀ {x h z : Str}, x ∈ row ns h → lastL (row ns h) = [z] → Und ns x z := by
  induction t with
  | nil => intro x h z hx; simp [row] at hx
  | @snoc pre n h new w ih =>
    intro x hd z hx hz
    rw [row_app, row_one] at hx hz
    by_cases q : n.2.1 = hd
    · rw [if_pos q] at hx hz
      rw [lastL_snoc] at hz
      have ez : z = n.1 := by simpa using hz.symm
      subst ez
      rw [und_snoc, if_pos rfl]
      rcases List.mem_append.mp hx with hx | hx
      · obtain ⟨z', hz'⟩ := lastL_some (fun e => by rw [e] at hx; simp at hx : row pre hd ≠ [])
        refine .inr ⟨z', .inr ?_, ih hx hz'⟩
        rw [q, hz']
        exact List.mem_cons_self
      · exact .inl (by simpa using hx)
    · rw [if_neg q, List.append_nil] at hx hz
      have hz2 : z ∈ nms pre := row_sub _ _ _ (lastL_mem (xs := row pre hd) (by rw [hz]; exact List.mem_cons_self))
      have : z ≠ n.1 := fun e => new (e ▸ hz2)
      rw [und_snoc, if_neg this]
      exact ih hx hz
theorem row_chain {ns : List Note} (t : Told ns) : ∀ {x y : Str}, x ∈ nms ns → y ∈ nms ns → hnd ns x = hnd ns y → (nms ns).idxOf x ≤ (nms ns).idxOf y → Und ns x y := by
  induction t with
  | nil => intro x y hx; simp at hx
  | @snoc pre n h new w ih =>
    intro x y hx hy hh hi
    rw [nms_app] at hx hy hi
    by_cases e : y ∈ nms pre
    · have ny : y ≠ n.1 := fun q => new (q ▸ e)
      rw [und_snoc, if_neg ny]
      have hx' : x ∈ nms pre := by
        by_cases q : x ∈ nms pre
        · exact q
        · rw [idx_app_r q, idx_app_l e] at hi
          have := idx_lt e
          omega
      rw [hnd_l hx', hnd_l e] at hh
      rw [idx_app_l hx', idx_app_l e] at hi
      exact ih hx' e hh hi
    · have ey : y = n.1 := by
        rcases List.mem_append.mp hy with hy | hy
        · exact absurd hy e
        · simpa using hy
      subst ey
      rw [und_snoc, if_pos rfl]
      by_cases q : x ∈ nms pre
      · rw [hnd_l q, hnd_r new] at hh
        have hr : x ∈ row pre n.2.1 := (mem_row h.nodup).mpr ⟨q, hh⟩
        obtain ⟨z, hz⟩ := lastL_some (fun e => by rw [e] at hr; simp at hr : row pre n.2.1 ≠ [])
        exact .inr ⟨z, .inr (by rw [hz]; exact List.mem_cons_self), row_last h hr hz⟩
      · rcases List.mem_append.mp hx with hx | hx
        · exact absurd hx q
        · exact .inl (by simpa using hx)
theorem row_total {ns : List Note} (t : Told ns) {x y : Str} (hx : x ∈ nms ns) (hy : y ∈ nms ns) (hh : hnd ns x = hnd ns y) : Und ns x y ∨ Und ns y x := by
  rcases Nat.le_total ((nms ns).idxOf x) ((nms ns).idxOf y) with h | h
  · exact .inl (row_chain t hx hy hh h)
  · exact .inr (row_chain t hy hx hh.symm h)
/-- the one just ahead: told by what lies under what -/
theorem prv_iff {ns : List Note} (t : Told ns) : ∀ {y z : Str}, y ∈ nms ns → (z ∈ prv ns y ↔ z ∈ nms ns ∧ hnd ns z = hnd ns y ∧ Und ns z y ∧ z ≠ y ∧ ∀ w ∈ nms ns, hnd ns w = hnd ns y → Und ns w y → w ≠ y → Und ns w z) := by
  induction t with
  | nil => intro y z h; simp at h
  | @snoc pre n h new w ih =>
    intro y z hy
    have T : Told (pre ++ [n]) := Told.snoc h new w
    have nd := T.nodup
    have up : ∀ {x z : Str}, z ∈ nms pre → (Und (pre ++ [n]) x z ↔ Und pre x z) := fun {x z} hz => by
      have hq : z ≠ n.1 := fun q => new (q ▸ hz)
      rw [und_snoc, if_neg hq]
    by_cases e : y ∈ nms pre
    · rw [prv_l nd e, ih e]
      constructor
      · rintro ⟨a1, a2, a3, a4, a5⟩
        refine ⟨by rw [nms_app]; exact List.mem_append_left _ a1, by rw [hnd_l a1, hnd_l e]; exact a2, (up e).mpr a3, a4, fun v hv hh hu hne => ?_⟩
        have hv' : v ∈ nms pre := (((up e).mp hu).mem h).1
        rw [hnd_l hv', hnd_l e] at hh
        exact (up a1).mpr (a5 v hv' hh ((up e).mp hu) hne)
      · rintro ⟨a1, a2, a3, a4, a5⟩
        have a3' := (up e).mp a3
        have hz' : z ∈ nms pre := (a3'.mem h).1
        rw [hnd_l hz', hnd_l e] at a2
        refine ⟨hz', a2, a3', a4, fun v hv hh hu hne => (up hz').mp (a5 v (by rw [nms_app]; exact List.mem_append_left _ hv) (by rw [hnd_l hv, hnd_l e]; exact hh) ((up e).mpr hu) hne)⟩
    · have ey : y = n.1 := by
        rw [nms_app] at hy
        rcases List.mem_append.mp hy with hy | hy
        · exact absurd hy e
        · simpa using hy
      subst ey
      rw [prv_r new, hnd_r new]
      have below : ∀ {v : Str}, Und (pre ++ [n]) v n.1 → v ≠ n.1 → v ∈ nms pre := fun {v} hu hne => by
        rw [und_snoc, if_pos rfl] at hu
        rcases hu with hu | ⟨z', _, hu⟩
        · exact absurd hu hne
        · exact (hu.mem h).1
      constructor
      · intro hz
        have hr := lastL_mem hz
        have ez : lastL (row pre n.2.1) = [z] := by
          obtain ⟨z', hz'⟩ := lastL_some (fun e => by rw [e] at hr; simp at hr : row pre n.2.1 ≠ [])
          rw [hz'] at hz
          rw [hz', (by simpa using hz : z = z')]
        have hz' := (mem_row h.nodup).mp hr
        have nz : z ≠ n.1 := fun q => new (q ▸ hz'.1)
        refine ⟨by rw [nms_app]; exact List.mem_append_left _ hz'.1, by rw [hnd_l hz'.1]; exact hz'.2, ?_, nz, fun v hv hh hu hne => ?_⟩
        · rw [und_snoc, if_pos rfl]
          exact .inr ⟨z, .inr hz, Und.rfl h hz'.1⟩
        · have hv' := below hu hne
          rw [hnd_l hv'] at hh
          exact (up hz'.1).mpr (row_last h ((mem_row h.nodup).mpr ⟨hv', hh⟩) ez)
      · rintro ⟨a1, a2, a3, a4, a5⟩
        have hz' := below a3 a4
        rw [hnd_l hz'] at a2
        have hr : z ∈ row pre n.2.1 := (mem_row h.nodup).mpr ⟨hz', a2⟩
        obtain ⟨z', e'⟩ := lastL_some (fun e => by rw [e] at hr; simp at hr : row pre n.2.1 ≠ [])
        have hr' : z' ∈ row pre n.2.1 := lastL_mem (by rw [e']; exact List.mem_cons_self)
        have hz2 := (mem_row h.nodup).mp hr'
        have nz' : z' ≠ n.1 := fun q => new (q ▸ hz2.1)
        have u1 : Und pre z z' := row_last h hr e'
        have u2 : Und pre z' z := (up hz').mp (a5 z' (by rw [nms_app]; exact List.mem_append_left _ hz2.1) (by rw [hnd_l hz2.1]; exact hz2.2) (by
          rw [und_snoc, if_pos rfl]
          exact .inr ⟨z', .inr (by rw [e']; exact List.mem_cons_self), Und.rfl h hz2.1⟩) nz')
        rw [u1.antisymm h u2, e']
        exact List.mem_cons_self
theorem prv_some {ns : List Note} (t : Told ns) : ∀ {w y : Str}, w ∈ nms ns → y ∈ nms ns → hnd ns w = hnd ns y → (nms ns).idxOf w < (nms ns).idxOf y → ∃ z, z ∈ prv ns y := by
  induction t with
  | nil => intro w y h; simp at h
  | @snoc pre n h new wt ih =>
    intro w y hw hy hh hi
    have nd : (nms (pre ++ [n])).Nodup := (Told.snoc h new wt).nodup
    have hi0 := hi
    rw [nms_app] at hi hw hy
    by_cases e : y ∈ nms pre
    · have hw' : w ∈ nms pre := by
        by_cases q : w ∈ nms pre
        · exact q
        · rw [idx_app_r q, idx_app_l e] at hi
          have := idx_lt e
          omega
      rw [hnd_l hw', hnd_l e] at hh
      rw [idx_app_l hw', idx_app_l e] at hi
      rw [prv_l nd e]
      exact ih hw' e hh hi
    · have ey : y = n.1 := by
        rcases List.mem_append.mp hy with hy | hy
        · exact absurd hy e
        · simpa using hy
      subst ey
      rw [prv_r new]
      have hw' : w ∈ nms pre := by
        rcases List.mem_append.mp hw with q | q
        · exact q
        · have : w = n.1 := by simpa using q
          subst this
          omega
      rw [hnd_l hw', hnd_r new] at hh
      have hr : w ∈ row pre n.2.1 := (mem_row h.nodup).mpr ⟨hw', hh⟩
      obtain ⟨z', e'⟩ := lastL_some (fun e => by rw [e] at hr; simp at hr : row pre n.2.1 ≠ [])
      exact ⟨z', by rw [e']; exact List.mem_cons_self⟩

/-! ### what the program computes -/
noncomputable def under (ns : List Note) (y : Str) : List Str := lotOf ((nms ns).filter fun x => bP (Und ns x y))
noncomputable def below (ns : List Note) (y : Str) : List Str := (under ns y).filter fun x => !decide (x = y)
noncomputable def upper (ns : List Note) (xs : List Str) : List Str := lotOf (xs.filter fun o => bP (∀ z ∈ xs, z ≠ o → ¬ Und ns o z))
noncomputable def bare (ns : List Note) (y : Str) : List Str := (upper ns (below ns y)).filter fun x => !decide (x ∈ prv ns y)
noncomputable def whole (ns : List Note) (pp : List Str) : List Str := lotOf ((nms ns).filter fun x => bP (∃ z ∈ pp, Und ns x z))
noncomputable def free (ns : List Note) (rest : List Str) : List Str := rest.filter fun o => bP (∀ z ∈ rest, z ≠ o → ¬ Und ns z o)
noncomputable def ordGo (ns : List Note) : Nat → List Str → List Str
  | 0, _ => []
  | k + 1, rest => match free ns rest with
    | [] => []
    | f :: _ => f :: ordGo ns k (rest.filter fun x => !decide (x = f))
noncomputable def order (ns : List Note) : List Str := ordGo ns (nms ns).length (lotOf (nms ns))
structure Pac where
  hands : List Str
  notes : List Note
  ready : List Str
  paper : List Str
noncomputable def formOf (p : Pac) (W : Str → List Str) (pp : List Str) : Pac := ⟨p.hands, (order p.notes).map fun y => (y, hnd p.notes y, W y), p.ready, pp⟩
noncomputable def fullPac (p : Pac) : Pac := formOf p (below p.notes) (whole p.notes p.paper)
noncomputable def barePac (p : Pac) : Pac := formOf p (bare p.notes) (upper p.notes (whole p.notes p.paper))
noncomputable def freeN (p : Pac) : Nat := ((whole p.notes p.paper).length - (upper p.notes (whole p.notes p.paper)).length) + ((lotOf (nms p.notes)).map fun y => (under p.notes y).length - 1 - (bare p.notes y).length).sum
/-- what makes a web -/
noncomputable def webOf (p : Pac) : List (Str × Str × List Str) := (lotOf (nms p.notes)).map fun y => (y, hnd p.notes y, under p.notes y)

theorem mem_under {ns : List Note} (t : Told ns) {x y : Str} : x ∈ under ns y ↔ Und ns x y := by
  unfold under
  rw [mem_lotOf, List.mem_filter, bP_iff]
  exact ⟨fun h => h.2, fun h => ⟨(h.mem t).1, h⟩⟩
theorem mem_below {ns : List Note} (t : Told ns) {x y : Str} : x ∈ below ns y ↔ Und ns x y ∧ x ≠ y := by
  unfold below
  rw [List.mem_filter, mem_under t]
  simp
theorem mem_upper {ns : List Note} {xs : List Str} {o : Str} : o ∈ upper ns xs ↔ o ∈ xs ∧ ∀ z ∈ xs, z ≠ o → ¬ Und ns o z := by
  unfold upper
  rw [mem_lotOf, List.mem_filter, bP_iff]
theorem mem_bare {ns : List Note} {y o : Str} : o ∈ bare ns y ↔ o ∈ upper ns (below ns y) ∧ o ∉ prv ns y := by
  unfold bare
  rw [List.mem_filter]
  simp
theorem mem_whole {ns : List Note} (t : Told ns) {pp : List Str} {x : Str} : x ∈ whole ns pp ↔ ∃ z ∈ pp, Und ns x z := by
  unfold whole
  rw [mem_lotOf, List.mem_filter, bP_iff]
  exact ⟨fun h => h.2, fun ⟨z, hz, h⟩ => ⟨(h.mem t).1, z, hz, h⟩⟩
theorem asc_under (ns : List Note) (y : Str) : Asc (under ns y) := asc_lotOf _
theorem asc_below (ns : List Note) (y : Str) : Asc (below ns y) := asc_filter _ (asc_under ns y)
theorem asc_upper (ns : List Note) (xs : List Str) : Asc (upper ns xs) := asc_lotOf _
theorem asc_bare (ns : List Note) (y : Str) : Asc (bare ns y) := asc_filter _ (asc_upper _ _)
theorem asc_whole (ns : List Note) (pp : List Str) : Asc (whole ns pp) := asc_lotOf _
/-- above each one an uppermost one -/
theorem upper_above {ns : List Note} (t : Told ns) (xs : List Str) (hs : ∀ x ∈ xs, x ∈ nms ns) : ∀ x ∈ xs, ∃ m ∈ upper ns xs, Und ns x m := by
  have : ∀ k x, (nms ns).length - (nms ns).idxOf x ≤ k → x ∈ xs → ∃ m ∈ upper ns xs, Und ns x m := by
    intro k
    induction k with
    | zero =>
      intro x hk hx
      have := idx_lt (hs x hx)
      omega
    | succ k ih =>
      intro x hk hx
      by_cases h : ∀ z ∈ xs, z ≠ x → ¬ Und ns x z
      · exact ⟨x, mem_upper.mpr ⟨hx, h⟩, Und.rfl t (hs x hx)⟩
      · have ⟨z, hz⟩ := Classical.not_forall.mp h
        have ⟨z1, hz⟩ := Classical.not_imp.mp hz
        have ⟨z2, hz⟩ := Classical.not_imp.mp hz
        have hz := Classical.not_not.mp hz
        have l := hz.le t (Ne.symm z2)
        have l2 := idx_lt (hs z z1)
        obtain ⟨m, m1, m2⟩ := ih z (by omega) z1
        exact ⟨m, m1, hz.trans t m2⟩
  exact fun x hx => this _ x (Nat.le_refl _) hx
/-- what was told anew with enough waits and not too many -/
theorem retell {ns ms : List Note} (t : Told ns) (t2 : Told ms) (hn : ∀ y, y ∈ nms ms ↔ y ∈ nms ns) (hh : ∀ y ∈ nms ns, hnd ms y = hnd ns y) (lin : ∀ x y, Und ns x y → x ≠ y → (nms ms).idxOf x < (nms ms).idxOf y)
    (w1 : ∀ y ∈ nms ns, ∀ z ∈ wts ms y, Und ns z y) (w2 : ∀ y ∈ nms ns, ∀ z ∈ bare ns y, z ∈ wts ms y) : ∀ x y, Und ms x y ↔ Und ns x y := by
  have fwd : ∀ k x y, (nms ms).idxOf y < k → Und ms x y → Und ns x y := by
    intro k
    induction k with
    | zero => intro x y h; omega
    | succ k ih =>
      intro x y hk u
      have hy := (u.mem t2).2
      have hy' := (hn y).mp hy
      rcases (und_step t2 hy).mp u with rfl | ⟨z, hz, u2⟩
      · exact Und.rfl t hy'
      · have hz2 := ahead_mem t2 hy hz
        have hx := ih x z (by omega) u2
        refine hx.trans t ?_
        rcases List.mem_append.mp hz with hz | hz
        · exact w1 y hy' z hz
        · have hz3 := ((prv_iff t2 hy).mp hz)
          have hzn := (hn z).mp hz3.1
          have e : hnd ns z = hnd ns y := by rw [← hh z hzn, ← hh y hy']; exact hz3.2.1
          rcases row_total t hzn hy' e with r | r
          · exact r
          · have := lin y z r (Ne.symm hz3.2.2.2.1)
            omega
  have fwd' : ∀ x y, Und ms x y → Und ns x y := fun x y u => fwd _ x y (Nat.lt_succ_self _) u
  have bwd : ∀ k x y, (nms ns).idxOf y < k → Und ns x y → Und ms x y := by
    intro k
    induction k with
    | zero => intro x y h; omega
    | succ k ih =>
      intro x y hk u
      have hy := (u.mem t).2
      have hy' := (hn y).mpr hy
      by_cases e : x = y
      · subst e; exact Und.rfl t2 hy'
      · obtain ⟨m, m1, m2⟩ := upper_above t (below ns y) (fun z hz => (((mem_below t).mp hz).1.mem t).1) x ((mem_below t).mpr ⟨u, e⟩)
        have mb := (mem_below t).mp (mem_upper.mp m1).1
        have hm := (mb.1.mem t).1
        have hm' := (hn m).mpr hm
        have lm := mb.1.le t mb.2
        have um := ih x m (by omega) m2
        refine (und_step t2 hy').mpr (.inr ⟨m, ?_, um⟩)
        by_cases q : m ∈ prv ns y
        · refine List.mem_append_right _ ?_
          have qq := (prv_iff t hy).mp q
          have l2 := lin m y mb.1 mb.2
          have eh : hnd ms m = hnd ms y := by rw [hh m hm, hh y hy]; exact qq.2.1
          obtain ⟨z, hz⟩ := prv_some t2 hm' hy' eh l2
          have zz := (prv_iff t2 hy').mp hz
          have u1 : Und ms m y := row_chain t2 hm' hy' eh (Nat.le_of_lt l2)
          have u2 : Und ns m z := fwd' m z (zz.2.2.2.2 m hm' eh u1 mb.2)
          have hzn := (hn z).mp zz.1
          have u3 : Und ns z m := qq.2.2.2.2 z hzn (by rw [← hh z hzn, ← hh y hy]; exact zz.2.1) (fwd' z y zz.2.2.1) zz.2.2.2.1
          rw [u2.antisymm t u3]
          exact hz
        · exact List.mem_append_left _ (w2 y hy m (mem_bare.mpr ⟨m1, q⟩))
  exact fun x y => ⟨fwd' x y, bwd _ x y (Nat.lt_succ_self _)⟩

/-! ### the least order -/
theorem free_ne {ns : List Note} (t : Told ns) {rest : List Str} (hs : ∀ x ∈ rest, x ∈ nms ns) (h : rest ≠ []) : free ns rest ≠ [] := by
  have : ∀ k x, (nms ns).idxOf x < k → x ∈ rest → ∃ m, m ∈ free ns rest := by
    intro k
    induction k with
    | zero => intro x h; omega
    | succ k ih =>
      intro x hk hx
      by_cases q : ∀ z ∈ rest, z ≠ x → ¬ Und ns z x
      · exact ⟨x, List.mem_filter.mpr ⟨hx, bP_iff.mpr q⟩⟩
      · have ⟨z, hz⟩ := Classical.not_forall.mp q
        have ⟨z1, hz⟩ := Classical.not_imp.mp hz
        have ⟨z2, hz⟩ := Classical.not_imp.mp hz
        have hz := Classical.not_not.mp hz
        have l := hz.le t z2
        exact ih z (by omega) z1
  cases rest with
  | nil => exact absurd rfl h
  | cons x r =>
    obtain ⟨m, hm⟩ := this _ x (Nat.lt_succ_self _) List.mem_cons_self
    exact fun e => by rw [e] at hm; simp at hm
theorem len_filter_ne {f : Str} : ∀ {rest : List Str}, rest.Nodup → f ∈ rest → (rest.filter fun x => !decide (x = f)).length + 1 = rest.length
  | [], _, h => by simp at h
  | x :: r, nd, h => by
    obtain ⟨n1, n2⟩ := List.nodup_cons.mp nd
    by_cases e : x = f
    · subst e
      have : (r.filter fun y => !decide (y = x)) = r := by
        rw [List.filter_eq_self]
        intro y hy
        have : y ≠ x := fun q => n1 (q ▸ hy)
        simp [this]
      rw [List.filter_cons, this]
      simp
    · have h' : f ∈ r := by
        rcases List.mem_cons.mp h with q | q
        · exact absurd q.symm e
        · exact q
      have := len_filter_ne n2 h'
      rw [List.filter_cons]
      simp [e]
      omega
theorem ordGo_ok {ns : List Note} (t : Told ns) : ∀ (k : Nat) (rest : List Str), (∀ x ∈ rest, x ∈ nms ns) → rest.Nodup → rest.length = k →
    (ordGo ns k rest).Nodup ∧ (∀ x, x ∈ ordGo ns k rest ↔ x ∈ rest) ∧ ∀ x y, x ∈ rest → y ∈ rest → Und ns x y → x ≠ y → (ordGo ns k rest).idxOf x < (ordGo ns k rest).idxOf y
  | 0, rest, _, _, hl => by
    have : rest = [] := List.length_eq_zero_iff.mp hl
    subst this
    exact ⟨List.nodup_nil, fun x => by simp [ordGo], fun x y hx => by simp at hx⟩
  | k + 1, rest, hs, nd, hl => by
    have hne : rest ≠ [] := fun e => by rw [e] at hl; simp at hl
    cases e : free ns rest with
    | nil => exact absurd e (free_ne t hs hne)
    | cons f r =>
      have hf : f ∈ free ns rest := by rw [e]; exact List.mem_cons_self
      obtain ⟨hf1, hf2⟩ := List.mem_filter.mp hf
      have hf2 := bP_iff.mp hf2
      have hl2 := len_filter_ne nd hf1
      obtain ⟨i1, i2, i3⟩ := ordGo_ok t k (rest.filter fun x => !decide (x = f)) (fun x hx => hs x (List.mem_filter.mp hx).1) (nd.filter _) (by omega)
      have eo : ordGo ns (k + 1) rest = f :: ordGo ns k (rest.filter fun x => !decide (x = f)) := by
        show (match free ns rest with | [] => [] | f :: _ => f :: ordGo ns k (rest.filter fun x => !decide (x = f))) = _
        rw [e]
      rw [eo]
      refine ⟨List.nodup_cons.mpr ⟨fun h => ?_, i1⟩, fun x => ?_, fun x y hx hy u ne => ?_⟩
      · have := (i2 f).mp h
        simp at this
      · rw [List.mem_cons, i2, List.mem_filter]
        constructor
        · rintro (rfl | h)
          · exact hf1
          · exact h.1
        · intro h
          by_cases q : x = f
          · exact .inl q
          · exact .inr ⟨h, by simp [q]⟩
      · have hy2 : y ≠ f := fun q => hf2 x hx (fun z => ne (z.trans q.symm)) (q ▸ u)
        have hy3 : y ∈ rest.filter fun x => !decide (x = f) := List.mem_filter.mpr ⟨hy, by simp [hy2]⟩
        rw [List.idxOf_cons, List.idxOf_cons]
        have b1 : (f == y) = false := beq_eq_false_iff_ne.mpr (Ne.symm hy2)
        rw [b1]
        by_cases q : x = f
        · subst q
          simp
        · have b2 : (f == x) = false := beq_eq_false_iff_ne.mpr (Ne.symm q)
          rw [b2]
          have := i3 x y (List.mem_filter.mpr ⟨hx, by simp [q]⟩) hy3 u ne
          simpa using this
theorem nodup_lot_len {xs : List Str} (h : xs.Nodup) : (lotOf xs).length = xs.length := by
  have p : (lotOf xs).Perm xs := by
    rw [List.perm_iff_count]
    intro a
    by_cases q : a ∈ xs
    · rw [List.Nodup.count h, List.Nodup.count (asc_nodup (asc_lotOf xs)), if_pos q, if_pos (mem_lotOf.mpr q)]
    · rw [List.count_eq_zero_of_not_mem q, List.count_eq_zero_of_not_mem (fun z => q (mem_lotOf.mp z))]
  exact p.length_eq
theorem order_ok {ns : List Note} (t : Told ns) : (order ns).Nodup ∧ (∀ x, x ∈ order ns ↔ x ∈ nms ns) ∧ ∀ x y, Und ns x y → x ≠ y → (order ns).idxOf x < (order ns).idxOf y := by
  obtain ⟨a, b, c⟩ := ordGo_ok t (nms ns).length (lotOf (nms ns)) (fun x hx => mem_lotOf.mp hx) (asc_nodup (asc_lotOf _)) (nodup_lot_len t.nodup)
  exact ⟨a, fun x => (b x).trans mem_lotOf, fun x y u ne => c x y (mem_lotOf.mpr (u.mem t).1) (mem_lotOf.mpr (u.mem t).2) u ne⟩
end KB

set_option Elab.async false
set_option linter.all false
set_option maxRecDepth 100000
/-! The mathematics, third part: valid pacts, webs alike. -/
namespace KB
open PySem PySem.Spec PyProof.Rows
/-- one to eight small letters -/
def NameOk (x : Str) : Prop := 1 ≤ x.cps.size ∧ x.cps.size ≤ 8 ∧ ∀ c ∈ x.cps.toList, 97 ≤ c ∧ c ≤ 122
structure Val (p : Pac) : Prop where
  told : Told p.notes
  h2 : 2 ≤ p.hands.length
  h6 : p.hands.length ≤ 6
  hnd : p.hands.Nodup
  hok : ∀ h ∈ p.hands, NameOk h
  n2 : 2 ≤ p.notes.length
  n40 : p.notes.length ≤ 40
  nok : ∀ n ∈ p.notes, NameOk n.1 ∧ n.2.1 ∈ p.hands ∧ Asc n.2.2
  rlen : p.ready.length = p.hands.length
  rok : ∀ (i : Nat) (r h : Str), p.ready[i]? = some r → p.hands[i]? = some h → r ∈ nms p.notes ∧ KB.hnd p.notes r = h
  pasc : Asc p.paper
  pin : ∀ z ∈ p.paper, z ∈ nms p.notes
  cov : ∀ h ∈ p.hands, ∃ y ∈ nms p.notes, KB.hnd p.notes y = h ∧ ∃ z ∈ p.paper, Und p.notes y z
/-- notes with names in some order, hands and waits told -/
abbrev mkN (xs : List Str) (h : Str → Str) (w : Str → List Str) : List Note := xs.map fun y => (y, h y, w y)
theorem nms_mkN (xs : List Str) (h : Str → Str) (w : Str → List Str) : nms (mkN xs h w) = xs := by
  unfold nms mkN
  rw [List.map_map]
  exact List.map_id _
theorem find_mkN {xs : List Str} {h : Str → Str} {w : Str → List Str} {y : Str} (hy : y ∈ xs) : (mkN xs h w).find? (fun n => decide (n.1 = y)) = some (y, h y, w y) := by
  induction xs with
  | nil => simp at hy
  | cons x xs ih =>
    unfold mkN
    rw [List.map_cons, List.find?_cons]
    by_cases e : x = y
    · subst e; simp
    · have : decide (x = y) = false := decide_eq_false e
      simp only [this]
      refine ih ?_
      rcases List.mem_cons.mp hy with q | q
      · exact absurd q.symm e
      · exact q
theorem hnd_mkN {xs : List Str} {h : Str → Str} {w : Str → List Str} {y : Str} (hy : y ∈ xs) : hnd (mkN xs h w) y = h y := by unfold hnd; rw [find_mkN hy]; rfl
theorem wts_mkN {xs : List Str} {h : Str → Str} {w : Str → List Str} {y : Str} (hy : y ∈ xs) : wts (mkN xs h w) y = w y := by unfold wts; rw [find_mkN hy]; rfl
theorem told_mkN {xs : List Str} {h : Str → Str} {w : Str → List Str} (nd : xs.Nodup) (hw : ∀ y ∈ xs, ∀ z ∈ w y, z ∈ xs ∧ xs.idxOf z < xs.idxOf y) : Told (mkN xs h w) := by
  induction xs using snoc_ind with
  | h0 => exact .nil
  | hs xs x ih =>
    obtain ⟨nd1, _, dj⟩ := List.nodup_append.mp nd
    have nx : x ∉ xs := fun q => dj _ q x (by simp) rfl
    have low : ∀ {y z : Str}, y ∈ xs → z ∈ xs ++ [x] → (xs ++ [x]).idxOf z < (xs ++ [x]).idxOf y → z ∈ xs ∧ xs.idxOf z < xs.idxOf y := fun {y z} hy hz hl => by
      rw [idx_app_l hy] at hl
      by_cases q : z ∈ xs
      · rw [idx_app_l q] at hl; exact ⟨q, hl⟩
      · rw [idx_app_r q] at hl
        have := idx_lt hy
        omega
    have e : mkN (xs ++ [x]) h w = mkN xs h w ++ [(x, h x, w x)] := by simp [mkN]
    rw [e]
    refine .snoc (ih nd1 fun y hy z hz => ?_) (by rw [nms_mkN]; exact nx) fun z hz => ?_
    · obtain ⟨a, b⟩ := hw y (List.mem_append_left _ hy) z hz
      exact low hy a b
    · rw [nms_mkN]
      obtain ⟨a, b⟩ := hw x (by simp) z hz
      rcases List.mem_append.mp a with q | q
      · exact q
      · have : z = x := by simpa using q
        subst this
        omega
/-- two pacts that differ only in how they are told -/
structure SameW (p q : Pac) : Prop where
  hands : p.hands = q.hands
  ready : p.ready = q.ready
  nm : ∀ y, y ∈ nms p.notes ↔ y ∈ nms q.notes
  hd : ∀ y ∈ nms p.notes, hnd p.notes y = hnd q.notes y
  und : ∀ x y, Und p.notes x y ↔ Und q.notes x y
  whole : whole p.notes p.paper = whole q.notes q.paper
theorem SameW.refl (p : Pac) : SameW p p := ⟨rfl, rfl, fun _ => Iff.rfl, fun _ _ => rfl, fun _ _ => Iff.rfl, rfl⟩
theorem SameW.symm {p q : Pac} (s : SameW p q) : SameW q p := ⟨s.hands.symm, s.ready.symm, fun y => (s.nm y).symm, fun y hy => (s.hd y ((s.nm y).mpr hy)).symm, fun x y => (s.und x y).symm, s.whole.symm⟩
theorem SameW.trans {p q r : Pac} (s : SameW p q) (u : SameW q r) : SameW p r :=
  ⟨s.hands.trans u.hands, s.ready.trans u.ready, fun y => (s.nm y).trans (u.nm y), fun y hy => (s.hd y hy).trans (u.hd y ((s.nm y).mp hy)), fun x y => (s.und x y).trans (u.und x y), s.whole.trans u.whole⟩
section
variable {ns ms : List Note}
theorem under_same (t : Told ns) (t2 : Told ms) (h : ∀ x y, Und ns x y ↔ Und ms x y) (y : Str) : under ns y = under ms y := asc_uniq (asc_under _ _) (asc_under _ _) fun z => by rw [mem_under t, mem_under t2]; exact h z y
theorem below_same (t : Told ns) (t2 : Told ms) (h : ∀ x y, Und ns x y ↔ Und ms x y) (y : Str) : below ns y = below ms y := by unfold below; rw [under_same t t2 h]
theorem upper_same (h : ∀ x y, Und ns x y ↔ Und ms x y) (xs : List Str) : upper ns xs = upper ms xs := asc_uniq (asc_upper _ _) (asc_upper _ _) fun z => by
  rw [mem_upper, mem_upper]
  refine and_congr Iff.rfl ?_
  constructor
  · exact fun q w hw ne u => q w hw ne ((h _ _).mpr u)
  · exact fun q w hw ne u => q w hw ne ((h _ _).mp u)
theorem prv_same (t : Told ns) (t2 : Told ms) (hn : ∀ y, y ∈ nms ns ↔ y ∈ nms ms) (hd : ∀ y ∈ nms ns, hnd ns y = hnd ms y) (h : ∀ x y, Und ns x y ↔ Und ms x y) {y z : Str} (hy : y ∈ nms ns) : z ∈ prv ns y ↔ z ∈ prv ms y := by
  rw [prv_iff t hy, prv_iff t2 ((hn y).mp hy)]
  constructor
  · rintro ⟨a1, a2, a3, a4, a5⟩
    exact ⟨(hn z).mp a1, by rw [← hd z a1, ← hd y hy]; exact a2, (h _ _).mp a3, a4, fun w hw hh u ne => (h _ _).mp (a5 w ((hn w).mpr hw) (by rw [hd w ((hn w).mpr hw), hd y hy]; exact hh) ((h _ _).mpr u) ne)⟩
  · rintro ⟨a1, a2, a3, a4, a5⟩
    have a1' := (hn z).mpr a1
    exact ⟨a1', by rw [hd z a1', hd y hy]; exact a2, (h _ _).mpr a3, a4, fun w hw hh u ne => (h _ _).mpr (a5 w ((hn w).mp hw) (by rw [← hd w hw, ← hd y hy]; exact hh) ((h _ _).mp u) ne)⟩
theorem bare_same (t : Told ns) (t2 : Told ms) (hn : ∀ y, y ∈ nms ns ↔ y ∈ nms ms) (hd : ∀ y ∈ nms ns, hnd ns y = hnd ms y) (h : ∀ x y, Und ns x y ↔ Und ms x y) {y : Str} (hy : y ∈ nms ns) : bare ns y = bare ms y := by
  unfold bare
  rw [below_same t t2 h, upper_same h]
  apply List.filter_congr
  intro x _
  have := prv_same t t2 hn hd h hy (z := x)
  by_cases q : x ∈ prv ns y
  · simp [q, this.mp q]
  · have q' : x ∉ prv ms y := fun z => q (this.mpr z)
    simp [q, q']
theorem free_same (h : ∀ x y, Und ns x y ↔ Und ms x y) (rest : List Str) : free ns rest = free ms rest := by
  unfold free
  apply List.filter_congr
  intro x _
  apply bP_congr
  constructor
  · exact fun q w hw ne u => q w hw ne ((h _ _).mpr u)
  · exact fun q w hw ne u => q w hw ne ((h _ _).mp u)
theorem ordGo_same (h : ∀ x y, Und ns x y ↔ Und ms x y) : ∀ (k : Nat) (rest : List Str), ordGo ns k rest = ordGo ms k rest
  | 0, _ => rfl
  | k + 1, rest => by
    show (match free ns rest with | [] => [] | f :: _ => f :: ordGo ns k (rest.filter fun x => !decide (x = f))) = (match free ms rest with | [] => [] | f :: _ => f :: ordGo ms k (rest.filter fun x => !decide (x = f)))
    rw [free_same h]
    cases free ms rest with
    | nil => rfl
    | cons f r => show f :: _ = f :: _; rw [ordGo_same h k]
theorem order_same (t : Told ns) (t2 : Told ms) (hn : ∀ y, y ∈ nms ns ↔ y ∈ nms ms) (h : ∀ x y, Und ns x y ↔ Und ms x y) : order ns = order ms := by
  unfold order
  rw [lot_eq hn, ordGo_same h, ← nodup_lot_len t.nodup, ← nodup_lot_len t2.nodup, lot_eq hn]
end
theorem SameW.under {p q : Pac} (s : SameW p q) (v : Val p) (v2 : Val q) (y : Str) : under p.notes y = KB.under q.notes y := under_same v.told v2.told s.und y
theorem SameW.lot {p q : Pac} (s : SameW p q) : lotOf (nms p.notes) = lotOf (nms q.notes) := lot_eq s.nm
theorem mkN_congr {xs : List Str} {h h2 : Str → Str} {w w2 : Str → List Str} (e1 : ∀ y ∈ xs, h y = h2 y) (e2 : ∀ y ∈ xs, w y = w2 y) : mkN xs h w = mkN xs h2 w2 := List.map_congr_left fun y hy => by rw [e1 y hy, e2 y hy]
theorem SameW.full {p q : Pac} (s : SameW p q) (v : Val p) (v2 : Val q) : fullPac p = fullPac q := by
  unfold fullPac formOf
  rw [order_same v.told v2.told s.nm s.und, s.hands, s.ready, s.whole]
  congr 1
  exact mkN_congr (fun y hy => s.hd y ((s.nm y).mpr ((order_ok v2.told).2.1 y |>.mp hy))) fun y _ => below_same v.told v2.told s.und y
theorem SameW.bareE {p q : Pac} (s : SameW p q) (v : Val p) (v2 : Val q) : barePac p = barePac q := by
  unfold barePac formOf
  rw [order_same v.told v2.told s.nm s.und, s.hands, s.ready, s.whole, upper_same s.und]
  congr 1
  have hm : ∀ y ∈ order q.notes, y ∈ nms p.notes := fun y hy => (s.nm y).mpr ((order_ok v2.told).2.1 y |>.mp hy)
  exact mkN_congr (fun y hy => s.hd y (hm y hy)) fun y hy => bare_same v.told v2.told s.nm s.hd s.und (hm y hy)
theorem SameW.count {p q : Pac} (s : SameW p q) (v : Val p) (v2 : Val q) : freeN p = freeN q := by
  unfold freeN
  rw [s.whole, upper_same s.und, s.lot]
  congr 2
  refine List.map_congr_left fun y hy => ?_
  have hy' : y ∈ nms p.notes := (s.nm y).mpr (mem_lotOf.mp hy)
  rw [s.under v v2, bare_same v.told v2.told s.nm s.hd s.und hy']
theorem SameW.web {p q : Pac} (s : SameW p q) (v : Val p) (v2 : Val q) : webOf p = webOf q := by
  unfold webOf
  rw [s.lot]
  exact List.map_congr_left fun y hy => by rw [s.hd y ((s.nm y).mpr (mem_lotOf.mp hy)), s.under v v2]
theorem mkN_inj {xs ys : List Str} {h h2 : Str → Str} {w w2 : Str → List Str} (e : mkN xs h w = mkN ys h2 w2) : xs = ys ∧ (∀ y ∈ xs, h y = h2 y) ∧ ∀ y ∈ xs, w y = w2 y := by
  have e1 : xs = ys := by rw [← nms_mkN xs h w, e, nms_mkN]
  subst e1
  refine ⟨rfl, fun y hy => ?_, fun y hy => ?_⟩
  · rw [← hnd_mkN (h := h) (w := w) hy, e, hnd_mkN hy]
  · rw [← wts_mkN (h := h) (w := w) hy, e, wts_mkN hy]
/-- the web tells it -/
theorem same_of_web {p q : Pac} (v : Val p) (v2 : Val q) (h1 : p.hands = q.hands) (h2 : webOf p = webOf q) (h3 : p.ready = q.ready) (h4 : whole p.notes p.paper = whole q.notes q.paper) : SameW p q := by
  obtain ⟨e1, e2, e3⟩ := mkN_inj h2
  have nm : ∀ y, y ∈ nms p.notes ↔ y ∈ nms q.notes := fun y => by rw [← mem_lotOf, e1, mem_lotOf]
  refine ⟨h1, h3, nm, fun y hy => e2 y (mem_lotOf.mpr hy), fun x y => ?_, h4⟩
  have key : ∀ y, y ∈ nms p.notes → (Und p.notes x y ↔ Und q.notes x y) := fun y hy => by
    rw [← mem_under v.told, ← mem_under v2.told, e3 y (mem_lotOf.mpr hy)]
  constructor
  · exact fun u => (key y (u.mem v.told).2).mp u
  · exact fun u => (key y ((nm y).mpr (u.mem v2.told).2)).mpr u
/-- any telling of the web is a pact of it -/
theorem retold {p : Pac} (v : Val p) {xs : List Str} {W : Str → List Str} {pp : List Str} (nd : xs.Nodup) (hm : ∀ x, x ∈ xs ↔ x ∈ nms p.notes) (lin : ∀ x y, Und p.notes x y → x ≠ y → xs.idxOf x < xs.idxOf y)
    (wa : ∀ y ∈ nms p.notes, Asc (W y)) (w1 : ∀ y ∈ nms p.notes, ∀ z ∈ W y, z ∈ below p.notes y) (w2 : ∀ y ∈ nms p.notes, ∀ z ∈ bare p.notes y, z ∈ W y)
    (pa : Asc pp) (p1 : ∀ z ∈ pp, z ∈ whole p.notes p.paper) (p2 : ∀ z ∈ upper p.notes (whole p.notes p.paper), z ∈ pp) : Val ⟨p.hands, mkN xs (hnd p.notes) W, p.ready, pp⟩ ∧ SameW p ⟨p.hands, mkN xs (hnd p.notes) W, p.ready, pp⟩ := by
  have t := v.told
  have wb : ∀ y ∈ xs, ∀ z ∈ W y, Und p.notes z y ∧ z ≠ y := fun y hy z hz => (mem_below t).mp (w1 y ((hm y).mp hy) z hz)
  have t2 : Told (mkN xs (hnd p.notes) W) := told_mkN nd fun y hy z hz => by
    obtain ⟨u, ne⟩ := wb y hy z hz
    exact ⟨(hm z).mpr (u.mem t).1, lin z y u ne⟩
  have nm2 : ∀ y, y ∈ nms (mkN xs (hnd p.notes) W) ↔ y ∈ nms p.notes := fun y => by rw [nms_mkN]; exact hm y
  have hd2 : ∀ y ∈ nms p.notes, hnd (mkN xs (hnd p.notes) W) y = hnd p.notes y := fun y hy => hnd_mkN ((hm y).mpr hy)
  have un : ∀ x y, Und (mkN xs (hnd p.notes) W) x y ↔ Und p.notes x y := retell t t2 nm2 hd2 (fun x y u ne => by rw [nms_mkN]; exact lin x y u ne)
    (fun y hy z hz => by rw [wts_mkN ((hm y).mpr hy)] at hz; exact (wb y ((hm y).mpr hy) z hz).1) (fun y hy z hz => by rw [wts_mkN ((hm y).mpr hy)]; exact w2 y hy z hz)
  have len : xs.length = p.notes.length := by
    have : xs.Perm (nms p.notes) := by
      rw [List.perm_iff_count]
      intro a
      by_cases q : a ∈ xs
      · rw [List.Nodup.count nd, List.Nodup.count t.nodup, if_pos q, if_pos ((hm a).mp q)]
      · rw [List.count_eq_zero_of_not_mem q, List.count_eq_zero_of_not_mem (fun z => q ((hm a).mpr z))]
    rw [this.length_eq, List.length_map]
  have wh : whole p.notes p.paper = whole (mkN xs (hnd p.notes) W) pp := asc_uniq (asc_whole _ _) (asc_whole _ _) fun x => by
    rw [mem_whole t2]
    constructor
    · intro hx
      obtain ⟨m, m1, m2⟩ := upper_above t (whole p.notes p.paper) (fun z hz => by obtain ⟨_, _, u⟩ := (mem_whole t).mp hz; exact (u.mem t).1) x hx
      exact ⟨m, p2 m m1, (un _ _).mpr m2⟩
    · rintro ⟨z, hz, u⟩
      obtain ⟨z', hz', u'⟩ := (mem_whole t).mp (p1 z hz)
      exact (mem_whole t).mpr ⟨z', hz', ((un _ _).mp u).trans t u'⟩
  refine ⟨⟨t2, v.h2, v.h6, v.hnd, v.hok, ?_, ?_, fun n hn => ?_, v.rlen, fun i r h hr hh => ?_, pa, fun z hz => ?_, fun h hh => ?_⟩, rfl, rfl, fun y => (nm2 y).symm, fun y hy => (hd2 y hy).symm, fun x y => (un x y).symm, wh⟩
  · show 2 ≤ (mkN xs (hnd p.notes) W).length
    rw [List.length_map, len]; exact v.n2
  · show (mkN xs (hnd p.notes) W).length ≤ 40
    rw [List.length_map, len]; exact v.n40
  · obtain ⟨y, hy, rfl⟩ := List.mem_map.mp hn
    have hy' := (hm y).mp hy
    obtain ⟨n, hn, e⟩ := List.mem_map.mp hy'
    have nk := v.nok n hn
    refine ⟨e ▸ nk.1, ?_, wa y hy'⟩
    show hnd p.notes y ∈ p.hands
    unfold hnd
    cases q : p.notes.find? (fun n => decide (n.1 = y)) with
    | none =>
      rw [List.find?_eq_none] at q
      exact absurd (by simpa using e) (q n hn)
    | some m => exact (v.nok m (List.mem_of_find?_eq_some q)).2.1
  · obtain ⟨a, b⟩ := v.rok i r h hr hh
    exact ⟨(nm2 r).mpr a, (hd2 r a).trans b⟩
  · obtain ⟨z', _, u⟩ := (mem_whole t).mp (p1 z hz)
    exact (nm2 z).mpr (u.mem t).1
  · obtain ⟨y, hy, e, z, hz, u⟩ := v.cov h hh
    refine ⟨y, (nm2 y).mpr hy, (hd2 y hy).trans e, ?_⟩
    have hw : y ∈ whole p.notes p.paper := (mem_whole t).mpr ⟨z, hz, u⟩
    rw [wh] at hw
    exact (mem_whole t2).mp hw
theorem upper_sub {ns : List Note} {xs : List Str} {z : Str} (h : z ∈ upper ns xs) : z ∈ xs := (mem_upper.mp h).1
theorem bare_sub {ns : List Note} {y z : Str} (h : z ∈ bare ns y) : z ∈ below ns y := upper_sub (mem_bare.mp h).1
theorem full_ok {p : Pac} (v : Val p) : Val (fullPac p) ∧ SameW p (fullPac p) := by
  obtain ⟨a, b, c⟩ := order_ok v.told
  exact retold v a b c (fun y _ => asc_below _ _) (fun y _ z hz => hz) (fun y _ z hz => bare_sub hz) (asc_whole _ _) (fun z hz => hz) fun z hz => upper_sub hz
theorem bare_ok {p : Pac} (v : Val p) : Val (barePac p) ∧ SameW p (barePac p) := by
  obtain ⟨a, b, c⟩ := order_ok v.told
  exact retold v a b c (fun y _ => asc_bare _ _) (fun y _ z hz => bare_sub hz) (fun y _ z hz => hz) (asc_upper _ _) (fun z hz => upper_sub hz) fun z hz => hz
theorem full_iff {p q : Pac} (v : Val p) (v2 : Val q) : fullPac p = fullPac q ↔ SameW p q := by
  constructor
  · intro e
    have a := (full_ok v).2
    rw [e] at a
    exact a.trans (full_ok v2).2.symm
  · exact fun s => s.full v v2
theorem bare_iff {p q : Pac} (v : Val p) (v2 : Val q) : barePac p = barePac q ↔ SameW p q := by
  constructor
  · intro e
    have a := (bare_ok v).2
    rw [e] at a
    exact a.trans (bare_ok v2).2.symm
  · exact fun s => s.bareE v v2
theorem web_iff {p q : Pac} (v : Val p) (v2 : Val q) : (p.hands = q.hands ∧ webOf p = webOf q ∧ p.ready = q.ready ∧ whole p.notes p.paper = whole q.notes q.paper) ↔ SameW p q :=
  ⟨fun ⟨a, b, c, d⟩ => same_of_web v v2 a b c d, fun s => ⟨s.hands, s.web v v2, s.ready, s.whole⟩⟩
theorem bare_full {p : Pac} (v : Val p) : fullPac p = fullPac (barePac (fullPac p)) := ((full_ok v).2.trans (bare_ok (full_ok v).1).2).full v (bare_ok (full_ok v).1).1
end KB

set_option Elab.async false
set_option linter.all false
set_option maxRecDepth 100000
set_option maxHeartbeats 4000000
/-! The program's defs: words, told notes. -/
namespace KB
open PySem PySem.Spec PyProof.Rows L2
section
variable {K : PySem.W.Frag} {σ : L2.St} {G G2 H : Hp} {te : TE}
theorem all_true {n : Nat} {f : Nat → PyData} (h : ∀ i, i < n → f i = .bool true) : ((List.range n).filter fun _ => true).map f = (List.replicate n true).map PyData.bool := by
  rw [List.filter_eq_self.mpr (fun _ _ => rfl)]
  refine List.ext_getElem (by simp) fun i h1 h2 => ?_
  simp only [List.getElem_map, List.getElem_range, List.getElem_replicate]
  exact h i (by simpa using h1)
theorem et_yes : Et tYes σ G true := fun G1 H u s Q k => k true G1 H (.refl s) rfl
/-- all([.. for ..]), where each holds -/
theorem ed_allT {wi : TI} {g : TG} {vs : List Nat} {T : Nat → RP} {n : Nat} (src : SrcI wi σ G n T) (hn : n ≤ 1000000)
    (turn : ∀ i G1 x, i < n → Same G G1 → T i x G1 → ∃ σ2, Tg g x (wipe σ vs) G1 σ2 ∧ wipe σ2 vs = wipe σ vs ∧ EvS te σ2 G1 (D K (.bool true))) :
    EvS (tCB (rAll K) (tCons (tLc wi g tYes te vs) tNil)) σ G (D K (.bool true)) := by
  have h := en_lcD (tt := tYes) (fun _ => true) (fun _ => .bool true) src hn fun i G1 x hi u hT => by
    obtain ⟨σ2, h1, h2, h3⟩ := turn i G1 x hi u hT
    exact ⟨σ2, h1, h2, et_yes, fun _ => ⟨rfl, h3⟩⟩
  rw [all_true (fun _ _ => rfl)] at h
  have h2 := ed_all h.d
  exact h2.to (by simp)
end
section
variable {P : Program} {w : World} {K : PySem.W.Frag} {mg : Str → Option Value} {base : Heap}
abbrev R_true (K : PySem.W.Frag) : RP := D K (.bool true)
def sp_is_text (K : PySem.W.Frag) : Sp := SpG (Γ := Str) (fun x => [D K (.str x)]) (fun _ => True) fun _ => D K (.bool true)
abbrev s_is_text : Stmt := top 7
abbrev N_is_text : List Str := ["value"]
theorem sc_is_text : FnScope N_is_text ["value"] (defScope s_is_text) := ⟨rfl, rfl, rfl, by decide +kernel, rfl, by decide +kernel, by decide +kernel⟩
theorem ok_is_text {f : Addr} {fd : FuncData} (F : Fun K "is_text" "is_text" s_is_text f fd) (T : Txt mg)  : FnOk P w K mg base CX0 1 f fd ["value"] (sp_is_text K) := by
  refine F.ok sc_is_text (fun vs H Q E h => ?_) (fun cdv A outer s H vs Q E hr h => ?_)
  · obtain ⟨x, G, hs, ⟨v1, _, rfl, h1, rfl⟩, hp, k⟩ := h; rfl
  · obtain ⟨x, G, hs, ⟨v1, _, rfl, h1, rfl⟩, hp, k⟩ := h
    have nd := sc_is_text.nd
    have hu := hu_of hr
    have hrU := hrU_of hr
    refine ⟨_, pss_one (ps_ret (pe_callB (kIsi K) (by rfl) T.m_isinstance (by decide +kernel) (pa_cons (pv 0) (pa_cons (pe_bltn (v := V.ty "str") (by rfl) T.m_str (by decide +kernel) rfl) pa_nil)))), ?_⟩
    exact s_ret hs (ed_isiStr (e_var rfl h1)) k
def sp_is_sequence (K : PySem.W.Frag) : Sp := SpG (Γ := PyData × List PyData) (fun x => [D K x.1]) (fun x => SqD x.1 x.2) fun _ => D K (.bool true)
abbrev s_is_sequence : Stmt := top 8
abbrev N_is_sequence : List Str := ["value"]
theorem sc_is_sequence : FnScope N_is_sequence ["value"] (defScope s_is_sequence) := ⟨rfl, rfl, rfl, by decide +kernel, rfl, by decide +kernel, by decide +kernel⟩
theorem ok_is_sequence {f : Addr} {fd : FuncData} (F : Fun K "is_sequence" "is_sequence" s_is_sequence f fd) (T : Txt mg)  : FnOk P w K mg base CX0 1 f fd ["value"] (sp_is_sequence K) := by
  refine F.ok sc_is_sequence (fun vs H Q E h => ?_) (fun cdv A outer s H vs Q E hr h => ?_)
  · obtain ⟨x, G, hs, ⟨v1, _, rfl, h1, rfl⟩, hp, k⟩ := h; rfl
  · obtain ⟨x, G, hs, ⟨v1, _, rfl, h1, rfl⟩, hp, k⟩ := h
    have nd := sc_is_sequence.nd
    have hu := hu_of hr
    have hrU := hrU_of hr
    refine ⟨_, pss_one (ps_ret (pe_callB (kIsiT K) (by rfl) T.m_isinstance (by decide +kernel) (pa_cons (pv 0) (pa_cons (pe_tup (pa_cons (pe_bltn (v := V.ty "list") (by rfl) T.m_list (by decide +kernel) rfl) (pa_cons (pe_bltn (v := V.ty "tuple") (by rfl) T.m_tuple (by decide +kernel) rfl) pa_nil))) pa_nil)))), ?_⟩
    exact s_ret hs (ed_isiSeq hp (e_var rfl h1)) k
theorem letters_at : ∀ c : Nat, 97 ≤ c ∧ c ≤ 122 → c ∈ ("abcdefghijklmnopqrstuvwxyz" : Str).cps.toList := by
  intro c h
  have : ∀ c : Fin 123, 97 ≤ c.1 → c.1 ∈ ("abcdefghijklmnopqrstuvwxyz" : Str).cps.toList := by decide +kernel
  exact this ⟨c, by omega⟩ h.1
def sp_is_name (K : PySem.W.Frag) : Sp := SpG (Γ := Str) (fun x => [D K (.str x)]) NameOk fun _ => D K (.bool true)
abbrev s_is_name : Stmt := top 9
abbrev N_is_name : List Str := ["value", "sign"]
theorem sc_is_name : FnScope N_is_name ["value"] (defScope s_is_name) := ⟨rfl, rfl, rfl, by decide +kernel, rfl, by decide +kernel, by decide +kernel⟩
theorem ok_is_name {f : Addr} {fd : FuncData} (F : Fun K "is_name" "is_name" s_is_name f fd) (T : Txt mg) (c_is_text : Cal P w K mg base CX0 1 "is_text" ["value"] (sp_is_text K)) : FnOk P w K mg base CX0 2 f fd ["value"] (sp_is_name K) := by
  refine F.ok sc_is_name (fun vs H Q E h => ?_) (fun cdv A outer s H vs Q E hr h => ?_)
  · obtain ⟨x, G, hs, ⟨v1, _, rfl, h1, rfl⟩, hp, k⟩ := h; rfl
  · obtain ⟨x, G, hs, ⟨v1, _, rfl, h1, rfl⟩, hp, k⟩ := h
    have nd := sc_is_name.nd
    have hu := hu_of hr
    have hrU := hrU_of hr
    refine ⟨_, pss_one (ps_ret (pe_and (pe_cal c_is_text (hr.mono (by decide)) (by rfl) pass0 (pa_cons (pv 0) pa_nil)) (pe_and (pe_chain op_le op_le (pe_int) (pe_callB (kLen K) (by rfl) T.m_len (by decide +kernel) (pa_cons (pv 0) pa_nil)) (pe_gint (by rfl) T.c_LONGEST)) (pe_one (pe_callB (kAll K rfl) (by rfl) T.m_all (by decide +kernel) (pa_cons (pe_lc (own := [("sign", 1)]) (by rfl) nd (pi_str (pv 0)) (blkOk_by (by kernel_rfl)) (fun _ _ _ _ _ => (pg_n 1 nd)) (fun _ _ _ _ _ => pts_nil) (fun _ _ _ _ _ => (pe_cmpR op_in_sign (pv 1) (pe_gstr (by rfl) T.c_LETTERS) (by rfl)))) pa_nil)))))), ?_⟩
    have hl : x.length = x.cps.size := rfl
    have hsz : x.cps.size ≤ 1000000 := Nat.le_trans hp.2.1 (by decide)
    refine s_ret hs ((ed_andV (e_call x (ea_cons (e_var rfl h1) ea_nil) trivial) fun _ => ed_andV (ed_chain ed_int (ed_lenS (small9 hsz) (e_var rfl h1)) ed_int) fun _ =>
      ed_allT (src_str (e_var rfl h1)) hsz fun i G1 x2 hi u ⟨c, hc, hx⟩ => ⟨_, tg_name, rfl, (ed_inSign (e_var rfl hx) (ed_str)).to ?_⟩).to ?_) k
    · have hm : c ∈ x.cps.toList := by
        obtain ⟨h1, h2⟩ := Array.getElem?_eq_some_iff.mp hc
        rw [← h2]; simp
      rw [decide_eq_true (letters_at c (hp.2.2 c hm))]
    · have h1 := hp.1
      have h2 := hp.2.1
      simp
      exact ⟨by rw [hl]; omega, by rw [hl]; omega⟩
end
end KB

set_option Elab.async false
set_option linter.all false
set_option maxRecDepth 100000
set_option maxHeartbeats 4000000
/-! Evaluation: sets of texts, min, repr, bits. -/
namespace KB
open PySem PySem.Spec PyProof.Rows L2
section
variable {w : World} {K : PySem.W.Frag} {σ : L2.St} {G G2 H : Hp} {ta tb tc te : TE} {tt tu : TT} {R Ra Rb Rc : RP} {p q : Bool → Prop} {t : TA} {Rs : List RP} {ds es : List PyData} {d e : PyData}
/-- a set of texts -/
abbrev SetD (w : World) (xs : List Str) : RP := fun v H => ∃ a L, v = .ref a ∧ H a = some (SetSO w a L) ∧ L.Nodup ∧ (∀ x, x ∈ L ↔ x ∈ xs) ∧ L.length < 64
instance {xs : List Str} : Stb (SetD w xs) := ⟨fun u ⟨a, L, e, h1, h2⟩ => ⟨a, L, e, u a _ h1, h2⟩⟩
theorem nodup_perm {xs ys : List Str} (h1 : xs.Nodup) (h2 : ys.Nodup) (h : ∀ x, x ∈ xs ↔ x ∈ ys) : xs.Perm ys := by
  rw [List.perm_iff_count]
  intro a
  by_cases q : a ∈ xs
  · rw [List.Nodup.count h1, List.Nodup.count h2, if_pos q, if_pos ((h a).mp q)]
  · rw [List.count_eq_zero_of_not_mem q, List.count_eq_zero_of_not_mem (fun z => q ((h a).mpr z))]
theorem e_set {xs : List Str} (hd : SqD d (sds xs)) (hl : xs.length < 64) (h : EvS te σ G (D K d)) : EvS (tCB (rSetS K w) (tCons te tNil)) σ G (SetD w xs) := fun G0 H u s Q k =>
  h G0 H u s _ fun v G1 H1 g1 r => by
    obtain ⟨a, vs, rfl, hq, hall⟩ := d_seq hd r
    have e := dp_sds hall
    subst e
    refine ⟨a, xs, rfl, same_a g1.sub hq, hl, fun p L hp hn hm => ?_⟩
    have hL : L.length < 64 := by
      have := (nodup_perm hn (asc_nodup (asc_lotOf xs)) fun x => by rw [mem_lotOf]; exact hm x).length_eq
      have := lot_len_le xs
      omega
    exact k _ _ _ (g1.trans (Grow.new g1.sub hp)) ⟨p, L, rfl, upd_same, hn, hm, hL⟩
theorem en_srtSet {xs : List Str} (h : EvS te σ G (SetD w xs)) : EvN K (tCB (rSortedSetS w) (tCons te tNil)) σ G (fun ds => ds = sds (lotOf xs)) := fun G0 H u s Q k =>
  h G0 H u s _ fun v G1 H1 g1 ⟨a, L, e, h1, hn, hm, hl⟩ => by
    subst e
    refine ⟨a, L, rfl, g1.sub a _ h1, hl, fun ys p hp hs hP => ?_⟩
    have e : ys = lotOf xs := by rw [perm_asc hp (sortedS_pw hs) hn]; exact lot_eq hm
    subst e
    exact k p _ _ G1 _ (g1.trans (Grow.cell g1.sub hP)) (g1.keep.free hP) (g1.sub.free hP) upd_same (sds_dp _) rfl
theorem ed_lenSet {xs : List Str} (h : EvS te σ G (SetD w xs)) : EvS (tCB (rLenSetS w) (tCons te tNil)) σ G (D K (.int ((lotOf xs).length : Nat))) := fun G0 H u s Q k =>
  h G0 H u s _ fun v G1 H1 g1 ⟨a, L, e, h1, hn, hm, hl⟩ => by
    subst e
    refine ⟨a, L, rfl, g1.sub a _ h1, ?_⟩
    have := (nodup_perm hn (asc_nodup (asc_lotOf xs)) fun x => by rw [mem_lotOf]; exact hm x).length_eq
    rw [this]
    exact k _ _ _ g1 (.int _)
/-- tuple(sorted(set(xs))) -/
theorem ed_lot {xs : List Str} (hd : SqD d (sds xs)) (hl : xs.length < 64) (h : EvS te σ G (D K d)) :
    EvS (tCB (rTupOf K) (tCons (tCB (rSortedSetS w) (tCons (tCB (rSetS K w) (tCons te tNil)) tNil)) tNil)) σ G (D K (.tuple (sds (lotOf xs)))) := ed_tupOf (.l _) (en_srtSet (e_set hd hl h)).d
/-- sorted(xs), xs without doubles -/
theorem en_srt {xs : List Str} (hn : xs.Nodup) (hl : xs.length < 64) (h : EvS te σ G (D K (.list (sds xs)))) : EvN K (tCB (rSortedS K) (tCons te tNil)) σ G (fun ds => ds = sds (lotOf xs)) := fun G0 H u s Q k =>
  h G0 H u s _ fun v G1 H1 g1 r => by
    obtain ⟨a, vs, rfl, hq, hall⟩ := d_list r
    have e := dp_sds hall
    subst e
    refine ⟨a, xs, rfl, g1.sub.seq hq, hl, fun ys p hp hs hP => ?_⟩
    have e : ys = lotOf xs := perm_asc hp (sortedS_pw hs) hn
    subst e
    exact k p _ _ G1 _ (g1.trans (Grow.cell g1.sub hP)) (g1.keep.free hP) (g1.sub.free hP) upd_same (sds_dp _) rfl
theorem ed_minS {x : Str} {xs : List Str} (hm : x ∈ xs) (hle : ∀ y ∈ xs, ¬ SLt y x) (h : EvS te σ G (D K (.list (sds xs)))) : EvS (tCB (rMinS K) (tCons te tNil)) σ G (D K (.str x)) := fun G0 H u s Q k =>
  h G0 H u s _ fun v G1 H1 g1 r => by
    obtain ⟨a, vs, rfl, hq, hall⟩ := d_list r
    have e := dp_sds hall
    subst e
    refine ⟨a, xs, rfl, g1.sub.seq hq, List.length_pos_of_mem hm, fun m m1 m2 => ?_⟩
    have e : m = x := by
      rcases slt_tri m x with r | r | r
      · exact absurd r (hle m m1)
      · exact r
      · exact absurd r (m2 x hm)
    rw [e]
    exact k _ _ _ g1 (.str _)
theorem ed_repr (hs : d.showable = true) (hd : d.depth ≤ 60) (hl : d.shown.length ≤ 1000000) (h : EvS te σ G (D K d)) : EvS (tCB (rReprD K) (tCons te tNil)) σ G (D K (.str d.shown)) := fun G0 H u s Q k =>
  h G0 H u s _ fun v G1 H1 g1 r => ⟨v, d, rfl, Dp.up g1.sub _ _ r, hs, hd, small9 hl, k _ G1 H1 g1 (.str _)⟩
end
/-! ### bits -/
theorem shr_odd (b i : Nat) : (((b : Int) / 2 ^ ((i : Int)).toNat) % 2 = 1) ↔ b.testBit i = true := by
  rw [Int.toNat_natCast]
  have e : ((b : Int) / 2 ^ i) % 2 = ((b / 2 ^ i % 2 : Nat) : Int) := by push_cast; rfl
  rw [e, Nat.testBit_eq_decide_div_mod_eq]
  simp
  omega
theorem or_nat (a b : Nat) : Builtin.bitOr (a : Int) (b : Int) = ((a ||| b : Nat) : Int) := by
  rw [Bits.bitOr_pp (Int.natCast_nonneg _) (Int.natCast_nonneg _), Int.toNat_natCast, Int.toNat_natCast]
theorem shl_nat (i : Nat) : (1 : Int) * 2 ^ ((i : Int)).toNat = ((2 ^ i : Nat) : Int) := by rw [Int.toNat_natCast, Int.one_mul]; push_cast; rfl
end KB

set_option Elab.async false
set_option linter.all false
set_option maxRecDepth 100000
set_option maxHeartbeats 4000000
/-! Data of names. -/
namespace KB
open PySem PySem.Spec PyProof.Rows L2
mutual
/-- texts, lists, tuples -/
def noNum : PyData → Bool
  | .str _ => true
  | .none => true
  | .list ds => noNums ds
  | .tuple ds => noNums ds
  | _ => false
def noNums : List PyData → Bool
  | [] => true
  | d :: ds => noNum d && noNums ds
end
mutual
theorem eqv_iff' : ∀ (d e : PyData), noNum d = true → (PyData.eqv d e = true ↔ d = e)
  | .none, e, _ => by cases e <;> simp [PyData.eqv]
  | .bool b, e, h => by simp [noNum] at h
  | .int b, e, h => by simp [noNum] at h
  | .str x, e, _ => by cases e <;> simp [PyData.eqv]
  | .list ds, e, h => by
    cases e with
    | list es => simp only [PyData.eqv, PyData.list.injEq]; exact eqvAll_iff' ds es (by simpa [noNum] using h)
    | _ => simp [PyData.eqv]
  | .tuple ds, e, h => by
    cases e with
    | tuple es => simp only [PyData.eqv, PyData.tuple.injEq]; exact eqvAll_iff' ds es (by simpa [noNum] using h)
    | _ => simp [PyData.eqv]
  | .dict _, e, h => by simp [noNum] at h
theorem eqvAll_iff' : ∀ (ds es : List PyData), noNums ds = true → (PyData.eqvAll ds es = true ↔ ds = es)
  | [], es, _ => by cases es <;> simp [PyData.eqvAll]
  | d :: ds, es, h => by
    have h' : noNum d = true ∧ noNums ds = true := by simpa [noNums] using h
    cases es with
    | nil => simp [PyData.eqvAll]
    | cons e es => simp only [PyData.eqvAll, Bool.and_eq_true, List.cons.injEq]; rw [eqv_iff' d e h'.1, eqvAll_iff' ds es h'.2]
end
theorem noNums_sds (xs : List Str) : noNums (sds xs) = true := by
  induction xs with
  | nil => rfl
  | cons x xs ih => show (noNum (.str x) && noNums (sds xs)) = true; rw [ih]; rfl
theorem eqv_bP {d e : PyData} (h : noNum d = true) : PyData.eqv d e = bP (d = e) := bP_of (eqv_iff' d e h)
theorem name_strOk {x : Str} (h : NameOk x) : PyData.strOk x = true := by
  unfold PyData.strOk
  rw [Array.all_eq_true']
  intro c hc
  have := h.2.2 c (by simpa using hc)
  simp
  omega
/-- laid, not deep -/
structure Sh (n : Nat) (d : PyData) : Prop where
  lay : d.canLay0 = true
  dep : d.depth ≤ n
theorem Sh.shaped {n : Nat} {d : PyData} (h : Sh n d) (hn : n ≤ 64 := by decide) : SeqAt.shaped d = true := by
  unfold SeqAt.shaped
  rw [h.lay, decide_eq_true (Nat.le_trans h.dep hn)]; rfl
theorem sh_str {x : Str} (h : PyData.strOk x = true) : Sh 0 (.str x) := ⟨by simpa [PyData.canLay0] using h, by simp [PyData.depth]⟩
theorem sh_all {n : Nat} : ∀ {ds : List PyData}, (∀ d ∈ ds, Sh n d) → PyData.canLayAll0 ds = true ∧ PyData.depthAll ds ≤ n
  | [], _ => ⟨rfl, by simp [PyData.depthAll]⟩
  | d :: ds, h => by
    obtain ⟨a, b⟩ := sh_all (ds := ds) fun e he => h e (List.mem_cons_of_mem _ he)
    have q := h d List.mem_cons_self
    refine ⟨by simp [PyData.canLayAll0, a, q.lay], ?_⟩
    simp only [PyData.depthAll]
    exact Nat.max_le.mpr ⟨q.dep, b⟩
theorem sh_tup {n : Nat} {ds : List PyData} (h : ∀ d ∈ ds, Sh n d) : Sh (n + 1) (.tuple ds) := by
  obtain ⟨a, b⟩ := sh_all h
  exact ⟨by simpa [PyData.canLay0] using a, by simp only [PyData.depth]; omega⟩
theorem sh_lst {n : Nat} {ds : List PyData} (h : ∀ d ∈ ds, Sh n d) : Sh (n + 1) (.list ds) := by
  obtain ⟨a, b⟩ := sh_all h
  exact ⟨by simpa [PyData.canLay0] using a, by simp only [PyData.depth]; omega⟩
theorem sh_sds {xs : List Str} (h : ∀ x ∈ xs, NameOk x) : ∀ d ∈ sds xs, Sh 0 d := fun d hd => by
  obtain ⟨x, hx, rfl⟩ := List.mem_map.mp hd
  exact sh_str (name_strOk (h x hx))
theorem Sh.up {n m : Nat} {d : PyData} (h : Sh n d) (hm : n ≤ m) : Sh m d := ⟨h.lay, Nat.le_trans h.dep hm⟩
/-! notes as data -/
abbrev dNote (n : Note) : PyData := .tuple [.str n.1, .str n.2.1, .tuple (sds n.2.2)]
abbrev dNotes (ns : List Note) : List PyData := ns.map dNote
theorem sds_get {xs : List Str} {i : Nat} {e : PyData} (h : (sds xs)[i]? = some e) : ∃ x, xs[i]? = some x ∧ e = .str x := by
  rw [List.getElem?_map] at h
  cases q : xs[i]? with
  | none => rw [q] at h; simp at h
  | some x => rw [q] at h; exact ⟨x, rfl, by simpa using h.symm⟩
theorem dN_get {ns : List Note} {i : Nat} {e : PyData} (h : (dNotes ns)[i]? = some e) : ∃ n, ns[i]? = some n ∧ e = dNote n := by
  rw [List.getElem?_map] at h
  cases q : ns[i]? with
  | none => rw [q] at h; simp at h
  | some x => rw [q] at h; exact ⟨x, rfl, by simpa using h.symm⟩
theorem noNum_note (n : Note) : noNum (dNote n) = true := by simp [dNote, noNum, noNums, noNums_sds]
theorem noNums_notes (ns : List Note) : noNums (dNotes ns) = true := by
  induction ns with
  | nil => rfl
  | cons n ns ih => show (noNum (dNote n) && noNums (dNotes ns)) = true; rw [ih, noNum_note]; rfl
/-- a list (b) or a tuple -/
def qd (b : Bool) (ds : List PyData) : PyData := if b then .list ds else .tuple ds
theorem qd_sq (b : Bool) (ds : List PyData) : SqD (qd b ds) ds := by cases b <;> constructor
theorem mem_of_get {α : Type} {xs : List α} {i : Nat} {x : α} (h : xs[i]? = some x) : x ∈ xs := List.mem_of_getElem? h
theorem sds_inj {xs ys : List Str} (h : sds xs = sds ys) : xs = ys := by
  induction xs generalizing ys with
  | nil => cases ys with
    | nil => rfl
    | cons y ys => simp at h
  | cons x xs ih => cases ys with
    | nil => simp at h
    | cons y ys =>
      simp only [List.map_cons, List.cons.injEq, PyData.str.injEq] at h
      rw [h.1, ih h.2]
theorem dNote_inj {a b : Note} (h : dNote a = dNote b) : a = b := by
  obtain ⟨a1, a2, a3⟩ := a
  obtain ⟨b1, b2, b3⟩ := b
  simp only [dNote, PyData.tuple.injEq, List.cons.injEq, PyData.str.injEq, and_true] at h
  obtain ⟨h1, h2, h3⟩ := h
  rw [h1, h2, sds_inj h3]
theorem dNotes_inj {xs ys : List Note} (h : dNotes xs = dNotes ys) : xs = ys := by
  induction xs generalizing ys with
  | nil => cases ys with
    | nil => rfl
    | cons y ys => simp at h
  | cons x xs ih => cases ys with
    | nil => simp at h
    | cons y ys =>
      have h : dNote x :: dNotes xs = dNote y :: dNotes ys := h
      rw [List.cons.injEq] at h
      rw [dNote_inj h.1, ih h.2]
section
variable {w : World} {K : PySem.W.Frag} {σ : L2.St} {G G2 H : Hp} {ta tb tc te : TE} {t : TA} {ds es : List PyData} {d e : PyData}
theorem ed_nil : EvS (tLst tNil) σ G (D K (.list [])) := (en_lst dd_nil (by decide)).d
/-- [..] == [] -/
theorem ed_eqE {xs : List Str} (h : EvS te σ G (D K (.list (sds xs)))) (hs : ∀ x ∈ xs, NameOk x) : EvS (tOp (rEqD K) te (tLst tNil)) σ G (D K (.bool xs.isEmpty)) :=
  (ed_eqD h ed_nil (sh_lst (sh_sds hs)).shaped (sh_lst (n := 0) (by simp)).shaped).to (by cases xs <;> simp [PyData.eqv, PyData.eqvAll])
theorem ed_neE {xs : List Str} (h : EvS te σ G (D K (.list (sds xs)))) (hs : ∀ x ∈ xs, NameOk x) : EvS (tOp (rNeD K) te (tLst tNil)) σ G (D K (.bool (!xs.isEmpty))) :=
  (ed_neD h ed_nil (sh_lst (sh_sds hs)).shaped (sh_lst (n := 0) (by simp)).shaped).to (by cases xs <;> simp [PyData.eqv, PyData.eqvAll])
theorem ed_eqDS {x y : Str} (ha : EvS ta σ G (D K (.str x))) (hb : EvS tb σ G (D K (.str y))) (hx : NameOk x) (hy : NameOk y) : EvS (tOp (rEqD K) ta tb) σ G (D K (.bool (decide (x = y)))) :=
  (ed_eqD ha hb (sh_str (name_strOk hx)).shaped (sh_str (name_strOk hy)).shaped).to (by rw [eqv_bP rfl, ← bP_dec]; congr 1; exact bP_congr (by simp))
end
end KB

set_option Elab.async false
set_option linter.all false
set_option maxRecDepth 100000
set_option maxHeartbeats 4000000
/-! Bits, dicts by name. -/
namespace KB
open PySem PySem.Spec PyProof.Rows L2
theorem lookup_putS {f : List (Str × PyData)} {x y : Str} {d : PyData} : (putS f x d).lookup y = if y = x then some d else f.lookup y := by
  unfold putS
  by_cases h : x ∈ f.map (·.1)
  · rw [if_pos h]
    induction f with
    | nil => simp at h
    | cons p f ih =>
      obtain ⟨k, e⟩ := p
      rw [List.map_cons]
      by_cases q : k = x
      · subst q
        simp only [if_true, List.lookup_cons]
        by_cases q2 : y = k
        · subst q2; simp
        · have b : (y == k) = false := beq_eq_false_iff_ne.mpr q2
          rw [b, if_neg q2]
          have id : ∀ g : List (Str × PyData), (g.map fun p => if p.1 = k then (p.1, d) else p).lookup y = g.lookup y := by
            intro g
            induction g with
            | nil => rfl
            | cons p g ihg =>
              obtain ⟨k2, e2⟩ := p
              rw [List.map_cons]
              by_cases q3 : k2 = k
              · subst q3
                simp only [if_true, List.lookup_cons, b]
                exact ihg
              · simp only [if_neg q3, List.lookup_cons]
                rw [ihg]
          exact id f
      · have h' : x ∈ f.map (·.1) := by
          rw [List.map_cons] at h
          rcases List.mem_cons.mp h with r | r
          · exact absurd r.symm q
          · exact r
        simp only [if_neg q, List.lookup_cons]
        rw [ih h']
        by_cases q2 : y = k
        · subst q2; simp [q]
        · have b : (y == k) = false := beq_eq_false_iff_ne.mpr q2
          rw [b]
  · rw [if_neg h]
    have app : ∀ g : List (Str × PyData), x ∉ g.map (·.1) → (g ++ [(x, d)]).lookup y = if y = x then some d else g.lookup y := by
      intro g
      induction g with
      | nil =>
        intro _
        by_cases q : y = x
        · subst q; simp
        · have b : (y == x) = false := beq_eq_false_iff_ne.mpr q
          simp [List.lookup_cons, b, q]
      | cons p g ih =>
        obtain ⟨k, e⟩ := p
        intro hx
        rw [List.map_cons, List.mem_cons, not_or] at hx
        rw [List.cons_append, List.lookup_cons, List.lookup_cons, ih hx.2]
        by_cases q2 : y = k
        · subst q2
          have : ¬ y = x := fun z => hx.1 z.symm
          simp [this]
        · have b : (y == k) = false := beq_eq_false_iff_ne.mpr q2
          rw [b]
    exact app f h
theorem putS_new {f : List (Str × PyData)} {x : Str} {d : PyData} (h : x ∉ f.map (·.1)) : putS f x d = f ++ [(x, d)] := by unfold putS; rw [if_neg h]
theorem putS_len (f : List (Str × PyData)) (x : Str) (d : PyData) : (putS f x d).length ≤ f.length + 1 := by
  unfold putS
  split
  · rw [List.length_map]; omega
  · rw [List.length_append]; simp
/-- by name, of notes -/
theorem lookup_notes {g : Note → PyData} : ∀ {ns : List Note} {y : Str}, y ∈ nms ns → ∃ n, n ∈ ns ∧ n.1 = y ∧ ns.find? (fun n => decide (n.1 = y)) = some n ∧ (ns.map fun n => (n.1, g n)).lookup y = some (g n)
  | [], y, h => by simp at h
  | n :: ns, y, h => by
    by_cases q : n.1 = y
    · subst q
      exact ⟨n, List.mem_cons_self, rfl, by simp, by simp⟩
    · have h' : y ∈ nms ns := by
        rcases List.mem_cons.mp h with r | r
        · exact absurd r.symm q
        · exact r
      obtain ⟨m, h1, h2, h3, h4⟩ := lookup_notes (g := g) h'
      have b : (y == n.1) = false := beq_eq_false_iff_ne.mpr (Ne.symm q)
      refine ⟨m, List.mem_cons_of_mem _ h1, h2, ?_, ?_⟩
      · rw [List.find?_cons]; simp only [decide_eq_false q]; exact h3
      · rw [List.map_cons, List.lookup_cons, b]; exact h4
theorem lookup_notes_none {g : Note → PyData} {ns : List Note} {y : Str} (h : y ∉ nms ns) : (ns.map fun (n : Note) => (n.1, g n)).lookup y = none := by
  induction ns with
  | nil => rfl
  | cons n ns ih =>
    have h1 : y ≠ n.1 := fun q => h (q ▸ List.mem_cons_self)
    have b : (y == n.1) = false := beq_eq_false_iff_ne.mpr h1
    rw [List.map_cons, List.lookup_cons, b]
    exact ih fun q => h (List.mem_cons_of_mem _ q)
/-- by name: the place -/
theorem nodup_get {xs : List Str} (nd : xs.Nodup) {i j : Nat} {x : Str} (h1 : xs[i]? = some x) (h2 : xs[j]? = some x) : i = j := by
  obtain ⟨a1, a2⟩ := List.getElem?_eq_some_iff.mp h1
  obtain ⟨b1, b2⟩ := List.getElem?_eq_some_iff.mp h2
  have key := List.pairwise_iff_getElem.mp nd
  rcases Nat.lt_trichotomy i j with r | r | r
  · exact absurd (a2.trans b2.symm) (key i j a1 b1 r)
  · exact r
  · exact absurd (b2.trans a2.symm) (key j i b1 a1 r)
theorem nms_get {ns : List Note} {i : Nat} {n : Note} (h : ns[i]? = some n) : (nms ns)[i]? = some n.1 := by rw [List.getElem?_map, h]; rfl
theorem get_mem_nms {ns : List Note} {x : Str} (h : x ∈ nms ns) : ∃ (i : Nat) (n : Note), ns[i]? = some n ∧ n.1 = x := by
  obtain ⟨n, hn, rfl⟩ := List.mem_map.mp h
  obtain ⟨i, hi⟩ := List.mem_iff_getElem?.mp hn
  exact ⟨i, n, hi, rfl⟩
theorem split_at {ns : List Note} {i : Nat} {n : Note} (h : ns[i]? = some n) : ns = ns.take i ++ n :: ns.drop (i + 1) := by
  obtain ⟨h1, h2⟩ := List.getElem?_eq_some_iff.mp h
  rw [← h2, List.getElem_cons_drop, List.take_append_drop]
theorem not_pre {ns : List Note} (nd : (nms ns).Nodup) {i : Nat} {n : Note} (h : ns[i]? = some n) : n.1 ∉ nms (ns.take i) := by
  rw [split_at h, nms_app] at nd
  exact fun q => (List.nodup_append.mp nd).2.2 _ q n.1 (by simp) rfl
theorem hnd_at {ns : List Note} (nd : (nms ns).Nodup) {i : Nat} {n : Note} (h : ns[i]? = some n) : hnd ns n.1 = n.2.1 := by
  have := hnd_r (post := ns.drop (i + 1)) (not_pre nd h)
  rw [← split_at h] at this; exact this
theorem wts_at {ns : List Note} (nd : (nms ns).Nodup) {i : Nat} {n : Note} (h : ns[i]? = some n) : wts ns n.1 = n.2.2 := by
  have := wts_r (post := ns.drop (i + 1)) (not_pre nd h)
  rw [← split_at h] at this; exact this
theorem prv_at {ns : List Note} (nd : (nms ns).Nodup) {i : Nat} {n : Note} (h : ns[i]? = some n) : prv ns n.1 = lastL (row (ns.take i) n.2.1) := by
  have := prv_r (post := ns.drop (i + 1)) (not_pre nd h)
  rw [← split_at h] at this; exact this
def PlaceOk (ns : List Note) (i : Nat) (f : List (Str × PyData)) : Prop := ∀ (k : Nat) (x : Str), k < i → (nms ns)[k]? = some x → f.lookup x = some (.int (k : Nat))
theorem place_step {ns : List Note} (nd : (nms ns).Nodup) {i : Nat} {f : List (Str × PyData)} {n : Note} (h : PlaceOk ns i f) (hn : ns[i]? = some n) : PlaceOk ns (i + 1) (putS f n.1 (.int (i : Nat))) := fun k x hk hx => by
  rw [lookup_putS]
  by_cases q : x = n.1
  · subst q
    rw [if_pos rfl, nodup_get nd hx (nms_get hn)]
  · rw [if_neg q]
    refine h k x ?_ hx
    by_cases e : k = i
    · subst e
      rw [nms_get hn] at hx
      exact absurd (by simpa using hx.symm) q
    · omega
def LastOk (ns : List Note) (i : Nat) (f : List (Str × PyData)) : Prop := ∀ h : Str, (lastL (row (ns.take i) h) = [] ∧ f.lookup h = none) ∨ ∃ (z : Str) (k : Nat), lastL (row (ns.take i) h) = [z] ∧ f.lookup h = some (.int (k : Nat)) ∧ (nms ns)[k]? = some z ∧ k < i
theorem take_snoc {ns : List Note} {i : Nat} {n : Note} (h : ns[i]? = some n) : ns.take (i + 1) = ns.take i ++ [n] := by rw [List.take_add_one, h]; rfl
theorem last_step {ns : List Note} {i : Nat} {f : List (Str × PyData)} {n : Note} (h : LastOk ns i f) (hn : ns[i]? = some n) : LastOk ns (i + 1) (putS f n.2.1 (.int (i : Nat))) := fun hd => by
  rw [lookup_putS, take_snoc hn, row_app, row_one]
  by_cases q : hd = n.2.1
  · subst q
    rw [if_pos rfl, if_pos rfl, lastL_snoc]
    exact .inr ⟨n.1, i, rfl, rfl, nms_get hn, by omega⟩
  · rw [if_neg q, if_neg (Ne.symm q), List.append_nil]
    rcases h hd with ⟨a, b⟩ | ⟨z, k, a, b, c, d⟩
    · exact .inl ⟨a, b⟩
    · exact .inr ⟨z, k, a, b, c, by omega⟩
theorem last_nil (ns : List Note) : LastOk ns 0 [] := fun h => .inl ⟨rfl, rfl⟩
/-- the bits of b are the notes of which P holds -/
def TB (ns : List Note) (b : Nat) (P : Str → Prop) : Prop := ∀ (j : Nat) (x : Str), (nms ns)[j]? = some x → (b.testBit j = true ↔ P x)
theorem tb_one {ns : List Note} (nd : (nms ns).Nodup) {i : Nat} {y : Str} (h : (nms ns)[i]? = some y) : TB ns (2 ^ i) (fun x => x = y) := fun j x hx => by
  rw [Nat.testBit_two_pow]
  simp only [decide_eq_true_eq]
  constructor
  · intro e
    subst e
    rw [h] at hx; simpa using hx.symm
  · intro e
    subst e
    exact nodup_get nd h hx
theorem tb_zero (ns : List Note) : TB ns 0 (fun _ => False) := fun j x hx => by simp
theorem TB.or {ns : List Note} {a b : Nat} {P Q : Str → Prop} (h : TB ns a P) (h2 : TB ns b Q) : TB ns (a ||| b) (fun x => P x ∨ Q x) := fun j x hx => by
  rw [Nat.testBit_or, Bool.or_eq_true, h j x hx, h2 j x hx]
theorem TB.imp {ns : List Note} {a : Nat} {P Q : Str → Prop} (h : TB ns a P) (e : ∀ x, P x ↔ Q x) : TB ns a Q := fun j x hx => (h j x hx).trans (e x)
def BitsTo (ns : List Note) (i : Nat) (bs : List Nat) : Prop := bs.length = i ∧ ∀ (k b : Nat) (y : Str), bs[k]? = some b → (nms ns)[k]? = some y → TB ns b (fun x => Und ns x y)
theorem bits_get {ns : List Note} {i : Nat} {bs : List Nat} (h : BitsTo ns i bs) {k : Nat} {y : Str} (hk : k < i) (hy : (nms ns)[k]? = some y) : ∃ b, bs[k]? = some b ∧ TB ns b (fun x => Und ns x y) := by
  have hl : k < bs.length := by rw [h.1]; exact hk
  exact ⟨bs[k], by simp [hl], h.2 k _ y (by simp [hl]) hy⟩
theorem bits_step {ns : List Note} {i : Nat} {bs : List Nat} {n : Note} {b : Nat} (h : BitsTo ns i bs) (hn : ns[i]? = some n) (hb : TB ns b (fun x => Und ns x n.1)) : BitsTo ns (i + 1) (bs ++ [b]) := by
  refine ⟨by simp [h.1], fun k b' y e hy => ?_⟩
  by_cases q : k < i
  · rw [List.getElem?_append_left (by rw [h.1]; exact q)] at e
    exact h.2 k b' y e hy
  · have hk : k = i := by
      have := (List.getElem?_eq_some_iff.mp e).1
      simp [h.1] at this
      omega
    subst hk
    rw [List.getElem?_append_right (by rw [h.1]; exact Nat.le_refl _), h.1, Nat.sub_self] at e
    rw [nms_get hn] at hy
    cases hy
    have : b' = b := by simpa using e.symm
    rw [this]; exact hb
end KB

set_option Elab.async false
set_option linter.all false
set_option maxRecDepth 100000
set_option maxHeartbeats 4000000
/-! The program's defs: told notes. -/
namespace KB
open PySem PySem.Spec PyProof.Rows L2
section
variable {K : PySem.W.Frag} {σ : L2.St} {G G2 H : Hp} {te : TE}
theorem src_rangeZ {z : Int} (h1 : -1000000 ≤ z) (h2 : z ≤ 1000000) (h : EvS te σ G (D K (.int z))) : SrcI (iRng1 (tCons te tNil)) σ G z.toNat (fun i => D K (.int (i : Nat))) := fun G0 H u s Q k => h G0 H u s _ fun v G1 H1 g1 r => by
  cases d_int r
  refine ⟨z, rfl, by omega, by omega, ?_⟩
  refine k _ _ G1 H1 _ g1 (fun _ _ => trivial) walk_range fun i G3 H3 x H4 hi u s ⟨e1, e2⟩ => ?_
  subst e1
  subst e2
  refine ⟨G3, .refl s, ?_⟩
  show Dp K G3 (.int (0 + (i : Int))) (.int (i : Nat))
  rw [Int.zero_add]
  exact .int _
end
section
variable {P : Program} {w : World} {K : PySem.W.Frag} {mg : Str → Option Value} {base : Heap}
/-- a lot of names -/
structure LotOk (xs : List Str) : Prop where
  ok : ∀ x ∈ xs, NameOk x
  asc : Asc xs
  len : xs.length ≤ 1000
theorem asc_at {xs : List Str} (h : Asc xs) {i : Nat} {x y : Str} (h1 : xs[i]? = some x) (h2 : xs[i + 1]? = some y) : SLt x y := by
  obtain ⟨a1, a2⟩ := List.getElem?_eq_some_iff.mp h1
  obtain ⟨b1, b2⟩ := List.getElem?_eq_some_iff.mp h2
  have := List.pairwise_iff_getElem.mp h i (i + 1) a1 b1 (by omega)
  rwa [a2, b2] at this
def sp_is_lot (K : PySem.W.Frag) : Sp := SpG (Γ := List Str) (fun xs => [D K (.tuple (sds xs))]) LotOk fun _ => D K (.bool true)
abbrev s_is_lot : Stmt := top 10
abbrev N_is_lot : List Str := ["value", "name", "at"]
theorem sc_is_lot : FnScope N_is_lot ["value"] (defScope s_is_lot) := ⟨rfl, rfl, rfl, by decide +kernel, rfl, by decide +kernel, by decide +kernel⟩
theorem ok_is_lot {f : Addr} {fd : FuncData} (F : Fun K "is_lot" "is_lot" s_is_lot f fd) (T : Txt mg) (c_is_name : Cal P w K mg base CX0 2 "is_name" ["value"] (sp_is_name K)) : FnOk P w K mg base CX0 3 f fd ["value"] (sp_is_lot K) := by
  refine F.ok sc_is_lot (fun vs H Q E h => ?_) (fun cdv A outer s H vs Q E hr h => ?_)
  · obtain ⟨x, G, hs, ⟨v1, _, rfl, h1, rfl⟩, hp, k⟩ := h; rfl
  · obtain ⟨xs, G, hs, ⟨v1, _, rfl, h1, rfl⟩, hp, k⟩ := h
    have nd := sc_is_lot.nd
    have hu := hu_of hr
    have hrU := hrU_of hr
    refine ⟨_, pss_cons (ps_if (PW.pt (pw_or (pt_not (pt_val (pe_callB (kIsi K) (by rfl) T.m_isinstance (by decide +kernel) (pa_cons (pv 0) (pa_cons (pe_bltn (v := V.ty "tuple") (by rfl) T.m_tuple (by decide +kernel) rfl) pa_nil))))) (pw_or1 (pt_not (pt_val (pe_callB (kAll K rfl) (by rfl) T.m_all (by decide +kernel) (pa_cons (pe_lc (own := [("name", 1)]) (by rfl) nd (kSeq K (pv 0)) (blkOk_by (by kernel_rfl)) (fun _ _ _ _ _ => (pg_n 1 nd)) (fun _ _ _ _ _ => pts_nil) (fun _ _ _ _ _ => (pe_cal c_is_name (hr.mono (by decide)) (by rfl) pass0 (pa_cons (pv 1) pa_nil)))) pa_nil)))))))
      (pss_one (ps_ret (pe_bl)))
      (pss_nil))
    (pss_one (ps_ret (pe_callB (kAll K rfl) (by rfl) T.m_all (by decide +kernel) (pa_cons (pe_lc (own := [("at", 2)]) (by rfl) nd (pi_range1 (by rfl) T.m_range (pa_cons (pe_op op_sub (pe_callB (kLen K) (by rfl) T.m_len (by decide +kernel) (pa_cons (pv 0) pa_nil)) (pe_int)) pa_nil)) (blkOk_by (by kernel_rfl)) (fun _ _ _ _ _ => (pg_n 2 nd)) (fun _ _ _ _ _ => pts_nil) (fun _ _ _ _ _ => (pe_cmpR op_lt_str (pe_ix (kIx K) (pv 0) (pv 2) (fun _ _ => rfl)) (pe_ix (kIx K) (pv 0) (pe_op op_add (pv 2) (pe_int)) (fun _ _ => rfl)) (nomark _)))) pa_nil)))), ?_⟩
    have hl : (sds xs).length ≤ 1000000 := by rw [List.length_map]; exact Nat.le_trans hp.len (by decide)
    have h1' : ∀ {G2 : Hp}, Same G G2 → Dp K G2 v1 (.tuple (sds xs)) := fun u => Dp.up u _ _ h1
    refine q_skip hs (et_or (et_not (et_B (ed_isiTup (e_var rfl h1)))) fun _ => et_not (et_B (ed_allT (src_seq (.t _) (e_var rfl h1)) hl fun i G1 x hi u ⟨e, he, hx⟩ => ?_))) rfl fun G2 H2 g2 => ?_
    · obtain ⟨y, hy, rfl⟩ := sds_get he
      exact ⟨_, tg_name, rfl, e_call y (ea_cons (e_var rfl hx) ea_nil) (hp.ok y (mem_of_get hy))⟩
    · refine s_ret g2.sub (ed_allT (src_rangeZ (z := (xs.length : Int) - 1) (by omega) (by have := hp.len; omega) ((ed_I (ed_len (.t _) (e_var rfl (h1' g2.up))) ed_int).to (by rw [List.length_map]))) (by have := hp.len; omega) fun i G1 x hi u hx => ?_) fun v G3 H3 g3 => k v G3 H3 (g2.trans g3)
      have hi' : i + 1 < xs.length := by omega
      have e1 : xs[i]? = some xs[i] := List.getElem?_eq_getElem _
      have e2 : xs[i + 1]? = some xs[i + 1] := List.getElem?_eq_getElem _
      refine ⟨_, tg_name, rfl, (ed_ltS (ed_ix (e := .str xs[i]) i (.t _) (e_var rfl (h1' (g2.up.trans u))) (e_var rfl hx) (.inl ⟨rfl, by rw [List.length_map]; omega⟩) (by rw [List.getElem?_map, e1]; rfl))
        (ed_ix (e := .str xs[i + 1]) (i + 1) (.t _) (e_var rfl (h1' (g2.up.trans u))) (ed_I (e_var rfl hx) ed_int) (.inl ⟨by push_cast; rfl, by rw [List.length_map]; omega⟩) (by rw [List.getElem?_map, e2]; rfl))).to ?_⟩
      rw [decide_eq_true (asc_at hp.asc e1 e2)]
def sp_lot_of (K : PySem.W.Frag) : Sp := SpG (Γ := PyData × List Str) (fun x => [D K x.1]) (fun x => SqD x.1 (sds x.2) ∧ x.2.length < 64) fun x => D K (.tuple (sds (lotOf x.2)))
abbrev s_lot_of : Stmt := top 11
abbrev N_lot_of : List Str := ["things"]
theorem sc_lot_of : FnScope N_lot_of ["things"] (defScope s_lot_of) := ⟨rfl, rfl, rfl, by decide +kernel, rfl, by decide +kernel, by decide +kernel⟩
theorem ok_lot_of {f : Addr} {fd : FuncData} (F : Fun K "lot_of" "lot_of" s_lot_of f fd) (T : Txt mg)  : FnOk P w K mg base CX0 1 f fd ["things"] (sp_lot_of K) := by
  refine F.ok sc_lot_of (fun vs H Q E h => ?_) (fun cdv A outer s H vs Q E hr h => ?_)
  · obtain ⟨x, G, hs, ⟨v1, _, rfl, h1, rfl⟩, hp, k⟩ := h; rfl
  · obtain ⟨x, G, hs, ⟨v1, _, rfl, h1, rfl⟩, hp, k⟩ := h
    have nd := sc_lot_of.nd
    have hu := hu_of hr
    have hrU := hrU_of hr
    refine ⟨_, pss_one (ps_ret (pe_callTy (kTup K) (by rfl) T.m_tuple (by decide +kernel) (pa_cons (pe_callB (kSrtSet w rfl) (by rfl) T.m_sorted (by decide +kernel) (pa_cons (pe_callTy (kSet K w rfl) (by rfl) T.m_set (by decide +kernel) (pa_cons (pv 0) pa_nil)) pa_nil)) pa_nil))), ?_⟩
    exact s_ret hs (ed_lot hp.1 hp.2 (e_var rfl h1)) k
structure HandsOk (xs : List Str) : Prop where
  ok : ∀ x ∈ xs, NameOk x
  nd : xs.Nodup
  l2 : 2 ≤ xs.length
  l6 : xs.length ≤ 6
def sp_are_hands (K : PySem.W.Frag) : Sp := SpG (Γ := PyData × List Str) (fun x => [D K x.1]) (fun x => SqD x.1 (sds x.2) ∧ HandsOk x.2) fun _ => D K (.bool true)
abbrev s_are_hands : Stmt := top 17
abbrev N_are_hands : List Str := ["value", "name"]
theorem sc_are_hands : FnScope N_are_hands ["value"] (defScope s_are_hands) := ⟨rfl, rfl, rfl, by decide +kernel, rfl, by decide +kernel, by decide +kernel⟩
theorem ok_are_hands {f : Addr} {fd : FuncData} (F : Fun K "are_hands" "are_hands" s_are_hands f fd) (T : Txt mg) (c_is_sequence : Cal P w K mg base CX0 1 "is_sequence" ["value"] (sp_is_sequence K)) (c_is_name : Cal P w K mg base CX0 2 "is_name" ["value"] (sp_is_name K)) : FnOk P w K mg base CX0 3 f fd ["value"] (sp_are_hands K) := by
  refine F.ok sc_are_hands (fun vs H Q E h => ?_) (fun cdv A outer s H vs Q E hr h => ?_)
  · obtain ⟨x, G, hs, ⟨v1, _, rfl, h1, rfl⟩, hp, k⟩ := h; rfl
  · obtain ⟨⟨d, xs⟩, G, hs, ⟨v1, _, rfl, h1, rfl⟩, ⟨hq, hp⟩, k⟩ := h
    replace hp : HandsOk xs := hp
    replace hq : SqD d (sds xs) := hq
    replace h1 : Dp K G v1 d := h1
    have nd := sc_are_hands.nd
    have hu := hu_of hr
    have hrU := hrU_of hr
    refine ⟨_, pss_cons (ps_if (PW.pt (pw_or (pt_not (pt_val (pe_cal c_is_sequence (hr.mono (by decide)) (by rfl) pass0 (pa_cons (pv 0) pa_nil)))) (pw_or1 (pt_not (pt_chain op_le op_le (pe_gint (by rfl) T.c_FEWEST_HANDS) (pe_callB (kLen K) (by rfl) T.m_len (by decide +kernel) (pa_cons (pv 0) pa_nil)) (pe_gint (by rfl) T.c_MOST_HANDS))))))
      (pss_one (ps_ret (pe_bl)))
      (pss_nil))
    (pss_one (ps_ret (pe_and (pe_callB (kAll K rfl) (by rfl) T.m_all (by decide +kernel) (pa_cons (pe_lc (own := [("name", 1)]) (by rfl) nd (kSeq K (pv 0)) (blkOk_by (by kernel_rfl)) (fun _ _ _ _ _ => (pg_n 1 nd)) (fun _ _ _ _ _ => pts_nil) (fun _ _ _ _ _ => (pe_cal c_is_name (hr.mono (by decide)) (by rfl) pass0 (pa_cons (pv 1) pa_nil)))) pa_nil)) (pe_one (pe_cmpR op_eq (pe_callB (kLenSet w) (by rfl) T.m_len (by decide +kernel) (pa_cons (pe_callTy (kSet K w rfl) (by rfl) T.m_set (by decide +kernel) (pa_cons (pv 0) pa_nil)) pa_nil)) (pe_callB (kLen K) (by rfl) T.m_len (by decide +kernel) (pa_cons (pv 0) pa_nil)) (nomark _)))))), ?_⟩
    have hll : (sds xs).length = xs.length := List.length_map _
    have hl : (sds xs).length ≤ 1000000 := by rw [hll]; exact Nat.le_trans hp.l6 (by decide)
    have a1 := hp.l2
    have a2 := hp.l6
    refine q_skip hs (et_or (et_not (et_B (e_call (d, sds xs) (ea_cons (e_var rfl h1) ea_nil) hq))) fun _ => et_not (et_T (ed_chain ed_int (ed_len hq (e_var rfl h1)) ed_int))) ?_ fun G2 H2 g2 => ?_
    · simp
      exact ⟨by omega, by omega⟩
    · have h1' : Dp K G2 v1 d := Dp.up g2.up _ _ h1
      refine s_ret g2.sub ((ed_andV (ed_allT (src_seq hq (e_var rfl h1')) hl fun i G1 x hi u ⟨e, he, hx⟩ => ?_) fun _ => ed_eqI (ed_lenSet (e_set hq (by omega) (e_var rfl h1'))) (ed_len hq (e_var rfl h1'))).to ?_) fun v G3 H3 g3 => k v G3 H3 (g2.trans g3)
      · obtain ⟨y, hy, rfl⟩ := sds_get he
        exact ⟨_, tg_name, rfl, e_call y (ea_cons (e_var rfl hx) ea_nil) (hp.ok y (mem_of_get hy))⟩
      · rw [nodup_lot_len hp.nd, hll]; simp
/-- a note told behind others -/
structure ToldN (n : Note) (hands earlier : List Str) : Prop where
  ok : NameOk n.1
  new : n.1 ∉ earlier
  hok : NameOk n.2.1
  hin : n.2.1 ∈ hands
  lot : LotOk n.2.2
  win : ∀ z ∈ n.2.2, z ∈ earlier
def sp_is_told_note (K : PySem.W.Frag) : Sp := SpG (Γ := Note × Bool × List Str × List Str) (fun x => [D K (dNote x.1), D K (qd x.2.1 (sds x.2.2.1)), D K (.list (sds x.2.2.2))]) (fun x => ToldN x.1 x.2.2.1 x.2.2.2) fun _ => D K (.bool true)
abbrev s_is_told_note : Stmt := top 18
abbrev N_is_told_note : List Str := ["value", "hands", "earlier", "name"]
theorem sc_is_told_note : FnScope N_is_told_note ["value", "hands", "earlier"] (defScope s_is_told_note) := ⟨rfl, rfl, rfl, by decide +kernel, rfl, by decide +kernel, by decide +kernel⟩
theorem ok_is_told_note {f : Addr} {fd : FuncData} (F : Fun K "is_told_note" "is_told_note" s_is_told_note f fd) (T : Txt mg) (c_is_name : Cal P w K mg base CX0 2 "is_name" ["value"] (sp_is_name K)) (c_is_lot : Cal P w K mg base CX0 3 "is_lot" ["value"] (sp_is_lot K)) : FnOk P w K mg base CX0 4 f fd ["value", "hands", "earlier"] (sp_is_told_note K) := by
  refine F.ok sc_is_told_note (fun vs H Q E h => ?_) (fun cdv A outer s H vs Q E hr h => ?_)
  · obtain ⟨x, G, hs, ⟨v1, _, rfl, h1, v2, _, rfl, h2, v3, _, rfl, h3, rfl⟩, hp, k⟩ := h; rfl
  · obtain ⟨⟨n, b, hands, earlier⟩, G, hs, ⟨v1, _, rfl, h1, v2, _, rfl, h2, v3, _, rfl, h3, rfl⟩, hp, k⟩ := h
    replace h1 : Dp K G v1 (dNote n) := h1
    replace h2 : Dp K G v2 (qd b (sds hands)) := h2
    replace h3 : Dp K G v3 (.list (sds earlier)) := h3
    replace hp : ToldN n hands earlier := hp
    have nd := sc_is_told_note.nd
    have hu := hu_of hr
    have hrU := hrU_of hr
    refine ⟨_, pss_cons (ps_if (PW.pt (pw_or (pt_not (pt_val (pe_callB (kIsi K) (by rfl) T.m_isinstance (by decide +kernel) (pa_cons (pv 0) (pa_cons (pe_bltn (v := V.ty "tuple") (by rfl) T.m_tuple (by decide +kernel) rfl) pa_nil))))) (pw_or (pt_cmpR op_ne (pe_callB (kLen K) (by rfl) T.m_len (by decide +kernel) (pa_cons (pv 0) pa_nil)) (pe_int) (nomark _)) (pw_or (pt_not (pt_val (pe_cal c_is_name (hr.mono (by decide)) (by rfl) pass0 (pa_cons (pe_ix (kIx K) (pv 0) (pe_int) (fun _ _ => rfl)) pa_nil)))) (pw_or1 (pt_cmpR (kIn K) (pe_ix (kIx K) (pv 0) (pe_int) (fun _ _ => rfl)) (pv 2) (by rfl)))))))
      (pss_one (ps_ret (pe_bl)))
      (pss_nil))
    (pss_cons (ps_if (PW.pt (pw_or (pt_not (pt_val (pe_cal c_is_name (hr.mono (by decide)) (by rfl) pass0 (pa_cons (pe_ix (kIx K) (pv 0) (pe_int) (fun _ _ => rfl)) pa_nil)))) (pw_or (pt_cmpR (kNi K) (pe_ix (kIx K) (pv 0) (pe_int) (fun _ _ => rfl)) (pv 1) (by rfl)) (pw_or1 (pt_not (pt_val (pe_cal c_is_lot (hr.mono (by decide)) (by rfl) pass0 (pa_cons (pe_ix (kIx K) (pv 0) (pe_int) (fun _ _ => rfl)) pa_nil))))))))
      (pss_one (ps_ret (pe_bl)))
      (pss_nil))
    (pss_one (ps_ret (pe_callB (kAll K rfl) (by rfl) T.m_all (by decide +kernel) (pa_cons (pe_lc (own := [("name", 3)]) (by rfl) nd (kSeq K (pe_ix (kIx K) (pv 0) (pe_int) (fun _ _ => rfl))) (blkOk_by (by kernel_rfl)) (fun _ _ _ _ _ => (pg_n 3 nd)) (fun _ _ _ _ _ => pts_nil) (fun _ _ _ _ _ => (pe_cmpR (kIn K) (pv 3) (pv 2) (by rfl)))) pa_nil))))), ?_⟩
    have i0 : ∀ {σ : L2.St} {G2 : Hp} {te : TE}, EvS te σ G2 (D K (dNote n)) → EvS (tOp (rIx K) te (tC (.int 0))) σ G2 (D K (.str n.1)) := fun h => ed_ix 0 (.t _) h ed_int (.inl ⟨rfl, by simp⟩) rfl
    have i1 : ∀ {σ : L2.St} {G2 : Hp} {te : TE}, EvS te σ G2 (D K (dNote n)) → EvS (tOp (rIx K) te (tC (.int 1))) σ G2 (D K (.str n.2.1)) := fun h => ed_ix 1 (.t _) h ed_int (.inl ⟨rfl, by simp⟩) rfl
    have i2 : ∀ {σ : L2.St} {G2 : Hp} {te : TE}, EvS te σ G2 (D K (dNote n)) → EvS (tOp (rIx K) te (tC (.int 2))) σ G2 (D K (.tuple (sds n.2.2))) := fun h => ed_ix 2 (.t _) h ed_int (.inl ⟨rfl, by simp⟩) rfl
    refine q_skip hs (et_or (et_not (et_B (ed_isiTup (e_var rfl h1)))) fun _ => et_or (et_T (ed_neI (ed_len (.t _) (e_var rfl h1)) ed_int)) fun _ => et_or (et_not (et_B (e_call n.1 (ea_cons (i0 (e_var rfl h1)) ea_nil) hp.ok))) fun _ => et_T (ed_isIn (.l _) (i0 (e_var rfl h1)) (e_var rfl h3))) ?_ fun G2 H2 g2 => ?_
    · simp [hp.new]
    replace h1 := Dp.up g2.up _ _ h1
    replace h2 := Dp.up g2.up _ _ h2
    replace h3 := Dp.up g2.up _ _ h3
    refine q_skip g2.sub (et_or (et_not (et_B (e_call n.2.1 (ea_cons (i1 (e_var rfl h1)) ea_nil) hp.hok))) fun _ => et_or (et_T (ed_niIn (qd_sq _ _) (i1 (e_var rfl h1)) (e_var rfl h2))) fun _ => et_not (et_B (e_call n.2.2 (ea_cons (i2 (e_var rfl h1)) ea_nil) hp.lot))) ?_ fun G3 H3 g3 => ?_
    · simp [hp.hin]
    replace h1 := Dp.up g3.up _ _ h1
    replace h3 := Dp.up g3.up _ _ h3
    refine s_ret g3.sub (ed_allT (src_seq (.t _) (i2 (e_var rfl h1))) (by rw [List.length_map]; exact Nat.le_trans hp.lot.len (by decide)) fun i G4 x hi u ⟨e, he, hx⟩ => ?_) fun v G4 H4 g4 => k v G4 H4 ((g2.trans g3).trans g4)
    obtain ⟨y, hy, rfl⟩ := sds_get he
    exact ⟨_, tg_name, rfl, (ed_isIn (.l _) (e_var rfl hx) (e_var rfl (Dp.up u _ _ h3))).to (by rw [decide_eq_true (hp.win y (mem_of_get hy))])⟩
end
end KB

set_option Elab.async false
set_option linter.all false
set_option maxRecDepth 100000
set_option maxHeartbeats 4000000
/-! The program's defs: ready notes, bits, the paper. -/
namespace KB
open PySem PySem.Spec PyProof.Rows L2
section
variable {K : PySem.W.Frag} {σ : L2.St} {G G2 H : Hp} {te : TE} {En : Ends} {tz : TS}
theorem nms_take (ns : List Note) (i : Nat) : nms (ns.take i) = (nms ns).take i := by unfold nms; rw [List.map_take]
/-- a, b, c = {}, {}, [] -/
theorem q_par3 {i j l : Nat} (s : Same G H) (k : ∀ p q r H2, Grow G H G H2 → p ≠ q → p ≠ r → q ≠ r → H p = none → H q = none → H r = none → G p = none → G q = none → G r = none → H2 p = some (.dK []) → H2 q = some (.dK []) → H2 r = some (.lst []) → tz En (((σ.set i (some (.ref p))).set j (some (.ref q))).set l (some (.ref r))) H2) :
    tSeq (tPar3 i j l (tCons tDNewK (tCons tDNewK (tCons (tLst tNil) tNil)))) tz En σ H := by
  intro p hp q hq
  refine ⟨Nat.zero_le _, fun r hr => ⟨_, _, _, rfl, ?_⟩⟩
  have npq : q ≠ p := fun e => by subst e; rw [upd_same] at hq; cases hq
  have hq' : H q = none := by rw [upd_ne npq] at hq; exact hq
  have nrq : r ≠ q := fun e => by subst e; rw [upd_same] at hr; cases hr
  have hr1 : upd H p (.dK []) r = none := by rw [upd_ne nrq] at hr; exact hr
  have nrp : r ≠ p := fun e => by subst e; rw [upd_same] at hr1; cases hr1
  have hr' : H r = none := by rw [upd_ne nrp] at hr1; exact hr1
  have g1 : Grow G H G (upd H p (.dK [])) := Grow.cell s hp
  have g2 : Grow G (upd H p (.dK [])) G (upd (upd H p (.dK [])) q (.dK [])) := Grow.cell g1.sub hq
  have g3 : Grow G (upd (upd H p (.dK [])) q (.dK [])) G (upd (upd (upd H p (.dK [])) q (.dK [])) r (.lst [])) := Grow.cell g2.sub hr
  exact k p q r _ ((g1.trans g2).trans g3) npq.symm nrp.symm nrq.symm hp hq' hr' (s.free hp) (s.free hq') (s.free hr') (by rw [upd_ne nrp.symm, upd_ne npq.symm, upd_same]) (by rw [upd_ne nrq.symm, upd_same]) upd_same
theorem Grow.cellwr {G1 H1 H2 : Hp} {l : Addr} {o : HO} (g : Grow G H G1 H1) (hl : H l = none) (w : Wr l o G1 H1 G2 H2) : Grow G H G2 H2 :=
  ⟨g.up.trans w.up, w.sub, fun b u e => w.oth b u (ne_of_none e hl) (g.keep b u e), fun b hb n => w.off b (fun z => hb (g.keep.free z)) (g.off b hb n)⟩
theorem joinK {tt : TT} {tu tw : TS} {I : L2.St → Hp → Prop} (k : ∀ σ' H', I σ' H' → tz En σ' H') (h : (∀ σ' H', I σ' H' → tz En σ' H') → tSeq (tIfS tt tu tw) tz En σ H) : tSeq (tIfS tt tu tw) tz En σ H := h k
end
section
variable {P : Program} {w : World} {K : PySem.W.Frag} {mg : Str → Option Value} {base : Heap}
theorem names_of_pac {p : Pac} (v : Val p) : ∀ x ∈ nms p.notes, NameOk x := fun x hx => by
  obtain ⟨n, hn, rfl⟩ := List.mem_map.mp hx
  exact (v.nok n hn).1
theorem ready_at {p : Pac} (v : Val p) {r : Str} {i : Nat} (h : p.ready[i]? = some r) : ∃ h, p.hands[i]? = some h ∧ r ∈ nms p.notes ∧ hnd p.notes r = h := by
  have hl := (List.getElem?_eq_some_iff.mp h).1
  rw [v.rlen] at hl
  have e : p.hands[i]? = some p.hands[i] := List.getElem?_eq_getElem _
  exact ⟨_, e, v.rok i r _ h e⟩
def sp_are_ready (K : PySem.W.Frag) : Sp := SpG (Γ := Pac × Bool) (fun x => [D K (qd x.2 (sds x.1.ready)), D K (qd x.2 (sds x.1.hands)), D K (.list (dNotes x.1.notes))]) (fun x => Val x.1) fun _ => D K (.bool true)
abbrev s_are_ready : Stmt := top 19
abbrev N_are_ready : List Str := ["value", "hands", "notes", "owners", "name", "hand", "waits"]
theorem sc_are_ready : FnScope N_are_ready ["value", "hands", "notes"] (defScope s_are_ready) := ⟨rfl, rfl, rfl, by decide +kernel, rfl, by decide +kernel, by decide +kernel⟩
theorem ok_are_ready {f : Addr} {fd : FuncData} (F : Fun K "are_ready" "are_ready" s_are_ready f fd) (T : Txt mg) (c_is_sequence : Cal P w K mg base CX0 1 "is_sequence" ["value"] (sp_is_sequence K)) (c_is_name : Cal P w K mg base CX0 2 "is_name" ["value"] (sp_is_name K)) : FnOk P w K mg base CX0 3 f fd ["value", "hands", "notes"] (sp_are_ready K) := by
  refine F.ok sc_are_ready (fun vs H Q E h => ?_) (fun cdv A outer s H vs Q E hr h => ?_)
  · obtain ⟨x, G, hs, ⟨v1, _, rfl, h1, v2, _, rfl, h2, v3, _, rfl, h3, rfl⟩, hp, k⟩ := h; rfl
  · obtain ⟨⟨p, b⟩, G, hs, ⟨v1, _, rfl, h1, v2, _, rfl, h2, v3, _, rfl, h3, rfl⟩, hp, k⟩ := h
    replace h1 : Dp K G v1 (qd b (sds p.ready)) := h1
    replace h2 : Dp K G v2 (qd b (sds p.hands)) := h2
    replace h3 : Dp K G v3 (.list (dNotes p.notes)) := h3
    replace hp : Val p := hp
    have nd := sc_are_ready.nd
    have hu := hu_of hr
    have hrU := hrU_of hr
    refine ⟨_, pss_cons (ps_if (PW.pt (pw_or (pt_not (pt_val (pe_cal c_is_sequence (hr.mono (by decide)) (by rfl) pass0 (pa_cons (pv 0) pa_nil)))) (pw_or1 (pt_cmpR op_ne (pe_callB (kLen K) (by rfl) T.m_len (by decide +kernel) (pa_cons (pv 0) pa_nil)) (pe_callB (kLen K) (by rfl) T.m_len (by decide +kernel) (pa_cons (pv 1) pa_nil)) (nomark _)))))
      (pss_one (ps_ret (pe_bl)))
      (pss_nil))
    (pss_cons (ps_n 3 nd (pe_dc (own := [("name", 4), ("hand", 5), ("waits", 6)]) (by rfl) nd (kSeq K (pv 2)) (blkOk_by (by kernel_rfl)) (fun _ _ _ _ _ => (kTg K 3 rfl (pgs_cons (pg_n 4 nd) (pgs_cons (pg_n 5 nd) (pgs_cons (pg_n 6 nd) pgs_nil))))) (fun _ _ _ _ _ => pts_nil) (fun _ _ _ _ _ => (pv 4)) (fun _ _ _ _ _ => (pv 5))))
    (pss_one (ps_ret (pe_callB (kAll K rfl) (by rfl) T.m_all (by decide +kernel) (pa_cons (pe_lc (own := [("name", 4), ("hand", 5)]) (by rfl) nd (kZip K (by rfl) T.m_zip (pa_cons (pv 0) (pa_cons (pv 1) pa_nil))) (blkOk_by (by kernel_rfl)) (fun _ _ _ _ _ => (kTg K 2 rfl (pgs_cons (pg_n 4 nd) (pgs_cons (pg_n 5 nd) pgs_nil)))) (fun _ _ _ _ _ => pts_nil) (fun _ _ _ _ _ => (pe_and (pe_cal c_is_name (hr.mono (by decide)) (by rfl) pass0 (pa_cons (pv 4) pa_nil)) (pe_one (pe_cmpR (kEq K hrU) (pe_dget1 hu (pv 3) (pv 4) m1) (pv 5) (nomark _)))))) pa_nil))))), ?_⟩
    have hn := hp.n40
    have hh := hp.h6
    have nd2 := hp.told.nodup
    refine q_skip hs (et_or (et_not (et_B (e_call (qd b (sds p.ready), sds p.ready) (ea_cons (e_var rfl h1) ea_nil) (qd_sq _ _)))) fun _ => et_T (ed_neI (ed_len (qd_sq _ _) (e_var rfl h1)) (ed_len (qd_sq _ _) (e_var rfl h2)))) ?_ fun G2 H2 g2 => ?_
    · rw [List.length_map, List.length_map, hp.rlen]; simp
    replace h1 := Dp.up g2.up _ _ h1
    replace h2 := Dp.up g2.up _ _ h2
    replace h3 := Dp.up g2.up _ _ h3
    have hz : (sds p.ready).length = (sds p.hands).length := by rw [List.length_map, List.length_map, hp.rlen]
    refine q_asg g2.sub (e_dc (K := K) (fun i => (p.notes.take i).map fun n => (n.1, .str n.2.1)) (src_seq (.l _) (e_var rfl h3)) (by rw [List.length_map]; omega) rfl (fun i => by rw [List.length_map, List.length_take]; omega) fun i G3 x hi u ⟨e, he, hx⟩ => ?_) fun v G3 H3 g3 rv => ?_
    · obtain ⟨n, hn, rfl⟩ := dN_get he
      obtain ⟨w1, w2, w3, r1, r2, r3, htg⟩ := tg_3 hx
      refine ⟨_, htg _ _ _ _ tg_name tg_name tg_name, rfl, et_yes, n.1, .str n.2.1, ?_, rfl, e_var rfl r1, e_var rfl r2⟩
      rw [take_snoc hn, List.map_append, putS_new]
      · rfl
      · rw [List.map_map]
        exact not_pre nd2 hn
    replace h1 := Dp.up g3.up _ _ h1
    replace h2 := Dp.up g3.up _ _ h2
    refine s_ret g3.sub (ed_allT (src_zip (ds := sds p.ready) (es := sds p.hands) (by cases b; exact .inr (.inl ⟨rfl, rfl⟩); exact .inl ⟨rfl, rfl⟩) hz (e_var rfl h1) (e_var rfl h2)) (by rw [List.length_map, hp.rlen]; omega) fun i G4 x hi u ⟨a, c, ea, ec, hx⟩ => ?_) fun v G4 H4 g4 => k v G4 H4 ((g2.trans g3).trans g4)
    obtain ⟨r, hr1, rfl⟩ := sds_get ea
    obtain ⟨h, hh1, rfl⟩ := sds_get ec
    obtain ⟨w1, w2, q1, q2, htg⟩ := tg_2 hx
    obtain ⟨h', e', m1, m2⟩ := ready_at hp hr1
    rw [hh1] at e'
    cases e'
    obtain ⟨n, n1, n2, n3, n4⟩ := lookup_notes (g := fun n => .str n.2.1) m1
    have hd : n.2.1 = h := by
      rw [← m2]; unfold hnd; rw [n3]; rfl
    have hr2 := names_of_pac hp r m1
    have hh2 := hp.hok h (mem_of_get hh1)
    refine ⟨_, htg _ _ _ tg_name tg_name, rfl, (ed_andV (e_call r (ea_cons (e_var rfl q1) ea_nil) hr2) fun _ => ed_eqDS (x := n.2.1) (ed_dget1 (e_var rfl (stb u rv)) (e_var rfl q1) ?_) (e_var rfl q2) (hd ▸ hh2) hh2).to ?_⟩
    · show List.lookup r ((p.notes.take (dNotes p.notes).length).map _) = _
      rw [List.length_map, List.take_length]
      exact n4
    · rw [hd]; simp
/-- ints as data -/
abbrev nds (bs : List Nat) : List PyData := bs.map fun b => .int (b : Nat)
theorem nds_get {bs : List Nat} {i b : Nat} (h : bs[i]? = some b) : (nds bs)[i]? = some (.int (b : Nat)) := by rw [List.getElem?_map, h]; rfl
theorem dp_nds {G : Hp} : ∀ (bs : List Nat), DpAll K G (bs.map fun b => V.int (b : Nat)) (nds bs)
  | [] => .nil
  | b :: bs => .cons (.int _) (dp_nds bs)
theorem flatDs_nds (bs : List Nat) : flatDs (nds bs) = true := by
  induction bs with
  | nil => rfl
  | cons b bs ih => exact ih
def sp_bits_under (K : PySem.W.Frag) : Sp := SpG (Γ := List Note) (fun ns => [D K (.list (dNotes ns))]) (fun ns => Told ns ∧ ns.length ≤ 40) fun ns v H => ∃ bs, BitsTo ns ns.length bs ∧ Dp K H v (.tuple (nds bs))
/-- the cells of bits_under -/
structure BU (K : PySem.W.Frag) (ns : List Note) (G0 H0 : Hp) (i : Nat) (pl la fo : Addr) (G H : Hp) : Prop where
  gr : Grow G0 H0 G H
  o1 : H0 pl = none
  o2 : H0 la = none
  o3 : H0 fo = none
  n1 : pl ≠ la
  n2 : pl ≠ fo
  n3 : la ≠ fo
  g1 : G pl = none
  g2 : G la = none
  g3 : G fo = none
  c1 : ∃ kvs f, H pl = some (.dK kvs) ∧ KvD K G kvs f ∧ PlaceOk ns i f ∧ f.length ≤ i
  c2 : ∃ kvs f, H la = some (.dK kvs) ∧ KvD K G kvs f ∧ LastOk ns i f ∧ f.length ≤ i
  c3 : ∃ bs : List Nat, H fo = some (.lst (bs.map fun b => V.int (b : Nat))) ∧ BitsTo ns i bs
theorem BU.keep {ns : List Note} {i : Nat} {pl la fo : Addr} {G0 H0 G H H2 : Hp} (b : BU K ns G0 H0 i pl la fo G H) (s : Same H H2) : BU K ns G0 H0 i pl la fo G H2 := by
  obtain ⟨gr, o1, o2, o3, n1, n2, n3, g1, g2, g3, ⟨k1, f1, a1, a2, a3⟩, ⟨k2, f2, b1, b2, b3⟩, ⟨bs, c1, c2⟩⟩ := b
  exact ⟨⟨gr.up, gr.sub.trans s, gr.keep.trans s, gr.off⟩, o1, o2, o3, n1, n2, n3, g1, g2, g3, ⟨k1, f1, s _ _ a1, a2, a3⟩, ⟨k2, f2, s _ _ b1, b2, b3⟩, ⟨bs, s _ _ c1, c2⟩⟩
theorem BU.grow {ns : List Note} {i : Nat} {pl la fo : Addr} {G0 H0 G H G2 H2 : Hp} (b : BU K ns G0 H0 i pl la fo G H) (g : Grow G H G2 H2) : BU K ns G0 H0 i pl la fo G2 H2 := by
  obtain ⟨gr, o1, o2, o3, n1, n2, n3, g1, g2, g3, ⟨k1, f1, a1, a2, a3⟩, ⟨k2, f2, b1, b2, b3⟩, ⟨bs, c1, c2⟩⟩ := b
  exact ⟨gr.trans g, o1, o2, o3, n1, n2, n3, g.off _ (by rw [a1]; exact fun z => nomatch z) g1, g.off _ (by rw [b1]; exact fun z => nomatch z) g2, g.off _ (by rw [c1]; exact fun z => nomatch z) g3,
    ⟨k1, f1, g.keep _ _ a1, a2.up g.up, a3⟩, ⟨k2, f2, g.keep _ _ b1, b2.up g.up, b3⟩, ⟨bs, g.keep _ _ c1, c2⟩⟩
abbrev s_bits_under : Stmt := top 20
abbrev N_bits_under : List Str := ["notes", "places", "lasts", "found", "at", "under", "other", "name", "hand", "waits"]
theorem sc_bits_under : FnScope N_bits_under ["notes"] (defScope s_bits_under) := ⟨rfl, rfl, rfl, by decide +kernel, rfl, by decide +kernel, by decide +kernel⟩
theorem ok_bits_under {f : Addr} {fd : FuncData} (F : Fun K "bits_under" "bits_under" s_bits_under f fd) (T : Txt mg)  : FnOk P w K mg base CX0 1 f fd ["notes"] (sp_bits_under K) := by
  refine F.ok sc_bits_under (fun vs H Q E h => ?_) (fun cdv A outer s H vs Q E hr h => ?_)
  · obtain ⟨x, G, hs, ⟨v1, _, rfl, h1, rfl⟩, hp, k⟩ := h; rfl
  · obtain ⟨ns, G, hs, ⟨v1, _, rfl, h1, rfl⟩, ⟨ht, hl⟩, k⟩ := h
    have nd := sc_bits_under.nd
    have hu := hu_of hr
    have hrU := hrU_of hr
    refine ⟨_, pss_cons (ps_par3 (i := 1) (j := 2) (l := 3) (by rfl) nd rfl rfl rfl (by decide) (by decide) (by decide) rfl rfl rfl (pa_cons (pe_dnewK) (pa_cons (pe_dnewK) (pa_cons (pe_lst pa_nil) pa_nil))) (by rfl))
    (pss_cons (ps_for PassesOwn.never rfl (kEnum K (by rfl) T.m_enumerate (pa_cons (pv 0) pa_nil)) (kTg K 2 rfl (pgs_cons (pg_n 4 nd) (pgs_cons (kTg K 3 rfl (pgs_cons (pg_n 7 nd) (pgs_cons (pg_n 8 nd) (pgs_cons (pg_n 9 nd) pgs_nil)))) pgs_nil)))
      (pss_cons (ps_n 5 nd (pe_op op_shl (pe_int) (pv 4)))
        (pss_cons (ps_for PassesOwn.never rfl (kSeq K (pv 9)) (pg_n 6 nd)
          (pss_one (ps_augn 5 nd (pe_ix (kIx K) (pv 3) (pe_dget hu (pv 1) (pv 6) (fun _ _ => rfl)) (fun _ _ => rfl)) ip_bor)))
        (pss_cons (ps_if (pt_cmp (pc_din hu (pv 8) (pv 2)))
          (pss_one (ps_augn 5 nd (pe_ix (kIx K) (pv 3) (pe_dget hu (pv 2) (pv 8) (fun _ _ => rfl)) (fun _ _ => rfl)) ip_bor))
          (pss_nil))
        (pss_cons (ps_dput hu (pv 1) (pv 7) (pv 4) rfl)
        (pss_cons (ps_dput hu (pv 2) (pv 8) (pv 4) rfl)
        (pss_one (ps_expr (pe_bm PySem.F.plainAttrs_list PySem.F.slot_list_append PySem.F.type_list_append mt_append (pv 3) (pa_cons (pv 5) pa_nil))))))))))
    (pss_one (ps_ret (pe_callTy (kTup K) (by rfl) T.m_tuple (by decide +kernel) (pa_cons (pv 3) pa_nil))))), ?_⟩
    have nd2 := ht.nodup
    have hln : (dNotes ns).length = ns.length := List.length_map _
    refine q_par3 hs fun pl la fo H1 g1 n1 n2 n3 e1 e2 e3 p1 p2 p3 c1 c2 c3 => ?_
    have b0 : BU K ns G H 0 pl la fo G H1 := ⟨g1, e1, e2, e3, n1, n2, n3, p1, p2, p3, ⟨[], [], c1, .nil, fun k x h => by omega, Nat.le_refl _⟩, ⟨[], [], c2, .nil, last_nil ns, Nat.le_refl _⟩, ⟨[], c3, rfl, fun k b y e => by simp at e⟩⟩
    refine q_for g1.sub (src_enum (.l _) (e_var rfl h1)) (fun i σ G' H' => BU K ns G H i pl la fo G' H' ∧ ∃ a4 a5 a6 a7 a8 a9 : Option V, σ = [some v1, some (.ref pl), some (.ref la), some (.ref fo), a4, a5, a6, a7, a8, a9]) (fun G2 H2 g2 => ⟨b0.grow g2, _, _, _, _, _, _, rfl⟩) ?_ ?_
    · rintro i σ' G' H' x G4 H4 hi sg sh ⟨bu, a4, a5, a6, a7, a8, a9, rfl⟩ g4 ⟨a, b, ea, eb, hx⟩
      cases ea
      obtain ⟨n, hn, rfl⟩ := dN_get eb
      have hin : i < ns.length := by rw [hln] at hi; exact hi
      obtain ⟨w1, w2, q1, q2, htg⟩ := tg_2 hx
      obtain ⟨u1, u2, u3, r1, r2, r3, htg3⟩ := tg_3 q2
      cases q1
      cases r1
      cases r2
      refine ⟨_, htg _ _ _ tg_name (htg3 _ _ _ _ tg_name tg_name tg_name), ?_⟩
      replace bu := bu.grow g4
      have g4s := g4.sub
      clear hx q2 htg htg3
      -- under = 1 << at
      refine q_asg g4s ((ed_IC (K := K) ed_int (e_var rfl (.int (i : Nat))) ⟨by omega, by omega, by decide⟩).to (d' := .int ((2 ^ i : Nat) : Int)) (by rw [shl_nat])) fun v G5 H5 g5 rv => ?_
      cases d_int rv
      replace bu := bu.grow g5
      replace r3 := Dp.up g5.up _ _ r3
      have upG := g4.up.trans g5.up
      -- for other in waits: under |= found[places[other]]
      refine q_for g5.sub (src_seq (.t _) (e_var rfl r3)) (fun m σ G' H' => BU K ns G H i pl la fo G' H' ∧ ∃ (b : Nat) (a6 : Option V), TB ns b (fun x => x = n.1 ∨ ∃ z ∈ n.2.2.take m, Und ns x z) ∧
        σ = [some v1, some (.ref pl), some (.ref la), some (.ref fo), some (.int (i : Nat)), some (.int (b : Nat)), a6, some (.str n.1), some (.str n.2.1), some u3])
        (fun G6 H6 g6 => ⟨bu.grow g6, 2 ^ i, _, (tb_one nd2 (nms_get hn)).imp fun x => by simp, rfl⟩) ?_ ?_
      · rintro m σ' G6 H6 x G7 H7 hm sg6 sh6 ⟨bu, b, a6, hb, rfl⟩ g7 ⟨e, he, hx⟩
        obtain ⟨z, hz, rfl⟩ := sds_get he
        cases hx
        refine ⟨_, tg_name, ?_⟩
        replace bu := bu.grow g7
        obtain ⟨kp, fp, cp, kdp, okp, _⟩ := bu.c1
        obtain ⟨bs, cb, okb⟩ := bu.c3
        have sp1 : Same (upd G7 pl (.dK kp)) H7 := same_with g7.sub cp
        have sp2 : Same (upd (upd G7 pl (.dK kp)) fo (.lst (bs.map fun b => V.int (b : Nat)))) H7 := same_with sp1 cb
        have up2 : Same G7 (upd (upd G7 pl (.dK kp)) fo (.lst (bs.map fun b => V.int (b : Nat)))) := (Same.new bu.g1).trans (Same.new (by rw [upd_ne bu.n2.symm]; exact bu.g3))
        have tp := ht
        obtain ⟨j, hj1, hj2⟩ : ∃ j, (nms ns)[j]? = some z ∧ j < i := by
          have hw := ahead_mem ht (y := n.1) (List.mem_map.mpr ⟨n, mem_of_get hn, rfl⟩) (List.mem_append_left _ (by rw [wts_at nd2 hn]; exact mem_of_get hz))
          obtain ⟨j, hj⟩ := List.mem_iff_getElem?.mp hw.1
          refine ⟨j, hj, ?_⟩
          have e1 : (nms ns).idxOf z = j := by
            have l1 := idx_lt hw.1
            have l2 : (nms ns)[(nms ns).idxOf z]? = some z := by rw [List.getElem?_eq_getElem l1]; simp
            exact nodup_get nd2 l2 hj
          have e2 : (nms ns).idxOf n.1 = i := by
            have l1 := idx_lt (List.mem_map.mpr ⟨n, mem_of_get hn, rfl⟩ : n.1 ∈ nms ns)
            have l2 : (nms ns)[(nms ns).idxOf n.1]? = some n.1 := by rw [List.getElem?_eq_getElem l1]; simp
            exact nodup_get nd2 l2 (nms_get hn)
          have := hw.2
          omega
        obtain ⟨bz, hbz1, hbz2⟩ := bits_get okb hj2 hj1
        have hjl : j < bs.length := by rw [okb.1]; exact hj2
        refine s_aug (b := (bz : Nat)) sp2 rfl (ed_ix (e := .int (bz : Nat)) j (.l (nds bs)) (e_var rfl (.lst (SqL.of upd_same) (dp_nds bs))) (ed_dget (f := fp) (e_var rfl ⟨pl, kp, rfl, .inl (by rw [upd_ne bu.n2, upd_same]), kdp.up up2⟩) (e_var rfl (.str z)) (okp j z hj2 hj1)) (.inl ⟨rfl, by rw [List.length_map]; exact hjl⟩) (nds_get hbz1)) fun G8 H8 g8 => ?_
        refine ⟨G7, g7.up, g7.sub.trans g8.keep, bu.keep g8.keep, b ||| bz, _, ((hb.or hbz2).imp fun x => ?_), by rw [or_nat]; rfl⟩
        rw [List.take_add_one, hz, or_assoc]
        refine or_congr Iff.rfl ?_
        simp only [Option.toList_some, List.mem_append, List.mem_singleton]
        constructor
        · rintro (⟨z', h1, h2⟩ | h)
          · exact ⟨z', .inl h1, h2⟩
          · exact ⟨z, .inr rfl, h⟩
        · rintro ⟨z', h1 | h1, h2⟩
          · exact .inl ⟨z', h1, h2⟩
          · subst h1; exact .inr h2
      · rintro σ' G6 H6 sg6 sh6 ⟨bu, b, a6, hb, rfl⟩
        rw [List.length_map, List.take_length] at hb
        refine joinK (I := fun σ' H' => ∃ (b2 : Nat) (G7 : Hp), Same G6 G7 ∧ Same G7 H' ∧ BU K ns G H i pl la fo G7 H' ∧ TB ns b2 (fun x => Und ns x n.1) ∧
          σ' = [some v1, some (.ref pl), some (.ref la), some (.ref fo), some (.int (i : Nat)), some (.int (b2 : Nat)), a6, some (.str n.1), some (.str n.2.1), some u3]) ?_ fun fin => ?_
        · rintro σ' H7 ⟨b2, G7, sg7, sh7, bu, hb2, rfl⟩
          obtain ⟨kp, fp, cp, kdp, okp, lp⟩ := bu.c1
          refine q_dput (K := K) sh7 rfl cp bu.g1 (by rw [kdp.len]; omega) (e_var rfl (.str n.1)) (e_var (R := D K (.int (i : Nat))) rfl (.int (i : Nat))) fun v G8 H8 wr1 rv => ?_
          cases d_int rv
          obtain ⟨kl, fl, cl, kdl, okl, ll⟩ := bu.c2
          have cl8 : H8 la = some (.dK kl) := wr1.oth _ _ bu.n1.symm cl
          have off8 : ∀ b, H7 b ≠ none → G7 b = none → G8 b = none := wr1.off
          have gl8 : G8 la = none := off8 _ (by rw [cl]; exact fun z => nomatch z) bu.g2
          refine q_dput (K := K) wr1.sub rfl cl8 gl8 (by rw [kdl.len]; omega) (e_var rfl (.str n.2.1)) (e_var (R := D K (.int (i : Nat))) rfl (.int (i : Nat))) fun v G9 H9 wr2 rv => ?_
          cases d_int rv
          obtain ⟨bs, cb, okb⟩ := bu.c3
          have cb9 : H9 fo = some (.lst (bs.map fun b => V.int (b : Nat))) := wr2.oth _ _ bu.n3.symm (wr1.oth _ _ bu.n2.symm cb)
          have gf8 : G8 fo = none := off8 _ (by rw [cb]; exact fun z => nomatch z) bu.g3
          have gf9 : G9 fo = none := wr2.off _ (by rw [wr1.oth _ _ bu.n2.symm cb]; exact fun z => nomatch z) gf8
          have gp9 : G9 pl = none := wr2.off _ (by rw [wr1.at]; exact fun z => nomatch z) wr1.cell
          refine s_app (K := K) wr2.sub rfl cb9 gf9 (by rw [List.length_map, okb.1]; omega) (e_var (R := D K (.int (b2 : Nat))) rfl (.int (b2 : Nat))) fun v Ga Ha wr3 rv => ?_
          cases d_int rv
          have up89 := wr2.up
          refine ⟨Ga, upG.trans ((((sg6.trans sg7).trans wr1.up).trans wr2.up).trans wr3.up), wr3.sub, ⟨((bu.gr.cellwr bu.o1 wr1).cellwr bu.o2 wr2).cellwr bu.o3 wr3, bu.o1, bu.o2, bu.o3, bu.n1, bu.n2, bu.n3, ?_, ?_, wr3.cell, ⟨_, _, wr3.oth _ _ bu.n2 (wr2.oth _ _ bu.n1 wr1.at), KvD.put (kdp.up ((wr1.up.trans wr2.up).trans wr3.up)) (.int (i : Nat)), place_step nd2 okp hn, ?_⟩, ⟨_, _, wr3.oth _ _ bu.n3 wr2.at, KvD.put (kdl.up ((wr1.up.trans wr2.up).trans wr3.up)) (.int (i : Nat)), last_step okl hn, ?_⟩, ⟨bs ++ [b2], ?_, bits_step okb hn hb2⟩⟩, _, _, _, _, _, _, rfl⟩
          · exact wr3.off _ (by rw [wr2.oth _ _ bu.n1 wr1.at]; exact fun z => nomatch z) gp9
          · exact wr3.off _ (by rw [wr2.at]; exact fun z => nomatch z) wr2.cell
          · have := putS_len fp n.1 (.int (i : Nat)); omega
          · have := putS_len fl n.2.1 (.int (i : Nat)); omega
          · rw [wr3.at, List.map_append]; rfl
        · obtain ⟨kl, fl, cl, kdl, okl, ll⟩ := bu.c2
          obtain ⟨bs, cb, okb⟩ := bu.c3
          have sp1 : Same (upd G6 la (.dK kl)) H6 := same_with sh6 cl
          have sp2 : Same (upd (upd G6 la (.dK kl)) fo (.lst (bs.map fun b => V.int (b : Nat)))) H6 := same_with sp1 cb
          have up2 : Same G6 (upd (upd G6 la (.dK kl)) fo (.lst (bs.map fun b => V.int (b : Nat)))) := (Same.new bu.g2).trans (Same.new (by rw [upd_ne bu.n3.symm]; exact bu.g3))
          have hy : n.1 ∈ nms ns := List.mem_map.mpr ⟨n, mem_of_get hn, rfl⟩
          have hdt : ∀ {σ : L2.St} {te : TE}, EvS te σ (upd (upd G6 la (.dK kl)) fo (.lst (bs.map fun b => V.int (b : Nat)))) (DT K fl) → True := fun _ => trivial
          have hdl : DT K fl (.ref la) (upd (upd G6 la (.dK kl)) fo (.lst (bs.map fun b => V.int (b : Nat)))) := ⟨la, kl, rfl, .inl (by rw [upd_ne bu.n3, upd_same]), kdl.up up2⟩
          refine q_if sp2 (et_B (ed_din (f := fl) (e_var rfl (.str n.2.1)) (e_var rfl hdl))) (fun ht1 G7 H7 g7 => ?_) (fun ht1 G7 H7 g7 => ?_)
          · rcases okl n.2.1 with ⟨_, e⟩ | ⟨z, k', e1, e2, e3, e4⟩
            · rw [e] at ht1; simp at ht1
            · obtain ⟨bz, hbz1, hbz2⟩ := bits_get okb e4 e3
              have hjl : k' < bs.length := by rw [okb.1]; exact e4
              refine s_aug (b := (bz : Nat)) g7.sub rfl (ed_ix (e := .int (bz : Nat)) k' (.l (nds bs)) (e_var rfl (Dp.up g7.up _ _ (.lst (SqL.of upd_same) (dp_nds bs)))) (ed_dget (f := fl) (e_var rfl (stb g7.up hdl)) (e_var rfl (.str n.2.1)) e2) (.inl ⟨rfl, by rw [List.length_map]; exact hjl⟩) (nds_get hbz1)) fun G8 H8 g8 => ?_
              refine fin _ _ ⟨b ||| bz, G6, .refl _, (sh6.trans g7.keep).trans g8.keep, bu.keep (g7.keep.trans g8.keep), ((hb.or hbz2).imp fun x => ?_), by rw [or_nat]; rfl⟩
              rw [und_step ht hy, or_assoc]
              unfold ahead
              rw [wts_at nd2 hn, prv_at nd2 hn, e1]
              refine or_congr Iff.rfl ?_
              simp only [List.mem_append, List.mem_singleton]
              constructor
              · rintro (⟨z', h1, h2⟩ | h)
                · exact ⟨z', .inl h1, h2⟩
                · exact ⟨z, .inr rfl, h⟩
              · rintro ⟨z', h1 | h1, h2⟩
                · exact .inl ⟨z', h1, h2⟩
                · subst h1; exact .inr h2
          · rcases okl n.2.1 with ⟨e0, e⟩ | ⟨z, k', e1, e2, e3, e4⟩
            · refine fin _ _ ⟨b, G6, .refl _, sh6.trans g7.keep, bu.keep g7.keep, (hb.imp fun x => ?_), rfl⟩
              rw [und_step ht hy]
              unfold ahead
              rw [wts_at nd2 hn, prv_at nd2 hn, e0, List.append_nil]
            · rw [e2] at ht1; simp at ht1
    · rintro σ' G' H' sg sh ⟨bu, a4, a5, a6, a7, a8, a9, rfl⟩
      obtain ⟨bs, cb, okb⟩ := bu.c3
      rw [hln] at okb
      refine s_ret (same_with sh cb) (ed_tupOf (.l (nds bs)) (e_var (R := D K (.list (nds bs))) rfl (.lst (SqL.of upd_same) (dp_nds bs)))) fun v G2 H2 g2 rv => ?_
      exact k v (hid fo G2) H2 (bu.gr.trans (g2.thaw bu.g3 cb)) ⟨bs, okb, Dp.flat (sameT_hid (g2.up _ _ upd_same) (fun _ z => nomatch z) (fun _ _ z => nomatch z)) _ _ (flatDs_nds bs) rv⟩
end
end KB

set_option Elab.async false
set_option linter.all false
set_option maxRecDepth 100000
set_option maxHeartbeats 4000000
/-! Pacts as objects; rows of hands. -/
namespace KB
open PySem PySem.Spec PyProof.Rows L2
/-- a tuple of texts whose object has no dict -/
def FT (xs : List Str) : RP := fun v H => ∃ a o, v = .ref a ∧ H a = some (.frz o (.tup (xs.map V.str))) ∧ o.cls = .type "tuple" ∧ o.dict = none
instance {xs : List Str} : Stb (FT xs) := ⟨fun u ⟨a, o, e, h, r⟩ => ⟨a, o, e, u a _ h, r⟩⟩
theorem FT.d {K : PySem.W.Frag} {xs : List Str} {v : V} {H : Hp} (h : FT xs v H) : Dp K H v (.tuple (sds xs)) := by
  obtain ⟨a, o, rfl, h, _⟩ := h
  exact .tup (.inl (.inr ⟨o, h⟩)) (sds_dp xs)
def rTupF (K : PySem.W.Frag) : List V → Hp → VK → Prop := fun vs H Q => ∃ p ys, vs = [.ref p] ∧ SqL K H p ys ∧ ∀ l o, H l = none → o.cls = .type "tuple" → o.dict = none → Q (.ref l) (upd H l (.frz o (.tup ys)))
theorem kTupF (K : PySem.W.Frag) {X : Cx} (hK : X.K = K := by rfl) : CallR X (.type "tuple") (rTupF K) := by
  subst hK
  intro pins s σ H xs us Q I r h
  obtain ⟨p, ys, rfl, hq, q⟩ := h
  obtain ⟨u, rfl, rx⟩ := vals1 r
  cases rx
  obtain ⟨its, r', pl, hz⟩ := I.list hq
  have hlen := r'.length
  refine call_tuple_list pl.isList (fun h' kp => ?_) (by simp only [List.size_toArray] <;> omega)
  have I1 : Inv X pins σ H { s with heap := h' } := I.kept (t' := s.toks) kp
  have I2 : Inv X pins σ (upd H h'.objs.size (.frz { cls := .type "tuple", data := .seq its.toArray } (.tup ys))) { s with heap := h'.push { cls := .type "tuple", data := .seq its.toArray } } :=
    I1.laid (t' := s.toks) (fun b o e => Heap.get?_push_of_some _ e) (Nat.le_refl _) (show ObjOk X.prog X.w _ _ _ (.frz _ (.tup ys)) from ⟨Heap.get?_push_size _ rfl, ⟨hz, its, r', IsTup.new _ _⟩⟩)
  exact ⟨.ref h'.objs.size, _, I2, rfl, q _ _ (I1.hok.fresh (Nat.le_refl _)) rfl rfl⟩
def tyF (x : V) (H : Hp) : Prop := ∃ a o u, x = .ref a ∧ H a = some (.frz o u) ∧ o.cls = .type "tuple" ∧ o.dict = none
theorem tyF_ok {X : Cx} : TyOk X "tuple" tyF := by
  intro pins σ H s x v I r ⟨a, o, u, e, h, hc, hd⟩
  subst e
  cases r
  have ho : s.heap.get? a = some o := (I.hok a _ h).1
  exact ⟨⟨o, ho, hc⟩, fun b e => by cases e; exact ⟨o, ho, hd⟩⟩
section
variable {K : PySem.W.Frag} {σ : L2.St} {G G2 H : Hp} {ta tb tc te td ty tv : TE} {tt : TT} {tu tw tz : TS} {R Ra Rb Rc : RP} {t : TA} {ds es : List PyData} {d e : PyData} {En : Ends}
theorem e_tupF {xs : List Str} (h : EvS te σ G (D K (.list (sds xs)))) : EvS (tCB (rTupF K) (tCons te tNil)) σ G (FT xs) := fun G0 H u s Q k =>
  h G0 H u s _ fun v G1 H1 g1 r => by
    obtain ⟨a, vs, rfl, hq, hall⟩ := d_list r
    have e := dp_sds hall
    subst e
    exact ⟨a, _, rfl, g1.sub.seq hq, fun l o hl h1 h2 => k _ _ _ (g1.trans (Grow.new g1.sub hl)) ⟨l, o, rfl, upd_same, h1, h2⟩⟩
/-- row.index(x) -/
theorem ed_tindex {xs : List Str} {x : Str} (hx : x ∈ xs) (h : EvS ta σ G (FT xs)) (h2 : EvS tb σ G (D K (.str x))) : EvS (tMG tyF (rTIx K) ta (tCons tb tNil)) σ G (D K (.int (xs.idxOf x : Nat))) := fun G0 H u s Q k =>
  h G0 H u s _ fun v G1 H1 g1 r => by
    have r0 := r
    obtain ⟨a, o, e, q1, q2, q3⟩ := r
    subst e
    refine ⟨⟨a, o, _, rfl, g1.sub a _ q1, q2, q3⟩, h2 G1 H1 (u.trans g1.up) g1.sub _ fun y G2 H2 g2 ry => ?_⟩
    cases d_str ry
    have hl := idx_lt hx
    have e1 : xs[xs.idxOf x]? = some x := by rw [List.getElem?_eq_getElem hl]; simp
    refine ⟨a, xs, x, xs.idxOf x, rfl, rfl, .inl (.inr ⟨o, g2.keep a _ (g1.sub a _ q1)⟩), e1, fun m hm e2 => ?_, k _ G2 H2 (g1.trans g2) (.int _)⟩
    have := List.not_of_lt_findIdx (p := (· == x)) (xs := xs) (i := m) (by simpa [List.idxOf] using hm)
    obtain ⟨l1, l2⟩ := List.getElem?_eq_some_iff.mp e2
    rw [l2] at this
    simp at this

/-! ### dicts whose values are told by their keys -/
def KvR (ks : List Str) (R : Str → RP) (kvs : List (Key × V)) (H : Hp) : Prop := kvs.length = ks.length ∧ ∀ (i : Nat) (y : Str) (kv : Key × V), ks[i]? = some y → kvs[i]? = some kv → kv.1 = .inr y ∧ R y kv.2 H
def DR (ks : List Str) (R : Str → RP) : RP := fun v H => ∃ a kvs, v = .ref a ∧ Rd H a (.dK kvs) ∧ KvR ks R kvs H
theorem KvR.up {ks : List Str} {R : Str → RP} [S : ∀ y, Stb (R y)] {kvs : List (Key × V)} (u : Same G G2) (h : KvR ks R kvs G) : KvR ks R kvs G2 := ⟨h.1, fun i y kv h1 h2 => ⟨(h.2 i y kv h1 h2).1, (S y).up u (h.2 i y kv h1 h2).2⟩⟩
instance {ks : List Str} {R : Str → RP} [S : ∀ y, Stb (R y)] : Stb (DR ks R) := ⟨fun u ⟨a, kvs, e, h1, h2⟩ => ⟨a, kvs, e, same_rd u h1, h2.up u⟩⟩
theorem KvR.get {R : Str → RP} : ∀ {ks : List Str} {kvs : List (Key × V)} {x : Str}, KvR ks R kvs G → x ∈ ks → ∃ v, valV kvs (.inr x) = some v ∧ R x v G
  | [], _, x, _, h => by simp at h
  | k :: ks, [], x, h, _ => by have := h.1; simp at this
  | k :: ks, kv :: kvs, x, h, hx => by
    obtain ⟨e1, e2⟩ := h.2 0 k kv rfl rfl
    by_cases q : k = x
    · subst q
      exact ⟨kv.2, valV_pos e1, e2⟩
    · have hx' : x ∈ ks := by
        rcases List.mem_cons.mp hx with r | r
        · exact absurd r.symm q
        · exact r
      have ih := KvR.get (R := R) (ks := ks) (kvs := kvs) (x := x) ⟨by have := h.1; simpa using this, fun i y kv h1 h2 => h.2 (i + 1) y kv (by simpa using h1) (by simpa using h2)⟩ hx'
      rw [valV_neg (fun z => q (Sum.inr.inj (e1 ▸ z)))]
      exact ih
theorem KvR.put {ks : List Str} {R : Str → RP} {kvs : List (Key × V)} {x : Str} {v : V} (h : KvR ks R kvs G) (hn : x ∉ ks) (hv : R x v G) : KvR (ks ++ [x]) R (putK kvs (.inr x) v) G := by
  have hk : (kvs.any fun kv => decide (kv.1 = (Sum.inr x : Key))) = false := by
    rw [List.any_eq_false]
    intro kv hkv
    obtain ⟨i, hi⟩ := List.mem_iff_getElem?.mp hkv
    have hl := (List.getElem?_eq_some_iff.mp hi).1
    rw [h.1] at hl
    have e : ks[i]? = some ks[i] := List.getElem?_eq_getElem _
    obtain ⟨e1, _⟩ := h.2 i _ kv e hi
    rw [e1]
    simp only [decide_eq_true_eq]
    intro z
    exact hn (Sum.inr.inj z ▸ List.getElem_mem _)
  unfold putK
  rw [hk]
  simp only [Bool.false_eq_true, if_false]
  refine ⟨by simp [h.1], fun i y kv h1 h2 => ?_⟩
  by_cases q : i < ks.length
  · rw [List.getElem?_append_left q] at h1
    rw [List.getElem?_append_left (by rw [h.1]; exact q)] at h2
    exact h.2 i y kv h1 h2
  · have e : i = ks.length := by
      have := (List.getElem?_eq_some_iff.mp h1).1
      simp at this
      omega
    subst e
    simp at h1
    rw [List.getElem?_append_right (by rw [h.1]; exact Nat.le_refl _), h.1, Nat.sub_self] at h2
    simp at h2
    subst h1
    subst h2
    exact ⟨rfl, hv⟩
theorem e_dgetR {ks : List Str} {Rv : Str → RP} [∀ y, Stb (Rv y)] {x : Str} (hx : x ∈ ks) (ha : EvS td σ G (DR ks Rv)) (hb : EvS ty σ G (D K (.str x))) : EvS (tDGet td ty) σ G (Rv x) := fun G0 H u s Q k =>
  ha G0 H u s _ fun v G1 H1 g1 r => hb G1 H1 (u.trans g1.up) g1.sub _ fun y G2 H2 g2 ry => by
    obtain ⟨a, kvs, rfl, h1, h2⟩ := stb g2.up r
    cases d_str ry
    obtain ⟨w, e1, e2⟩ := h2.get hx
    exact ⟨a, w, rfl, .inl ⟨kvs, .inr x, same_rd g2.sub h1, rfl, e1.symm⟩, k _ G2 H2 (g1.trans g2) e2⟩
/-- a dict comprehension with distinct text keys: its values told by their keys -/
theorem e_dcR {wi : TI} {g : TG} {vs : List Nat} {T : Nat → RP} (ks : List Str) (Rv : Str → RP) [∀ y, Stb (Rv y)] (src : SrcI wi σ G ks.length T) (hn : ks.length ≤ 1000000) (nd : ks.Nodup)
    (turn : ∀ i G1 x, i < ks.length → Same G G1 → T i x G1 → ∃ σ2, Tg g x (wipe σ vs) G1 σ2 ∧ wipe σ2 vs = wipe σ vs ∧ Et tt σ2 G1 true ∧ ∃ y, ks[i]? = some y ∧ EvS ty σ2 G1 (D K (.str y)) ∧ EvS tv σ2 G1 (Rv y)) :
    EvS (tDc wi g tt ty tv vs) σ G (DR ks Rv) := fun G0 H u s Q k => src G0 H u s _ fun J GG G1 H1 Y g1 hG W yst Dl hD => by
  have gD : G1 Dl = none := g1.sub.free hD
  refine ⟨fun i m H' => m = ks.length - i ∧ i ≤ ks.length ∧ ∃ (G' : Hp) (kvs : List (Key × V)), Same G1 G' ∧ Same G' H' ∧ Same H1 H' ∧ G' Dl = none ∧ (∀ b, H1 b ≠ none → G1 b = none → G' b = none) ∧ H' Dl = some (.dK kvs) ∧ KvR (ks.take i) Rv kvs G',
    ⟨ks.length, by omega, Nat.zero_le _, G1, [], Same.refl _, Same.mut g1.sub gD, Same.new hD, gD, fun _ _ n => n, upd_same, rfl, fun i y kv h1 h2 => by simp at h2⟩, ?_⟩
  rintro i m H2 ⟨rfl, hi, G', kvs, s1, s2, s3, gd, goff, hDl, hall⟩
  by_cases hlt : i < ks.length
  · refine .inr ⟨W.goes i H2 hlt (hG H2 (s1.trans s2)), (fun H' => ∃ (G' : Hp) (kvs : List (Key × V)), Same G1 G' ∧ Same G' H' ∧ Same H1 H' ∧ G' Dl = none ∧ (∀ b, H1 b ≠ none → G1 b = none → G' b = none) ∧ H' Dl = some (.dK kvs) ∧ KvR (ks.take (i + 1)) Rv kvs G'),
      fun H' z => ⟨ks.length - (i + 1), by omega, rfl, hlt, z⟩, fun x H3 hy => ?_⟩
    obtain ⟨G4, g4, hT⟩ := yst i G' H2 x H3 hlt s1 s2 (W.yields i H2 x H3 hlt (hG H2 (s1.trans s2)) hy)
    obtain ⟨σ2, htg, hwp, het, y, hf, hk, hv⟩ := turn i G4 x hlt ((u.trans g1.up).trans (s1.trans g4.up)) hT
    refine htg H3 g4.sub _ ⟨hwp, het G4 H3 (Same.refl _) g4.sub _ fun b G5 H5 g5 hb => ?_⟩
    subst hb
    show ty σ2 H5 _
    refine hk G5 H5 g5.up g5.sub _ fun yv G6 H6 g6 ry => hv G6 H6 (g5.up.trans g6.up) g6.sub _ fun zv G7 H7 g7 rz => ?_
    have gg := ((g4.trans g5).trans g6).trans g7
    have gd7 : G7 Dl = none := gg.off Dl (by rw [hDl]; exact fun z => nomatch z) gd
    cases d_str ry
    have hlen := hall.1
    rw [List.length_take] at hlen
    refine ⟨kvs, .inr y, rfl, gg.keep Dl _ hDl, ?_, G7, putK kvs (.inr y) zv, s1.trans gg.up, Same.mut gg.sub gd7, fun b o e => ?_, gd7, fun b hb hn => gg.off b (fun z => hb (s3.free z)) (goff b hb hn), upd_same, ?_⟩
    · rw [hlen]
      exact Nat.lt_of_le_of_lt (Nat.le_trans (Nat.min_le_right _ _) hn) (by decide)
    · rw [upd_ne (ne_of_none e hD)]
      exact gg.keep b o (s3 b o e)
    · rw [List.take_add_one, hf]
      refine (hall.up gg.up).put (fun hm => ?_) rz
      obtain ⟨j, hj⟩ := List.mem_iff_getElem?.mp hm
      rw [List.getElem?_take] at hj
      split at hj
      · rename_i hji
        have := nodup_get nd hj hf
        omega
      · cases hj
  · have e : i = ks.length := by omega
    subst e
    rw [List.take_length] at hall
    refine .inl ⟨W.stops H2 (hG H2 (s1.trans s2)), ?_⟩
    refine k (.ref Dl) (upd G' Dl (.dK kvs)) H2 ⟨(g1.up.trans s1).trans (Same.new gd), fun b o e => ?_, g1.keep.trans s3, fun b hb hn => ?_⟩ ⟨Dl, kvs, rfl, .inl upd_same, hall.up (Same.new gd)⟩
    · by_cases q : b = Dl
      · subst q; rw [upd_same] at e; rw [← e]; exact hDl
      · rw [upd_ne q] at e; exact s2 b o e
    · have q : b ≠ Dl := fun z => hb (g1.keep.free (z ▸ hD))
      rw [upd_ne q]
      exact goff b (fun z => hb (g1.keep.free z)) (g1.off b hb hn)

/-! ### pacts -/
structure CTxt (K : PySem.W.Frag) (C : Addr) : Prop where
  cls : Cls K C
  nHands : NoAttr K C "hands"
  nNotes : NoAttr K C "notes"
  nReady : NoAttr K C "ready"
  nPaper : NoAttr K C "paper"
  nNames : NoAttr K C "names"
  nPlaces : NoAttr K C "note_places"
  nUnders : NoAttr K C "note_unders"
  nRows : NoAttr K C "hand_rows"
  nBits : NoAttr K C "paper_bits"
abbrev PlR (K : PySem.W.Frag) (ns : List Note) : RP := fun v H => ∃ f, PlaceOk ns ns.length f ∧ (∀ x, x ∉ nms ns → f.lookup x = none) ∧ DT K f v H
abbrev UnR (K : PySem.W.Frag) (ns : List Note) : RP := fun v H => ∃ bs, BitsTo ns ns.length bs ∧ Dp K H v (.tuple (nds bs))
abbrev BiR (ns : List Note) (pp : List Str) : RP := fun v _ => ∃ b : Nat, v = .int (b : Nat) ∧ TB ns b (fun x => ∃ z ∈ pp, Und ns x z)
instance {ns : List Note} : Stb (PlR K ns) := ⟨fun u ⟨f, h1, h2, h3⟩ => ⟨f, h1, h2, stb u h3⟩⟩
instance {ns : List Note} : Stb (UnR K ns) := ⟨fun u ⟨f, h1, h3⟩ => ⟨f, h1, Dp.up u _ _ h3⟩⟩
instance {ns : List Note} {pp : List Str} : Stb (BiR ns pp) := ⟨fun u h => h⟩
structure PF (K : PySem.W.Frag) (p : Pac) (fs : List (Str × V)) (H : Hp) : Prop where
  hands : ∃ v, fs.lookup ("hands" : Str) = some v ∧ Dp K H v (.tuple (sds p.hands))
  notes : ∃ v, fs.lookup ("notes" : Str) = some v ∧ Dp K H v (.tuple (dNotes p.notes))
  ready : ∃ v, fs.lookup ("ready" : Str) = some v ∧ Dp K H v (.tuple (sds p.ready))
  paper : ∃ v, fs.lookup ("paper" : Str) = some v ∧ Dp K H v (.tuple (sds p.paper))
  names : ∃ v, fs.lookup ("names" : Str) = some v ∧ Dp K H v (.tuple (sds (nms p.notes)))
  places : ∃ v, fs.lookup ("note_places" : Str) = some v ∧ PlR K p.notes v H
  unders : ∃ v, fs.lookup ("note_unders" : Str) = some v ∧ UnR K p.notes v H
  rows : ∃ v, fs.lookup ("hand_rows" : Str) = some v ∧ DR p.hands (fun h => FT (row p.notes h)) v H
  bits : ∃ v, fs.lookup ("paper_bits" : Str) = some v ∧ BiR p.notes p.paper v H
theorem PF.up {p : Pac} {fs : List (Str × V)} (u : Same G G2) (h : PF K p fs G) : PF K p fs G2 := by
  obtain ⟨⟨v1, a1, b1⟩, ⟨v2, a2, b2⟩, ⟨v3, a3, b3⟩, ⟨v4, a4, b4⟩, ⟨v5, a5, b5⟩, ⟨v6, a6, b6⟩, ⟨v7, a7, b7⟩, ⟨v8, a8, b8⟩, ⟨v9, a9, b9⟩⟩ := h
  exact ⟨⟨v1, a1, Dp.up u _ _ b1⟩, ⟨v2, a2, Dp.up u _ _ b2⟩, ⟨v3, a3, Dp.up u _ _ b3⟩, ⟨v4, a4, Dp.up u _ _ b4⟩, ⟨v5, a5, Dp.up u _ _ b5⟩, ⟨v6, a6, stb (R := PlR K p.notes) u b6⟩, ⟨v7, a7, stb (R := UnR K p.notes) u b7⟩, ⟨v8, a8, stb (R := DR p.hands _) u b8⟩, ⟨v9, a9, b9⟩⟩
def PactAt (K : PySem.W.Frag) (C : Addr) (p : Pac) : RP := fun v H => ∃ x dx fs, v = .ref x ∧ H x = some (.ins C dx fs) ∧ PF K p fs H
instance {C : Addr} {p : Pac} : Stb (PactAt K C p) := ⟨fun u ⟨x, dx, fs, e, h, f⟩ => ⟨x, dx, fs, e, u x _ h, f.up u⟩⟩
theorem e_fld {C : Addr} {p : Pac} {f : Str} (cl : Cls K C) (n : NoAttr K C f) (hf : ∀ fs H, PF K p fs H → ∃ v, fs.lookup f = some v ∧ R v H) (h : EvS te σ G (PactAt K C p)) : EvS (tFld K te f) σ G R := fun G0 H u s Q k =>
  h G0 H u s _ fun v G1 H1 g1 ⟨x, dx, fs, e, h1, h2⟩ => by
    subst e
    obtain ⟨w, e1, e2⟩ := hf fs G1 h2
    exact ⟨x, C, dx, fs, w, rfl, g1.sub x _ h1, cl, n, e1, k _ G1 H1 g1 e2⟩
section
variable {C : Addr} {p : Pac} (c : CTxt K C) (h : EvS te σ G (PactAt K C p))
include c h
theorem e_hands : EvS (tFld K te "hands") σ G (D K (.tuple (sds p.hands))) := e_fld c.cls c.nHands (fun fs H q => q.hands) h
theorem e_notes : EvS (tFld K te "notes") σ G (D K (.tuple (dNotes p.notes))) := e_fld c.cls c.nNotes (fun fs H q => q.notes) h
theorem e_ready : EvS (tFld K te "ready") σ G (D K (.tuple (sds p.ready))) := e_fld c.cls c.nReady (fun fs H q => q.ready) h
theorem e_paper : EvS (tFld K te "paper") σ G (D K (.tuple (sds p.paper))) := e_fld c.cls c.nPaper (fun fs H q => q.paper) h
theorem e_names : EvS (tFld K te "names") σ G (D K (.tuple (sds (nms p.notes)))) := e_fld c.cls c.nNames (fun fs H q => q.names) h
theorem e_places : EvS (tFld K te "note_places") σ G (PlR K p.notes) := e_fld c.cls c.nPlaces (fun fs H q => q.places) h
theorem e_unders : EvS (tFld K te "note_unders") σ G (UnR K p.notes) := e_fld c.cls c.nUnders (fun fs H q => q.unders) h
theorem e_rows : EvS (tFld K te "hand_rows") σ G (DR p.hands (fun h => FT (row p.notes h))) := e_fld c.cls c.nRows (fun fs H q => q.rows) h
theorem e_bits : EvS (tFld K te "paper_bits") σ G (BiR p.notes p.paper) := e_fld c.cls c.nBits (fun fs H q => q.bits) h
/-- pact.note_places[x] -/
theorem ed_place {i : Nat} {x : Str} (hx : (nms p.notes)[i]? = some x) (h2 : EvS tb σ G (D K (.str x))) : EvS (tDGet (tFld K te "note_places") tb) σ G (D K (.int (i : Nat))) := fun G0 H u s Q k =>
  (e_places c h) G0 H u s _ fun v G1 H1 g1 ⟨f, f1, f2, a, kvs, e, r1, r2⟩ => h2 G1 H1 (u.trans g1.up) g1.sub _ fun y G2 H2 g2 ry => by
    subst e
    cases d_str ry
    have hl : i < p.notes.length := by
      have := (List.getElem?_eq_some_iff.mp hx).1
      simpa using this
    obtain ⟨w, e1, e2⟩ := (r2.up g2.up).get.1 _ (f1 i x hl hx)
    exact ⟨a, w, rfl, .inl ⟨kvs, .inr x, same_rd g2.keep (same_rd g1.sub r1), rfl, e1.symm⟩, k _ G2 H2 (g1.trans g2) e2⟩
end
/-- self.f = e, self a cell -/
theorem q_fld {C x dx : Addr} {fs : List (Str × V)} {f : Str} {i : Nat} (cl : Cls K C) (n : NoAttr K C f) (s : Same G H) (hσ : σ[i]? = some (some (.ref x))) (hx : H x = some (.ins C dx fs)) (gx : G x = none) (hl : fs.length < 1000) (h : EvS tv σ G R)
    (k : ∀ v G2 H2, Wr x (.ins C dx (putF f v fs)) G H G2 H2 → R v G2 → tz En σ H2) : tSeq (sFld K (tVar i) tv f) tz En σ H := h G H (Same.refl G) s _ fun v G2 H2 g r =>
  ⟨_, hσ, x, C, dx, fs, rfl, g.keep x _ hx, cl, n, hl, k v G2 _ (g.wr hx gx) r⟩
theorem s_fld {C x dx : Addr} {fs : List (Str × V)} {f : Str} {i : Nat} (cl : Cls K C) (n : NoAttr K C f) (s : Same G H) (hσ : σ[i]? = some (some (.ref x))) (hx : H x = some (.ins C dx fs)) (gx : G x = none) (hl : fs.length < 1000) (h : EvS tv σ G R)
    (k : ∀ v G2 H2, Wr x (.ins C dx (putF f v fs)) G H G2 H2 → R v G2 → En.nx σ H2) : sFld K (tVar i) tv f En σ H := h G H (Same.refl G) s _ fun v G2 H2 g r =>
  ⟨_, hσ, x, C, dx, fs, rfl, g.keep x _ hx, cl, n, hl, k v G2 _ (g.wr hx gx) r⟩
end
end KB

set_option Elab.async false
set_option linter.all false
set_option maxRecDepth 100000
set_option maxHeartbeats 4000000
/-! The program's defs: the paper. -/
namespace KB
open PySem PySem.Spec PyProof.Rows L2
section
variable {K : PySem.W.Frag} {σ : L2.St} {G G2 H : Hp} {te ta tb : TE} {En : Ends} {tz : TS}
theorem ed_bit {b i : Nat} (h : EvS tb σ G (D K (.int (b : Nat)))) (h2 : EvS ta σ G (D K (.int (i : Nat)))) :
    EvS (tOp rEq (tOp (rI (fun _ j => 0 < j) fun i j => .int (i % j)) (tOp (rI (fun _ j => 0 ≤ j) fun i j => .int (i / 2 ^ j.toNat)) tb ta) (tC (.int 2))) (tC (.int 1))) σ G (D K (.bool (b.testBit i))) :=
  (ed_eqI (ed_IC (ed_IC h h2 (by omega)) ed_int (by decide)) ed_int).to (by
    have := shr_odd b i
    by_cases q : b.testBit i = true
    · rw [q, decide_eq_true (this.mpr q)]
    · rw [Bool.not_eq_true] at q
      rw [q, decide_eq_false]
      intro z
      rw [this.mp z] at q
      cases q)
theorem st {t : TS} {En : Ends} {σ σ' : L2.St} {H : Hp} (e : σ = σ') (h : t En σ' H) : t En σ H := e ▸ h
/-- zip of the notes and their bits -/
theorem src_zipU {ns : List Note} (hl : True) (h : EvS ta σ G (D K (.list (dNotes ns)))) (h2 : EvS tb σ G (UnR K ns)) :
    SrcI (iZipS K (tCons ta (tCons tb tNil))) σ G ns.length (fun i v H => ∃ (n : Note) (b : Nat), ns[i]? = some n ∧ TB ns b (fun x => Und ns x n.1) ∧ Dp K H v (.tuple [dNote n, .int (b : Nat)])) := fun G0 H u s Q k => h G0 H u s _ fun v G1 H1 g1 r => h2 G1 H1 (u.trans g1.up) g1.sub _ fun w G2 H2 g2 ⟨bs, hbs, r2⟩ => by
  replace r := Dp.up g2.up _ _ r
  obtain ⟨a, vs, rfl, hq, hall⟩ := d_list r
  obtain ⟨b, ws, rfl, hq2, hall2⟩ := d_tup r2
  have l1 : vs.length = ns.length := by rw [dp_len hall, List.length_map]
  have l2 : ws.length = ns.length := by rw [dp_len hall2, List.length_map, hbs.1]
  refine ⟨a, b, vs, ws, rfl, .inr (.inr ⟨g2.sub.seq hq, same_t g2.sub hq2, k _ _ G2 H2 _ (g1.trans g2) (fun H3 s3 => ⟨s3.seq hq, same_t s3 hq2⟩) (l1 ▸ walk_zipLT (l1.trans l2.symm)) fun i G3 H3 x H4 hi u s ⟨T, y, z, e1, hT, e2, e3, e4⟩ => ?_⟩)⟩
  subst e1
  subst e2
  obtain ⟨d, h1, q1⟩ := dp_get' hall e3
  obtain ⟨d', h2, q2⟩ := dp_get' hall2 e4
  obtain ⟨n, hn, rfl⟩ := dN_get h1
  rw [List.getElem?_map] at h2
  cases q : bs[i]? with
  | none => rw [q] at h2; simp at h2
  | some b =>
    rw [q] at h2
    have e5 : d' = .int (b : Nat) := by simpa using h2.symm
    subst e5
    obtain ⟨G4, g4, r4⟩ := new_pair s hT (Dp.up u _ _ q1) (Dp.up u _ _ q2)
    exact ⟨G4, g4, n, b, hn, hbs.2 i b n.1 q (nms_get hn), r4⟩
end
section
variable {P : Program} {w : World} {K : PySem.W.Frag} {mg : Str → Option Value} {base : Heap}
def sp_bits_of_lot (K : PySem.W.Frag) : Sp := SpG (Γ := List Str × List Note) (fun x => [D K (.tuple (sds x.1)), D K (.list (dNotes x.2))]) (fun x => Told x.2 ∧ x.2.length ≤ 40) fun x => BiR x.2 x.1
abbrev s_bits_of_lot : Stmt := top 21
abbrev N_bits_of_lot : List Str := ["names", "notes", "found", "under", "name", "hand", "waits"]
theorem sc_bits_of_lot : FnScope N_bits_of_lot ["names", "notes"] (defScope s_bits_of_lot) := ⟨rfl, rfl, rfl, by decide +kernel, rfl, by decide +kernel, by decide +kernel⟩
theorem ok_bits_of_lot {f : Addr} {fd : FuncData} (F : Fun K "bits_of_lot" "bits_of_lot" s_bits_of_lot f fd) (T : Txt mg) (c_bits_under : Cal P w K mg base CX0 1 "bits_under" ["notes"] (sp_bits_under K)) : FnOk P w K mg base CX0 2 f fd ["names", "notes"] (sp_bits_of_lot K) := by
  refine F.ok sc_bits_of_lot (fun vs H Q E h => ?_) (fun cdv A outer s H vs Q E hr h => ?_)
  · obtain ⟨x, G, hs, ⟨v1, _, rfl, h1, v2, _, rfl, h2, rfl⟩, hp, k⟩ := h; rfl
  · obtain ⟨⟨pp, ns⟩, G, hs, ⟨v1, _, rfl, h1, v2, _, rfl, h2, rfl⟩, ⟨ht, hl⟩, k⟩ := h
    replace h1 : Dp K G v1 (.tuple (sds pp)) := h1
    replace h2 : Dp K G v2 (.list (dNotes ns)) := h2
    replace ht : Told ns := ht
    replace hl : ns.length ≤ 40 := hl
    have nd := sc_bits_of_lot.nd
    have hu := hu_of hr
    have hrU := hrU_of hr
    refine ⟨_, pss_cons (ps_n 2 nd (pe_int))
    (pss_cons (ps_for PassesOwn.never rfl (kZip K (by rfl) T.m_zip (pa_cons (pv 1) (pa_cons (pe_cal c_bits_under (hr.mono (by decide)) (by rfl) pass0 (pa_cons (pv 1) pa_nil)) pa_nil))) (kTg K 2 rfl (pgs_cons (kTg K 3 rfl (pgs_cons (pg_n 4 nd) (pgs_cons (pg_n 5 nd) (pgs_cons (pg_n 6 nd) pgs_nil)))) (pgs_cons (pg_n 3 nd) pgs_nil)))
      (pss_one (ps_if (pt_cmpR (kIn K) (pv 4) (pv 0) (by rfl))
          (pss_one (ps_augn 2 nd (pv 3) ip_bor))
          (pss_nil))))
    (pss_one (ps_ret (pv 2)))), ?_⟩
    have nd2 := ht.nodup
    refine q_asg hs (ed_int (K := K)) fun v G1 H1 g1 rv => ?_
    cases d_int rv
    have h2' := Dp.up g1.up _ _ h2
    refine q_for g1.sub (src_zipU trivial (e_var rfl h2') (e_call ns (ea_cons (e_var rfl h2') ea_nil) ⟨ht, hl⟩)) (fun i σ G' H' => Grow G H G' H' ∧ ∃ (b : Nat) (a3 a4 a5 a6 : Option V), TB ns b (fun x => ∃ z ∈ pp, z ∈ nms (ns.take i) ∧ Und ns x z) ∧ σ = [some v1, some v2, some (.int (b : Nat)), a3, a4, a5, a6])
      (fun G2 H2 g2 => ⟨g1.trans g2, 0, _, _, _, _, (tb_zero ns).imp fun x => by simp, rfl⟩) ?_ ?_
    · rintro i σ' G' H' x G4 H4 hi sg sh ⟨gr, b, a3, a4, a5, a6, hb, rfl⟩ g4 ⟨n, bn, hn, hbn, hx⟩
      obtain ⟨w1, w2, q1, q2, htg⟩ := tg_2 hx
      obtain ⟨u1, u2, u3, r1, r2, r3, htg3⟩ := tg_3 q1
      cases q2
      cases r1
      refine ⟨_, htg _ _ _ (htg3 _ _ _ _ tg_name tg_name tg_name) tg_name, ?_⟩
      have gr4 := gr.trans g4
      have h1' := Dp.up gr4.up _ _ h1
      refine s_if g4.sub (et_T (ed_isIn (.t _) (e_var rfl (.str n.1)) (e_var rfl h1'))) (fun ht1 G5 H5 g5 => ?_) (fun ht1 G5 H5 g5 => ?_)
      · refine s_aug (K := K) (b := (bn : Nat)) g5.sub rfl (e_var rfl (.int (bn : Nat))) fun G6 H6 g6 => ?_
        have gg := (g4.trans g5).trans g6
        refine ⟨G6, gg.up, gg.sub, gr.trans gg, b ||| bn, _, _, _, _, ((hb.or hbn).imp fun x => ?_), by rw [or_nat]; rfl⟩
        have hm : n.1 ∈ pp := by simpa using ht1
        rw [take_snoc hn, nms_app]
        constructor
        · rintro (⟨z, z1, z2, z3⟩ | h)
          · exact ⟨z, z1, List.mem_append_left _ z2, z3⟩
          · exact ⟨n.1, hm, by simp, h⟩
        · rintro ⟨z, z1, z2, z3⟩
          rcases List.mem_append.mp z2 with q | q
          · exact .inl ⟨z, z1, q, z3⟩
          · have : z = n.1 := by simpa using q
            subst this; exact .inr z3
      · have gg := g4.trans g5
        refine ⟨G5, gg.up, gg.sub, gr.trans gg, b, _, _, _, _, (hb.imp fun x => ?_), rfl⟩
        have hm : n.1 ∉ pp := by simpa using ht1
        rw [take_snoc hn, nms_app]
        constructor
        · rintro ⟨z, z1, z2, z3⟩
          exact ⟨z, z1, List.mem_append_left _ z2, z3⟩
        · rintro ⟨z, z1, z2, z3⟩
          rcases List.mem_append.mp z2 with q | q
          · exact ⟨z, z1, q, z3⟩
          · have : z = n.1 := by simpa using q
            subst this; exact absurd z1 hm
    · rintro σ' G' H' sg sh ⟨gr, b, a3, a4, a5, a6, hb, rfl⟩
      refine s_ret sh (e_var (R := BiR ns pp) rfl ⟨b, rfl, hb.imp fun x => ?_⟩) fun v G2 H2 g2 => k v G2 H2 (gr.trans g2)
      rw [List.take_length]
      exact ⟨fun ⟨z, z1, _, z3⟩ => ⟨z, z1, z3⟩, fun ⟨z, z1, z3⟩ => ⟨z, z1, (z3.mem ht).2, z3⟩⟩
theorem nodup_sub_len : ∀ {xs ys : List Str}, xs.Nodup → (∀ x ∈ xs, x ∈ ys) → xs.length ≤ ys.length
  | [], _, _, _ => Nat.zero_le _
  | x :: xs, ys, nd, h => by
    obtain ⟨n1, n2⟩ := List.nodup_cons.mp nd
    have hx := h x List.mem_cons_self
    have ih := nodup_sub_len (xs := xs) (ys := ys.erase x) n2 fun z hz => (List.mem_erase_of_ne (fun e => by subst e; exact n1 hz)).mpr (h z (List.mem_cons_of_mem _ hz))
    rw [List.length_erase_of_mem hx] at ih
    have := List.length_pos_of_mem hx
    simp only [List.length_cons]
    omega
theorem lot_of_val {p : Pac} (v : Val p) : LotOk p.paper := by
  refine ⟨fun x hx => names_of_pac v x (v.pin x hx), v.pasc, ?_⟩
  have h : p.paper.length ≤ (nms p.notes).length := by
    exact nodup_sub_len (asc_nodup v.pasc) fun x hx => v.pin x hx
  rw [List.length_map] at h
  have := v.n40
  omega
def sp_is_paper (K : PySem.W.Frag) : Sp := SpG (Γ := Pac × Bool) (fun x => [D K (.tuple (sds x.1.paper)), D K (qd x.2 (sds x.1.hands)), D K (.list (dNotes x.1.notes))]) (fun x => Val x.1) fun _ => D K (.bool true)
abbrev s_is_paper : Stmt := top 22
abbrev N_is_paper : List Str := ["value", "hands", "notes", "names", "name", "hand", "waits", "bits", "inside", "at"]
theorem sc_is_paper : FnScope N_is_paper ["value", "hands", "notes"] (defScope s_is_paper) := ⟨rfl, rfl, rfl, by decide +kernel, rfl, by decide +kernel, by decide +kernel⟩
theorem ok_is_paper {f : Addr} {fd : FuncData} (F : Fun K "is_paper" "is_paper" s_is_paper f fd) (T : Txt mg) (c_is_lot : Cal P w K mg base CX0 3 "is_lot" ["value"] (sp_is_lot K)) (c_bits_of_lot : Cal P w K mg base CX0 2 "bits_of_lot" ["names", "notes"] (sp_bits_of_lot K)) : FnOk P w K mg base CX0 4 f fd ["value", "hands", "notes"] (sp_is_paper K) := by
  refine F.ok sc_is_paper (fun vs H Q E h => ?_) (fun cdv A outer s H vs Q E hr h => ?_)
  · obtain ⟨x, G, hs, ⟨v1, _, rfl, h1, v2, _, rfl, h2, v3, _, rfl, h3, rfl⟩, hp, k⟩ := h; rfl
  · obtain ⟨⟨p, b⟩, G, hs, ⟨v1, _, rfl, h1, v2, _, rfl, h2, v3, _, rfl, h3, rfl⟩, hp, k⟩ := h
    replace h1 : Dp K G v1 (.tuple (sds p.paper)) := h1
    replace h2 : Dp K G v2 (qd b (sds p.hands)) := h2
    replace h3 : Dp K G v3 (.list (dNotes p.notes)) := h3
    replace hp : Val p := hp
    have nd := sc_is_paper.nd
    have hu := hu_of hr
    have hrU := hrU_of hr
    refine ⟨_, pss_cons (ps_n 3 nd (pe_lc (own := [("name", 4), ("hand", 5), ("waits", 6)]) (by rfl) nd (kSeq K (pv 2)) (blkOk_by (by kernel_rfl)) (fun _ _ _ _ _ => (kTg K 3 rfl (pgs_cons (pg_n 4 nd) (pgs_cons (pg_n 5 nd) (pgs_cons (pg_n 6 nd) pgs_nil))))) (fun _ _ _ _ _ => pts_nil) (fun _ _ _ _ _ => (pv 4))))
    (pss_cons (ps_if (PW.pt (pw_or (pt_not (pt_val (pe_cal c_is_lot (hr.mono (by decide)) (by rfl) pass0 (pa_cons (pv 0) pa_nil)))) (pw_or1 (pt_not (pt_val (pe_callB (kAll K rfl) (by rfl) T.m_all (by decide +kernel) (pa_cons (pe_lc (own := [("name", 4)]) (by rfl) nd (kSeq K (pv 0)) (blkOk_by (by kernel_rfl)) (fun _ _ _ _ _ => (pg_n 4 nd)) (fun _ _ _ _ _ => pts_nil) (fun _ _ _ _ _ => (pe_cmpR (kIn K) (pv 4) (pv 3) (by rfl)))) pa_nil)))))))
      (pss_one (ps_ret (pe_bl)))
      (pss_nil))
    (pss_cons (ps_n 7 nd (pe_cal c_bits_of_lot (hr.mono (by decide)) (by rfl) pass0 (pa_cons (pv 0) (pa_cons (pv 2) pa_nil))))
    (pss_cons (ps_n 8 nd (pe_lc (own := [("at", 9), ("name", 4), ("hand", 5), ("waits", 6)]) (by rfl) nd (kEnum K (by rfl) T.m_enumerate (pa_cons (pv 2) pa_nil)) (blkOk_by (by kernel_rfl)) (fun _ _ _ _ _ => (kTg K 2 rfl (pgs_cons (pg_n 9 nd) (pgs_cons (kTg K 3 rfl (pgs_cons (pg_n 4 nd) (pgs_cons (pg_n 5 nd) (pgs_cons (pg_n 6 nd) pgs_nil)))) pgs_nil)))) (fun _ _ _ _ _ => (pts_one (pt_cmpR op_eq (pe_op op_mod (pe_op op_shr (pv 7) (pv 9)) (pe_int)) (pe_int) (nomark _)))) (fun _ _ _ _ _ => (pv 5))))
    (pss_one (ps_ret (pe_callB (kAll K rfl) (by rfl) T.m_all (by decide +kernel) (pa_cons (pe_lc (own := [("hand", 5)]) (by rfl) nd (kSeq K (pv 1)) (blkOk_by (by kernel_rfl)) (fun _ _ _ _ _ => (pg_n 5 nd)) (fun _ _ _ _ _ => pts_nil) (fun _ _ _ _ _ => (pe_cmpR (kIn K) (pv 5) (pv 8) (by rfl)))) pa_nil))))))), ?_⟩
    refine st (σ' := [some v1, some v2, some v3, none, none, none, none, none, none, none]) rfl ?_
    have hn := hp.n40
    have nd2 := hp.told.nodup
    have lt := lot_of_val hp
    have hln : (dNotes p.notes).length = p.notes.length := List.length_map _
    refine q_asg hs (en_lcD (K := K) (fun _ => true) (fun i => .str ((nms p.notes).getD i ⟨#[]⟩)) (src_seq (.l _) (e_var rfl h3)) (by rw [hln]; omega) fun i G1 x hi u ⟨e, he, hx⟩ => ?_).d fun v G1 H1 g1 rv => ?_
    · obtain ⟨n, hn, rfl⟩ := dN_get he
      obtain ⟨w1, w2, w3, r1, r2, r3, htg⟩ := tg_3 hx
      refine ⟨_, htg _ _ _ _ tg_name tg_name tg_name, rfl, et_yes, fun _ => ⟨rfl, ?_⟩⟩
      have e1 : (nms p.notes).getD i ⟨#[]⟩ = n.1 := by rw [List.getD_eq_getElem?_getD, nms_get hn]; rfl
      rw [e1]
      exact e_var rfl r1
    have hv : Dp K G1 v (.list (sds (nms p.notes))) := by
      have e : ((List.range (dNotes p.notes).length).filter fun _ => true).map (fun i => PyData.str ((nms p.notes).getD i ⟨#[]⟩)) = sds (nms p.notes) := by
        rw [List.filter_eq_self.mpr (fun _ _ => rfl), hln]
        refine List.ext_getElem (by simp) fun i a1 a2 => ?_
        have a3 : i < p.notes.length := by simpa using a1
        simp [a3]
      rw [← e]; exact rv
    refine st (σ' := [some v1, some v2, some v3, some v, none, none, none, none, none, none]) rfl ?_
    replace h1 := Dp.up g1.up _ _ h1
    replace h2 := Dp.up g1.up _ _ h2
    replace h3 := Dp.up g1.up _ _ h3
    refine q_skip g1.sub (et_or (et_not (et_B (e_call p.paper (ea_cons (e_var rfl h1) ea_nil) lt))) fun _ => et_not (et_B (ed_allT (src_seq (.t _) (e_var rfl h1)) (by rw [List.length_map]; exact Nat.le_trans lt.len (by decide)) fun i G2 x hi u ⟨e, he, hx⟩ => ?_))) rfl fun G2 H2 g2 => ?_
    · obtain ⟨y, hy, rfl⟩ := sds_get he
      exact ⟨_, tg_name, rfl, (ed_isIn (.l _) (e_var rfl hx) (e_var rfl (Dp.up u _ _ hv))).to (by rw [decide_eq_true (hp.pin y (mem_of_get hy))])⟩
    replace h1 := Dp.up g2.up _ _ h1
    replace h2 := Dp.up g2.up _ _ h2
    replace h3 := Dp.up g2.up _ _ h3
    refine q_asg g2.sub (e_call (p.paper, p.notes) (ea_cons (e_var rfl h1) (ea_cons (e_var rfl h3) ea_nil)) ⟨hp.told, hn⟩) fun v3 G3 H3 g3 ⟨bb, eb, hbb⟩ => ?_
    subst eb
    refine st (σ' := [some v1, some v2, some v3, some v, none, none, none, some (V.int (bb:Nat)), none, none]) rfl ?_
    replace h2 := Dp.up g3.up _ _ h2
    replace h3 := Dp.up g3.up _ _ h3
    refine q_asg g3.sub (en_lcD (K := K) (fun i => bb.testBit i) (fun i => .str (((p.notes.map (·.2.1))).getD i ⟨#[]⟩)) (src_enum (.l _) (e_var rfl h3)) (by rw [hln]; omega) fun i G4 x hi u ⟨a, c, ea, ec, hx⟩ => ?_).d fun v4 G4 H4 g4 rv4 => ?_
    · cases ea
      obtain ⟨n, hn, rfl⟩ := dN_get ec
      obtain ⟨w1, w2, q1, q2, htg⟩ := tg_2 hx
      obtain ⟨u1, u2, u3, r1, r2, r3, htg3⟩ := tg_3 q2
      refine ⟨_, htg _ _ _ tg_name (htg3 _ _ _ _ tg_name tg_name tg_name), rfl, et_T (ed_bit (K := K) (e_var rfl (.int (bb : Nat))) (e_var rfl q1)), fun _ => ⟨rfl, ?_⟩⟩
      have e1 : (p.notes.map (·.2.1)).getD i ⟨#[]⟩ = n.2.1 := by rw [List.getD_eq_getElem?_getD, List.getElem?_map, hn]; rfl
      rw [e1]
      exact e_var rfl r2
    have hv4 : Dp K G4 v4 (.list (sds (((List.range p.notes.length).filter fun i => bb.testBit i).map fun i => (p.notes.map (·.2.1)).getD i ⟨#[]⟩))) := by
      rw [hln] at rv4
      have e : sds (((List.range p.notes.length).filter fun i => bb.testBit i).map fun i => (p.notes.map (·.2.1)).getD i ⟨#[]⟩) = (((List.range p.notes.length).filter fun i => bb.testBit i).map fun i => PyData.str ((p.notes.map (·.2.1)).getD i ⟨#[]⟩)) := by
        unfold sds; rw [List.map_map]; rfl
      rw [e]; exact rv4
    refine st (σ' := [some v1, some v2, some v3, some v, none, none, none, some (V.int (bb:Nat)), some v4, none]) rfl ?_
    replace h2 := Dp.up g4.up _ _ h2
    refine s_ret g4.sub (ed_allT (src_seq (qd_sq _ _) (e_var rfl h2)) (by rw [List.length_map]; have := hp.h6; omega) fun i G5 x hi u ⟨e, he, hx⟩ => ?_) fun v5 G5 H5 g5 => k v5 G5 H5 ((((g1.trans g2).trans g3).trans g4).trans g5)
    obtain ⟨h, hh, rfl⟩ := sds_get he
    refine ⟨_, tg_name, rfl, (ed_isIn (.l _) (e_var rfl hx) (e_var rfl (Dp.up u _ _ hv4))).to ?_⟩
    rw [decide_eq_true]
    obtain ⟨y, hy, e1, z, hz, hu2⟩ := hp.cov h (mem_of_get hh)
    obtain ⟨j, n, hj, rfl⟩ := get_mem_nms hy
    have jl : j < p.notes.length := (List.getElem?_eq_some_iff.mp hj).1
    refine List.mem_map.mpr ⟨j, List.mem_filter.mpr ⟨List.mem_range.mpr jl, (hbb j n.1 (nms_get hj)).mpr ⟨z, hz, hu2⟩⟩, ?_⟩
    rw [List.getD_eq_getElem?_getD, List.getElem?_map, hj, ← e1, hnd_at nd2 hj]; rfl
end
end KB

set_option Elab.async false
set_option linter.all false
set_option maxRecDepth 100000
set_option maxHeartbeats 4000000
/-! A pact is made. -/
namespace KB
open PySem PySem.Spec PyProof.Rows L2
theorem putF_len (f : Str) (v : V) : ∀ fs : List (Str × V), (putF f v fs).length ≤ fs.length + 1
  | [] => by simp [putF]
  | (g, x) :: r => by
    have := putF_len f v r
    unfold putF
    split
    · simp
    · simp; exact this
def fs9 (a1 a2 a3 a4 a5 a6 a7 a8 a9 : V) : List (Str × V) := putF "paper_bits" a9 (putF "hand_rows" a8 (putF "note_unders" a7 (putF "note_places" a6 (putF "names" a5 (putF "paper" a4 (putF "ready" a3 (putF "notes" a2 (putF "hands" a1 []))))))))
section
variable (a1 a2 a3 a4 a5 a6 a7 a8 a9 : V)
theorem fs9_1 : (fs9 a1 a2 a3 a4 a5 a6 a7 a8 a9).lookup ("hands" : Str) = some a1 := by
  unfold fs9
  rw [lookup_putF, if_neg (by decide +kernel), lookup_putF, if_neg (by decide +kernel), lookup_putF, if_neg (by decide +kernel), lookup_putF, if_neg (by decide +kernel), lookup_putF, if_neg (by decide +kernel), lookup_putF, if_neg (by decide +kernel), lookup_putF, if_neg (by decide +kernel), lookup_putF, if_neg (by decide +kernel), lookup_putF, if_pos rfl]
theorem fs9_2 : (fs9 a1 a2 a3 a4 a5 a6 a7 a8 a9).lookup ("notes" : Str) = some a2 := by
  unfold fs9
  rw [lookup_putF, if_neg (by decide +kernel), lookup_putF, if_neg (by decide +kernel), lookup_putF, if_neg (by decide +kernel), lookup_putF, if_neg (by decide +kernel), lookup_putF, if_neg (by decide +kernel), lookup_putF, if_neg (by decide +kernel), lookup_putF, if_neg (by decide +kernel), lookup_putF, if_pos rfl]
theorem fs9_3 : (fs9 a1 a2 a3 a4 a5 a6 a7 a8 a9).lookup ("ready" : Str) = some a3 := by
  unfold fs9
  rw [lookup_putF, if_neg (by decide +kernel), lookup_putF, if_neg (by decide +kernel), lookup_putF, if_neg (by decide +kernel), lookup_putF, if_neg (by decide +kernel), lookup_putF, if_neg (by decide +kernel), lookup_putF, if_neg (by decide +kernel), lookup_putF, if_pos rfl]
theorem fs9_4 : (fs9 a1 a2 a3 a4 a5 a6 a7 a8 a9).lookup ("paper" : Str) = some a4 := by
  unfold fs9
  rw [lookup_putF, if_neg (by decide +kernel), lookup_putF, if_neg (by decide +kernel), lookup_putF, if_neg (by decide +kernel), lookup_putF, if_neg (by decide +kernel), lookup_putF, if_neg (by decide +kernel), lookup_putF, if_pos rfl]
theorem fs9_5 : (fs9 a1 a2 a3 a4 a5 a6 a7 a8 a9).lookup ("names" : Str) = some a5 := by
  unfold fs9
  rw [lookup_putF, if_neg (by decide +kernel), lookup_putF, if_neg (by decide +kernel), lookup_putF, if_neg (by decide +kernel), lookup_putF, if_neg (by decide +kernel), lookup_putF, if_pos rfl]
theorem fs9_6 : (fs9 a1 a2 a3 a4 a5 a6 a7 a8 a9).lookup ("note_places" : Str) = some a6 := by
  unfold fs9
  rw [lookup_putF, if_neg (by decide +kernel), lookup_putF, if_neg (by decide +kernel), lookup_putF, if_neg (by decide +kernel), lookup_putF, if_pos rfl]
theorem fs9_7 : (fs9 a1 a2 a3 a4 a5 a6 a7 a8 a9).lookup ("note_unders" : Str) = some a7 := by
  unfold fs9
  rw [lookup_putF, if_neg (by decide +kernel), lookup_putF, if_neg (by decide +kernel), lookup_putF, if_pos rfl]
theorem fs9_8 : (fs9 a1 a2 a3 a4 a5 a6 a7 a8 a9).lookup ("hand_rows" : Str) = some a8 := by
  unfold fs9
  rw [lookup_putF, if_neg (by decide +kernel), lookup_putF, if_pos rfl]
theorem fs9_9 : (fs9 a1 a2 a3 a4 a5 a6 a7 a8 a9).lookup ("paper_bits" : Str) = some a9 := by
  unfold fs9
  rw [lookup_putF, if_pos rfl]
end
/-- the places by name -/
def plF (xs : List Str) : Nat → List (Str × PyData)
  | 0 => []
  | i + 1 => putS (plF xs i) (xs.getD i ⟨#[]⟩) (.int (i : Nat))
theorem plF_len (xs : List Str) : ∀ i, (plF xs i).length ≤ i
  | 0 => Nat.le_refl _
  | i + 1 => Nat.le_trans (putS_len _ _ _) (Nat.succ_le_succ (plF_len xs i))
theorem plF_ok {ns : List Note} (nd : (nms ns).Nodup) : ∀ i, i ≤ ns.length → PlaceOk ns i (plF (nms ns) i)
  | 0, _ => fun k x h => by omega
  | i + 1, h => by
    have e : ns[i]? = some ns[i] := List.getElem?_eq_getElem _
    have e2 : (nms ns).getD i ⟨#[]⟩ = ns[i].1 := by rw [List.getD_eq_getElem?_getD, nms_get e]; rfl
    have := place_step nd (plF_ok nd i (by omega)) e
    show PlaceOk ns (i + 1) (putS (plF (nms ns) i) ((nms ns).getD i ⟨#[]⟩) _)
    rw [e2]
    exact this
theorem plF_none {xs : List Str} {x : Str} (hx : x ∉ xs) : ∀ i, i ≤ xs.length → (plF xs i).lookup x = none
  | 0, _ => rfl
  | i + 1, h => by
    have e : xs[i]? = some xs[i] := List.getElem?_eq_getElem _
    have e2 : xs.getD i ⟨#[]⟩ = xs[i] := by rw [List.getD_eq_getElem?_getD, e]; rfl
    show (putS (plF xs i) (xs.getD i ⟨#[]⟩) _).lookup x = none
    rw [lookup_putS, e2, if_neg, plF_none hx i (by omega)]
    intro q
    exact hx (q ▸ List.getElem_mem _)
section
variable {P : Program} {w : World} {K : PySem.W.Frag} {mg : Str → Option Value} {base : Heap} {C : Addr}
def sp_Pact_init (K : PySem.W.Frag) (C : Addr) : Sp := fun vs H Q _ => ∃ (p : Pac) (b : Bool) (G H0 : Hp) (x dx : Addr) (v1 v2 v3 v4 : V), vs = [.ref x, v1, v2, v3, v4] ∧ Same G H0 ∧ H0 x = none ∧ H0 dx = none ∧ H = upd (upd H0 dx (.own x)) x (.ins C dx []) ∧ dx ≠ x ∧
  Dp K G v1 (qd b (sds p.hands)) ∧ Dp K G v2 (.list (dNotes p.notes)) ∧ Dp K G v3 (qd b (sds p.ready)) ∧ Dp K G v4 (.tuple (sds p.paper)) ∧ Val p ∧ ∀ v G2 H2, Grow G H0 G2 H2 → PactAt K C p (.ref x) G2 → v = .non → Q v H2
theorem told_at {p : Pac} (v : Val p) {i : Nat} {n : Note} (h : p.notes[i]? = some n) : ToldN n p.hands ((nms p.notes).take i) := by
  have hm := mem_of_get h
  have k := v.nok n hm
  have nd := v.told.nodup
  have hw : ∀ z ∈ n.2.2, z ∈ (nms p.notes).take i := fun z hz => by
    have a := ahead_mem v.told (y := n.1) (List.mem_map.mpr ⟨n, hm, rfl⟩) (z := z) (List.mem_append_left _ (by rw [wts_at nd h]; exact hz))
    have e : (nms p.notes).idxOf n.1 = i := by
      have l1 := idx_lt (List.mem_map.mpr ⟨n, hm, rfl⟩ : n.1 ∈ nms p.notes)
      have l2 : (nms p.notes)[(nms p.notes).idxOf n.1]? = some n.1 := by rw [List.getElem?_eq_getElem l1]; simp
      exact nodup_get nd l2 (nms_get h)
    have l1 := idx_lt a.1
    have l2 : (nms p.notes)[(nms p.notes).idxOf z]? = some z := by rw [List.getElem?_eq_getElem l1]; simp
    refine List.mem_of_getElem? (i := (nms p.notes).idxOf z) ?_
    rw [List.getElem?_take, if_pos (by omega), l2]
  refine ⟨k.1, ?_, v.hok _ k.2.1, k.2.1, ⟨fun z hz => ?_, k.2.2, ?_⟩, hw⟩
  · rw [← nms_take]; exact not_pre nd h
  · exact names_of_pac v z (List.take_subset _ _ (hw z hz))
  · have h1 := nodup_sub_len (asc_nodup k.2.2) hw
    have h2 : ((nms p.notes).take i).length ≤ p.notes.length := by rw [List.length_take, List.length_map]; omega
    have := v.n40
    omega
abbrev s_Pact_init : Stmt := inClass (top 23) 0
abbrev N_Pact_init : List Str := ["self", "hands", "notes", "ready", "paper", "names", "at", "note", "name", "one", "hand", "waits"]
theorem sc_Pact_init : FnScope N_Pact_init ["self", "hands", "notes", "ready", "paper"] (defScope s_Pact_init) := ⟨rfl, rfl, rfl, by decide +kernel, rfl, by decide +kernel, by decide +kernel⟩
theorem ok_Pact_init {f : Addr} {fd : FuncData} (F : Fun K "__init__" "Pact.__init__" s_Pact_init f fd) (T : Txt mg) (c : CTxt K C) (c_are_hands : Cal P w K mg base CX0 3 "are_hands" ["value"] (sp_are_hands K)) (c_is_sequence : Cal P w K mg base CX0 1 "is_sequence" ["value"] (sp_is_sequence K)) (c_is_told_note : Cal P w K mg base CX0 4 "is_told_note" ["value", "hands", "earlier"] (sp_is_told_note K)) (c_are_ready : Cal P w K mg base CX0 3 "are_ready" ["value", "hands", "notes"] (sp_are_ready K)) (c_is_paper : Cal P w K mg base CX0 4 "is_paper" ["value", "hands", "notes"] (sp_is_paper K)) (c_bits_under : Cal P w K mg base CX0 1 "bits_under" ["notes"] (sp_bits_under K)) (c_bits_of_lot : Cal P w K mg base CX0 2 "bits_of_lot" ["names", "notes"] (sp_bits_of_lot K)) : FnOk P w K mg base CX0 5 f fd ["self", "hands", "notes", "ready", "paper"] (sp_Pact_init K C) := by
  refine F.ok sc_Pact_init (fun vs H Q E h => ?_) (fun cdv A outer s H vs Q E hr h => ?_)
  · obtain ⟨p, b, G, H0, x, dx, v1, v2, v3, v4, rfl, _⟩ := h; rfl
  · obtain ⟨p, b, G, H0, x, dx, v1, v2, v3, v4, rfl, s0, hx0, hdx0, rfl, ne, h1, h2, h3, h4, hp, k⟩ := h
    have nd := sc_Pact_init.nd
    have hu := hu_of hr
    have hrU := hrU_of hr
    refine ⟨_, pss_cons (ps_if (pt_not (pt_val (pe_cal c_are_hands (hr.mono (by decide)) (by rfl) pass0 (pa_cons (pv 1) pa_nil))))
      (pss_one (ps_never))
      (pss_nil))
    (pss_cons (ps_if (PW.pt (pw_or (pt_not (pt_val (pe_cal c_is_sequence (hr.mono (by decide)) (by rfl) pass0 (pa_cons (pv 2) pa_nil)))) (pw_or1 (pt_not (pt_chain op_le op_le (pe_gint (by rfl) T.c_FEWEST_NOTES) (pe_callB (kLen K) (by rfl) T.m_len (by decide +kernel) (pa_cons (pv 2) pa_nil)) (pe_gint (by rfl) T.c_MOST_NOTES))))))
      (pss_one (ps_never))
      (pss_nil))
    (pss_cons (ps_n 5 nd (pe_lst pa_nil))
    (pss_cons (ps_for PassesOwn.never rfl (kEnum K (by rfl) T.m_enumerate (pa_cons (pv 2) pa_nil)) (kTg K 2 rfl (pgs_cons (pg_n 6 nd) (pgs_cons (pg_n 7 nd) pgs_nil)))
      (pss_cons (ps_if (pt_not (pt_val (pe_cal c_is_told_note (hr.mono (by decide)) (by rfl) pass0 (pa_cons (pv 7) (pa_cons (pv 1) (pa_cons (pv 5) pa_nil))))))
          (pss_one (ps_never))
          (pss_nil))
        (pss_one (ps_expr (pe_bm PySem.F.plainAttrs_list PySem.F.slot_list_append PySem.F.type_list_append mt_append (pv 5) (pa_cons (pe_ix (kIx K) (pv 7) (pe_int) (fun _ _ => rfl)) pa_nil))))))
    (pss_cons (ps_if (pt_not (pt_val (pe_cal c_are_ready (hr.mono (by decide)) (by rfl) pass0 (pa_cons (pv 3) (pa_cons (pv 1) (pa_cons (pv 2) pa_nil))))))
      (pss_one (ps_never))
      (pss_nil))
    (pss_cons (ps_if (pt_not (pt_val (pe_cal c_is_paper (hr.mono (by decide)) (by rfl) pass0 (pa_cons (pv 4) (pa_cons (pv 1) (pa_cons (pv 2) pa_nil))))))
      (pss_one (ps_never))
      (pss_nil))
    (pss_cons (ps_fld (pv 0) (pe_callTy (kTup K) (by rfl) T.m_tuple (by decide +kernel) (pa_cons (pv 1) pa_nil)) rfl)
    (pss_cons (ps_fld (pv 0) (pe_callTy (kTup K) (by rfl) T.m_tuple (by decide +kernel) (pa_cons (pv 2) pa_nil)) rfl)
    (pss_cons (ps_fld (pv 0) (pe_callTy (kTup K) (by rfl) T.m_tuple (by decide +kernel) (pa_cons (pv 3) pa_nil)) rfl)
    (pss_cons (ps_fld (pv 0) (pv 4) rfl)
    (pss_cons (ps_fld (pv 0) (pe_callTy (kTup K) (by rfl) T.m_tuple (by decide +kernel) (pa_cons (pv 5) pa_nil)) rfl)
    (pss_cons (ps_fld (pv 0) (pe_dc (own := [("at", 6), ("name", 8)]) (by rfl) nd (kEnum K (by rfl) T.m_enumerate (pa_cons (pv 5) pa_nil)) (blkOk_by (by kernel_rfl)) (fun _ _ _ _ _ => (kTg K 2 rfl (pgs_cons (pg_n 6 nd) (pgs_cons (pg_n 8 nd) pgs_nil)))) (fun _ _ _ _ _ => pts_nil) (fun _ _ _ _ _ => (pv 8)) (fun _ _ _ _ _ => (pv 6))) rfl)
    (pss_cons (ps_fld (pv 0) (pe_cal c_bits_under (hr.mono (by decide)) (by rfl) pass0 (pa_cons (pv 2) pa_nil)) rfl)
    (pss_cons (ps_fld (pv 0) (pe_dc (own := [("one", 9)]) (by rfl) nd (kSeq K (pv 1)) (blkOk_by (by kernel_rfl)) (fun _ _ _ _ _ => (pg_n 9 nd)) (fun _ _ _ _ _ => pts_nil) (fun _ _ _ _ _ => (pv 9)) (fun _ _ _ _ _ => (pe_callTy (kTupF K) (by rfl) T.m_tuple (by decide +kernel) (pa_cons (pe_lc (own := [("name", 8), ("hand", 10), ("waits", 11)]) (by rfl) nd (kSeq K (pv 2)) (blkOk_by (by kernel_rfl)) (fun _ _ _ _ _ => (kTg K 3 rfl (pgs_cons (pg_n 8 nd) (pgs_cons (pg_n 10 nd) (pgs_cons (pg_n 11 nd) pgs_nil))))) (fun _ _ _ _ _ => (pts_one (pt_cmpR op_eq (pv 10) (pv 9) (nomark _)))) (fun _ _ _ _ _ => (pv 8))) pa_nil)))) rfl)
    (pss_one (ps_fld (pv 0) (pe_cal c_bits_of_lot (hr.mono (by decide)) (by rfl) pass0 (pa_cons (pv 4) (pa_cons (pv 2) pa_nil))) rfl))))))))))))))), ?_⟩
    refine st (σ' := [some (V.ref x), some v1, some v2, some v3, some v4, none, none, none, none, none, none, none]) rfl ?_
    have hn := hp.n40
    have nd2 := hp.told.nodup
    have hln : (dNotes p.notes).length = p.notes.length := List.length_map _
    have hnl : (nms p.notes).length = p.notes.length := List.length_map _
    -- freeze the dict's mark
    have ga : Grow G H0 (upd G dx (.own x)) (upd H0 dx (.own x)) := Grow.new s0 hdx0
    have hx1 : upd H0 dx (.own x) x = none := by rw [upd_ne ne.symm]; exact hx0
    have gb : Grow (upd G dx (.own x)) (upd H0 dx (.own x)) (upd G dx (.own x)) (upd (upd H0 dx (.own x)) x (.ins C dx [])) := Grow.cell ga.sub hx1
    have g0 := ga.trans gb
    have gx0 : upd G dx (.own x) x = none := by rw [upd_ne ne.symm]; exact s0.free hx0
    have cx0 : upd (upd H0 dx (.own x)) x (.ins C dx []) x = some (.ins C dx []) := upd_same
    generalize upd (upd H0 dx (.own x)) x (.ins C dx []) = H at *
    generalize hG1 : upd G dx (.own x) = G1 at *
    clear ga gb hx1
    replace h1 := Dp.up g0.up _ _ h1
    replace h2 := Dp.up g0.up _ _ h2
    replace h3 := Dp.up g0.up _ _ h3
    replace h4 := Dp.up g0.up _ _ h4
    have nz : ∀ {o : HO}, some o ≠ none := fun z => nomatch z
    have a1 := hp.n2
    have b1 := hp.h2
    have b2 := hp.h6
    have hok : HandsOk p.hands := ⟨hp.hok, hp.hnd, b1, b2⟩
    refine q_skip g0.sub (et_not (et_B (e_call (qd b (sds p.hands), p.hands) (ea_cons (e_var rfl h1) ea_nil) ⟨qd_sq _ _, hok⟩))) rfl fun G2 H2 g2 => ?_
    replace h1 := Dp.up g2.up _ _ h1
    replace h2 := Dp.up g2.up _ _ h2
    replace h3 := Dp.up g2.up _ _ h3
    replace h4 := Dp.up g2.up _ _ h4
    refine q_skip g2.sub (et_or (et_not (et_B (e_call (.list (dNotes p.notes), dNotes p.notes) (ea_cons (e_var rfl h2) ea_nil) (.l _)))) fun _ => et_not (et_T (ed_chain ed_int (ed_len (.l _) (e_var rfl h2)) ed_int))) (by rw [hln]; simp; omega) fun G3 H3 g3 => ?_
    have g03 := g0.trans (g2.trans g3)
    have gx3 : G3 x = none := (g2.trans g3).off x (by rw [cx0]; exact nz) gx0
    have cx3 : H3 x = some (.ins C dx []) := (g2.trans g3).keep _ _ cx0
    replace h1 := Dp.up g3.up _ _ h1
    replace h2 := Dp.up g3.up _ _ h2
    replace h3 := Dp.up g3.up _ _ h3
    replace h4 := Dp.up g3.up _ _ h4
    clear g2 g0 gx0 cx0
    refine q_asgN g3.sub (en_lst (K := K) dd_nil (by decide)) fun nl vs ds G4 H4 g4 hnl3 gnl4 cnl4 hds eds => ?_
    subst eds
    cases hds
    refine st (σ' := [some (V.ref x), some v1, some v2, some v3, some v4, some (V.ref nl), none, none, none, none, none, none]) rfl ?_
    have g04 := g03.trans g4
    have hnl0 : H0 nl = none := g03.keep.free hnl3
    have gx4 : G4 x = none := g4.off x (by rw [cx3]; exact nz) gx3
    have cx4 : H4 x = some (.ins C dx []) := g4.keep _ _ cx3
    have nlx : nl ≠ x := fun e => by subst e; rw [hnl3] at cx3; cases cx3
    replace h1 := Dp.up g4.up _ _ h1
    replace h2 := Dp.up g4.up _ _ h2
    replace h3 := Dp.up g4.up _ _ h3
    replace h4 := Dp.up g4.up _ _ h4
    refine q_for g4.sub (src_enum (.l _) (e_var rfl h2)) (fun i σ G' H' => Grow G H0 G' H' ∧ G' x = none ∧ H' x = some (.ins C dx []) ∧ G' nl = none ∧ H' nl = some (.lst (((nms p.notes).take i).map V.str)) ∧ ∃ a6 a7, σ = [some (.ref x), some v1, some v2, some v3, some v4, some (.ref nl), a6, a7, none, none, none, none])
      (fun G5 H5 g5 => ⟨g04.trans g5, g5.off x (by rw [cx4]; exact nz) gx4, g5.keep _ _ cx4, g5.off nl (by rw [cnl4]; exact nz) gnl4, g5.keep _ _ cnl4, _, _, rfl⟩) ?_ ?_
    · rintro i σ' G' H' y G5 H5 hi sg sh ⟨gr, gx, cx, gnl, cnl, a6, a7, rfl⟩ g5 ⟨a, e, ea, ee, hy⟩
      cases ea
      obtain ⟨n, hn', rfl⟩ := dN_get ee
      have hin : i < p.notes.length := by rw [hln] at hi; exact hi
      obtain ⟨w1, w2, q1, q2, htg⟩ := tg_2 hy
      refine ⟨_, htg _ _ _ tg_name tg_name, ?_⟩
      refine st (σ' := [some (V.ref x), some v1, some v2, some v3, some v4, some (V.ref nl), some w1, some w2, none, none, none, none]) rfl ?_
      have cnl5 := g5.keep _ _ cnl
      have gnl5 : G5 nl = none := g5.off nl (by rw [cnl]; exact nz) gnl
      have s5 := same_with g5.sub cnl5
      have u5 : Same G5 (upd G5 nl (.lst (((nms p.notes).take i).map V.str))) := Same.new gnl5
      have h1' := Dp.up u5 _ _ (Dp.up (sg.trans g5.up) _ _ h1)
      refine q_skip s5 (et_not (et_B (e_call (n, b, p.hands, (nms p.notes).take i) (ea_cons (e_var rfl (Dp.up u5 _ _ q2)) (ea_cons (e_var rfl h1') (ea_cons (e_var (R := D K (.list (sds ((nms p.notes).take i)))) rfl (.lst (SqL.of upd_same) (sds_dp _))) ea_nil))) (told_at hp hn')))) rfl fun G6 H6 g6 => ?_
      have s6 : Same G5 H6 := g5.sub.trans g6.keep
      have cnl6 := g6.keep _ _ cnl5
      refine s_app (K := K) s6 rfl cnl6 gnl5 (by rw [List.length_map, List.length_take]; omega) (ed_ix (e := .str n.1) 0 (.t _) (e_var rfl q2) ed_int (.inl ⟨rfl, by simp⟩) rfl) fun v G7 H7 w7 rv => ?_
      cases d_str rv
      have gr6 : Grow G H0 G5 H6 := ⟨(gr.trans g5).up, s6, (gr.trans g5).keep.trans g6.keep, (gr.trans g5).off⟩
      have cx6 := g6.keep _ _ (g5.keep _ _ cx)
      refine ⟨G7, g5.up.trans w7.up, w7.sub, gr6.cellwr hnl0 w7, w7.off _ (by rw [cx6]; exact nz) (g5.off _ (by rw [cx]; exact nz) gx), w7.oth _ _ nlx.symm cx6, w7.cell, ?_, _, _, rfl⟩
      rw [w7.at, List.take_add_one, nms_get hn', List.map_append]; rfl
    · rintro σ' G' H' sg sh ⟨gr, gx, cx, gnl, cnl, a6, a7, rfl⟩
      rw [hln, ← hnl, List.take_length] at cnl
      -- freeze names
      have gr5 : Grow G H0 (upd G' nl (.lst ((nms p.notes).map V.str))) H' := by
        refine ⟨gr.up.trans (Same.new gnl), same_with sh cnl, gr.keep, fun b hb n => ?_⟩
        have q : b ≠ nl := fun z => hb (z ▸ hnl0)
        rw [upd_ne q]; exact gr.off b hb n
      have gx5 : upd G' nl (.lst ((nms p.notes).map V.str)) x = none := by rw [upd_ne nlx.symm]; exact gx
      have u5 : Same G' (upd G' nl (.lst ((nms p.notes).map V.str))) := Same.new gnl
      have hnm : Dp K (upd G' nl (.lst ((nms p.notes).map V.str))) (.ref nl) (.list (sds (nms p.notes))) := .lst (SqL.of upd_same) (sds_dp _)
      replace h1 := Dp.up u5 _ _ (Dp.up sg _ _ h1)
      replace h2 := Dp.up u5 _ _ (Dp.up sg _ _ h2)
      replace h3 := Dp.up u5 _ _ (Dp.up sg _ _ h3)
      replace h4 := Dp.up u5 _ _ (Dp.up sg _ _ h4)
      generalize upd G' nl (.lst ((nms p.notes).map V.str)) = G5 at *
      refine st (σ' := [some (V.ref x), some v1, some v2, some v3, some v4, some (V.ref nl), a6, a7, none, none, none, none]) rfl ?_
      replace gr := gr5
      have sh5 := gr5.sub
      have cx5 := cx
      clear gr5 g03 g04 g3 g4 u5
      refine q_skip sh5 (et_not (et_B (e_call (p, b) (ea_cons (e_var rfl h3) (ea_cons (e_var rfl h1) (ea_cons (e_var rfl h2) ea_nil))) hp))) rfl fun G6 H6 g6 => ?_
      have gr6 := gr.trans g6
      have gx6 := g6.off x (by rw [cx5]; exact nz) gx5
      have cx6 := g6.keep _ _ cx5
      replace h1 := Dp.up g6.up _ _ h1
      replace h2 := Dp.up g6.up _ _ h2
      replace h3 := Dp.up g6.up _ _ h3
      replace h4 := Dp.up g6.up _ _ h4
      replace hnm := Dp.up g6.up _ _ hnm
      refine q_skip g6.sub (et_not (et_B (e_call (p, b) (ea_cons (e_var rfl h4) (ea_cons (e_var rfl h1) (ea_cons (e_var rfl h2) ea_nil))) hp))) rfl fun G7 H7 g7 => ?_
      have gr7 := gr6.trans g7
      have gx7 := g7.off x (by rw [cx6]; exact nz) gx6
      have cx7 := g7.keep _ _ cx6
      replace h1 := Dp.up g7.up _ _ h1
      replace h2 := Dp.up g7.up _ _ h2
      replace h3 := Dp.up g7.up _ _ h3
      replace h4 := Dp.up g7.up _ _ h4
      replace hnm := Dp.up g7.up _ _ hnm
      clear gr6 gr g6
      have lf : ∀ {f : Str} {v : V} {fs : List (Str × V)} {n : Nat}, fs.length ≤ n → (putF f v fs).length ≤ n + 1 := fun h => Nat.le_trans (putF_len _ _ _) (Nat.succ_le_succ h)
      refine q_fld (K := K) (R := D K (.tuple (sds p.hands))) c.cls c.nHands gr7.sub rfl cx7 gx7 (by simp) (ed_tupOf (qd_sq _ _) (e_var rfl h1)) fun u1 G8 H8 w8 r1 => ?_
      have gr8 := gr7.cellwr hx0 w8
      have cx8 := w8.at
      have gx8 := w8.cell
      have lf1 := lf (f := ("hands" : Str)) (v := u1) (fs := []) (n := 0) (Nat.le_refl 0)
      replace h1 := Dp.up w8.up _ _ h1
      replace h2 := Dp.up w8.up _ _ h2
      replace h3 := Dp.up w8.up _ _ h3
      replace h4 := Dp.up w8.up _ _ h4
      replace hnm := Dp.up w8.up _ _ hnm
      refine q_fld (K := K) (R := D K (.tuple (dNotes p.notes))) c.cls c.nNotes w8.sub rfl cx8 gx8 (by have := lf1; omega) (ed_tupOf (.l _) (e_var rfl h2)) fun u2 G9 H9 w9 r2 => ?_
      have gr9 := gr8.cellwr hx0 w9
      have cx9 := w9.at
      have gx9 := w9.cell
      have lf2 := lf (f := ("notes" : Str)) (v := u2) lf1
      replace h1 := Dp.up w9.up _ _ h1
      replace h2 := Dp.up w9.up _ _ h2
      replace h3 := Dp.up w9.up _ _ h3
      replace h4 := Dp.up w9.up _ _ h4
      replace hnm := Dp.up w9.up _ _ hnm
      replace r1 := stb (R := D K (.tuple (sds p.hands))) w9.up r1
      refine q_fld (K := K) (R := D K (.tuple (sds p.ready))) c.cls c.nReady w9.sub rfl cx9 gx9 (by have := lf2; omega) (ed_tupOf (qd_sq _ _) (e_var rfl h3)) fun u3 G10 H10 w10 r3 => ?_
      have gr10 := gr9.cellwr hx0 w10
      have cx10 := w10.at
      have gx10 := w10.cell
      have lf3 := lf (f := ("ready" : Str)) (v := u3) lf2
      replace h1 := Dp.up w10.up _ _ h1
      replace h2 := Dp.up w10.up _ _ h2
      replace h3 := Dp.up w10.up _ _ h3
      replace h4 := Dp.up w10.up _ _ h4
      replace hnm := Dp.up w10.up _ _ hnm
      replace r1 := stb (R := D K (.tuple (sds p.hands))) w10.up r1
      replace r2 := stb (R := D K (.tuple (dNotes p.notes))) w10.up r2
      refine q_fld (K := K) (R := D K (.tuple (sds p.paper))) c.cls c.nPaper w10.sub rfl cx10 gx10 (by have := lf3; omega) (e_var (R := D K (.tuple (sds p.paper))) rfl h4) fun u4 G11 H11 w11 r4 => ?_
      have gr11 := gr10.cellwr hx0 w11
      have cx11 := w11.at
      have gx11 := w11.cell
      have lf4 := lf (f := ("paper" : Str)) (v := u4) lf3
      replace h1 := Dp.up w11.up _ _ h1
      replace h2 := Dp.up w11.up _ _ h2
      replace h3 := Dp.up w11.up _ _ h3
      replace h4 := Dp.up w11.up _ _ h4
      replace hnm := Dp.up w11.up _ _ hnm
      replace r1 := stb (R := D K (.tuple (sds p.hands))) w11.up r1
      replace r2 := stb (R := D K (.tuple (dNotes p.notes))) w11.up r2
      replace r3 := stb (R := D K (.tuple (sds p.ready))) w11.up r3
      refine q_fld (K := K) (R := D K (.tuple (sds (nms p.notes)))) c.cls c.nNames w11.sub rfl cx11 gx11 (by have := lf4; omega) (ed_tupOf (.l _) (e_var rfl hnm)) fun u5 G12 H12 w12 r5 => ?_
      have gr12 := gr11.cellwr hx0 w12
      have cx12 := w12.at
      have gx12 := w12.cell
      have lf5 := lf (f := ("names" : Str)) (v := u5) lf4
      replace h1 := Dp.up w12.up _ _ h1
      replace h2 := Dp.up w12.up _ _ h2
      replace h3 := Dp.up w12.up _ _ h3
      replace h4 := Dp.up w12.up _ _ h4
      replace hnm := Dp.up w12.up _ _ hnm
      replace r1 := stb (R := D K (.tuple (sds p.hands))) w12.up r1
      replace r2 := stb (R := D K (.tuple (dNotes p.notes))) w12.up r2
      replace r3 := stb (R := D K (.tuple (sds p.ready))) w12.up r3
      replace r4 := stb (R := D K (.tuple (sds p.paper))) w12.up r4
      refine q_fld (K := K) (R := PlR K p.notes) c.cls c.nPlaces w12.sub rfl cx12 gx12 (by have := lf5; omega) ((e_dc (K := K) (plF (nms p.notes)) (src_enum (.l _) (e_var rfl hnm)) (by rw [List.length_map]; omega) rfl (plF_len _) fun i G2 y hi u ⟨a, e, ea, ee, hy⟩ => ?pl).imp fun v H r => ⟨_, plF_ok nd2 _ (Nat.le_refl _), fun z hz => plF_none hz _ (by rw [hnl]; exact Nat.le_refl _), by rw [List.length_map, hnl] at r; exact r⟩) fun u6 G13 H13 w13 r6 => ?_
      case pl =>
        cases ea
        obtain ⟨z, hz, rfl⟩ := sds_get ee
        obtain ⟨y1, y2, q1, q2, htg⟩ := tg_2 hy
        refine ⟨_, htg _ _ _ tg_name tg_name, rfl, et_yes, z, .int (i : Nat), ?_, rfl, e_var rfl q2, e_var rfl q1⟩
        show putS _ ((nms p.notes).getD i ⟨#[]⟩) _ = _
        rw [List.getD_eq_getElem?_getD, hz]; rfl
      have gr13 := gr12.cellwr hx0 w13
      have cx13 := w13.at
      have gx13 := w13.cell
      have lf6 := lf (f := ("note_places" : Str)) (v := u6) lf5
      replace h1 := Dp.up w13.up _ _ h1
      replace h2 := Dp.up w13.up _ _ h2
      replace h3 := Dp.up w13.up _ _ h3
      replace h4 := Dp.up w13.up _ _ h4
      replace hnm := Dp.up w13.up _ _ hnm
      replace r1 := stb (R := D K (.tuple (sds p.hands))) w13.up r1
      replace r2 := stb (R := D K (.tuple (dNotes p.notes))) w13.up r2
      replace r3 := stb (R := D K (.tuple (sds p.ready))) w13.up r3
      replace r4 := stb (R := D K (.tuple (sds p.paper))) w13.up r4
      replace r5 := stb (R := D K (.tuple (sds (nms p.notes)))) w13.up r5
      refine q_fld (K := K) (R := UnR K p.notes) c.cls c.nUnders w13.sub rfl cx13 gx13 (by have := lf6; omega) (e_call p.notes (ea_cons (e_var rfl h2) ea_nil) ⟨hp.told, hn⟩) fun u7 G14 H14 w14 r7 => ?_
      have gr14 := gr13.cellwr hx0 w14
      have cx14 := w14.at
      have gx14 := w14.cell
      have lf7 := lf (f := ("note_unders" : Str)) (v := u7) lf6
      replace h1 := Dp.up w14.up _ _ h1
      replace h2 := Dp.up w14.up _ _ h2
      replace h3 := Dp.up w14.up _ _ h3
      replace h4 := Dp.up w14.up _ _ h4
      replace hnm := Dp.up w14.up _ _ hnm
      replace r1 := stb (R := D K (.tuple (sds p.hands))) w14.up r1
      replace r2 := stb (R := D K (.tuple (dNotes p.notes))) w14.up r2
      replace r3 := stb (R := D K (.tuple (sds p.ready))) w14.up r3
      replace r4 := stb (R := D K (.tuple (sds p.paper))) w14.up r4
      replace r5 := stb (R := D K (.tuple (sds (nms p.notes)))) w14.up r5
      replace r6 := stb (R := PlR K p.notes) w14.up r6
      refine q_fld (K := K) (R := DR p.hands (fun h => FT (row p.notes h))) c.cls c.nRows w14.sub rfl cx14 gx14 (by have := lf7; omega) (e_dcR (K := K) p.hands (fun h => FT (row p.notes h)) (by have z := src_seq (qd_sq b (sds p.hands)) (e_var (σ := [some (.ref x), some v1, some v2, some v3, some v4, some (.ref nl), a6, a7, none, none, none, none]) (i := 1) rfl h1); rw [List.length_map] at z; exact z) (by omega) hp.hnd fun i G2 y hi u hy => ?rw) fun u8 G15 H15 w15 r8 => ?_
      case rw =>
        obtain ⟨e, he, hy⟩ := hy
        obtain ⟨hd, hhd, rfl⟩ := sds_get he
        refine ⟨_, tg_name, rfl, et_yes, hd, hhd, e_var rfl hy, e_tupF ?_⟩
        have h2' := Dp.up u _ _ h2
        have z := (en_lcD (K := K) (tt := tTest (tOp rEq (tVar 10) (tVar 9))) (te := tVar 8) (fun i => decide (((p.notes.map (·.2.1)).getD i ⟨#[]⟩) = hd)) (fun i => .str ((nms p.notes).getD i ⟨#[]⟩)) (src_seq (.l _) (e_var (i := 2) (σ := (wipe [some (.ref x), some v1, some v2, some v3, some v4, some (.ref nl), a6, a7, none, none, none, none] [9]).set 9 (some y)) rfl h2')) (by rw [hln]; omega) (g := gTup K 3 (gCons (gName 8) (gCons (gName 10) (gCons (gName 11) gNil)))) (vs := [8, 10, 11]) fun j G3 t hj u3 ⟨e, he, ht⟩ => by
          obtain ⟨n, hn', rfl⟩ := dN_get he
          obtain ⟨y1, y2, y3, q1, q2, q3, htg⟩ := tg_3 ht
          have e1 : (p.notes.map (·.2.1)).getD j ⟨#[]⟩ = n.2.1 := by rw [List.getD_eq_getElem?_getD, List.getElem?_map, hn']; rfl
          have e2 : (nms p.notes).getD j ⟨#[]⟩ = n.1 := by rw [List.getD_eq_getElem?_getD, nms_get hn']; rfl
          refine ⟨_, htg _ _ _ _ tg_name tg_name tg_name, rfl, ?_, fun _ => ⟨rfl, ?_⟩⟩
          · rw [e1]; exact et_T (ed_eqS (K := K) (e_var rfl q2) (e_var rfl (Dp.up u3 _ _ hy)))
          · rw [e2]; exact e_var rfl q1).d
        rw [hln] at z
        have e : ((List.range p.notes.length).filter fun i => decide (((p.notes.map (·.2.1)).getD i ⟨#[]⟩) = hd)).map (fun i => PyData.str ((nms p.notes).getD i ⟨#[]⟩)) = sds (row p.notes hd) := by
          have := range_map p.notes (fun n => decide (n.2.1 = hd)) (fun n => PyData.str n.1) (fun i => decide (((p.notes.map (·.2.1)).getD i ⟨#[]⟩) = hd)) (fun i => PyData.str ((nms p.notes).getD i ⟨#[]⟩))
            (fun i n h => by rw [List.getD_eq_getElem?_getD, List.getElem?_map, h]; rfl) (fun i n h => by rw [List.getD_eq_getElem?_getD, nms_get h]; rfl)
          rw [this]
          unfold row sds
          rw [List.map_map]; rfl
        rw [e] at z
        exact z
      have gr15 := gr14.cellwr hx0 w15
      have cx15 := w15.at
      have gx15 := w15.cell
      have lf8 := lf (f := ("hand_rows" : Str)) (v := u8) lf7
      replace h1 := Dp.up w15.up _ _ h1
      replace h2 := Dp.up w15.up _ _ h2
      replace h3 := Dp.up w15.up _ _ h3
      replace h4 := Dp.up w15.up _ _ h4
      replace hnm := Dp.up w15.up _ _ hnm
      replace r1 := stb (R := D K (.tuple (sds p.hands))) w15.up r1
      replace r2 := stb (R := D K (.tuple (dNotes p.notes))) w15.up r2
      replace r3 := stb (R := D K (.tuple (sds p.ready))) w15.up r3
      replace r4 := stb (R := D K (.tuple (sds p.paper))) w15.up r4
      replace r5 := stb (R := D K (.tuple (sds (nms p.notes)))) w15.up r5
      replace r6 := stb (R := PlR K p.notes) w15.up r6
      replace r7 := stb (R := UnR K p.notes) w15.up r7
      refine s_fld (K := K) (R := BiR p.notes p.paper) c.cls c.nBits w15.sub rfl cx15 gx15 (by have := lf8; omega) (e_call (p.paper, p.notes) (ea_cons (e_var rfl h4) (ea_cons (e_var rfl h2) ea_nil)) ⟨hp.told, hn⟩) fun u9 G16 H16 w16 r9 => ?_
      have gr16 := gr15.cellwr hx0 w16
      replace r1 := stb (R := D K (.tuple (sds p.hands))) w16.up r1
      replace r2 := stb (R := D K (.tuple (dNotes p.notes))) w16.up r2
      replace r3 := stb (R := D K (.tuple (sds p.ready))) w16.up r3
      replace r4 := stb (R := D K (.tuple (sds p.paper))) w16.up r4
      replace r5 := stb (R := D K (.tuple (sds (nms p.notes)))) w16.up r5
      replace r6 := stb (R := PlR K p.notes) w16.up r6
      replace r7 := stb (R := UnR K p.notes) w16.up r7
      replace r8 := stb (R := DR p.hands (fun h => FT (row p.notes h))) w16.up r8
      have cx16 := w16.at
      have gx16 := w16.cell
      have uz : Same G16 (upd G16 x (.ins C dx (fs9 u1 u2 u3 u4 u5 u6 u7 u8 u9))) := Same.new gx16
      refine k .non (upd G16 x (.ins C dx (fs9 u1 u2 u3 u4 u5 u6 u7 u8 u9))) H16 ⟨gr16.up.trans uz, same_with gr16.sub cx16, gr16.keep, fun b hb n => ?_⟩ ⟨x, dx, _, rfl, upd_same, ?_⟩ rfl
      · have q : b ≠ x := fun z => hb (z ▸ hx0)
        rw [upd_ne q]; exact gr16.off b hb n
      · refine PF.up uz ?_
        exact ⟨⟨u1, fs9_1 .., r1⟩, ⟨u2, fs9_2 .., r2⟩, ⟨u3, fs9_3 .., r3⟩, ⟨u4, fs9_4 .., r4⟩, ⟨u5, fs9_5 .., r5⟩, ⟨u6, fs9_6 .., r6⟩, ⟨u7, fs9_7 .., r7⟩, ⟨u8, fs9_8 .., r8⟩, ⟨u9, fs9_9 .., r9⟩⟩
end
end KB

set_option Elab.async false
set_option linter.all false
set_option maxRecDepth 100000
set_option maxHeartbeats 4000000
/-! What a pact answers. -/
namespace KB
open PySem PySem.Spec PyProof.Rows L2
section
variable {K : PySem.W.Frag} {σ : L2.St} {G G2 H : Hp} {te ta tb tc : TE} {En : Ends} {tz : TS} {C : Addr} {p : Pac}
abbrev BtR (ns : List Note) (Pr : Str → Prop) : RP := fun v _ => ∃ b : Nat, v = .int (b : Nat) ∧ TB ns b Pr
theorem e_bitR {ns : List Note} {Pr : Str → Prop} {i : Nat} {x : Str} (hx : (nms ns)[i]? = some x) (h : EvS tb σ G (BtR ns Pr)) (h2 : EvS ta σ G (D K (.int (i : Nat)))) :
    EvS (tOp rEq (tOp (rI (fun _ j => 0 < j) fun i j => .int (i % j)) (tOp (rI (fun _ j => 0 ≤ j) fun i j => .int (i / 2 ^ j.toNat)) tb ta) (tC (.int 2))) (tC (.int 1))) σ G (D K (.bool (bP (Pr x)))) := fun G0 H u s Q k =>
  h G0 H u s _ fun v G1 H1 g1 ⟨b, e, hb⟩ => by
    subst e
    refine (ed_bit (K := K) (tb := tC (.int (b : Nat))) ed_int (h2.up (u.trans g1.up))) G1 H1 (.refl _) g1.sub Q fun v G2 H2 g2 r => k v G2 H2 (g1.trans g2) ?_
    rw [← bP_of (hb i x hx)]
    exact r
theorem e_unix {ns : List Note} {j : Nat} {y : Str} (hy : (nms ns)[j]? = some y) (h : EvS tb σ G (UnR K ns)) (h2 : EvS ta σ G (D K (.int (j : Nat)))) : EvS (tOp (rIx K) tb ta) σ G (BtR ns fun x => Und ns x y) := fun G0 H u s Q k =>
  h G0 H u s _ fun v G1 H1 g1 ⟨bs, hbs, r⟩ => by
    have hj : j < ns.length := by have := (List.getElem?_eq_some_iff.mp hy).1; simpa using this
    obtain ⟨b, hb, tb⟩ := bits_get hbs hj hy
    refine (ed_ix (K := K) (ta := tC v) (e := .int (b : Nat)) j (.t (nds bs)) (e_c r) (h2.up (u.trans g1.up)) (.inl ⟨rfl, by rw [List.length_map, hbs.1]; exact hj⟩) (nds_get hb)) G1 H1 (.refl _) g1.sub Q fun v G2 H2 g2 r => k v G2 H2 (g1.trans g2) ⟨b, d_int r, tb⟩
theorem ed_noplace {x : Str} (c : CTxt K C) (h : EvS te σ G (PactAt K C p)) (hb : EvS tb σ G (D K (.str x))) : EvS (tDNotIn tb (tFld K te "note_places")) σ G (D K (.bool (!decide (x ∈ nms p.notes)))) := fun G0 H u s Q k =>
  hb G0 H u s _ fun y G1 H1 g1 ry => (e_places c h) G1 H1 (u.trans g1.up) g1.sub _ fun v G2 H2 g2 ⟨f, f1, f2, r⟩ => by
    cases d_str ry
    refine (ed_dnotin (K := K) (σ := σ) (td := tC v) (ty := tC (.str x)) (f := f) ed_str (e_c r)) G2 H2 (.refl _) g2.sub Q fun v G3 H3 g3 r => k v G3 H3 ((g1.trans g2).trans g3) ?_
    have e : (f.lookup x).isSome = decide (x ∈ nms p.notes) := by
      by_cases q : x ∈ nms p.notes
      · obtain ⟨i, n, hi, rfl⟩ := get_mem_nms q
        rw [f1 i n.1 (List.getElem?_eq_some_iff.mp hi).1 (nms_get hi), decide_eq_true q]; rfl
      · rw [f2 x q, decide_eq_false q]; rfl
    rw [← e]
    exact r
end
section
variable {P : Program} {w : World} {K : PySem.W.Frag} {mg : Str → Option Value} {base : Heap} {C : Addr}
def sp_need_note (K : PySem.W.Frag) (C : Addr) : Sp := SpG (Γ := Pac × Str) (fun x => [PactAt K C x.1, D K (.str x.2)]) (fun x => Val x.1 ∧ x.2 ∈ nms x.1.notes) fun _ => D K .none
abbrev s_need_note : Stmt := top 24
abbrev N_need_note : List Str := ["pact", "note"]
theorem sc_need_note : FnScope N_need_note ["pact", "note"] (defScope s_need_note) := ⟨rfl, rfl, rfl, by decide +kernel, rfl, by decide +kernel, by decide +kernel⟩
theorem ok_need_note {f : Addr} {fd : FuncData} (F : Fun K "need_note" "need_note" s_need_note f fd) (T : Txt mg) (c : CTxt K C)  : FnOk P w K mg base CX0 1 f fd ["pact", "note"] (sp_need_note K C) := by
  refine F.ok sc_need_note (fun vs H Q E h => ?_) (fun cdv A outer s H vs Q E hr h => ?_)
  · obtain ⟨x, G, hs, ⟨v1, _, rfl, h1, v2, _, rfl, h2, rfl⟩, hp, k⟩ := h; rfl
  · obtain ⟨⟨p, x⟩, G, hs, ⟨v1, _, rfl, h1, v2, _, rfl, h2, rfl⟩, ⟨hv, hx⟩, k⟩ := h
    replace h1 : PactAt K C p v1 G := h1
    replace h2 : Dp K G v2 (.str x) := h2
    replace hx : x ∈ nms p.notes := hx
    have nd := sc_need_note.nd
    have hu := hu_of hr
    have hrU := hrU_of hr
    refine ⟨_, pss_one (ps_if (pt_cmp (pc_dnotin hu (pv 1) (kFld K (pv 0))))
      (pss_one (ps_never))
      (pss_nil)), ?_⟩
    exact s_if hs (et_B (ed_noplace c (e_var rfl h1) (e_var rfl h2))) (fun z => by simp [hx] at z) fun _ G2 H2 g2 => k .non G2 H2 g2 .non
def sp_names_of_bits (K : PySem.W.Frag) (C : Addr) : Sp := SpG (Γ := Pac × (Str → Prop) × List Str) (fun x => [PactAt K C x.1, BtR x.1.notes x.2.1]) (fun x => Val x.1 ∧ Asc x.2.2 ∧ ∀ z, z ∈ x.2.2 ↔ z ∈ nms x.1.notes ∧ x.2.1 z) fun x => D K (.tuple (sds x.2.2))
abbrev s_names_of_bits : Stmt := top 25
abbrev N_names_of_bits : List Str := ["pact", "bits", "at", "name"]
theorem sc_names_of_bits : FnScope N_names_of_bits ["pact", "bits"] (defScope s_names_of_bits) := ⟨rfl, rfl, rfl, by decide +kernel, rfl, by decide +kernel, by decide +kernel⟩
theorem ok_names_of_bits {f : Addr} {fd : FuncData} (F : Fun K "names_of_bits" "names_of_bits" s_names_of_bits f fd) (T : Txt mg) (c : CTxt K C) (c_lot_of : Cal P w K mg base CX0 1 "lot_of" ["things"] (sp_lot_of K)) : FnOk P w K mg base CX0 2 f fd ["pact", "bits"] (sp_names_of_bits K C) := by
  refine F.ok sc_names_of_bits (fun vs H Q E h => ?_) (fun cdv A outer s H vs Q E hr h => ?_)
  · obtain ⟨x, G, hs, ⟨v1, _, rfl, h1, v2, _, rfl, h2, rfl⟩, hp, k⟩ := h; rfl
  · obtain ⟨⟨p, Pr, xs⟩, G, hs, ⟨v1, _, rfl, h1, v2, _, rfl, ⟨b, rfl, hb⟩, rfl⟩, ⟨hv, ha, hx⟩, k⟩ := h
    replace h1 : PactAt K C p v1 G := h1
    replace hb : TB p.notes b Pr := hb
    replace hv : Val p := hv
    replace ha : Asc xs := ha
    replace hx : ∀ z, z ∈ xs ↔ z ∈ nms p.notes ∧ Pr z := hx
    have nd := sc_names_of_bits.nd
    have hu := hu_of hr
    have hrU := hrU_of hr
    refine ⟨_, pss_one (ps_ret (pe_cal c_lot_of (hr.mono (by decide)) (by rfl) pass0 (pa_cons (pe_lc (own := [("at", 2), ("name", 3)]) (by rfl) nd (kEnum K (by rfl) T.m_enumerate (pa_cons (kFld K (pv 0)) pa_nil)) (blkOk_by (by kernel_rfl)) (fun _ _ _ _ _ => (kTg K 2 rfl (pgs_cons (pg_n 2 nd) (pgs_cons (pg_n 3 nd) pgs_nil)))) (fun _ _ _ _ _ => (pts_one (pt_cmpR op_eq (pe_op op_mod (pe_op op_shr (pv 1) (pv 2)) (pe_int)) (pe_int) (nomark _)))) (fun _ _ _ _ _ => (pv 3))) pa_nil))), ?_⟩
    refine st (σ' := [some v1, some (V.int (b:Nat)), none, none]) rfl ?_
    have hn := hv.n40
    have hl : (nms p.notes).length = p.notes.length := List.length_map _
    have hl2 : (sds (nms p.notes)).length = p.notes.length := by rw [List.length_map, hl]
    have hll : (((List.range p.notes.length).filter fun i => b.testBit i).map fun i => (nms p.notes).getD i ⟨#[]⟩).length < 64 := by
      rw [List.length_map]
      have := List.length_filter_le (fun i => b.testBit i) (List.range p.notes.length)
      rw [List.length_range] at this
      omega
    have elot : lotOf (((List.range p.notes.length).filter fun i => b.testBit i).map fun i => (nms p.notes).getD i ⟨#[]⟩) = xs := by
      refine (lot_is ha fun z => ?_).symm
      refine (hx z).trans (Iff.trans ?_ List.mem_map.symm)
      constructor
      · rintro ⟨hz, hp⟩
        obtain ⟨i, n, hi, rfl⟩ := get_mem_nms hz
        refine ⟨i, List.mem_filter.mpr ⟨List.mem_range.mpr (List.getElem?_eq_some_iff.mp hi).1, (hb i n.1 (nms_get hi)).mpr hp⟩, ?_⟩
        rw [List.getD_eq_getElem?_getD, nms_get hi]; rfl
      · rintro ⟨i, hi, rfl⟩
        obtain ⟨i1, i2⟩ := List.mem_filter.mp hi
        have i3 := List.mem_range.mp i1
        have e : p.notes[i]? = some p.notes[i] := List.getElem?_eq_getElem _
        rw [List.getD_eq_getElem?_getD, nms_get e]
        exact ⟨List.mem_map.mpr ⟨_, List.getElem_mem _, rfl⟩, (hb i _ (nms_get e)).mp i2⟩
    have ev := (en_lcD (K := K) (tt := tTest (tOp rEq (tOp (rI (fun _ j => 0 < j) fun i j => .int (i % j)) (tOp (rI (fun _ j => 0 ≤ j) fun i j => .int (i / 2 ^ j.toNat)) (tVar 1) (tVar 2)) (tC (.int 2))) (tC (.int 1)))) (te := tVar 3) (fun i => b.testBit i) (fun i => .str ((nms p.notes).getD i ⟨#[]⟩))
      (src_enum (.t _) (e_names c (e_var (i := 0) (σ := [some v1, some (.int (b : Nat)), none, none]) rfl h1))) (by rw [hl2]; omega) (g := gTup K 2 (gCons (gName 2) (gCons (gName 3) gNil))) (vs := [2, 3]) fun i G1 x hi u ⟨a, e, ea, ee, hx⟩ => by
        cases ea
        obtain ⟨z, hz, rfl⟩ := sds_get ee
        obtain ⟨w1, w2, q1, q2, htg⟩ := tg_2 hx
        refine ⟨_, htg _ _ _ tg_name tg_name, rfl, et_T (ed_bit (K := K) (e_var rfl (.int (b : Nat))) (e_var rfl q1)), fun _ => ⟨rfl, ?_⟩⟩
        have e1 : (nms p.notes).getD i ⟨#[]⟩ = z := by rw [List.getD_eq_getElem?_getD, hz]; rfl
        rw [e1]; exact e_var rfl q2).d
    rw [hl2] at ev
    have e2 : (((List.range p.notes.length).filter fun i => b.testBit i).map fun i => PyData.str ((nms p.notes).getD i ⟨#[]⟩)) = sds (((List.range p.notes.length).filter fun i => b.testBit i).map fun i => (nms p.notes).getD i ⟨#[]⟩) := by
      unfold sds; rw [List.map_map]; rfl
    rw [e2] at ev
    refine s_ret hs ((e_call (PyData.list (sds (((List.range p.notes.length).filter fun i => b.testBit i).map fun i => (nms p.notes).getD i ⟨#[]⟩)), (((List.range p.notes.length).filter fun i => b.testBit i).map fun i => (nms p.notes).getD i ⟨#[]⟩)) (ea_cons ev ea_nil) ⟨.l _, hll⟩)) fun v G2 H2 g2 r => k v G2 H2 g2 ?_
    replace r : Dp K G2 v (.tuple (sds (lotOf (((List.range p.notes.length).filter fun i => b.testBit i).map fun i => (nms p.notes).getD i ⟨#[]⟩)))) := r
    rw [elot] at r
    exact r
def sp_hand_of (K : PySem.W.Frag) (C : Addr) : Sp := SpG (Γ := Pac × Str) (fun x => [PactAt K C x.1, D K (.str x.2)]) (fun x => Val x.1 ∧ x.2 ∈ nms x.1.notes) fun x => D K (.str (hnd x.1.notes x.2))
theorem ed_noteAt {σ : L2.St} {G : Hp} {te tb : TE} {p : Pac} {i : Nat} {n : Note} (c : CTxt K C) (hi : p.notes[i]? = some n) (h : EvS te σ G (PactAt K C p)) (h2 : EvS tb σ G (D K (.str n.1))) :
    EvS (tOp (rIx K) (tOp (rIx K) (tFld K te "notes") (tDGet (tFld K te "note_places") tb)) (tC (.int 1))) σ G (D K (.str n.2.1)) :=
  ed_ix 1 (.t _) (ed_ix (e := dNote n) i (.t _) (e_notes c h) (ed_place c h (nms_get hi) h2) (.inl ⟨rfl, by rw [List.length_map]; exact (List.getElem?_eq_some_iff.mp hi).1⟩) (by rw [List.getElem?_map, hi]; rfl)) ed_int (.inl ⟨rfl, by simp⟩) rfl
abbrev s_hand_of : Stmt := top 26
abbrev N_hand_of : List Str := ["pact", "note"]
theorem sc_hand_of : FnScope N_hand_of ["pact", "note"] (defScope s_hand_of) := ⟨rfl, rfl, rfl, by decide +kernel, rfl, by decide +kernel, by decide +kernel⟩
theorem ok_hand_of {f : Addr} {fd : FuncData} (F : Fun K "hand_of" "hand_of" s_hand_of f fd) (T : Txt mg) (c : CTxt K C) (c_need_note : Cal P w K mg base CX0 1 "need_note" ["pact", "note"] (sp_need_note K C)) : FnOk P w K mg base CX0 2 f fd ["pact", "note"] (sp_hand_of K C) := by
  refine F.ok sc_hand_of (fun vs H Q E h => ?_) (fun cdv A outer s H vs Q E hr h => ?_)
  · obtain ⟨x, G, hs, ⟨v1, _, rfl, h1, v2, _, rfl, h2, rfl⟩, hp, k⟩ := h; rfl
  · obtain ⟨⟨p, x⟩, G, hs, ⟨v1, _, rfl, h1, v2, _, rfl, h2, rfl⟩, ⟨hv, hx⟩, k⟩ := h
    replace h1 : PactAt K C p v1 G := h1
    replace h2 : Dp K G v2 (.str x) := h2
    replace hx : x ∈ nms p.notes := hx
    replace hv : Val p := hv
    have nd := sc_hand_of.nd
    have hu := hu_of hr
    have hrU := hrU_of hr
    refine ⟨_, pss_cons (ps_expr (pe_cal c_need_note (hr.mono (by decide)) (by rfl) pass0 (pa_cons (pv 0) (pa_cons (pv 1) pa_nil))))
    (pss_one (ps_ret (pe_ix (kIx K) (pe_ix (kIx K) (kFld K (pv 0)) (pe_dget hu (kFld K (pv 0)) (pv 1) (fun _ _ => rfl)) (fun _ _ => rfl)) (pe_int) (fun _ _ => rfl)))), ?_⟩
    refine q_drop hs (e_call (p, x) (ea_cons (e_var rfl h1) (ea_cons (e_var rfl h2) ea_nil)) ⟨hv, hx⟩) fun _ G2 H2 g2 _ => ?_
    obtain ⟨i, n, hi, rfl⟩ := get_mem_nms hx
    refine s_ret g2.sub ((ed_noteAt c hi (e_var rfl (stb g2.up h1)) (e_var rfl (Dp.up g2.up _ _ h2))).to ?_) fun v G3 H3 g3 => k v G3 H3 (g2.trans g3)
    rw [← hnd_at hv.told.nodup hi]
def sp_is_under (K : PySem.W.Frag) (C : Addr) : Sp := SpG (Γ := Pac × Str × Str) (fun x => [PactAt K C x.1, D K (.str x.2.1), D K (.str x.2.2)]) (fun x => Val x.1 ∧ x.2.1 ∈ nms x.1.notes ∧ x.2.2 ∈ nms x.1.notes) fun x => D K (.bool (bP (Und x.1.notes x.2.1 x.2.2)))
abbrev s_is_under : Stmt := top 27
abbrev N_is_under : List Str := ["pact", "one", "other"]
theorem sc_is_under : FnScope N_is_under ["pact", "one", "other"] (defScope s_is_under) := ⟨rfl, rfl, rfl, by decide +kernel, rfl, by decide +kernel, by decide +kernel⟩
theorem ok_is_under {f : Addr} {fd : FuncData} (F : Fun K "is_under" "is_under" s_is_under f fd) (T : Txt mg) (c : CTxt K C)  : FnOk P w K mg base CX0 1 f fd ["pact", "one", "other"] (sp_is_under K C) := by
  refine F.ok sc_is_under (fun vs H Q E h => ?_) (fun cdv A outer s H vs Q E hr h => ?_)
  · obtain ⟨x, G, hs, ⟨v1, _, rfl, h1, v2, _, rfl, h2, v3, _, rfl, h3, rfl⟩, hp, k⟩ := h; rfl
  · obtain ⟨⟨p, x, y⟩, G, hs, ⟨v1, _, rfl, h1, v2, _, rfl, h2, v3, _, rfl, h3, rfl⟩, ⟨hv, hx, hy⟩, k⟩ := h
    replace h1 : PactAt K C p v1 G := h1
    replace h2 : Dp K G v2 (.str x) := h2
    replace h3 : Dp K G v3 (.str y) := h3
    replace hx : x ∈ nms p.notes := hx
    replace hy : y ∈ nms p.notes := hy
    have nd := sc_is_under.nd
    have hu := hu_of hr
    have hrU := hrU_of hr
    refine ⟨_, pss_one (ps_ret (pe_cmpR op_eq (pe_op op_mod (pe_op op_shr (pe_ix (kIx K) (kFld K (pv 0)) (pe_dget hu (kFld K (pv 0)) (pv 2) (fun _ _ => rfl)) (fun _ _ => rfl)) (pe_dget hu (kFld K (pv 0)) (pv 1) (fun _ _ => rfl))) (pe_int)) (pe_int) (nomark _))), ?_⟩
    obtain ⟨i, n, hi, rfl⟩ := get_mem_nms hx
    obtain ⟨j, m, hj, rfl⟩ := get_mem_nms hy
    exact s_ret hs (e_bitR (nms_get hi) (e_unix (nms_get hj) (e_unders c (e_var rfl h1)) (ed_place c (e_var rfl h1) (nms_get hj) (e_var rfl h3))) (ed_place c (e_var rfl h1) (nms_get hi) (e_var rfl h2))) k
def sp_under_of (K : PySem.W.Frag) (C : Addr) : Sp := SpG (Γ := Pac × Str) (fun x => [PactAt K C x.1, D K (.str x.2)]) (fun x => Val x.1 ∧ x.2 ∈ nms x.1.notes) fun x => D K (.tuple (sds (under x.1.notes x.2)))
abbrev s_under_of : Stmt := top 28
abbrev N_under_of : List Str := ["pact", "note"]
theorem sc_under_of : FnScope N_under_of ["pact", "note"] (defScope s_under_of) := ⟨rfl, rfl, rfl, by decide +kernel, rfl, by decide +kernel, by decide +kernel⟩
theorem ok_under_of {f : Addr} {fd : FuncData} (F : Fun K "under_of" "under_of" s_under_of f fd) (T : Txt mg) (c : CTxt K C) (c_need_note : Cal P w K mg base CX0 1 "need_note" ["pact", "note"] (sp_need_note K C)) (c_names_of_bits : Cal P w K mg base CX0 2 "names_of_bits" ["pact", "bits"] (sp_names_of_bits K C)) : FnOk P w K mg base CX0 3 f fd ["pact", "note"] (sp_under_of K C) := by
  refine F.ok sc_under_of (fun vs H Q E h => ?_) (fun cdv A outer s H vs Q E hr h => ?_)
  · obtain ⟨x, G, hs, ⟨v1, _, rfl, h1, v2, _, rfl, h2, rfl⟩, hp, k⟩ := h; rfl
  · obtain ⟨⟨p, x⟩, G, hs, ⟨v1, _, rfl, h1, v2, _, rfl, h2, rfl⟩, ⟨hv, hx⟩, k⟩ := h
    replace h1 : PactAt K C p v1 G := h1
    replace h2 : Dp K G v2 (.str x) := h2
    replace hx : x ∈ nms p.notes := hx
    replace hv : Val p := hv
    have nd := sc_under_of.nd
    have hu := hu_of hr
    have hrU := hrU_of hr
    refine ⟨_, pss_cons (ps_expr (pe_cal c_need_note (hr.mono (by decide)) (by rfl) pass0 (pa_cons (pv 0) (pa_cons (pv 1) pa_nil))))
    (pss_one (ps_ret (pe_cal c_names_of_bits (hr.mono (by decide)) (by rfl) pass0 (pa_cons (pv 0) (pa_cons (pe_ix (kIx K) (kFld K (pv 0)) (pe_dget hu (kFld K (pv 0)) (pv 1) (fun _ _ => rfl)) (fun _ _ => rfl)) pa_nil))))), ?_⟩
    refine q_drop hs (e_call (p, x) (ea_cons (e_var rfl h1) (ea_cons (e_var rfl h2) ea_nil)) ⟨hv, hx⟩) fun _ G2 H2 g2 _ => ?_
    replace h1 := stb g2.up h1
    replace h2 := Dp.up g2.up _ _ h2
    obtain ⟨i, n, hi, rfl⟩ := get_mem_nms hx
    exact s_ret g2.sub (e_call (p, (fun z => Und p.notes z n.1), under p.notes n.1) (ea_cons (e_var rfl h1) (ea_cons (e_unix (nms_get hi) (e_unders c (e_var rfl h1)) (ed_place c (e_var rfl h1) (nms_get hi) (e_var rfl h2))) ea_nil))
      ⟨hv, asc_under _ _, fun z => by rw [mem_under hv.told]; exact ⟨fun u => ⟨(u.mem hv.told).1, u⟩, fun u => u.2⟩⟩) fun v G3 H3 g3 => k v G3 H3 (g2.trans g3)
def sp_whole_paper (K : PySem.W.Frag) (C : Addr) : Sp := SpG (Γ := Pac) (fun x => [PactAt K C x]) (fun x => Val x) fun x => D K (.tuple (sds (whole x.notes x.paper)))
abbrev s_whole_paper : Stmt := top 29
abbrev N_whole_paper : List Str := ["pact"]
theorem sc_whole_paper : FnScope N_whole_paper ["pact"] (defScope s_whole_paper) := ⟨rfl, rfl, rfl, by decide +kernel, rfl, by decide +kernel, by decide +kernel⟩
theorem ok_whole_paper {f : Addr} {fd : FuncData} (F : Fun K "whole_paper" "whole_paper" s_whole_paper f fd) (T : Txt mg) (c : CTxt K C) (c_names_of_bits : Cal P w K mg base CX0 2 "names_of_bits" ["pact", "bits"] (sp_names_of_bits K C)) : FnOk P w K mg base CX0 3 f fd ["pact"] (sp_whole_paper K C) := by
  refine F.ok sc_whole_paper (fun vs H Q E h => ?_) (fun cdv A outer s H vs Q E hr h => ?_)
  · obtain ⟨x, G, hs, ⟨v1, _, rfl, h1, rfl⟩, hp, k⟩ := h; rfl
  · obtain ⟨p, G, hs, ⟨v1, _, rfl, h1, rfl⟩, hv, k⟩ := h
    have nd := sc_whole_paper.nd
    have hu := hu_of hr
    have hrU := hrU_of hr
    refine ⟨_, pss_one (ps_ret (pe_cal c_names_of_bits (hr.mono (by decide)) (by rfl) pass0 (pa_cons (pv 0) (pa_cons (kFld K (pv 0)) pa_nil)))), ?_⟩
    exact s_ret hs (e_call (p, (fun x => ∃ z ∈ p.paper, Und p.notes x z), whole p.notes p.paper) (ea_cons (e_var rfl h1) (ea_cons (e_bits c (e_var rfl h1)) ea_nil))
      ⟨hv, asc_whole _ _, fun z => by rw [mem_whole hv.told]; exact ⟨fun ⟨y, hy, u⟩ => ⟨(u.mem hv.told).1, y, hy, u⟩, fun u => u.2⟩⟩) k
theorem row_of {p : Pac} (v : Val p) {x : Str} (hx : x ∈ nms p.notes) : hnd p.notes x ∈ p.hands ∧ x ∈ row p.notes (hnd p.notes x) := by
  refine ⟨?_, (mem_row v.told.nodup).mpr ⟨hx, rfl⟩⟩
  obtain ⟨i, n, hi, rfl⟩ := get_mem_nms hx
  rw [hnd_at v.told.nodup hi]
  exact (v.nok n (mem_of_get hi)).2.1
def sp_level_of (K : PySem.W.Frag) (C : Addr) : Sp := SpG (Γ := Pac × Str) (fun x => [PactAt K C x.1, D K (.str x.2)]) (fun x => Val x.1 ∧ x.2 ∈ nms x.1.notes) fun x => D K (.int ((row x.1.notes (hnd x.1.notes x.2)).idxOf x.2 : Nat))
abbrev s_level_of : Stmt := top 31
abbrev N_level_of : List Str := ["pact", "note"]
theorem sc_level_of : FnScope N_level_of ["pact", "note"] (defScope s_level_of) := ⟨rfl, rfl, rfl, by decide +kernel, rfl, by decide +kernel, by decide +kernel⟩
theorem ok_level_of {f : Addr} {fd : FuncData} (F : Fun K "level_of" "level_of" s_level_of f fd) (T : Txt mg) (c : CTxt K C) (c_hand_of : Cal P w K mg base CX0 2 "hand_of" ["pact", "note"] (sp_hand_of K C)) : FnOk P w K mg base CX0 3 f fd ["pact", "note"] (sp_level_of K C) := by
  refine F.ok sc_level_of (fun vs H Q E h => ?_) (fun cdv A outer s H vs Q E hr h => ?_)
  · obtain ⟨x, G, hs, ⟨v1, _, rfl, h1, v2, _, rfl, h2, rfl⟩, hp, k⟩ := h; rfl
  · obtain ⟨⟨p, x⟩, G, hs, ⟨v1, _, rfl, h1, v2, _, rfl, h2, rfl⟩, ⟨hv, hx⟩, k⟩ := h
    replace h1 : PactAt K C p v1 G := h1
    replace h2 : Dp K G v2 (.str x) := h2
    replace hx : x ∈ nms p.notes := hx
    replace hv : Val p := hv
    have nd := sc_level_of.nd
    have hu := hu_of hr
    have hrU := hrU_of hr
    refine ⟨_, pss_one (ps_ret (pe_mG tyF_ok PySem.F.plainAttrs_tuple PySem.F.slot_tuple_index PySem.F.type_tuple_index (kTIndex K) (pe_dget hu (kFld K (pv 0)) (pe_cal c_hand_of (hr.mono (by decide)) (by rfl) pass0 (pa_cons (pv 0) (pa_cons (pv 1) pa_nil))) (fun _ _ => rfl)) (pa_cons (pv 1) pa_nil))), ?_⟩
    obtain ⟨r1, r2⟩ := row_of hv hx
    exact s_ret hs (ed_tindex r2 (e_dgetR (Rv := fun h => FT (row p.notes h)) r1 (e_rows c (e_var rfl h1)) (e_call (p, x) (ea_cons (e_var rfl h1) (ea_cons (e_var rfl h2) ea_nil)) ⟨hv, hx⟩)) (e_var rfl h2)) k
end
end KB

set_option Elab.async false
set_option linter.all false
set_option maxRecDepth 100000
set_option maxHeartbeats 4000000
/-! Waits, orders, forms. -/
namespace KB
open PySem PySem.Spec PyProof.Rows L2
section
variable {K : PySem.W.Frag} {σ : L2.St} {G G2 H : Hp} {te ta tb tc : TE} {tt : TT} {En : Ends} {tz : TS} {C : Addr} {p : Pac} {t : TA}
/-- [x for x in xs if ..] -/
theorem en_filt {d : PyData} {xs : List Str} {j : Nat} (pf : Str → Bool) (hd : SqD d (sds xs)) (h : EvS te σ G (D K d)) (hn : xs.length ≤ 1000000) (hj : j < σ.length)
    (turn : ∀ x G1, x ∈ xs → Same G G1 → Et tt ((σ.set j none).set j (some (.str x))) G1 (pf x)) : EvN K (tLc (iSeq K te) (gName j) tt (tVar j) [j]) σ G (fun ds => ds = sds (xs.filter pf)) := by
  have ev := en_lcD (K := K) (tt := tt) (te := tVar j) (g := gName j) (vs := [j]) (fun i => pf (xs.getD i ⟨#[]⟩)) (fun i => .str (xs.getD i ⟨#[]⟩)) (src_seq hd h) (by rw [List.length_map]; exact hn) fun i G1 x hi u ⟨e, he, hx⟩ => by
    obtain ⟨z, hz, rfl⟩ := sds_get he
    cases hx
    have e1 : xs.getD i ⟨#[]⟩ = z := by rw [List.getD_eq_getElem?_getD, hz]; rfl
    refine ⟨_, tg_name, ?_, ?_, fun _ => ⟨rfl, ?_⟩⟩
    · show ((σ.set j none).set j _).set j none = σ.set j none
      rw [List.set_set, List.set_set]
    · rw [e1]; exact turn z G1 (mem_of_get hz) u
    · rw [e1]
      refine e_var ?_ (.str z)
      show ((σ.set j none).set j (some (V.str z)))[j]? = _
      rw [List.getElem?_set_self (by rw [List.length_set]; exact hj)]
  refine ev.imp fun ds e => ?_
  rw [e, List.length_map, range_map xs pf PyData.str]
  · intro i x hx; rw [List.getD_eq_getElem?_getD, hx]; rfl
  · intro i x hx; rw [List.getD_eq_getElem?_getD, hx]; rfl
theorem e_make {b : Bool} (ha : EvA t σ G [D K (qd b (sds p.hands)), D K (.list (dNotes p.notes)), D K (qd b (sds p.ready)), D K (.tuple (sds p.paper))]) (hv : Val p) : EvS (tMake C (sp_Pact_init K C) [] E0 t) σ G (PactAt K C p) := fun G0 H u s Q k =>
  ha G0 H u s _ fun vs G1 H1 g1 ⟨v1, _, e1, h1, v2, _, e2, h2, v3, _, e3, h3, v4, _, e4, h4, e5⟩ => by
    subst e1; subst e2; subst e3; subst e4; subst e5
    exact fun x dx hx hdx ne => ⟨p, b, G1, H1, x, dx, v1, v2, v3, v4, rfl, g1.sub, hx, hdx, rfl, ne, h1, h2, h3, h4, hv, fun v G2 H2 g2 r e => ⟨e, k (.ref x) G2 H2 (g1.trans g2) r⟩⟩
end
theorem Grow.addcell {G0 H0 G H : Hp} {l : Addr} {o : HO} (g : Grow G0 H0 G H) (hl0 : H0 l = none) (gl : G l = none) (hl : H l = some o) : Grow G0 H0 (upd G l o) H := by
  refine ⟨g.up.trans (Same.new gl), same_with g.sub hl, g.keep, fun b hb n => ?_⟩
  have q : b ≠ l := fun z => hb (z ▸ hl0)
  rw [upd_ne q]; exact g.off b hb n
theorem names_sub {p : Pac} (v : Val p) {xs : List Str} (h : ∀ x ∈ xs, x ∈ nms p.notes) : ∀ x ∈ xs, NameOk x := fun x hx => names_of_pac v x (h x hx)
theorem und_names {p : Pac} (v : Val p) (y : Str) : ∀ x ∈ under p.notes y, x ∈ nms p.notes := fun x hx => (((mem_under v.told).mp hx).mem v.told).1
theorem below_names {p : Pac} (v : Val p) (y : Str) : ∀ x ∈ below p.notes y, x ∈ nms p.notes := fun x hx => (((mem_below v.told).mp hx).1.mem v.told).1
theorem whole_names {p : Pac} (v : Val p) : ∀ x ∈ whole p.notes p.paper, x ∈ nms p.notes := fun x hx => by
  obtain ⟨_, _, u⟩ := (mem_whole v.told).mp hx
  exact (u.mem v.told).1
theorem len_le_nms {p : Pac} (v : Val p) {xs : List Str} (ha : xs.Nodup) (h : ∀ x ∈ xs, x ∈ nms p.notes) : xs.length ≤ 40 := by
  have h1 := nodup_sub_len ha h
  rw [List.length_map] at h1
  have := v.n40
  omega
section
variable {P : Program} {w : World} {K : PySem.W.Frag} {mg : Str → Option Value} {base : Heap} {C : Addr}
def sp_uppermost (K : PySem.W.Frag) (C : Addr) : Sp := SpG (Γ := Pac × PyData × List Str) (fun x => [PactAt K C x.1, D K x.2.1]) (fun x => Val x.1 ∧ SqD x.2.1 (sds x.2.2) ∧ (∀ z ∈ x.2.2, z ∈ nms x.1.notes) ∧ x.2.2.length < 64) fun x => D K (.tuple (sds (upper x.1.notes x.2.2)))
abbrev s_uppermost : Stmt := top 33
abbrev N_uppermost : List Str := ["pact", "notes", "found", "one", "other"]
theorem sc_uppermost : FnScope N_uppermost ["pact", "notes"] (defScope s_uppermost) := ⟨rfl, rfl, rfl, by decide +kernel, rfl, by decide +kernel, by decide +kernel⟩
theorem ok_uppermost {f : Addr} {fd : FuncData} (F : Fun K "uppermost" "uppermost" s_uppermost f fd) (T : Txt mg) (c_is_under : Cal P w K mg base CX0 1 "is_under" ["pact", "one", "other"] (sp_is_under K C)) (c_lot_of : Cal P w K mg base CX0 1 "lot_of" ["things"] (sp_lot_of K)) : FnOk P w K mg base CX0 2 f fd ["pact", "notes"] (sp_uppermost K C) := by
  refine F.ok sc_uppermost (fun vs H Q E h => ?_) (fun cdv A outer s H vs Q E hr h => ?_)
  · obtain ⟨x, G, hs, ⟨v1, _, rfl, h1, v2, _, rfl, h2, rfl⟩, hp, k⟩ := h; rfl
  · obtain ⟨⟨p, d, xs⟩, G, hs, ⟨v1, _, rfl, h1, v2, _, rfl, h2, rfl⟩, ⟨hv, hd, hx, hl⟩, k⟩ := h
    replace h1 : PactAt K C p v1 G := h1
    replace h2 : Dp K G v2 d := h2
    replace hv : Val p := hv
    replace hd : SqD d (sds xs) := hd
    replace hx : ∀ z ∈ xs, z ∈ nms p.notes := hx
    replace hl : xs.length < 64 := hl
    have nd := sc_uppermost.nd
    have hu := hu_of hr
    have hrU := hrU_of hr
    refine ⟨_, pss_cons (ps_n 2 nd (pe_lst pa_nil))
    (pss_cons (ps_for PassesOwn.never rfl (kSeq K (pv 1)) (pg_n 3 nd)
      (pss_one (ps_if (pt_cmpR (kEq K hrU) (pe_lc (own := [("other", 4)]) (by rfl) nd (kSeq K (pv 1)) (blkOk_by (by kernel_rfl)) (fun _ _ _ _ _ => (pg_n 4 nd)) (fun _ _ _ _ _ => (pts_one (PW.pt (pw_and (pt_cmpR op_ne (pv 4) (pv 3) (nomark _)) (pw_and1 (pt_val (pe_cal c_is_under (hr.mono (by decide)) (by rfl) pass0 (pa_cons (pv 0) (pa_cons (pv 3) (pa_cons (pv 4) pa_nil)))))))))) (fun _ _ _ _ _ => (pv 4))) (pe_lst pa_nil) (nomark _))
          (pss_one (ps_expr (pe_bm PySem.F.plainAttrs_list PySem.F.slot_list_append PySem.F.type_list_append mt_append (pv 2) (pa_cons (pv 3) pa_nil))))
          (pss_nil))))
    (pss_one (ps_ret (pe_cal c_lot_of (hr.mono (by decide)) (by rfl) pass0 (pa_cons (pv 2) pa_nil))))), ?_⟩
    have nz : ∀ {o : HO}, some o ≠ none := fun z => nomatch z
    refine q_asgN hs (en_lst (K := K) dd_nil (by decide)) fun fo vs ds G1 H1 g1 hf0 gf1 cf1 hds eds => ?_
    subst eds
    cases hds
    refine st (σ' := [some v1, some v2, some (V.ref fo), none, none]) rfl ?_
    have h1' := stb g1.up h1
    have h2' := Dp.up g1.up _ _ h2
    refine q_for g1.sub (src_seq hd (e_var rfl h2')) (fun i σ G' H' => Grow G H G' H' ∧ G' fo = none ∧ H' fo = some (.lst (((xs.take i).filter fun o => bP (∀ z ∈ xs, z ≠ o → ¬ Und p.notes o z)).map V.str)) ∧ ∃ a3, σ = [some v1, some v2, some (.ref fo), a3, none])
      (fun G2 H2 g2 => ⟨g1.trans g2, g2.off fo (by rw [cf1]; exact nz) gf1, g2.keep _ _ cf1, _, rfl⟩) ?_ ?_
    · rintro i σ' G' H' y G5 H5 hi sg sh ⟨gr, gf, cf, a3, rfl⟩ g5 ⟨e, he, hy⟩
      obtain ⟨o, ho, rfl⟩ := sds_get he
      cases hy
      refine ⟨_, tg_name, ?_⟩
      refine st (σ' := [some v1, some v2, some (V.ref fo), some (V.str o), none]) rfl ?_
      have u5 := gr.up.trans g5.up
      have h1'' := stb u5 h1
      have h2'' := Dp.up u5 _ _ h2
      have cf5 := g5.keep _ _ cf
      have gf5 := g5.off fo (by rw [cf]; exact nz) gf
      have om : o ∈ xs := mem_of_get ho
      refine s_if g5.sub (et_T (ed_eqE (en_filt (K := K) (fun z => !decide (z = o) && bP (Und p.notes o z)) hd (e_var rfl h2'') (by omega) (by simp) fun z G6 hz u6 => ?_).d fun z hz => names_of_pac hv z (hx z (List.mem_filter.mp hz).1))) (fun ht G6 H6 g6 => ?_) (fun ht G6 H6 g6 => ?_)
      · exact et_and (et_T (ed_neS (K := K) (e_var rfl (.str z)) (e_var rfl (.str o)))) fun _ => et_B (e_call (p, o, z) (ea_cons (e_var rfl (stb u6 h1'')) (ea_cons (e_var rfl (.str o)) (ea_cons (e_var rfl (.str z)) ea_nil))) ⟨hv, hx o om, hx z hz⟩)
      · have hb : bP (∀ z ∈ xs, z ≠ o → ¬ Und p.notes o z) = true := by
          rw [bP_iff]
          intro z hz hne hu
          have : z ∈ xs.filter fun z => !decide (z = o) && bP (Und p.notes o z) := List.mem_filter.mpr ⟨hz, by rw [bP_iff.mpr hu]; simp [hne]⟩
          rw [List.isEmpty_iff.mp ht] at this
          simp at this
        refine s_app (K := K) g6.sub rfl (g6.keep _ _ cf5) (g6.off fo (by rw [cf5]; exact nz) gf5) (by rw [List.length_map]; have := List.length_filter_le (fun o => bP (∀ z ∈ xs, z ≠ o → ¬ Und p.notes o z)) (xs.take i); rw [List.length_take] at this; omega) (e_var (R := D K (.str o)) rfl (.str o)) fun v G7 H7 w7 rv => ?_
        cases d_str rv
        refine ⟨G7, (g5.trans g6).up.trans w7.up, w7.sub, ((gr.trans g5).trans g6).cellwr (by exact hf0) w7, w7.cell, ?_, _, rfl⟩
        rw [w7.at, List.take_add_one, ho, List.filter_append, List.map_append]
        simp [hb]
      · have hb : bP (∀ z ∈ xs, z ≠ o → ¬ Und p.notes o z) = false := by
          cases e : bP (∀ z ∈ xs, z ≠ o → ¬ Und p.notes o z) with
          | false => rfl
          | true =>
            have e := bP_iff.mp e
            have : xs.filter (fun z => !decide (z = o) && bP (Und p.notes o z)) = [] := by
              rw [List.filter_eq_nil_iff]
              intro z hz q
              simp only [Bool.and_eq_true, Bool.not_eq_true', decide_eq_false_iff_not] at q
              exact e z hz q.1 (bP_iff.mp q.2)
            rw [this] at ht
            cases ht
        refine ⟨G6, (g5.trans g6).up, g6.sub, (gr.trans g5).trans g6, g6.off fo (by rw [cf5]; exact nz) gf5, ?_, _, rfl⟩
        rw [g6.keep _ _ cf5, List.take_add_one, ho, List.filter_append, List.map_append]
        simp [hb]
    · rintro σ' G' H' sg sh ⟨gr, gf, cf, a3, rfl⟩
      rw [List.length_map, List.take_length] at cf
      have g9 := gr.addcell hf0 gf cf
      have hlf : (xs.filter fun o => bP (∀ z ∈ xs, z ≠ o → ¬ Und p.notes o z)).length < 64 := Nat.lt_of_le_of_lt (List.length_filter_le _ _) hl
      exact s_ret g9.sub (e_call (PyData.list (sds (xs.filter fun o => bP (∀ z ∈ xs, z ≠ o → ¬ Und p.notes o z))), xs.filter fun o => bP (∀ z ∈ xs, z ≠ o → ¬ Und p.notes o z)) (ea_cons (e_var rfl (.lst (SqL.of upd_same) (sds_dp _))) ea_nil) ⟨.l _, hlf⟩) fun v G2 H2 g2 => k v G2 H2 (g9.trans g2)
def sp_own_ahead (K : PySem.W.Frag) (C : Addr) : Sp := SpG (Γ := Pac × Str) (fun x => [PactAt K C x.1, D K (.str x.2)]) (fun x => Val x.1 ∧ x.2 ∈ nms x.1.notes) fun x => D K (.list (sds (prv x.1.notes x.2)))
theorem lastL_take {xs : List Str} {n : Nat} (h0 : 0 < n) {x : Str} (h : xs[n - 1]? = some x) : lastL (xs.take n) = [x] := by
  have e : n = n - 1 + 1 := by omega
  rw [e, List.take_add_one, h]
  exact lastL_snoc _ _
abbrev s_own_ahead : Stmt := top 34
abbrev N_own_ahead : List Str := ["pact", "note", "level", "row"]
theorem sc_own_ahead : FnScope N_own_ahead ["pact", "note"] (defScope s_own_ahead) := ⟨rfl, rfl, rfl, by decide +kernel, rfl, by decide +kernel, by decide +kernel⟩
theorem ok_own_ahead {f : Addr} {fd : FuncData} (F : Fun K "own_ahead" "own_ahead" s_own_ahead f fd) (T : Txt mg) (c : CTxt K C) (c_level_of : Cal P w K mg base CX0 3 "level_of" ["pact", "note"] (sp_level_of K C)) : FnOk P w K mg base CX0 4 f fd ["pact", "note"] (sp_own_ahead K C) := by
  refine F.ok sc_own_ahead (fun vs H Q E h => ?_) (fun cdv A outer s H vs Q E hr h => ?_)
  · obtain ⟨x, G, hs, ⟨v1, _, rfl, h1, v2, _, rfl, h2, rfl⟩, hp, k⟩ := h; rfl
  · obtain ⟨⟨p, x⟩, G, hs, ⟨v1, _, rfl, h1, v2, _, rfl, h2, rfl⟩, ⟨hv, hx⟩, k⟩ := h
    replace h1 : PactAt K C p v1 G := h1
    replace h2 : Dp K G v2 (.str x) := h2
    replace hx : x ∈ nms p.notes := hx
    replace hv : Val p := hv
    have nd := sc_own_ahead.nd
    have hu := hu_of hr
    have hrU := hrU_of hr
    refine ⟨_, pss_cons (ps_n 2 nd (pe_cal c_level_of (hr.mono (by decide)) (by rfl) pass0 (pa_cons (pv 0) (pa_cons (pv 1) pa_nil))))
    (pss_cons (ps_n 3 nd (pe_dget hu (kFld K (pv 0)) (pe_ix (kIx K) (pe_ix (kIx K) (kFld K (pv 0)) (pe_dget hu (kFld K (pv 0)) (pv 1) (fun _ _ => rfl)) (fun _ _ => rfl)) (pe_int) (fun _ _ => rfl)) (fun _ _ => rfl)))
    (pss_one (ps_ret (pe_ifExp (pt_cmpR op_gt (pv 2) (pe_int) (nomark _)) (pe_lst (pa_cons (pe_ix (kIx K) (pv 3) (pe_op op_sub (pv 2) (pe_int)) (fun _ _ => rfl)) pa_nil)) (pe_lst pa_nil))))), ?_⟩
    refine q_asg hs (e_call (p, x) (ea_cons (e_var rfl h1) (ea_cons (e_var rfl h2) ea_nil)) ⟨hv, hx⟩) fun v G1 H1 g1 rv => ?_
    cases d_int rv
    generalize hl : (row p.notes (hnd p.notes x)).idxOf x = l at *
    refine st (σ' := [some v1, some v2, some (V.int (l:Nat)), none]) rfl ?_
    replace h1 := stb g1.up h1
    replace h2 := Dp.up g1.up _ _ h2
    obtain ⟨r1, r2⟩ := row_of hv hx
    obtain ⟨i, n, hi, e0⟩ := get_mem_nms hx
    have hdn : hnd p.notes x = n.2.1 := by rw [← e0]; exact hnd_at hv.told.nodup hi
    refine q_asg g1.sub (e_dgetR (Rv := fun h => FT (row p.notes h)) r1 (e_rows c (e_var rfl h1)) ((ed_noteAt c hi (e_var rfl h1) (e_var rfl (e0 ▸ h2))).to (by rw [hdn]))) fun v3 G2 H2 g2 r3 => ?_
    refine st (σ' := [some v1, some v2, some (V.int (l:Nat)), some v3]) rfl ?_
    have hll := idx_lt r2
    rw [hl] at hll
    have hpv : prv p.notes x = lastL ((row p.notes (hnd p.notes x)).take l) := by unfold prv; rw [hl]
    refine s_ret g2.sub (R := D K (.list (sds (prv p.notes x)))) (e_if (et_T (ed_IB (K := K) (f := fun i j => decide (j < i)) (e_var rfl (.int (l : Nat))) ed_int)) (fun ht => ?_) (fun ht => ?_)) fun v4 G3 H3 g3 r => k v4 G3 H3 ((g1.trans g2).trans g3) r
    · have h0 : 0 < l := by
        have := of_decide_eq_true ht
        omega
      have e : (row p.notes (hnd p.notes x))[l - 1]? = some ((row p.notes (hnd p.notes x))[l - 1]'(by omega)) := List.getElem?_eq_getElem _
      rw [hpv, lastL_take h0 e]
      exact (en_lst (dd_cons (ed_ix (e := .str _) (l - 1) (.t _) (e_var (R := D K (.tuple (sds (row p.notes (hnd p.notes x))))) rfl (FT.d r3)) (ed_I (e_var rfl (.int (l : Nat))) ed_int) (.inl ⟨by omega, by rw [List.length_map]; omega⟩) (by rw [List.getElem?_map, e]; rfl)) dd_nil) (by simp)).d
    · have h0 : l = 0 := by
        have := of_decide_eq_false ht
        omega
      rw [hpv, h0]
      exact (en_lst dd_nil (by decide)).d
def sp_bare_waits (K : PySem.W.Frag) (C : Addr) : Sp := SpG (Γ := Pac × Str) (fun x => [PactAt K C x.1, D K (.str x.2)]) (fun x => Val x.1 ∧ x.2 ∈ nms x.1.notes) fun x => D K (.tuple (sds (bare x.1.notes x.2)))
abbrev s_bare_waits : Stmt := top 35
abbrev N_bare_waits : List Str := ["pact", "note", "below", "other"]
theorem sc_bare_waits : FnScope N_bare_waits ["pact", "note"] (defScope s_bare_waits) := ⟨rfl, rfl, rfl, by decide +kernel, rfl, by decide +kernel, by decide +kernel⟩
theorem ok_bare_waits {f : Addr} {fd : FuncData} (F : Fun K "bare_waits" "bare_waits" s_bare_waits f fd) (T : Txt mg) (c_need_note : Cal P w K mg base CX0 1 "need_note" ["pact", "note"] (sp_need_note K C)) (c_under_of : Cal P w K mg base CX0 3 "under_of" ["pact", "note"] (sp_under_of K C)) (c_uppermost : Cal P w K mg base CX0 2 "uppermost" ["pact", "notes"] (sp_uppermost K C)) (c_own_ahead : Cal P w K mg base CX0 4 "own_ahead" ["pact", "note"] (sp_own_ahead K C)) : FnOk P w K mg base CX0 5 f fd ["pact", "note"] (sp_bare_waits K C) := by
  refine F.ok sc_bare_waits (fun vs H Q E h => ?_) (fun cdv A outer s H vs Q E hr h => ?_)
  · obtain ⟨x, G, hs, ⟨v1, _, rfl, h1, v2, _, rfl, h2, rfl⟩, hp, k⟩ := h; rfl
  · obtain ⟨⟨p, x⟩, G, hs, ⟨v1, _, rfl, h1, v2, _, rfl, h2, rfl⟩, ⟨hv, hx⟩, k⟩ := h
    replace h1 : PactAt K C p v1 G := h1
    replace h2 : Dp K G v2 (.str x) := h2
    replace hx : x ∈ nms p.notes := hx
    replace hv : Val p := hv
    cases h2
    have nd := sc_bare_waits.nd
    have hu := hu_of hr
    have hrU := hrU_of hr
    refine ⟨_, pss_cons (ps_expr (pe_cal c_need_note (hr.mono (by decide)) (by rfl) pass0 (pa_cons (pv 0) (pa_cons (pv 1) pa_nil))))
    (pss_cons (ps_setLc (i := 2) (own := [("other", 3)]) (by rfl) nd rfl rfl (sw_true rfl rfl rfl (by decide +kernel)) (kSeq K (pe_cal c_under_of (hr.mono (by decide)) (by rfl) pass0 (pa_cons (pv 0) (pa_cons (pv 1) pa_nil)))) (blkOk_by (by kernel_rfl)) (fun _ _ _ _ _ => (pg_n 3 nd)) (fun _ _ _ _ _ => (pts_one (pt_cmpR op_ne (pv 3) (pv 1) (nomark _)))) (fun _ _ _ _ _ => (pv 3)))
    (pss_one (ps_ret (pe_callTy (kTup K) (by rfl) T.m_tuple (by decide +kernel) (pa_cons (pe_lc (own := [("other", 3)]) (by rfl) nd (kSeq K (pe_cal c_uppermost (hr.mono (by decide)) (by rfl) pass0 (pa_cons (pv 0) (pa_cons (pv 2) pa_nil)))) (blkOk_by (by kernel_rfl)) (fun _ _ _ _ _ => (pg_n 3 nd)) (fun _ _ _ _ _ => (pts_one (pt_cmpR (kNi K) (pv 3) (pe_cal c_own_ahead (hr.mono (by decide)) (by rfl) pass0 (pa_cons (pv 0) (pa_cons (pv 1) pa_nil))) (by rfl)))) (fun _ _ _ _ _ => (pv 3))) pa_nil))))), ?_⟩
    refine st (σ' := [some v1, some (V.str x), none, none]) rfl ?_
    refine q_drop hs (e_call (p, x) (ea_cons (e_var rfl h1) (ea_cons (e_var rfl (.str x)) ea_nil)) ⟨hv, hx⟩) fun _ G1 H1 g1 _ => ?_
    replace h1 := stb g1.up h1
    have lu := len_le_nms hv (asc_nodup (asc_under p.notes x)) (und_names hv x)
    refine q_asg g1.sub (en_filt (K := K) (xs := under p.notes x) (fun z => !decide (z = x)) (.t _) (e_call (p, x) (ea_cons (e_var rfl h1) (ea_cons (e_var rfl (.str x)) ea_nil)) ⟨hv, hx⟩) (by omega) (by simp) fun z G6 hz u6 => ?_).d fun v3 G2 H2 g2 r3 => ?_
    · exact et_T (ed_neS (K := K) (e_var rfl (.str z)) (e_var rfl (.str x)))
    replace r3 : Dp K G2 v3 (.list (sds (below p.notes x))) := r3
    refine st (σ' := [some v1, some (V.str x), some v3, none]) rfl ?_
    replace h1 := stb g2.up h1
    have lb := len_le_nms hv (asc_nodup (asc_below p.notes x)) (below_names hv x)
    have lp := len_le_nms hv (asc_nodup (asc_upper p.notes (below p.notes x))) (fun z hz => below_names hv x z (upper_sub hz))
    exact s_ret g2.sub (ed_tupOf (.l _) (en_filt (K := K) (xs := upper p.notes (below p.notes x)) (fun z => !decide (z ∈ prv p.notes x)) (.t _) (e_call (p, PyData.list (sds (below p.notes x)), below p.notes x) (ea_cons (e_var rfl h1) (ea_cons (e_var rfl r3) ea_nil)) ⟨hv, .l _, below_names hv x, (by show (below p.notes x).length < 64; omega)⟩) (by omega) (by simp) fun z G6 hz u6 =>
      et_T (ed_niIn (.l _) (e_var rfl (.str z)) (e_call (p, x) (ea_cons (e_var rfl (stb u6 h1)) (ea_cons (e_var rfl (.str x)) ea_nil)) ⟨hv, hx⟩))).d) fun v G3 H3 g3 => k v G3 H3 ((g1.trans g2).trans g3)
def sp_bare_paper (K : PySem.W.Frag) (C : Addr) : Sp := SpG (Γ := Pac) (fun x => [PactAt K C x]) (fun x => Val x) fun x => D K (.tuple (sds (upper x.notes (whole x.notes x.paper))))
abbrev s_bare_paper : Stmt := top 36
abbrev N_bare_paper : List Str := ["pact"]
theorem sc_bare_paper : FnScope N_bare_paper ["pact"] (defScope s_bare_paper) := ⟨rfl, rfl, rfl, by decide +kernel, rfl, by decide +kernel, by decide +kernel⟩
theorem ok_bare_paper {f : Addr} {fd : FuncData} (F : Fun K "bare_paper" "bare_paper" s_bare_paper f fd) (T : Txt mg) (c_uppermost : Cal P w K mg base CX0 2 "uppermost" ["pact", "notes"] (sp_uppermost K C)) (c_whole_paper : Cal P w K mg base CX0 3 "whole_paper" ["pact"] (sp_whole_paper K C)) : FnOk P w K mg base CX0 4 f fd ["pact"] (sp_bare_paper K C) := by
  refine F.ok sc_bare_paper (fun vs H Q E h => ?_) (fun cdv A outer s H vs Q E hr h => ?_)
  · obtain ⟨x, G, hs, ⟨v1, _, rfl, h1, rfl⟩, hp, k⟩ := h; rfl
  · obtain ⟨p, G, hs, ⟨v1, _, rfl, h1, rfl⟩, hv, k⟩ := h
    have nd := sc_bare_paper.nd
    have hu := hu_of hr
    have hrU := hrU_of hr
    refine ⟨_, pss_one (ps_ret (pe_cal c_uppermost (hr.mono (by decide)) (by rfl) pass0 (pa_cons (pv 0) (pa_cons (pe_cal c_whole_paper (hr.mono (by decide)) (by rfl) pass0 (pa_cons (pv 0) pa_nil)) pa_nil)))), ?_⟩
    have lw := len_le_nms hv (asc_nodup (asc_whole p.notes p.paper)) (whole_names hv)
    exact s_ret hs (e_call (p, PyData.tuple (sds (whole p.notes p.paper)), whole p.notes p.paper) (ea_cons (e_var rfl h1) (ea_cons (e_call p (ea_cons (e_var rfl h1) ea_nil) hv) ea_nil)) ⟨hv, .t _, whole_names hv, (by show (whole p.notes p.paper).length < 64; omega)⟩) k
end
end KB

set_option Elab.async false
set_option linter.all false
set_option maxRecDepth 100000
set_option maxHeartbeats 4000000
/-! Two pacts compared; orders and forms. -/
namespace KB
open PySem PySem.Spec PyProof.Rows L2
/-- the class's own == -/
structure CalEq (P : Program) (w : World) (K : PySem.W.Frag) (mg : Str → Option Value) (base : Heap) (k : Nat) (C : Addr) (sp : Sp) : Prop where
  ex : ∃ (f : Addr) (fd : FuncData) (ps : List Str), FnOk P w K mg base CX0 k f fd ps sp ∧ PySem.W.findIn K (.ref C) "__eq__" = some (some (.ref f)) ∧ PySem.W.isFn K (.ref f) = true ∧ Binds K fd ps []
def rEqP (C : Addr) (sp : Sp) : R2 := fun x y H Q => ∃ a b dx dy fs gs, x = .ref a ∧ y = .ref b ∧ H a = some (.ins C dx fs) ∧ H b = some (.ins C dy gs) ∧ sp [.ref a, .ref b] H (fun v H' => ∃ c, v = .bl c ∧ Q (.bl c) H') E0
theorem op_eqP {X : Cx} {C : Addr} {k : Nat} {sp : Sp} (c : CalEq X.prog X.w X.K X.mg X.base k C sp) (hr : Room k X.A) : OpR X (compareOp .Eq) (rEqP C sp) := by
  intro pins s σ H x y v u Q I rx ry hq
  obtain ⟨f, fd, ps, F, hs, hf, hb⟩ := c.ex
  obtain ⟨a, b, dx, dy, fs, gs, e1, e2, ha, hb', q⟩ := hq
  subst e1
  subst e2
  cases rx
  cases ry
  show wpAny (model X.prog X.w) X.A (richCompare .Eq (.ref a) (.ref b)) (EP X pins σ Q) X.xe s
  obtain ⟨mA, J, _⟩ := ins_get I.hok ha
  obtain ⟨mB, J', _⟩ := ins_get I.hok hb'
  obtain ⟨od, J, _⟩ := J.look
  obtain ⟨od', J', _⟩ := J'.look
  obtain ⟨m, hF⟩ := I.fr
  refine PySem.W.cmp_K (op := .Eq) (tb := .ref C) hr.units0 hF I.ok.mod.kin J J'.type (by simp [PySem.W.notFirst]) hs hf ?_
  have hl := F.len _ _ _ _ q
  have r2 : Vals [V.ref a, V.ref b] [Value.ref a, Value.ref b] := .cons rfl (.cons rfl .nil)
  refine wpAny_mono (run_fn (E := E0) (Q := fun v H' => ∃ c, v = .bl c ∧ Q (.bl c) H') F hr hb .nil pass0 I r2 (by rw [List.append_nil]; exact q)) (fun r s' hq => ?_) fun _ _ x => x
  obtain ⟨x, H', I', rz, c', ez, qq⟩ := hq
  subst ez
  cases rz
  exact ⟨.bl c', H', I', rfl, qq⟩
abbrev dPac (p : Pac) : PyData := .tuple [.tuple (sds p.hands), .tuple (dNotes p.notes), .tuple (sds p.ready), .tuple (sds p.paper)]
theorem dPac_inj {p q : Pac} (h : dPac p = dPac q) : p = q := by
  obtain ⟨a1, a2, a3, a4⟩ := p
  obtain ⟨b1, b2, b3, b4⟩ := q
  simp only [dPac, PyData.tuple.injEq, List.cons.injEq, and_true] at h
  obtain ⟨h1, h2, h3, h4⟩ := h
  rw [sds_inj h1, dNotes_inj h2, sds_inj h3, sds_inj h4]
theorem noNum_pac (p : Pac) : noNum (dPac p) = true := by simp [dPac, noNum, noNums, noNums_sds, noNums_notes]
theorem sh_notes {p : Pac} (v : Val p) : ∀ d ∈ dNotes p.notes, Sh 2 d := fun d hd => by
  obtain ⟨n, hn, rfl⟩ := List.mem_map.mp hd
  obtain ⟨i, hi⟩ := List.mem_iff_getElem?.mp hn
  have t := told_at v hi
  refine sh_tup (n := 1) fun e he => ?_
  simp only [List.mem_cons, List.not_mem_nil, or_false] at he
  rcases he with rfl | rfl | rfl
  · exact (sh_str (name_strOk t.ok)).up (by decide)
  · exact (sh_str (name_strOk t.hok)).up (by decide)
  · exact sh_tup (n := 0) (sh_sds t.lot.ok)
theorem ready_ok {p : Pac} (v : Val p) : ∀ x ∈ p.ready, NameOk x := fun x hx => by
  obtain ⟨i, hi⟩ := List.mem_iff_getElem?.mp hx
  obtain ⟨_, _, m, _⟩ := ready_at v hi
  exact names_of_pac v x m
theorem sh_pac {p : Pac} (v : Val p) : Sh 4 (dPac p) := by
  refine sh_tup (n := 3) fun e he => ?_
  simp only [List.mem_cons, List.not_mem_nil, or_false] at he
  rcases he with rfl | rfl | rfl | rfl
  · exact (sh_tup (n := 0) (sh_sds v.hok)).up (by decide)
  · exact sh_tup (n := 2) (sh_notes v)
  · exact (sh_tup (n := 0) (sh_sds (ready_ok v))).up (by decide)
  · exact (sh_tup (n := 0) (sh_sds (lot_of_val v).ok)).up (by decide)
section
variable {K : PySem.W.Frag} {σ : L2.St} {G G2 H : Hp} {te ta tb tc : TE} {C : Addr} {p q : Pac}
def sp_Pact_eq (K : PySem.W.Frag) (C : Addr) : Sp := SpG (Γ := Pac × Pac) (fun x => [PactAt K C x.1, PactAt K C x.2]) (fun x => Val x.1 ∧ Val x.2) fun x => D K (.bool (bP (x.1 = x.2)))
theorem ed_eqP (ha : EvS ta σ G (PactAt K C p)) (hb : EvS tb σ G (PactAt K C q)) (v1 : Val p) (v2 : Val q) : EvS (tOp (rEqP C (sp_Pact_eq K C)) ta tb) σ G (D K (.bool (bP (p = q)))) :=
  e_op ha hb fun x y G1 _ rx ry H s Q k => by
    obtain ⟨a, dx, fs, e1, h1, _⟩ := id rx
    obtain ⟨b, dy, gs, e2, h2, _⟩ := id ry
    subst e1
    subst e2
    exact ⟨a, b, dx, dy, fs, gs, rfl, rfl, s a _ h1, s b _ h2, (p, q), G1, s, ⟨_, _, rfl, rx, _, _, rfl, ry, rfl⟩, ⟨v1, v2⟩, fun v G2 H2 g r => ⟨_, d_bl r, k _ G2 H2 g (.bl _)⟩⟩
theorem ed_dPac (c : CTxt K C) (h : EvS te σ G (PactAt K C p)) : EvS (tTup (tCons (tFld K te "hands") (tCons (tFld K te "notes") (tCons (tFld K te "ready") (tCons (tFld K te "paper") tNil))))) σ G (D K (dPac p)) :=
  ed_tup (dd_cons (e_hands c h) (dd_cons (e_notes c h) (dd_cons (e_ready c h) (dd_cons (e_paper c h) dd_nil)))) (by simp)
end
section
variable {P : Program} {w : World} {K : PySem.W.Frag} {mg : Str → Option Value} {base : Heap} {C : Addr}
abbrev s_Pact_eq : Stmt := inClass (top 23) 1
abbrev N_Pact_eq : List Str := ["self", "other"]
theorem sc_Pact_eq : FnScope N_Pact_eq ["self", "other"] (defScope s_Pact_eq) := ⟨rfl, rfl, rfl, by decide +kernel, rfl, by decide +kernel, by decide +kernel⟩
theorem ok_Pact_eq {f : Addr} {fd : FuncData} (F : Fun K "__eq__" "Pact.__eq__" s_Pact_eq f fd) (T : Txt mg) (c : CTxt K C) (ci : C8.InsC K C) (gPact : mg "Pact" = some (.ref C))  : FnOk P w K mg base CX0 1 f fd ["self", "other"] (sp_Pact_eq K C) := by
  refine F.ok sc_Pact_eq (fun vs H Q E h => ?_) (fun cdv A outer s H vs Q E hr h => ?_)
  · obtain ⟨x, G, hs, ⟨v1, _, rfl, h1, v2, _, rfl, h2, rfl⟩, hp, k⟩ := h; rfl
  · obtain ⟨⟨p, q⟩, G, hs, ⟨v1, _, rfl, h1, v2, _, rfl, h2, rfl⟩, ⟨hv, hv2⟩, k⟩ := h
    replace h1 : PactAt K C p v1 G := h1
    replace h2 : PactAt K C q v2 G := h2
    replace hv : Val p := hv
    replace hv2 : Val q := hv2
    have nd := sc_Pact_eq.nd
    have hu := hu_of hr
    have hrU := hrU_of hr
    refine ⟨_, pss_cons (ps_if (pt_not (pt_val (pe_callB (C8.call_isC ci) (by rfl) T.m_isinstance (by decide +kernel) (pa_cons (pv 1) (pa_cons (pe_glob (v := V.ref C) (by rfl) gPact rfl) pa_nil)))))
      (pss_one (ps_ret (pe_bl)))
      (pss_nil))
    (pss_one (ps_ret (pe_cmpR (kEq K hrU) (pe_tup (pa_cons (kFld K (pv 0)) (pa_cons (kFld K (pv 0)) (pa_cons (kFld K (pv 0)) (pa_cons (kFld K (pv 0)) pa_nil))))) (pe_tup (pa_cons (kFld K (pv 1)) (pa_cons (kFld K (pv 1)) (pa_cons (kFld K (pv 1)) (pa_cons (kFld K (pv 1)) pa_nil))))) (nomark _)))), ?_⟩
    refine q_skip hs (et_not (b := true) (et_B (K := K) fun G1 H1 u s Q k => ?_)) rfl fun G2 H2 g2 => ?_
    · obtain ⟨a, dx, fs, e1, a1, a2⟩ := stb u h2
      exact ⟨v2, rfl, ⟨a, dx, fs, by rw [e1], s a _ a1, k (.bl true) G1 H1 (.refl s) (.bl _)⟩⟩
    · refine s_ret g2.sub ((ed_eqD (ed_dPac c (e_var rfl (stb g2.up h1))) (ed_dPac c (e_var rfl (stb g2.up h2))) (sh_pac hv).shaped (sh_pac hv2).shaped).to ?_) fun v G3 H3 g3 => k v G3 H3 (g2.trans g3)
      rw [eqv_bP (noNum_pac p)]
      congr 1
      exact bP_congr ⟨dPac_inj, fun e => by have e : p = q := e; rw [e]⟩
def sp_least_order (K : PySem.W.Frag) (C : Addr) : Sp := SpG (Γ := Pac) (fun x => [PactAt K C x]) (fun x => Val x) fun x => D K (.tuple (sds (order x.notes)))
abbrev s_least_order : Stmt := top 37
abbrev N_least_order : List Str := ["pact", "found", "rest", "free", "note", "one"]
theorem sc_least_order : FnScope N_least_order ["pact"] (defScope s_least_order) := ⟨rfl, rfl, rfl, by decide +kernel, rfl, by decide +kernel, by decide +kernel⟩
theorem ok_least_order {f : Addr} {fd : FuncData} (F : Fun K "least_order" "least_order" s_least_order f fd) (T : Txt mg) (c : CTxt K C) (c_lot_of : Cal P w K mg base CX0 1 "lot_of" ["things"] (sp_lot_of K)) (c_is_under : Cal P w K mg base CX0 1 "is_under" ["pact", "one", "other"] (sp_is_under K C)) : FnOk P w K mg base CX0 2 f fd ["pact"] (sp_least_order K C) := by
  refine F.ok sc_least_order (fun vs H Q E h => ?_) (fun cdv A outer s H vs Q E hr h => ?_)
  · obtain ⟨x, G, hs, ⟨v1, _, rfl, h1, rfl⟩, hp, k⟩ := h; rfl
  · obtain ⟨p, G, hs, ⟨v1, _, rfl, h1, rfl⟩, hv, k⟩ := h
    replace h1 : PactAt K C p v1 G := h1
    replace hv : Val p := hv
    have nd := sc_least_order.nd
    have hu := hu_of hr
    have hrU := hrU_of hr
    refine ⟨_, pss_cons (ps_n 1 nd (pe_lst pa_nil))
    (pss_cons (ps_n 2 nd (pe_callTy (kLst K) (by rfl) T.m_list (by decide +kernel) (pa_cons (pe_cal c_lot_of (hr.mono (by decide)) (by rfl) pass0 (pa_cons (kFld K (pv 0)) pa_nil)) pa_nil)))
    (pss_cons (ps_while PassesOwn.never (pt_cmpR (kNe K hrU) (pv 2) (pe_lst pa_nil) (nomark _))
      (pss_cons (ps_n 3 nd (pe_lc (own := [("note", 4)]) (by rfl) nd (kSeq K (pv 2)) (blkOk_by (by kernel_rfl)) (fun _ _ _ _ _ => (pg_n 4 nd)) (fun _ _ _ _ _ => (pts_one (pt_cmpR (kEq K hrU) (pe_lc (own := [("one", 5)]) (by rfl) nd (kSeq K (pv 2)) (blkOk_by (by kernel_rfl)) (fun _ _ _ _ _ => (pg_n 5 nd)) (fun _ _ _ _ _ => (pts_one (PW.pt (pw_and (pt_cmpR op_ne (pv 5) (pv 4) (nomark _)) (pw_and1 (pt_val (pe_cal c_is_under (hr.mono (by decide)) (by rfl) pass0 (pa_cons (pv 0) (pa_cons (pv 5) (pa_cons (pv 4) pa_nil)))))))))) (fun _ _ _ _ _ => (pv 5))) (pe_lst pa_nil) (nomark _)))) (fun _ _ _ _ _ => (pv 4))))
        (pss_cons (ps_expr (pe_bm PySem.F.plainAttrs_list PySem.F.slot_list_append PySem.F.type_list_append mt_append (pv 1) (pa_cons (pe_ix (kIx K) (pv 3) (pe_int) (fun _ _ => rfl)) pa_nil)))
        (pss_one (ps_n 2 nd (pe_lc (own := [("note", 4)]) (by rfl) nd (kSeq K (pv 2)) (blkOk_by (by kernel_rfl)) (fun _ _ _ _ _ => (pg_n 4 nd)) (fun _ _ _ _ _ => (pts_one (pt_cmpR op_ne (pv 4) (pe_ix (kIx K) (pv 3) (pe_int) (fun _ _ => rfl)) (nomark _)))) (fun _ _ _ _ _ => (pv 4))))))))
    (pss_one (ps_ret (pe_callTy (kTup K) (by rfl) T.m_tuple (by decide +kernel) (pa_cons (pv 1) pa_nil)))))), ?_⟩
    have nz : ∀ {o : HO}, some o ≠ none := fun z => nomatch z
    have hnl : (nms p.notes).length = p.notes.length := List.length_map _
    have hn := hv.n40
    refine q_asgN hs (en_lst (K := K) dd_nil (by decide)) fun fo vs ds G1 H1 g1 hf0 gf1 cf1 hds eds => ?_
    subst eds
    cases hds
    refine st (σ' := [some v1, some (V.ref fo), none, none, none, none]) rfl ?_
    replace h1 := stb g1.up h1
    refine q_asg g1.sub (en_lstOf (.t _) (e_call (PyData.tuple (sds (nms p.notes)), nms p.notes) (ea_cons (e_names c (e_var rfl h1)) ea_nil) ⟨.t _, (by show (nms p.notes).length < 64; omega)⟩)).d fun v2 G2 H2 g2 r2 => ?_
    replace r2 : Dp K G2 v2 (.list (sds (lotOf (nms p.notes)))) := r2
    refine st (σ' := [some v1, some (V.ref fo), some v2, none, none, none]) rfl ?_
    have cf2 := g2.keep _ _ cf1
    have gf2 := g2.off fo (by rw [cf1]; exact nz) gf1
    have g02 := g1.trans g2
    replace h1 := stb g2.up h1
    clear g1 cf1 gf1
    refine q_while g2.sub (fun m σ G' H' => Grow G H G' H' ∧ G' fo = none ∧ ∃ (rest done : List Str) (vr : V) (a3 : Option V), rest.length = m ∧ (∀ x ∈ rest, x ∈ nms p.notes) ∧ rest.Nodup ∧ done ++ ordGo p.notes m rest = order p.notes ∧ done.length + m ≤ 40 ∧ H' fo = some (.lst (done.map V.str)) ∧
        Dp K G' vr (.list (sds rest)) ∧ σ = [some v1, some (.ref fo), some vr, a3, none, none]) (nms p.notes).length ⟨g02, gf2, lotOf (nms p.notes), [], v2, none, nodup_lot_len hv.told.nodup, fun x hx => mem_lotOf.mp hx, asc_nodup (asc_lotOf _), rfl, by simp; omega, cf2, r2, rfl⟩ ?_
    rintro m σ' G' H' sg sh ⟨gr, gf, rest, dn, vr, a3, hm, hin, hnd, hor, hln, cf, hr2, rfl⟩
    refine ⟨_, et_T (ed_neE (K := K) (e_var rfl hr2) (names_sub hv hin)), fun ht G3 H3 g3 => ?_, fun ht G3 H3 g3 => ?_⟩
    · have hne : rest ≠ [] := fun e => by rw [e] at ht; simp at ht
      cases m with
      | zero => exact absurd (List.length_eq_zero_iff.mp hm) hne
      | succ m =>
        have h1' := stb (sg.trans g3.up) h1
        have hr3 := Dp.up g3.up _ _ hr2
        have lr : rest.length ≤ 40 := by omega
        have hfree : free p.notes rest = rest.filter fun o => ((rest.filter fun z => !decide (z = o) && bP (Und p.notes z o)).isEmpty) := by
          unfold free
          apply List.filter_congr
          intro o ho
          apply Eq.symm
          apply bP_of
          rw [List.isEmpty_iff, List.filter_eq_nil_iff]
          constructor
          · intro h z hz hne hu
            exact h z hz (by rw [bP_iff.mpr hu]; simp [hne])
          · intro h z hz q
            simp only [Bool.and_eq_true, Bool.not_eq_true', decide_eq_false_iff_not] at q
            exact h z hz q.1 (bP_iff.mp q.2)
        refine q_asg g3.sub (en_filt (K := K) (xs := rest) (fun o => ((rest.filter fun z => !decide (z = o) && bP (Und p.notes z o)).isEmpty)) (.l _) (e_var rfl hr3) (by omega) (by simp) fun o G6 ho u6 => ?_).d fun v3 G4 H4 g4 r4 => ?_
        · refine et_T (ed_eqE (en_filt (K := K) (xs := rest) (fun z => !decide (z = o) && bP (Und p.notes z o)) (.l _) (e_var rfl (Dp.up u6 _ _ hr3)) (by omega) (by simp) fun z G7 hz u7 => ?_).d fun z hz => names_of_pac hv z (hin z (List.mem_filter.mp hz).1))
          exact et_and (et_T (ed_neS (K := K) (e_var rfl (.str z)) (e_var rfl (.str o)))) fun _ => et_B (e_call (p, z, o) (ea_cons (e_var rfl (stb (u6.trans u7) h1')) (ea_cons (e_var rfl (.str z)) (ea_cons (e_var rfl (.str o)) ea_nil))) ⟨hv, hin z hz, hin o ho⟩)
        rw [← hfree] at r4
        refine st (σ' := [some v1, some (V.ref fo), some vr, some v3, none, none]) rfl ?_
        cases ef : free p.notes rest with
        | nil => exact absurd ef (free_ne hv.told hin hne)
        | cons f rf =>
          rw [ef] at r4
          have fm : f ∈ rest := by
            have : f ∈ free p.notes rest := by rw [ef]; exact List.mem_cons_self
            exact (List.mem_filter.mp this).1
          have cf4 := g4.keep _ _ (g3.keep _ _ cf)
          have gf4 := (g3.trans g4).off fo (by rw [cf]; exact nz) gf
          have ix : ∀ {σ : L2.St} {G5 : Hp}, Same G4 G5 → σ[3]? = some (some v3) → EvS (tOp (rIx K) (tVar 3) (tC (.int 0))) σ G5 (D K (.str f)) := fun u e => ed_ix (d := .list (sds (f :: rf))) (ds := sds (f :: rf)) 0 (.l _) (e_var e (Dp.up u _ _ r4)) ed_int (.inl ⟨rfl, by simp⟩) rfl
          refine q_app (K := K) g4.sub rfl cf4 gf4 (by rw [List.length_map]; omega) (ix (.refl _) rfl) fun v G5 H5 w5 rv => ?_
          cases d_str rv
          have hr5 := Dp.up (g4.up.trans w5.up) _ _ hr3
          have lf := len_filter_ne hnd fm
          refine s_asg w5.sub (en_filt (K := K) (xs := rest) (fun o => !decide (o = f)) (.l _) (e_var rfl hr5) (by omega) (by simp) fun o G6 ho u6 => et_T (ed_neS (K := K) (e_var rfl (.str o)) (ix (w5.up.trans u6) rfl))).d fun v6 G6 H6 g6 r6 => ?_
          have grA := ((gr.trans g3).trans g4).cellwr hf0 w5
          refine ⟨m, Nat.lt_succ_self _, G6, (((g3.trans g4).up.trans w5.up).trans g6.up), g6.sub, grA.trans g6, g6.off _ (by rw [w5.at]; exact nz) w5.cell, rest.filter fun o => !decide (o = f), dn ++ [f], v6, some v3, by omega, fun x hx => hin x (List.mem_filter.mp hx).1, hnd.filter _, ?_, by simp; omega, ?_, r6, rfl⟩
          · have eo : ordGo p.notes (m + 1) rest = f :: ordGo p.notes m (rest.filter fun x => !decide (x = f)) := by
              show (match free p.notes rest with | [] => [] | f :: _ => f :: ordGo p.notes m (rest.filter fun x => !decide (x = f))) = _
              rw [ef]
            rw [← hor, eo, List.append_assoc]; rfl
          · rw [g6.keep _ _ w5.at, List.map_append]; rfl
    · have he : rest = [] := by
        cases rest with
        | nil => rfl
        | cons x r => simp at ht
      subst he
      have hm0 : m = 0 := by simpa using hm.symm
      subst hm0
      have hdn : dn = order p.notes := by rw [← hor]; simp [ordGo]
      subst hdn
      have cf3 := g3.keep _ _ cf
      have g9 := (gr.trans g3).addcell hf0 (g3.off fo (by rw [cf]; exact nz) gf) cf3
      exact s_ret g9.sub (ed_tupOf (.l _) (e_var (R := D K (.list (sds (order p.notes)))) rfl (.lst (SqL.of upd_same) (sds_dp _)))) fun v G2 H2 g2 => k v G2 H2 (g9.trans g2)
end
end KB

set_option Elab.async false
set_option linter.all false
set_option maxRecDepth 100000
set_option maxHeartbeats 4000000
/-! The forms. -/
namespace KB
open PySem PySem.Spec PyProof.Rows L2
/-- a dict that tells waits by name -/
def WR (K : PySem.W.Frag) (xs : List Str) (W : Str → List Str) : RP := fun v H => ∃ f, (∀ y ∈ xs, f.lookup y = some (.tuple (sds (W y)))) ∧ DT K f v H
instance {K : PySem.W.Frag} {xs : List Str} {W : Str → List Str} : Stb (WR K xs W) := ⟨fun u ⟨f, h1, h2⟩ => ⟨f, h1, stb u h2⟩⟩
def wF (xs : List Str) (W : Str → List Str) : Nat → List (Str × PyData)
  | 0 => []
  | i + 1 => putS (wF xs W i) (xs.getD i ⟨#[]⟩) (.tuple (sds (W (xs.getD i ⟨#[]⟩))))
theorem wF_len (xs : List Str) (W : Str → List Str) : ∀ i, (wF xs W i).length ≤ i
  | 0 => Nat.le_refl _
  | i + 1 => Nat.le_trans (putS_len _ _ _) (Nat.succ_le_succ (wF_len xs W i))
theorem wF_get {xs : List Str} {W : Str → List Str} : ∀ (i : Nat) {y : Str}, i ≤ xs.length → y ∈ xs.take i → (wF xs W i).lookup y = some (.tuple (sds (W y)))
  | 0, y, _, h => by simp at h
  | i + 1, y, hi, h => by
    have e : xs[i]? = some xs[i] := List.getElem?_eq_getElem _
    have e2 : xs.getD i ⟨#[]⟩ = xs[i] := by rw [List.getD_eq_getElem?_getD, e]; rfl
    show (putS (wF xs W i) (xs.getD i ⟨#[]⟩) _).lookup y = _
    rw [lookup_putS, e2]
    by_cases q : y = xs[i]
    · rw [if_pos q, q]
    · rw [if_neg q]
      refine wF_get i (by omega) ?_
      rw [List.take_add_one, e] at h
      rcases List.mem_append.mp h with h | h
      · exact h
      · exact absurd (by simpa using h) q
section
variable {K : PySem.W.Frag} {σ : L2.St} {G G2 H : Hp} {td ty : TE}
theorem ed_waits {xs : List Str} {W : Str → List Str} {y : Str} (hy : y ∈ xs) (h : EvS td σ G (WR K xs W)) (h2 : EvS ty σ G (D K (.str y))) : EvS (tDGet td ty) σ G (D K (.tuple (sds (W y)))) := fun G0 H u s Q k =>
  h G0 H u s _ fun v G1 H1 g1 ⟨f, f1, r⟩ => (ed_dget (K := K) (td := tC v) (σ := σ) (e_c r) (h2.up (u.trans g1.up)) (f1 y hy)) G1 H1 (.refl _) g1.sub Q fun v G2 H2 g2 r => k v G2 H2 (g1.trans g2) r
end
theorem sum_lot : ∀ {xs ys : List Str} (f : Str → Nat), xs.Perm ys → (xs.map f).sum = (ys.map f).sum := fun {xs ys} f h => by
  induction h with
  | nil => rfl
  | cons x _ ih => simp [ih]
  | swap x y l => simp; omega
  | trans _ _ a b => exact a.trans b
theorem lot_perm {xs : List Str} (h : xs.Nodup) : (lotOf xs).Perm xs := nodup_perm (asc_nodup (asc_lotOf xs)) h fun x => mem_lotOf
/-- what is free at a note -/
noncomputable def freeAt (p : Pac) (y : Str) : Nat := (under p.notes y).length - 1 - (bare p.notes y).length
theorem free_at {p : Pac} (v : Val p) {y : Str} (hy : y ∈ nms p.notes) : (((under p.notes y).length : Int) - 1 - ((bare p.notes y).length : Int)) = ((freeAt p y : Nat) : Int) ∧ freeAt p y ≤ 40 := by
  have h1 : (below p.notes y).length + 1 = (under p.notes y).length := len_filter_ne (asc_nodup (asc_under p.notes y)) ((mem_under v.told).mpr (Und.rfl v.told hy))
  have h2 : (bare p.notes y).length ≤ (below p.notes y).length := nodup_sub_len (asc_nodup (asc_bare _ _)) fun z hz => bare_sub hz
  have h3 := len_le_nms v (asc_nodup (asc_under p.notes y)) (und_names v y)
  unfold freeAt
  constructor
  · omega
  · omega
theorem free_pp {p : Pac} (v : Val p) : (upper p.notes (whole p.notes p.paper)).length ≤ (whole p.notes p.paper).length ∧ (whole p.notes p.paper).length ≤ 40 :=
  ⟨nodup_sub_len (asc_nodup (asc_upper _ _)) fun z hz => upper_sub hz, len_le_nms v (asc_nodup (asc_whole _ _)) (whole_names v)⟩
theorem sum_le {xs : List Str} {f : Str → Nat} (h : ∀ y ∈ xs, f y ≤ 40) : (xs.map f).sum ≤ 40 * xs.length := by
  induction xs with
  | nil => simp
  | cons x xs ih =>
    have a := h x List.mem_cons_self
    have b := ih fun y hy => h y (List.mem_cons_of_mem _ hy)
    simp only [List.map_cons, List.sum_cons, List.length_cons]
    omega
theorem freeN_eq {p : Pac} (v : Val p) : freeN p = ((whole p.notes p.paper).length - (upper p.notes (whole p.notes p.paper)).length) + ((nms p.notes).map (freeAt p)).sum := by
  unfold freeN
  congr 1
  exact sum_lot _ (lot_perm v.told.nodup)
theorem freeN_le {p : Pac} (v : Val p) : freeN p ≤ 10000 := by
  rw [freeN_eq v]
  have h1 := free_pp v
  have h2 := sum_le (xs := nms p.notes) (f := freeAt p) fun y hy => (free_at v hy).2
  rw [List.length_map] at h2
  have := v.n40
  omega
section
variable {P : Program} {w : World} {K : PySem.W.Frag} {mg : Str → Option Value} {base : Heap} {C : Addr}
def sp_told_with (K : PySem.W.Frag) (C : Addr) : Sp := SpG (Γ := Pac × (Str → List Str) × List Str) (fun x => [PactAt K C x.1, WR K (nms x.1.notes) x.2.1, D K (.tuple (sds x.2.2))]) (fun x => Val x.1 ∧ Val (formOf x.1 x.2.1 x.2.2)) fun x => PactAt K C (formOf x.1 x.2.1 x.2.2)
abbrev s_told_with : Stmt := top 38
abbrev N_told_with : List Str := ["pact", "waits", "paper", "notes", "note"]
theorem sc_told_with : FnScope N_told_with ["pact", "waits", "paper"] (defScope s_told_with) := ⟨rfl, rfl, rfl, by decide +kernel, rfl, by decide +kernel, by decide +kernel⟩
theorem ok_told_with {f : Addr} {fd : FuncData} (F : Fun K "told_with" "told_with" s_told_with f fd) (T : Txt mg) (c : CTxt K C) (c_least_order : Cal P w K mg base CX0 2 "least_order" ["pact"] (sp_least_order K C)) (c_Pact : MkP P w K mg base 5 "Pact" ["self", "hands", "notes", "ready", "paper"] C (sp_Pact_init K C)) : FnOk P w K mg base CX0 7 f fd ["pact", "waits", "paper"] (sp_told_with K C) := by
  refine F.ok sc_told_with (fun vs H Q E h => ?_) (fun cdv A outer s H vs Q E hr h => ?_)
  · obtain ⟨x, G, hs, ⟨v1, _, rfl, h1, v2, _, rfl, h2, v3, _, rfl, h3, rfl⟩, hp, k⟩ := h; rfl
  · obtain ⟨⟨p, W, pp⟩, G, hs, ⟨v1, _, rfl, h1, v2, _, rfl, h2, v3, _, rfl, h3, rfl⟩, ⟨hv, hv2⟩, k⟩ := h
    replace h1 : PactAt K C p v1 G := h1
    replace h2 : WR K (nms p.notes) W v2 G := h2
    replace h3 : Dp K G v3 (.tuple (sds pp)) := h3
    replace hv : Val p := hv
    replace hv2 : Val (formOf p W pp) := hv2
    have nd := sc_told_with.nd
    have hu := hu_of hr
    have hrU := hrU_of hr
    refine ⟨_, pss_cons (ps_n 3 nd (pe_lst pa_nil))
    (pss_cons (ps_for PassesOwn.never rfl (kSeq K (pe_cal c_least_order (hr.mono (by decide)) (by rfl) pass0 (pa_cons (pv 0) pa_nil))) (pg_n 4 nd)
      (pss_one (ps_expr (pe_bm PySem.F.plainAttrs_list PySem.F.slot_list_append PySem.F.type_list_append mt_append (pv 3) (pa_cons (pe_tup (pa_cons (pv 4) (pa_cons (pe_ix (kIx K) (pe_ix (kIx K) (kFld K (pv 0)) (pe_dget hu (kFld K (pv 0)) (pv 4) (fun _ _ => rfl)) (fun _ _ => rfl)) (pe_int) (fun _ _ => rfl)) (pa_cons (pe_dget hu (pv 1) (pv 4) (fun _ _ => rfl)) pa_nil)))) pa_nil)))))
    (pss_one (ps_ret (pe_mk c_Pact (hr.mono (by decide)) (by rfl) (pa_cons (kFld K (pv 0)) (pa_cons (pv 3) (pa_cons (kFld K (pv 0)) (pa_cons (pv 2) pa_nil)))))))), ?_⟩
    refine st (σ' := [some v1, some v2, some v3, none, none]) rfl ?_
    have nz : ∀ {o : HO}, some o ≠ none := fun z => nomatch z
    obtain ⟨o1, o2, o3⟩ := order_ok hv.told
    have ol : (order p.notes).length ≤ 40 := len_le_nms hv o1 fun x hx => (o2 x).mp hx
    refine q_asgN hs (en_lst (K := K) dd_nil (by decide)) fun fo vs ds G1 H1 g1 hf0 gf1 cf1 hds eds => ?_
    subst eds
    cases hds
    refine st (σ' := [some v1, some v2, some v3, some (V.ref fo), none]) rfl ?_
    refine q_for g1.sub (src_seq (d := .tuple (sds (order p.notes))) (.t _) (e_call p (ea_cons (e_var rfl (stb g1.up h1)) ea_nil) hv)) (fun i σ G' H' => Grow G H G' H' ∧ G' fo = none ∧ ∃ (vs : List V) (a4 : Option V), H' fo = some (.lst vs) ∧ DpAll K G' vs (dNotes (mkN ((order p.notes).take i) (hnd p.notes) W)) ∧ σ = [some v1, some v2, some v3, some (.ref fo), a4])
      (fun G2 H2 g2 => ⟨g1.trans g2, g2.off fo (by rw [cf1]; exact nz) gf1, [], _, g2.keep _ _ cf1, .nil, rfl⟩) ?_ ?_
    · rintro i σ' G' H' y G5 H5 hi sg sh ⟨gr, gf, vs, a4, cf, hvs, rfl⟩ g5 ⟨e, he, hy⟩
      obtain ⟨x, hx, rfl⟩ := sds_get he
      cases hy
      refine ⟨_, tg_name, ?_⟩
      refine st (σ' := [some v1, some v2, some v3, some (V.ref fo), some (V.str x)]) rfl ?_
      have u5 := gr.up.trans g5.up
      have cf5 := g5.keep _ _ cf
      have gf5 := g5.off fo (by rw [cf]; exact nz) gf
      have xm : x ∈ nms p.notes := (o2 x).mp (mem_of_get hx)
      obtain ⟨j, n, hj, e0⟩ := get_mem_nms xm
      have ehn : hnd p.notes x = n.2.1 := by rw [← e0]; exact hnd_at hv.told.nodup hj
      have hj' : Dp K G5 (.str x) (.str n.1) := by rw [e0]; exact .str x
      have hlv : vs.length ≤ 1000000 := by
        rw [dp_len hvs, List.length_map, List.length_map, List.length_take]; omega
      refine s_app (K := K) g5.sub rfl cf5 gf5 hlv (ed_tup (dd_cons (e_var rfl (.str x)) (dd_cons ((ed_noteAt c hj (e_var rfl (stb u5 h1)) (e_var rfl hj')).to (d' := .str (hnd p.notes x)) (by rw [ehn])) (dd_cons (ed_waits xm (e_var rfl (stb u5 h2)) (e_var rfl (.str x))) dd_nil))) (by simp)) fun v G7 H7 w7 rv => ?_
      refine ⟨G7, g5.up.trans w7.up, w7.sub, (gr.trans g5).cellwr hf0 w7, w7.cell, vs ++ [v], _, w7.at, ?_, rfl⟩
      have e : dNotes (mkN ((order p.notes).take (i + 1)) (hnd p.notes) W) = dNotes (mkN ((order p.notes).take i) (hnd p.notes) W) ++ [dNote (x, hnd p.notes x, W x)] := by
        rw [List.take_add_one, hx]; simp [mkN]
      rw [e]
      exact dp_app (DpAll.up (g5.up.trans w7.up) _ _ hvs) (.cons rv .nil)
    · rintro σ' G' H' sg sh ⟨gr, gf, vs, a4, cf, hvs, rfl⟩
      rw [List.length_map, List.take_length] at hvs
      have g9 := gr.addcell hf0 gf cf
      have h1' := stb g9.up h1
      have h3' := Dp.up g9.up _ _ h3
      exact s_ret g9.sub (e_make (p := formOf p W pp) (b := false) (ea_cons (e_hands (p := p) c (e_var rfl h1')) (ea_cons (e_var rfl (.lst (SqL.of upd_same) (DpAll.up (Same.new gf) _ _ hvs))) (ea_cons (e_ready (p := p) c (e_var rfl h1')) (ea_cons (e_var rfl h3') ea_nil)))) hv2) fun v G2 H2 g2 => k v G2 H2 (g9.trans g2)
def sp_bare_form (K : PySem.W.Frag) (C : Addr) : Sp := SpG (Γ := Pac) (fun x => [PactAt K C x]) (fun x => Val x) fun x => PactAt K C (barePac x)
abbrev s_bare_form : Stmt := top 39
abbrev N_bare_form : List Str := ["pact", "note"]
theorem sc_bare_form : FnScope N_bare_form ["pact"] (defScope s_bare_form) := ⟨rfl, rfl, rfl, by decide +kernel, rfl, by decide +kernel, by decide +kernel⟩
theorem ok_bare_form {f : Addr} {fd : FuncData} (F : Fun K "bare_form" "bare_form" s_bare_form f fd) (T : Txt mg) (c : CTxt K C) (c_told_with : Cal P w K mg base CX0 7 "told_with" ["pact", "waits", "paper"] (sp_told_with K C)) (c_bare_paper : Cal P w K mg base CX0 4 "bare_paper" ["pact"] (sp_bare_paper K C)) (c_bare_waits : Cal P w K mg base CX0 5 "bare_waits" ["pact", "note"] (sp_bare_waits K C)) : FnOk P w K mg base CX0 8 f fd ["pact"] (sp_bare_form K C) := by
  refine F.ok sc_bare_form (fun vs H Q E h => ?_) (fun cdv A outer s H vs Q E hr h => ?_)
  · obtain ⟨x, G, hs, ⟨v1, _, rfl, h1, rfl⟩, hp, k⟩ := h; rfl
  · obtain ⟨p, G, hs, ⟨v1, _, rfl, h1, rfl⟩, hv, k⟩ := h
    replace h1 : PactAt K C p v1 G := h1
    replace hv : Val p := hv
    have nd := sc_bare_form.nd
    have hu := hu_of hr
    have hrU := hrU_of hr
    refine ⟨_, pss_one (ps_ret (pe_cal c_told_with (hr.mono (by decide)) (by rfl) pass0 (pa_cons (pv 0) (pa_cons (pe_dc (own := [("note", 1)]) (by rfl) nd (kSeq K (kFld K (pv 0))) (blkOk_by (by kernel_rfl)) (fun _ _ _ _ _ => (pg_n 1 nd)) (fun _ _ _ _ _ => pts_nil) (fun _ _ _ _ _ => (pv 1)) (fun _ _ _ _ _ => (pe_cal c_bare_waits (hr.mono (by decide)) (by rfl) pass0 (pa_cons (pv 0) (pa_cons (pv 1) pa_nil))))) (pa_cons (pe_cal c_bare_paper (hr.mono (by decide)) (by rfl) pass0 (pa_cons (pv 0) pa_nil)) pa_nil))))), ?_⟩
    have hnl : (nms p.notes).length = p.notes.length := List.length_map _
    have hn := hv.n40
    refine s_ret hs (e_call (p, bare p.notes, upper p.notes (whole p.notes p.paper)) (ea_cons (e_var rfl h1) (ea_cons (R := WR K (nms p.notes) (bare p.notes)) ((e_dc (K := K) (wF (nms p.notes) (bare p.notes)) (src_seq (.t _) (e_names c (e_var rfl h1))) (by rw [List.length_map]; omega) rfl (wF_len _ _) fun i G2 y hi u hy => ?_).imp fun v H r => ⟨_, fun z hz => wF_get _ (by rw [List.length_map]; exact Nat.le_refl _) (by rw [List.length_map, List.take_length]; exact hz), r⟩) (ea_cons (e_call p (ea_cons (e_var rfl h1) ea_nil) hv) ea_nil))) ⟨hv, (bare_ok hv).1⟩) k
    obtain ⟨e, he, hy⟩ := hy
    obtain ⟨x, hx, rfl⟩ := sds_get he
    have e2 : (nms p.notes).getD i ⟨#[]⟩ = x := by rw [List.getD_eq_getElem?_getD, hx]; rfl
    refine ⟨_, tg_name, rfl, et_yes, x, .tuple (sds (bare p.notes x)), ?_, flatDs_sds _, e_var rfl hy, e_call (p, x) (ea_cons (e_var rfl (stb u h1)) (ea_cons (e_var rfl hy) ea_nil)) ⟨hv, mem_of_get hx⟩⟩
    show putS _ ((nms p.notes).getD i ⟨#[]⟩) (.tuple (sds (bare p.notes ((nms p.notes).getD i ⟨#[]⟩)))) = _
    rw [e2]
def sp_full_form (K : PySem.W.Frag) (C : Addr) : Sp := SpG (Γ := Pac) (fun x => [PactAt K C x]) (fun x => Val x) fun x => PactAt K C (fullPac x)
abbrev s_full_form : Stmt := top 40
abbrev N_full_form : List Str := ["pact", "waits", "note", "other"]
theorem sc_full_form : FnScope N_full_form ["pact"] (defScope s_full_form) := ⟨rfl, rfl, rfl, by decide +kernel, rfl, by decide +kernel, by decide +kernel⟩
theorem ok_full_form {f : Addr} {fd : FuncData} (F : Fun K "full_form" "full_form" s_full_form f fd) (T : Txt mg) (c : CTxt K C) (c_under_of : Cal P w K mg base CX0 3 "under_of" ["pact", "note"] (sp_under_of K C)) (c_told_with : Cal P w K mg base CX0 7 "told_with" ["pact", "waits", "paper"] (sp_told_with K C)) (c_whole_paper : Cal P w K mg base CX0 3 "whole_paper" ["pact"] (sp_whole_paper K C)) : FnOk P w K mg base CX0 8 f fd ["pact"] (sp_full_form K C) := by
  refine F.ok sc_full_form (fun vs H Q E h => ?_) (fun cdv A outer s H vs Q E hr h => ?_)
  · obtain ⟨x, G, hs, ⟨v1, _, rfl, h1, rfl⟩, hp, k⟩ := h; rfl
  · obtain ⟨p, G, hs, ⟨v1, _, rfl, h1, rfl⟩, hv, k⟩ := h
    replace h1 : PactAt K C p v1 G := h1
    replace hv : Val p := hv
    have nd := sc_full_form.nd
    have hu := hu_of hr
    have hrU := hrU_of hr
    refine ⟨_, pss_cons (ps_n 1 nd (pe_dnewK))
    (pss_cons (ps_for PassesOwn.never rfl (kSeq K (kFld K (pv 0))) (pg_n 2 nd)
      (pss_one (ps_dput hu (pv 1) (pv 2) (pe_callTy (kTup K) (by rfl) T.m_tuple (by decide +kernel) (pa_cons (pe_lc (own := [("other", 3)]) (by rfl) nd (kSeq K (pe_cal c_under_of (hr.mono (by decide)) (by rfl) pass0 (pa_cons (pv 0) (pa_cons (pv 2) pa_nil)))) (blkOk_by (by kernel_rfl)) (fun _ _ _ _ _ => (pg_n 3 nd)) (fun _ _ _ _ _ => (pts_one (pt_cmpR op_ne (pv 3) (pv 2) (nomark _)))) (fun _ _ _ _ _ => (pv 3))) pa_nil)) rfl)))
    (pss_one (ps_ret (pe_cal c_told_with (hr.mono (by decide)) (by rfl) pass0 (pa_cons (pv 0) (pa_cons (pv 1) (pa_cons (pe_cal c_whole_paper (hr.mono (by decide)) (by rfl) pass0 (pa_cons (pv 0) pa_nil)) pa_nil))))))), ?_⟩
    have nz : ∀ {o : HO}, some o ≠ none := fun z => nomatch z
    have hnl : (nms p.notes).length = p.notes.length := List.length_map _
    have hn := hv.n40
    refine q_dnew hs fun fo H1 g1 hf0 gf1 cf1 => ?_
    refine st (σ' := [some v1, some (V.ref fo), none, none]) rfl ?_
    refine q_for g1.sub (src_seq (.t _) (e_names c (e_var rfl h1))) (fun i σ G' H' => Grow G H G' H' ∧ G' fo = none ∧ ∃ (kvs : List (Key × V)) (a2 : Option V), H' fo = some (.dK kvs) ∧ KvD K G' kvs (wF (nms p.notes) (below p.notes) i) ∧ σ = [some v1, some (.ref fo), a2, none])
      (fun G2 H2 g2 => ⟨g1.trans g2, g2.off fo (by rw [cf1]; exact nz) gf1, [], _, g2.keep _ _ cf1, .nil, rfl⟩) ?_ ?_
    · rintro i σ' G' H' y G5 H5 hi sg sh ⟨gr, gf, kvs, a2, cf, hk, rfl⟩ g5 ⟨e, he, hy⟩
      obtain ⟨x, hx, rfl⟩ := sds_get he
      cases hy
      refine ⟨_, tg_name, ?_⟩
      refine st (σ' := [some v1, some (V.ref fo), some (V.str x), none]) rfl ?_
      have h1' := stb (gr.up.trans g5.up) h1
      have cf5 := g5.keep _ _ cf
      have gf5 := g5.off fo (by rw [cf]; exact nz) gf
      have xm := mem_of_get hx
      have lu := len_le_nms hv (asc_nodup (asc_under p.notes x)) (und_names hv x)
      have lk : kvs.length ≤ 1000000 := by
        have := wF_len (nms p.notes) (below p.notes) i
        rw [hk.len]
        rw [List.length_map] at hi
        omega
      refine s_dput (K := K) (R := D K (.tuple (sds (below p.notes x)))) g5.sub rfl cf5 gf5 lk (e_var rfl (.str x)) (ed_tupOf (.l _) (en_filt (K := K) (xs := under p.notes x) (fun z => !decide (z = x)) (.t _) (e_call (p, x) (ea_cons (e_var rfl h1') (ea_cons (e_var rfl (.str x)) ea_nil)) ⟨hv, xm⟩) (by omega) (by simp) fun z G6 hz u6 => et_T (ed_neS (K := K) (e_var rfl (.str z)) (e_var rfl (.str x)))).d) fun v G7 H7 w7 rv => ?_
      refine ⟨G7, g5.up.trans w7.up, w7.sub, (gr.trans g5).cellwr hf0 w7, w7.cell, _, _, w7.at, ?_, rfl⟩
      have e2 : (nms p.notes).getD i ⟨#[]⟩ = x := by rw [List.getD_eq_getElem?_getD, hx]; rfl
      show KvD K G7 _ (putS _ ((nms p.notes).getD i ⟨#[]⟩) (.tuple (sds (below p.notes ((nms p.notes).getD i ⟨#[]⟩)))))
      rw [e2]
      exact (hk.up (g5.up.trans w7.up)).put rv
    · rintro σ' G' H' sg sh ⟨gr, gf, kvs, a2, cf, hk, rfl⟩
      have g9 := gr.addcell hf0 gf cf
      have h1' := stb g9.up h1
      exact s_ret g9.sub (e_call (p, below p.notes, whole p.notes p.paper) (ea_cons (e_var rfl h1') (ea_cons (R := WR K (nms p.notes) (below p.notes)) (e_var rfl ⟨_, fun z hz => wF_get _ (by rw [List.length_map]; exact Nat.le_refl _) (by rw [List.length_map, List.take_length]; exact hz), fo, kvs, rfl, .inl upd_same, hk.up (Same.new gf)⟩) (ea_cons (e_call p (ea_cons (e_var rfl h1') ea_nil) hv) ea_nil))) ⟨hv, (full_ok hv).1⟩) fun v G2 H2 g2 => k v G2 H2 (g9.trans g2)
def sp_same_web (K : PySem.W.Frag) (C : Addr) : Sp := SpG (Γ := Pac × Pac) (fun x => [PactAt K C x.1, PactAt K C x.2]) (fun x => Val x.1 ∧ Val x.2) fun x => D K (.bool (bP (SameW x.1 x.2)))
abbrev s_same_web : Stmt := top 41
abbrev N_same_web : List Str := ["one", "other"]
theorem sc_same_web : FnScope N_same_web ["one", "other"] (defScope s_same_web) := ⟨rfl, rfl, rfl, by decide +kernel, rfl, by decide +kernel, by decide +kernel⟩
theorem ok_same_web {f : Addr} {fd : FuncData} (F : Fun K "same_web" "same_web" s_same_web f fd) (T : Txt mg) (cEq : CalEq P w K mg base 1 C (sp_Pact_eq K C)) (c_full_form : Cal P w K mg base CX0 8 "full_form" ["pact"] (sp_full_form K C)) : FnOk P w K mg base CX0 9 f fd ["one", "other"] (sp_same_web K C) := by
  refine F.ok sc_same_web (fun vs H Q E h => ?_) (fun cdv A outer s H vs Q E hr h => ?_)
  · obtain ⟨x, G, hs, ⟨v1, _, rfl, h1, v2, _, rfl, h2, rfl⟩, hp, k⟩ := h; rfl
  · obtain ⟨⟨p, q⟩, G, hs, ⟨v1, _, rfl, h1, v2, _, rfl, h2, rfl⟩, ⟨hv, hv2⟩, k⟩ := h
    replace h1 : PactAt K C p v1 G := h1
    replace h2 : PactAt K C q v2 G := h2
    replace hv : Val p := hv
    replace hv2 : Val q := hv2
    have nd := sc_same_web.nd
    have hu := hu_of hr
    have hrU := hrU_of hr
    refine ⟨_, pss_one (ps_ret (pe_cmpR (op_eqP cEq (hr.mono (by decide))) (pe_cal c_full_form (hr.mono (by decide)) (by rfl) pass0 (pa_cons (pv 0) pa_nil)) (pe_cal c_full_form (hr.mono (by decide)) (by rfl) pass0 (pa_cons (pv 1) pa_nil)) (nomark _))), ?_⟩
    refine s_ret hs ((ed_eqP (K := K) (p := fullPac p) (q := fullPac q) (e_call p (ea_cons (e_var rfl h1) ea_nil) hv) (e_call q (ea_cons (e_var rfl h2) ea_nil) hv2) (full_ok hv).1 (full_ok hv2).1).to ?_) k
    congr 1
    exact bP_congr (full_iff hv hv2)
def sp_telling_count (K : PySem.W.Frag) (C : Addr) : Sp := SpG (Γ := Pac) (fun x => [PactAt K C x]) (fun x => Val x) fun x => D K (.int ((2 ^ freeN x : Nat) : Int))
abbrev s_telling_count : Stmt := top 42
abbrev N_telling_count : List Str := ["pact", "free", "note"]
theorem sc_telling_count : FnScope N_telling_count ["pact"] (defScope s_telling_count) := ⟨rfl, rfl, rfl, by decide +kernel, rfl, by decide +kernel, by decide +kernel⟩
theorem ok_telling_count {f : Addr} {fd : FuncData} (F : Fun K "telling_count" "telling_count" s_telling_count f fd) (T : Txt mg) (c : CTxt K C) (c_whole_paper : Cal P w K mg base CX0 3 "whole_paper" ["pact"] (sp_whole_paper K C)) (c_bare_paper : Cal P w K mg base CX0 4 "bare_paper" ["pact"] (sp_bare_paper K C)) (c_under_of : Cal P w K mg base CX0 3 "under_of" ["pact", "note"] (sp_under_of K C)) (c_bare_waits : Cal P w K mg base CX0 5 "bare_waits" ["pact", "note"] (sp_bare_waits K C)) : FnOk P w K mg base CX0 6 f fd ["pact"] (sp_telling_count K C) := by
  refine F.ok sc_telling_count (fun vs H Q E h => ?_) (fun cdv A outer s H vs Q E hr h => ?_)
  · obtain ⟨x, G, hs, ⟨v1, _, rfl, h1, rfl⟩, hp, k⟩ := h; rfl
  · obtain ⟨p, G, hs, ⟨v1, _, rfl, h1, rfl⟩, hv, k⟩ := h
    replace h1 : PactAt K C p v1 G := h1
    replace hv : Val p := hv
    have nd := sc_telling_count.nd
    have hu := hu_of hr
    have hrU := hrU_of hr
    refine ⟨_, pss_cons (ps_n 1 nd (pe_op op_sub (pe_callB (kLen K) (by rfl) T.m_len (by decide +kernel) (pa_cons (pe_cal c_whole_paper (hr.mono (by decide)) (by rfl) pass0 (pa_cons (pv 0) pa_nil)) pa_nil)) (pe_callB (kLen K) (by rfl) T.m_len (by decide +kernel) (pa_cons (pe_cal c_bare_paper (hr.mono (by decide)) (by rfl) pass0 (pa_cons (pv 0) pa_nil)) pa_nil))))
    (pss_cons (ps_for PassesOwn.never rfl (kSeq K (kFld K (pv 0))) (pg_n 2 nd)
      (pss_one (ps_augn 1 nd (pe_op op_sub (pe_op op_sub (pe_callB (kLen K) (by rfl) T.m_len (by decide +kernel) (pa_cons (pe_cal c_under_of (hr.mono (by decide)) (by rfl) pass0 (pa_cons (pv 0) (pa_cons (pv 2) pa_nil))) pa_nil)) (pe_int)) (pe_callB (kLen K) (by rfl) T.m_len (by decide +kernel) (pa_cons (pe_cal c_bare_waits (hr.mono (by decide)) (by rfl) pass0 (pa_cons (pv 0) (pa_cons (pv 2) pa_nil))) pa_nil))) ip_add)))
    (pss_one (ps_ret (pe_op op_shl (pe_int) (pv 1))))), ?_⟩
    have hnl : (nms p.notes).length = p.notes.length := List.length_map _
    have hn := hv.n40
    obtain ⟨f1, f2⟩ := free_pp hv
    generalize hA : (whole p.notes p.paper).length - (upper p.notes (whole p.notes p.paper)).length = A0
    refine q_asg hs ((ed_I (K := K) (ed_len (.t _) (e_call p (ea_cons (e_var rfl h1) ea_nil) hv)) (ed_len (.t _) (e_call p (ea_cons (e_var rfl h1) ea_nil) hv))).to (d' := .int ((A0 : Nat) : Int)) (by rw [List.length_map, List.length_map]; congr 1; omega)) fun v G1 H1 g1 rv => ?_
    cases d_int rv
    refine st (σ' := [some v1, some (V.int (A0:Nat)), none]) rfl ?_
    replace h1 := stb g1.up h1
    refine q_for g1.sub (src_seq (.t _) (e_names c (e_var rfl h1))) (fun i σ G' H' => Grow G H G' H' ∧ ∃ a2, σ = [some v1, some (.int ((A0 + (((nms p.notes).take i).map (freeAt p)).sum : Nat) : Int)), a2])
      (fun G2 H2 g2 => ⟨g1.trans g2, _, rfl⟩) ?_ ?_
    · rintro i σ' G' H' y G5 H5 hi sg sh ⟨gr, a2, rfl⟩ g5 ⟨e, he, hy⟩
      obtain ⟨x, hx, rfl⟩ := sds_get he
      cases hy
      refine ⟨_, tg_name, ?_⟩
      refine st (σ' := [some v1, some (V.int ((A0+(((nms p.notes).take i).map (freeAt p)).sum:Nat):Int)), some (V.str x)]) rfl ?_
      have h1' := stb (sg.trans g5.up) h1
      have xm := mem_of_get hx
      obtain ⟨e1, e2⟩ := free_at hv xm
      refine s_aug (K := K) (b := (freeAt p x : Nat)) g5.sub rfl ((ed_I (K := K) (ed_I (ed_len (.t _) (e_call (p, x) (ea_cons (e_var rfl h1') (ea_cons (e_var rfl (.str x)) ea_nil)) ⟨hv, xm⟩)) ed_int) (ed_len (.t _) (e_call (p, x) (ea_cons (e_var rfl h1') (ea_cons (e_var rfl (.str x)) ea_nil)) ⟨hv, xm⟩))).to (by rw [List.length_map, List.length_map]; congr 1)) fun G6 H6 g6 => ?_
      refine ⟨G6, (g5.trans g6).up, g6.sub, (gr.trans g5).trans g6, some (.str x), ?_⟩
      rw [List.take_add_one, hx, List.map_append, List.sum_append]
      simp only [List.set_cons_succ, List.set_cons_zero, Option.toList_some, List.map_cons, List.map_nil, List.sum_cons, List.sum_nil, Nat.add_zero]
      rw [← Nat.add_assoc]
      push_cast
      rfl
    · rintro σ' G' H' sg sh ⟨gr, a2, rfl⟩
      have ef : A0 + (((nms p.notes).take (sds (nms p.notes)).length).map (freeAt p)).sum = freeN p := by
        rw [freeN_eq hv, List.length_map, List.take_length, hA]
      rw [ef]
      have := freeN_le hv
      exact s_ret sh ((ed_IC (K := K) ed_int (e_var rfl (.int (freeN p : Nat))) ⟨by omega, by omega, by decide⟩).to (by rw [shl_nat])) fun v G2 H2 g2 => k v G2 H2 (gr.trans g2)
end
end KB

set_option Elab.async false
set_option linter.all false
set_option maxRecDepth 100000
set_option maxHeartbeats 4000000
/-! Where draws come from: two lists whose contents are hidden. -/
namespace KB
open PySem PySem.Spec PyProof.Rows L2
def LstAt (h : Heap) (a : Addr) (xs : List V) : Prop := ∃ (its : List Value) (n : Nat), Vals xs its ∧ h.get? a = some { cls := .type "list", data := .seq its.toArray n }
def CsOk (cs : List Int) : Prop := cs.length ≤ 63 ∧ ∀ c ∈ cs, 0 ≤ c
def HeapL (l : Addr) : HO := .ext fun h => ∃ cs : List Int, CsOk cs ∧ LstAt h l (cs.map V.int)
def HeapH (l hh : Addr) : HO := .ext fun h => ∃ st : Int, 0 ≤ st ∧ LstAt h hh [.ref l, .int st]
abbrev HeapAt : RP := fun v H => ∃ hh l, v = .ref hh ∧ hh ≠ l ∧ H hh = some (HeapH l hh) ∧ H l = some (HeapL l)
instance : Stb HeapAt := ⟨fun u ⟨hh, l, e, n, h1, h2⟩ => ⟨hh, l, e, n, u _ _ h1, u _ _ h2⟩⟩
section
variable {X : Cx} {pins : List (Addr × Obj)} {σ : L2.St} {H : Hp} {s : Shared}
theorem inv_view {a : Addr} {o o' : HO} (I : Inv X pins σ H s) (ha : H a = some o) (mu : Mut (some o)) (heo : ∃ u, s.heap.get? a = some u) (new : ObjOk X.prog X.w (upd H a o') s.heap a o') : Inv X pins σ (upd H a o') s := by
  obtain ⟨hp, g, d, tk, os⟩ := s
  exact I.write (x := a) (e := a) (o := o') (t' := tk) (h' := hp) (by rw [ha]; exact mu) (.inl rfl) (fun b u _ e => e) heo new
theorem cs_len {cs : List Int} (h : CsOk cs) : (cs.map V.int).length ≤ sizeLine := by rw [List.length_map]; exact Nat.le_trans h.1 (by decide)
theorem open_inv {hh l : Addr} (I : Inv X pins σ H s) (ne : hh ≠ l) (h1 : H hh = some (HeapH l hh)) (h2 : H l = some (HeapL l)) :
    ∃ cs st, CsOk cs ∧ 0 ≤ st ∧ Inv X pins σ (upd (upd H l (.lst (cs.map V.int))) hh (.lst [.ref l, .int st])) s := by
  obtain ⟨⟨cs, c1, its, n, c2, c3⟩, _, _⟩ := I.hok l _ h2
  obtain ⟨⟨st, s1, its2, n2, s2, s3⟩, _, _⟩ := I.hok hh _ h1
  have I1 := inv_view (o' := .lst (cs.map V.int)) I h2 trivial ⟨_, c3⟩ ⟨cs_len c1, its, n, c2, c3⟩
  have h1' : upd H l (.lst (cs.map V.int)) hh = some (HeapH l hh) := by rw [upd_ne ne]; exact h1
  exact ⟨cs, st, c1, s1, inv_view (o' := .lst [.ref l, .int st]) I1 h1' trivial ⟨_, s3⟩ ⟨(by show 2 ≤ sizeLine; decide), its2, n2, s2, s3⟩⟩
theorem lstAt_ext {P : Program} {w : World} {H' : Hp} {h : Heap} {a : Addr} {Pr : List V → Prop} {xs : List V} (hx : Pr xs) (L : LstAt h a xs) :
    ObjOk P w H' h a (.ext fun h => ∃ xs, Pr xs ∧ LstAt h a xs) := by
  obtain ⟨its, n, c2, c3⟩ := L
  exact ⟨⟨xs, hx, its, n, c2, c3⟩, ⟨_, c3⟩, fun g1 g2 ⟨xs, hx, its, n, c2, c3⟩ k => ⟨xs, hx, its, n, c2, k _ c3⟩⟩
theorem hide_inv {hh l : Addr} {cs : List Int} {st : Int} (I : Inv X pins σ H s) (ne : hh ≠ l) (c : CsOk cs) (hs : 0 ≤ st) (h1 : H hh = some (.lst [.ref l, .int st])) (h2 : H l = some (.lst (cs.map V.int))) : Inv X pins σ (upd (upd H l (HeapL l)) hh (HeapH l hh)) s := by
  obtain ⟨_, its, n, c2, c3⟩ := I.hok l _ h2
  obtain ⟨_, its2, n2, s2, s3⟩ := I.hok hh _ h1
  have I1 : Inv X pins σ (upd H l (HeapL l)) s := inv_view I h2 trivial ⟨_, c3⟩ ⟨⟨cs, c, its, n, c2, c3⟩, ⟨_, c3⟩, fun g1 g2 ⟨cs, c, its, n, c2, c3⟩ k => ⟨cs, c, its, n, c2, k _ c3⟩⟩
  have h1' : upd H l (HeapL l) hh = some (.lst [.ref l, .int st]) := by rw [upd_ne ne]; exact h1
  exact inv_view I1 h1' trivial ⟨_, s3⟩ ⟨⟨st, hs, its2, n2, s2, s3⟩, ⟨_, s3⟩, fun g1 g2 ⟨st, hs, its2, n2, s2, s3⟩ k => ⟨st, hs, its2, n2, s2, k _ s3⟩⟩
end
/-- what a body leaves open is hidden at its return -/
def hidEnds (D : Ends) : Ends := { nx := fun _ _ => False, rt := fun v H' => ∃ hh l cs st, hh ≠ l ∧ CsOk cs ∧ 0 ≤ st ∧ H' hh = some (.lst [.ref l, .int st]) ∧ H' l = some (.lst (cs.map V.int)) ∧ D.rt v (upd (upd H' l (HeapL l)) hh (HeapH l hh)) }
def tHide (t : TS) : TS := fun D σ H => t (hidEnds D) σ H
def tOpen (t : TS) : TS := fun D σ H => ∃ hh l, hh ≠ l ∧ H hh = some (HeapH l hh) ∧ H l = some (HeapL l) ∧ ∀ cs st, CsOk cs → 0 ≤ st → t D σ (upd (upd H l (.lst (cs.map V.int))) hh (.lst [.ref l, .int st]))
section
variable {X : Cx} {t : TS}
theorem hide_sp {pins : List (Addr × Obj)} {D : Ends} {f : Flow} {s : Shared} (h : SP X pins (hidEnds D) f s) : SP X pins D f s := by
  cases f with
  | next => obtain ⟨_, _, _, z⟩ := h; exact z.elim
  | brk => obtain ⟨_, _, _, z⟩ := h; exact z.elim
  | cont => obtain ⟨_, _, _, z⟩ := h; exact z.elim
  | ret u =>
    obtain ⟨v, σ', H', I, r, hh, l, cs, st, ne, c, hs, h1, h2, q⟩ := h
    exact ⟨v, σ', _, hide_inv I ne c hs h1 h2, r, q⟩
theorem pss_hide {sts : List Stmt} (h : PSs X sts t) : PSs X sts (tHide t) := ⟨fun pins s σ H D I q => wpAny_mono (h.run pins s σ H (hidEnds D) I q) (fun f s' z => hide_sp z) fun _ _ z => z⟩
theorem pss_open {sts : List Stmt} (h : PSs X sts t) : PSs X sts (tOpen t) := ⟨fun pins s σ H D I ⟨hh, l, ne, h1, h2, q⟩ => by
  obtain ⟨cs, st, c, hs, I'⟩ := open_inv I ne h1 h2
  exact h.run pins s σ _ D I' (q cs st c hs)⟩
end
end KB

set_option Elab.async false
set_option linter.all false
set_option maxRecDepth 100000
set_option maxHeartbeats 4000000
/-! The law's defs: draws. -/
namespace KB
open PySem PySem.Spec PyProof.Rows L2
/-- the two lists, opened -/
structure DS (Hm : Hp) (hh l : Addr) (cs : List Int) (st : Int) (H : Hp) : Prop where
  sm : Same Hm H
  h1 : H hh = some (.lst [.ref l, .int st])
  h2 : H l = some (.lst (cs.map V.int))
  ok : CsOk cs
  s0 : 0 ≤ st
section
variable {K : PySem.W.Frag} {Hm H : Hp} {hh l p : Addr} {cs : List Int} {st : Int} {σ : L2.St} {o : HO}
theorem DS.new (d : DS Hm hh l cs st H) (hp : H p = none) : DS Hm hh l cs st (upd H p o) :=
  ⟨fun b u e => by rw [upd_ne (ne_of_none (d.sm b u e) hp)]; exact d.sm b u e, by rw [upd_ne (ne_of_none d.h1 hp)]; exact d.h1, by rw [upd_ne (ne_of_none d.h2 hp)]; exact d.h2, d.ok, d.s0⟩
theorem DS.setL (d : DS Hm hh l cs st H) (ne : hh ≠ l) (n : Hm l = none) {cs2 : List Int} (c : CsOk cs2) : DS Hm hh l cs2 st (upd H l (.lst (cs2.map V.int))) :=
  ⟨Same.mut d.sm n, by rw [upd_ne ne]; exact d.h1, upd_same, c, d.s0⟩
theorem DS.setH (d : DS Hm hh l cs st H) (ne : hh ≠ l) (n : Hm hh = none) {st2 : Int} (c : 0 ≤ st2) : DS Hm hh l cs st2 (upd H hh (.lst [.ref l, .int st2])) :=
  ⟨Same.mut d.sm n, upd_same, by rw [upd_ne ne.symm]; exact d.h2, d.ok, c⟩
theorem r_ix0 {Q : VK} (hσ : σ[0]? = some (some (.ref hh))) (d : DS Hm hh l cs st H) (q : Q (.ref l) H) : tOp (rIx K) (tVar 0) (tC (.int 0)) σ H Q := ⟨_, hσ, .inl ⟨hh, _, 0, _, rfl, rfl, SqL.of d.h1, rfl, q⟩⟩
theorem r_ix1 {Q : VK} (hσ : σ[0]? = some (some (.ref hh))) (d : DS Hm hh l cs st H) (q : Q (.int st) H) : tOp (rIx K) (tVar 0) (tC (.int 1)) σ H Q := ⟨_, hσ, .inl ⟨hh, _, 1, _, rfl, rfl, SqL.of d.h1, rfl, q⟩⟩
theorem sh_ints (xs : List Int) : ∀ d ∈ xs.map PyData.int, Sh 0 d := fun d hd => by
  obtain ⟨x, _, rfl⟩ := List.mem_map.mp hd
  exact ⟨rfl, Nat.le_refl _⟩
theorem r_ne {Q : Bool → Hp → Prop} (hσ : σ[0]? = some (some (.ref hh))) (d : DS Hm hh l cs st H) (q : ∀ H', DS Hm hh l cs st H' → Q (!cs.isEmpty) H') : tTest (tOp (rNeD K) (tOp (rIx K) (tVar 0) (tC (.int 0))) (tLst tNil)) σ H Q :=
  r_ix0 hσ d ⟨Nat.zero_le _, fun p hp => by
    have d2 : DS Hm hh l cs st (upd H p (.lst [])) := d.new hp
    refine ⟨.list (cs.map PyData.int), .list [], .lst (SqL.of d2.h2) (ints_dp cs), .lst (SqL.of upd_same) .nil, (sh_lst (sh_ints cs)).shaped, (sh_lst (n := 0) (by simp)).shaped, ?_⟩
    have e : (!PyData.eqv (.list (cs.map PyData.int)) (.list [])) = !cs.isEmpty := by cases cs <;> simp [PyData.eqv, PyData.eqvAll]
    rw [e]
    exact ⟨_, rfl, q _ d2⟩⟩
theorem r_last {Q : Bool → Hp → Prop} {cs' : List Int} {c : Int} (hσ : σ[0]? = some (some (.ref hh))) (d : DS Hm hh l (cs' ++ [c]) st H) (q : Q (decide (c = 0)) H) : tTest (tOp rEq (tOp (rIx K) (tOp (rIx K) (tVar 0) (tC (.int 0))) (tUn (rU fun i => .int (-i)) (tC (.int 1)))) (tC (.int 0))) σ H Q :=
  r_ix0 hσ d ⟨1, rfl, .inl ⟨l, _, -1, .int c, rfl, rfl, SqL.of d.h2, by
    unfold atI
    rw [ixN_of (j := cs'.length) (.inr ⟨by simp; omega, by simp⟩)]
    simp, by
    refine ⟨rfl, _, rfl, ?_⟩
    have e : decide (V.int c = V.int 0) = decide (c = 0) := by by_cases h : c = 0 <;> simp [h]
    rw [e]; exact q⟩⟩
theorem r_pop {Q : VK} {cs' : List Int} {c : Int} (hσ : σ[0]? = some (some (.ref hh))) (ne : hh ≠ l) (n : Hm l = none) (d : DS Hm hh l (cs' ++ [c]) st H) (q : ∀ H', DS Hm hh l cs' st H' → Q (.int c) H') : tBM0 K "list" rPop (tOp (rIx K) (tVar 0) (tC (.int 0))) σ H Q :=
  r_ix0 hσ d ⟨.inl ⟨rfl, _, SqL.of d.h2⟩, l, _, .int c, rfl, rfl, d.h2, by simp, by
    have e : ((cs' ++ [c]).map V.int).dropLast = cs'.map V.int := by simp
    rw [e]
    exact q _ (d.setL ne n ⟨by have := d.ok.1; simp at this; omega, fun x hx => d.ok.2 x (by simp [hx])⟩)⟩
end
section
variable {P : Program} {w : World} {K : PySem.W.Frag} {mg : Str → Option Value} {base : Heap}
abbrev LtR (m : Nat) : RP := fun v _ => ∃ k : Nat, k < m ∧ v = .int (k : Nat)
instance {m : Nat} : Stb (LtR m) := ⟨fun _ r => r⟩
def sp__law_draw (K : PySem.W.Frag) : Sp := SpG (Γ := Nat) (fun m => [HeapAt, D K (.int (m : Nat))]) (fun m => 1 ≤ m ∧ m ≤ 1000000) fun m => LtR m
theorem cs_split {cs : List Int} (h : (!cs.isEmpty) = true) : ∃ cs' c, cs = cs' ++ [c] := by
  cases cs with
  | nil => simp at h
  | cons x xs => exact ⟨(x :: xs).dropLast, (x :: xs).getLast (by simp), (List.dropLast_concat_getLast (by simp)).symm⟩
abbrev s__law_draw : Stmt := top 45
abbrev N__law_draw : List Str := ["_law_heap_here", "_law_many", "_law_rest"]
theorem sc__law_draw : FnScope N__law_draw ["_law_heap_here", "_law_many"] (defScope s__law_draw) := ⟨rfl, rfl, rfl, by decide +kernel, rfl, by decide +kernel, by decide +kernel⟩
theorem ok__law_draw {f : Addr} {fd : FuncData} (F : Fun K "_law_draw" "_law_draw" s__law_draw f fd) (T : Txt mg)  : FnOk P w K mg base CX0 1 f fd ["_law_heap_here", "_law_many"] (sp__law_draw K) := by
  refine F.ok sc__law_draw (fun vs H Q E h => ?_) (fun cdv A outer s H vs Q E hr h => ?_)
  · obtain ⟨x, G, hs, ⟨v1, _, rfl, h1, v2, _, rfl, h2, rfl⟩, hp, k⟩ := h; rfl
  · obtain ⟨m, G, hs, ⟨v1, _, rfl, ⟨hh, l, rfl, ne, hh1, hl1⟩, v2, _, rfl, h2, rfl⟩, ⟨m1, m2⟩, k⟩ := h
    cases d_int h2
    have nd := sc__law_draw.nd
    have hu := hu_of hr
    have hrU := hrU_of hr
    refine ⟨_, pss_open (pss_hide (pss_cons (ps_while PassesOwn.never (PW.pt (pw_and (pt_cmpR (kNe K hrU) (pe_ix (kIx K) (pv 0) (pe_int) (fun _ _ => rfl)) (pe_lst pa_nil) (nomark _)) (pw_and1 (pt_cmpR op_eq (pe_ix (kIx K) (pe_ix (kIx K) (pv 0) (pe_int) (fun _ _ => rfl)) (pe_un un_neg (pe_int)) (fun _ _ => rfl)) (pe_int) (nomark _)))))
      (pss_one (ps_expr (pe_bm0 PySem.F.plainAttrs_list PySem.F.slot_list_pop PySem.F.type_list_pop mt_pop (pe_ix (kIx K) (pv 0) (pe_int) (fun _ _ => rfl))))))
    (pss_cons (ps_if (pt_cmpR (kNe K hrU) (pe_ix (kIx K) (pv 0) (pe_int) (fun _ _ => rfl)) (pe_lst pa_nil) (nomark _))
      (pss_cons (ps_n 2 nd (pe_callTy call_int1 (by rfl) T.m_int (by decide +kernel) (pa_cons (pe_bm0 PySem.F.plainAttrs_list PySem.F.slot_list_pop PySem.F.type_list_pop mt_pop (pe_ix (kIx K) (pv 0) (pe_int) (fun _ _ => rfl))) pa_nil)))
        (pss_cons (ps_expr (pe_bm PySem.F.plainAttrs_list PySem.F.slot_list_append PySem.F.type_list_append mt_append (pe_ix (kIx K) (pv 0) (pe_int) (fun _ _ => rfl)) (pa_cons (pe_op op_fdivN (pv 2) (pv 1)) pa_nil)))
        (pss_one (ps_ret (pe_op op_mod (pv 2) (pv 1))))))
      (pss_nil))
    (pss_cons (ps_asg (pe_op op_mod (pe_callTy call_int1 (by rfl) T.m_int (by decide +kernel) (pa_cons (pe_op op_add (pe_op op_mul (pe_ix (kIx K) (pv 0) (pe_int) (fun _ _ => rfl)) (pe_int)) (pe_int)) pa_nil)) (pe_int)) (pg_sub (pv 0) (pe_int) set_list))
    (pss_one (ps_ret (pe_op op_mod (pe_callTy call_int1 (by rfl) T.m_int (by decide +kernel) (pa_cons (pe_op op_fdivN (pe_ix (kIx K) (pv 0) (pe_int) (fun _ _ => rfl)) (pe_int)) pa_nil)) (pv 1)))))))), ?_⟩
    refine ⟨hh, l, ne, hs _ _ hh1, hs _ _ hl1, fun cs z0 hc hst => ?_⟩
    refine st (σ' := [some (V.ref hh), some (V.int (m:Nat)), none]) rfl ?_
    have n1 : hid l (hid hh H) hh = none := by rw [hid_ne ne]; exact hid_self
    have n2 : hid l (hid hh H) l = none := hid_self
    have sm0 : Same (hid l (hid hh H)) H := hid_same.trans hid_same
    have d0 : DS (hid l (hid hh H)) hh l cs z0 (upd (upd H l (.lst (cs.map V.int))) hh (.lst [.ref l, .int z0])) := ⟨Same.mut (Same.mut sm0 n2) n1, upd_same, by rw [upd_ne ne.symm, upd_same], hc, hst⟩
    have back : ∀ {cs : List Int} {z0 : Int} {H' : Hp} {i : Int}, DS (hid l (hid hh H)) hh l cs z0 H' → 0 ≤ i → i < m → (hidEnds { nx := fun x H' => Q V.non H', rt := Q }).rt (.int i) H' := fun {cs z0 H' i} d h0 hm => by
      refine ⟨hh, l, cs, z0, ne, d.ok, d.s0, d.h1, d.h2, k _ G _ ⟨Same.refl _, ?_, ?_, fun _ _ n => n⟩ ⟨i.toNat, by omega, by rw [Int.toNat_of_nonneg h0]⟩⟩
      all_goals
        intro b u e
        by_cases q1 : b = hh
        · subst q1
          rw [upd_same]
          first
            | (rw [hh1] at e; exact e)
            | (rw [hs _ _ hh1] at e; exact e)
        · rw [upd_ne q1]
          by_cases q2 : b = l
          · subst q2
            rw [upd_same]
            first
              | (rw [hl1] at e; exact e)
              | (rw [hs _ _ hl1] at e; exact e)
          · rw [upd_ne q2]
            refine d.sm b u ?_
            rw [hid_ne q2, hid_ne q1]
            first
              | exact e
              | exact hs b u e
    generalize upd (upd H l (.lst (cs.map V.int))) hh (.lst [.ref l, .int z0]) = H1 at d0 ⊢
    generalize hid l (hid hh H) = Hm at *
    have mp : (0 : Int) < (m : Int) := by omega
    -- the zeros at the end are dropped
    refine ⟨fun n σ' H' => σ' = [some (.ref hh), some (.int (m : Nat)), none] ∧ ∃ cs z0, cs.length = n ∧ DS Hm hh l cs z0 H', ⟨cs.length, rfl, cs, z0, rfl, d0⟩, ?_⟩
    rintro n σ' H' ⟨rfl, cs, z0, hn, d⟩
    refine r_ne rfl d fun H2 d2 => ?_
    clear d
    have rest : ∀ {cs : List Int} {z0 : Int} {H3 : Hp}, DS Hm hh l cs z0 H3 →
        (tSeq (tIfS (tTest (tOp (rNeD K) (tOp (rIx K) (tVar 0) (tC (.int 0))) (tLst tNil)))
            (tSeq (tAsg (tCB (fun xs H Q => (∃ i, xs = [.int i] ∧ Q (.int i) H) ∨ ∃ k, xs = [.bl k] ∧ Q (.int (if k then 1 else 0)) H) (tCons (tBM0 K "list" rPop (tOp (rIx K) (tVar 0) (tC (.int 0)))) tNil)) (gName 2))
              (tSeq (tDrop (tBM K "list" rAppend (tOp (rIx K) (tVar 0) (tC (.int 0))) (tCons (tOp (rI CDivN fun i j => .int (i.fdiv j)) (tVar 2) (tVar 1)) tNil))) (tRet (tOp (rI (fun _ j => 0 < j) fun i j => .int (i % j)) (tVar 2) (tVar 1))))) tNext)
          (tSeq (tAsg (tOp (rI (fun _ j => 0 < j) fun i j => .int (i % j)) (tCB (fun xs H Q => (∃ i, xs = [.int i] ∧ Q (.int i) H) ∨ ∃ k, xs = [.bl k] ∧ Q (.int (if k then 1 else 0)) H) (tCons (tOp (rI0 fun i j => .int (i + j)) (tOp (rI CMul fun i j => .int (i * j)) (tOp (rIx K) (tVar 0) (tC (.int 1))) (tC (.int 48271))) (tC (.int 11))) tNil)) (tC (.int 2147483647))) (gSub (tVar 0) (tC (.int 1)) rSetL))
            (tRet (tOp (rI (fun _ j => 0 < j) fun i j => .int (i % j)) (tCB (fun xs H Q => (∃ i, xs = [.int i] ∧ Q (.int i) H) ∨ ∃ k, xs = [.bl k] ∧ Q (.int (if k then 1 else 0)) H) (tCons (tOp (rI CDivN fun i j => .int (i.fdiv j)) (tOp (rIx K) (tVar 0) (tC (.int 1))) (tC (.int 64))) tNil)) (tVar 1)))))
          (hidEnds { nx := fun x H' => Q V.non H', rt := Q }) [some (.ref hh), some (.int (m : Nat)), none] H3 := fun {cs z0 H3} d3 => by
      refine r_ne rfl d3 fun H4 d4 => ?_
      cases hb : !cs.isEmpty with
      | true =>
        obtain ⟨cs', c, rfl⟩ := cs_split hb
        have c0 : 0 ≤ c := d4.ok.2 c (by simp)
        refine iteT (r_pop rfl ne n2 d4 fun H5 d5 => .inl ⟨c, rfl, ?_⟩)
        refine r_ix0 (hh := hh) rfl d5 ⟨.inl ⟨rfl, _, SqL.of d5.h2⟩, _, rfl, _, rfl, c, (m : Int), rfl, rfl, ⟨by omega, by omega⟩, l, _, _, rfl, rfl, d5.h2, by have := d5.ok.1; rw [List.length_map]; exact Nat.lt_of_le_of_lt this (by decide), ?_⟩
        have e : (cs'.map V.int ++ [V.int (c.fdiv m)]) = (cs' ++ [c.fdiv m]).map V.int := by simp
        rw [e]
        have d6 := d5.setL ne n2 (cs2 := cs' ++ [c.fdiv m]) ⟨by have := d4.ok.1; simp at this ⊢; omega, fun x hx => by
          rcases List.mem_append.mp hx with q | q
          · exact d5.ok.2 x q
          · have : x = c.fdiv m := by simpa using q
            rw [this]; exact Int.fdiv_nonneg c0 (by omega)⟩
        exact ⟨_, rfl, _, rfl, c, (m : Int), rfl, rfl, mp, back d6 (Int.emod_nonneg _ (by omega)) (Int.emod_lt_of_pos _ mp)⟩
      | false =>
        refine iteF ?_
        refine r_ix1 rfl d4 ⟨z0, 48271, rfl, rfl, .inr ⟨by decide, by decide⟩, z0 * 48271, 11, rfl, rfl, .inl ⟨_, rfl, _, 2147483647, rfl, rfl, (by show (0 : Int) < 2147483647; decide), _, rfl, hh, _, 1, 1, rfl, rfl, d4.h1, rfl, ?_⟩⟩
        have d5 := d4.setH ne n1 (st2 := (z0 * 48271 + 11) % 2147483647) (Int.emod_nonneg _ (by decide))
        refine r_ix1 (hh := hh) rfl d5 ⟨_, 64, rfl, rfl, ⟨by decide, by decide⟩, .inl ⟨_, rfl, _, rfl, _, (m : Int), rfl, rfl, mp, back d5 (Int.emod_nonneg _ (by omega)) (Int.emod_lt_of_pos _ mp)⟩⟩
    cases hb : !cs.isEmpty with
    | false => exact iteF (rest d2)
    | true =>
      obtain ⟨cs', c, rfl⟩ := cs_split hb
      refine r_last rfl d2 ?_
      by_cases hc0 : c = 0
      · rw [decide_eq_true hc0]
        refine iteT ⟨fun σ' H' => σ' = [some (.ref hh), some (.int (m : Nat)), none] ∧ ∃ cs z0, cs.length < n ∧ DS Hm hh l cs z0 H', fun σ' H' ⟨e, cs, z0, h1, h2⟩ => ⟨cs.length, h1, e, cs, z0, rfl, h2⟩, ?_⟩
        exact r_pop rfl ne n2 d2 fun H5 d5 => ⟨rfl, cs', z0, by rw [← hn]; simp, d5⟩
      · rw [decide_eq_false hc0]
        exact iteF (rest d2)
end
end KB

set_option Elab.async false
set_option linter.all false
set_option maxRecDepth 100000
set_option maxHeartbeats 4000000
/-! The law's defs: the heap of draws, picks, drawn orders. -/
namespace KB
open PySem PySem.Spec PyProof.Rows L2
section
variable {K : PySem.W.Frag} {σ : L2.St} {G G2 H : Hp} {te : TE}
theorem ed_int2 {i j : Int} {r : List V → Hp → VK → Prop} (hr : ∀ H Q, Q (.int j) H → r [.int i] H Q) (h : EvS te σ G (D K (.int i))) : EvS (tCB r (tCons te tNil)) σ G (D K (.int j)) := fun G0 H u s Q k =>
  h G0 H u s _ fun v G1 H1 g1 r => by
    cases d_int r
    exact hr H1 Q (k _ G1 H1 g1 (.int _))
theorem ret_rev {D : Ends} {te1 te2 : TE} (h : te1 σ H (fun x H1 => ∃ a xs, x = .ref a ∧ SqL K H1 a xs ∧ ∀ p, H1 p = none → te2 σ (upd H1 p (.lst xs.reverse)) fun y H2 => [V.ref p, y].length ≤ sizeLine ∧ ∀ q, H2 q = none → D.rt (.ref q) (upd H2 q (.lst [.ref p, y])))) :
    tRet (tLst (tCons (tRevL K te1) (tCons te2 tNil))) D σ H := h
theorem seqIx_nat {j n : Nat} (h : j < n) : seqIndex? (j : Int) n = some j := by
  have h1 : ¬ (j : Int) < 0 := by omega
  unfold seqIndex?
  simp [h1, h]
theorem erase_map {α β : Type} (f : α → β) (xs : List α) (j : Nat) : (xs.map f).eraseIdx j = (xs.eraseIdx j).map f := by
  rw [List.eraseIdx_eq_take_drop_succ, List.eraseIdx_eq_take_drop_succ, List.map_append, List.map_take, List.map_drop]
/-- what is walked, from here -/
def SrcAt (wi : TI) (σ : L2.St) (G H : Hp) (n : Nat) (T : Nat → RP) : Prop := ∀ Q : It → Hp → Prop,
  (∀ J GG G2 H2 Y, Grow G H G2 H2 → (∀ H3 : Hp, Same G2 H3 → GG H3) → Walk J n GG Y → (∀ i G3 H3 x H4, i < n → Same G2 G3 → Same G3 H3 → Y i H3 x H4 → ∃ G4, Grow G3 H3 G4 H4 ∧ T i x G4) → Q J H2) → wi σ H Q
theorem SrcI.here {wi : TI} {n : Nat} {T : Nat → RP} (h : SrcI wi σ G n T) (s : Same G H) : SrcAt wi σ G H n T := fun Q k => h G H (.refl G) s Q k
theorem src_rangeA {Gp : Hp} {n : Nat} (hn : n ≤ 1000000) (s : Same G H) (sp : Same Gp H) (h : EvS te σ Gp (D K (.int (n : Nat)))) : SrcAt (iRng1 (tCons te tNil)) σ G H n (fun i => D K (.int (i : Nat))) := fun Q k => h Gp H (.refl _) sp _ fun v G1 H1 g1 r => by
  cases d_int r
  refine ⟨(n : Int), rfl, by omega, by omega, ?_⟩
  rw [Int.toNat_natCast]
  refine k _ _ G H1 _ ⟨.refl _, s.trans g1.keep, g1.keep, fun _ _ n => n⟩ (fun _ _ => trivial) walk_range fun i G3 H3 x H4 hi u s ⟨e1, e2⟩ => ?_
  subst e1
  subst e2
  refine ⟨G3, .refl s, ?_⟩
  show Dp K G3 (.int (0 + (i : Int))) (.int (i : Nat))
  rw [Int.zero_add]
  exact .int _
theorem s_forA {En : Ends} {tu : TS} {wi : TI} {g : TG} {n : Nat} {T : Nat → RP} (src : SrcAt wi σ G H n T) (Pv : Nat → L2.St → Hp → Hp → Prop) (h0 : ∀ G2 H2, Grow G H G2 H2 → Pv 0 σ G2 H2)
    (turn : ∀ i σ' G' H' x G4 H4, i < n → Same G G' → Same G' H' → Pv i σ' G' H' → Grow G' H' G4 H4 → T i x G4 → ∃ σ2, Tg g x σ' G4 σ2 ∧
      tu { En with nx := Nx (Pv (i + 1)) G', ct := Nx (Pv (i + 1)) G', bk := En.nx } σ2 H4)
    (done : ∀ σ' G' H', Same G G' → Same G' H' → Pv n σ' G' H' → En.nx σ' H') : tFor wi g tu En σ H := src _ fun J GG G1 H1 Y g1 hG W yst => by
  refine ⟨fun i m σ' H' => m = n - i ∧ i ≤ n ∧ ∃ G', Same G1 G' ∧ Same G' H' ∧ Pv i σ' G' H', ⟨n, by omega, Nat.zero_le _, G1, Same.refl _, g1.sub, h0 G1 H1 g1⟩, ?_⟩
  rintro i m σ' H' ⟨rfl, hi, G', s1, s2, pv⟩
  by_cases hlt : i < n
  · refine .inr ⟨W.goes i H' hlt (hG H' (s1.trans s2)), Nx (Pv (i + 1)) G', fun σ'' H'' ⟨G2, q1, q2, q3⟩ => ⟨n - (i + 1), by omega, rfl, hlt, G2, s1.trans q1, q2, q3⟩, fun x H4 y => ?_⟩
    obtain ⟨G4, g4, hT⟩ := yst i G' H' x H4 hlt s1 s2 (W.yields i H' x H4 hlt (hG H' (s1.trans s2)) y)
    obtain ⟨σ2, htg, hb⟩ := turn i σ' G' H' x G4 H4 hlt (g1.up.trans s1) s2 pv g4 hT
    exact htg H4 g4.sub _ hb
  · have e : i = n := by omega
    subst e
    exact .inl ⟨W.stops H' (hG H' (s1.trans s2)), done σ' G' H' (g1.up.trans s1) s2 pv⟩
theorem q_forA {En : Ends} {tu tz : TS} {wi : TI} {g : TG} {n : Nat} {T : Nat → RP} (src : SrcAt wi σ G H n T) (Pv : Nat → L2.St → Hp → Hp → Prop) (h0 : ∀ G2 H2, Grow G H G2 H2 → Pv 0 σ G2 H2)
    (turn : ∀ i σ' G' H' x G4 H4, i < n → Same G G' → Same G' H' → Pv i σ' G' H' → Grow G' H' G4 H4 → T i x G4 → ∃ σ2, Tg g x σ' G4 σ2 ∧
      tu { En with nx := Nx (Pv (i + 1)) G', ct := Nx (Pv (i + 1)) G', bk := tz En } σ2 H4)
    (done : ∀ σ' G' H', Same G G' → Same G' H' → Pv n σ' G' H' → tz En σ' H') : tSeq (tFor wi g tu) tz En σ H := s_forA (En := { En with nx := tz En }) src Pv h0 turn done
abbrev NN (K : PySem.W.Frag) : RP := fun v _ => ∃ i : Int, 0 ≤ i ∧ v = .int i
theorem ints_flat {K : PySem.W.Frag} {vs : List V} {cs : List Int} {H : Hp} (h : DpAll K H vs (cs.map PyData.int)) : vs = cs.map V.int := dp_ints h
/-- a new list of numbers none of which is below 0 -/
abbrev CsD (ds : List PyData) : Prop := ∃ cs : List Int, ds = cs.map PyData.int ∧ CsOk cs
def itemsOf : PyData → List PyData
  | .list ds => ds
  | .tuple ds => ds
  | .str x => x.cps.toList.map fun c => .str ⟨#[c]⟩
  | _ => []
theorem perm_erase {xs : List Str} {k : Nat} {y : Str} (h : xs[k]? = some y) : (y :: xs.eraseIdx k).Perm xs := by
  obtain ⟨h1, h2⟩ := List.getElem?_eq_some_iff.mp h
  have e : xs = xs.take k ++ y :: xs.drop (k + 1) := by rw [← h2, List.getElem_cons_drop, List.take_append_drop]
  rw [List.eraseIdx_eq_take_drop_succ]
  conv => rhs; rw [e]
  exact List.perm_middle.symm
end
instance {K : PySem.W.Frag} {xs : List Str} : Stb (fun v H => ∃ ys : List Str, ys.Perm xs ∧ Dp K H v (.list (sds ys))) := ⟨fun u ⟨ys, h, r⟩ => ⟨ys, h, Dp.up u _ _ r⟩⟩
section
variable {P : Program} {w : World} {K : PySem.W.Frag} {mg : Str → Option Value} {base : Heap}
def sp__law_heap (K : PySem.W.Frag) : Sp := SpG (Γ := List Int) (fun ns => [D K (.list (ns.map PyData.int)), D K (.int 7)]) (fun ns => ns.length ≤ 63) fun _ => HeapAt
abbrev s__law_heap : Stmt := top 44
abbrev N__law_heap : List Str := ["_law_script", "_law_base", "_law_cells", "_law_cell", "_law_stir"]
theorem sc__law_heap : FnScope N__law_heap ["_law_script", "_law_base"] (defScope s__law_heap) := ⟨rfl, rfl, rfl, by decide +kernel, rfl, by decide +kernel, by decide +kernel⟩
theorem ok__law_heap {f : Addr} {fd : FuncData} (F : Fun K "_law_heap" "_law_heap" s__law_heap f fd) (T : Txt mg)  : FnOk P w K mg base CX0 1 f fd ["_law_script", "_law_base"] (sp__law_heap K) := by
  refine F.ok sc__law_heap (fun vs H Q E h => ?_) (fun cdv A outer s H vs Q E hr h => ?_)
  · obtain ⟨x, G, hs, ⟨v1, _, rfl, h1, v2, _, rfl, h2, rfl⟩, hp, k⟩ := h; rfl
  · obtain ⟨ns, G, hs, ⟨v1, _, rfl, h1, v2, _, rfl, h2, rfl⟩, hp, k⟩ := h
    cases d_int h2
    replace hp : ns.length ≤ 63 := hp
    replace h1 : Dp K G v1 (.list (ns.map PyData.int)) := h1
    have nd := sc__law_heap.nd
    have hu := hu_of hr
    have hrU := hrU_of hr
    refine ⟨_, pss_hide (pss_cons (ps_setLc (i := 2) (own := [("_law_cell", 3)]) (by rfl) nd rfl rfl (sw_true rfl rfl rfl (by decide +kernel)) (kSeq K (pe_slice (kSl K) (pv 0) po_none (po_some (pe_int)))) (blkOk_by (by kernel_rfl)) (fun _ _ _ _ _ => (pg_n 3 nd)) (fun _ _ _ _ _ => pts_nil) (fun _ _ _ _ _ => (pe_callB call_abs (by rfl) T.m_abs (by decide +kernel) (pa_cons (pe_callTy call_int1 (by rfl) T.m_int (by decide +kernel) (pa_cons (pv 3) pa_nil)) pa_nil))))
    (pss_cons (ps_n 4 nd (pe_op op_add (pe_int) (pe_op op_mul (pe_int) (pv 1))))
    (pss_cons (ps_for PassesOwn.never rfl (kSeq K (pv 2)) (pg_n 3 nd)
      (pss_one (ps_n 4 nd (pe_op op_mod (pe_callTy call_int1 (by rfl) T.m_int (by decide +kernel) (pa_cons (pe_op op_add (pe_op op_add (pe_op op_mul (pv 4) (pe_int)) (pe_op op_mod (pv 3) (pe_int))) (pe_int)) pa_nil)) (pe_int)))))
    (pss_one (ps_ret (pe_lst (pa_cons (kRev K (pe_lc (own := [("_law_cell", 3)]) (by rfl) nd (kSeq K (pv 2)) (blkOk_by (by kernel_rfl)) (fun _ _ _ _ _ => (pg_n 3 nd)) (fun _ _ _ _ _ => (pts_one (pt_cmpR op_ge (pv 3) (pe_op op_pow (pe_int) (pe_int)) (nomark _)))) (fun _ _ _ _ _ => (pv 3)))) (pa_cons (pv 4) pa_nil)))))))), ?_⟩
    refine st (σ' := [some v1, some (V.int 7), none, none, none]) rfl ?_
    have hcut : (cutD (ns.map PyData.int) none (some 63)).length ≤ 63 := by
      unfold cutD
      rw [List.length_take, List.length_drop]
      have := List.length_map (f := PyData.int) (as := ns)
      omega
    have hel : ∀ e ∈ cutD (ns.map PyData.int) none (some 63), ∃ i : Int, e = .int i := fun e he => by
      unfold cutD at he
      have := List.mem_of_mem_drop (List.mem_of_mem_take he)
      obtain ⟨i, _, rfl⟩ := List.mem_map.mp this
      exact ⟨i, rfl⟩
    refine q_asg hs (en_lc (K := K) (fun i acc => ∃ cs : List Int, acc = cs.map PyData.int ∧ cs.length ≤ i ∧ ∀ c ∈ cs, 0 ≤ c) (src_seq (.l _) (en_sl (e_var rfl h1) eo_none (eo_some (K := K) ed_int)).d) (by omega) ⟨[], rfl, Nat.le_refl _, by simp⟩ (fun i acc ⟨cs, e, h, _⟩ => by rw [e, List.length_map]; exact h) fun i acc G1 x hi hI u hT => ?_).s fun v3 G1 H1 g1 r3 => ?_
    · obtain ⟨e, he, hx⟩ := hT
      obtain ⟨z, rfl⟩ := hel e (mem_of_get he)
      obtain ⟨cs, rfl, hl, hn⟩ := hI
      refine ⟨_, tg_name, rfl, fun b => b = true, et_yes, fun h => by simp at h, fun _ => ?_⟩
      cases hx
      refine (ed_int2 (K := K) (i := z) (j := if z < 0 then -z else z) (fun H Q q => ⟨z, rfl, q⟩) (ed_int1 (fun H Q q => .inl ⟨z, rfl, q⟩) (e_var rfl (.int z)))).imp fun v H r => ?_
      · cases d_int r
        refine ⟨.int _, rfl, .int _, cs ++ [if z < 0 then -z else z], by simp, by simp; omega, fun c hc => ?_⟩
        rcases List.mem_append.mp hc with q | q
        · exact hn c q
        · have : c = if z < 0 then -z else z := by simpa using q
          rw [this]; split <;> omega
    obtain ⟨ds, ⟨cs, rfl, hl, hn⟩, r3⟩ := r3
    replace hl : cs.length ≤ 63 := Nat.le_trans hl hcut
    refine st (σ' := [some v1, some (V.int 7), some v3, none, none]) rfl ?_
    refine q_asg g1.sub (ed_I (K := K) ed_int (ed_IC ed_int (e_var rfl (.int 7)) (.inl ⟨by decide, by decide⟩))) fun v4 G2 H2 g2 r4 => ?_
    cases d_int r4
    refine st (σ' := [some v1, some (V.int 7), some v3, none, some (V.int (52361+523*7))]) rfl ?_
    have g02 := g1.trans g2
    replace r3 := Dp.up g2.up _ _ r3
    have hcl : (cs.map PyData.int).length ≤ 63 := by rw [List.length_map]; exact hl
    refine q_for g2.sub (src_seq (.l _) (e_var rfl r3)) (fun i σ G' H' => Grow G H G' H' ∧ ∃ (z : Int) (a : Option V), 0 ≤ z ∧ σ = [some v1, some (.int 7), some v3, a, some (.int z)]) (fun G3 H3 g3 => ⟨g02.trans g3, _, _, by decide, rfl⟩) ?_ ?_
    · rintro i σ' G' H' y G5 H5 hi sg sh ⟨gr, z, a, hz, rfl⟩ g5 ⟨e, he, hy⟩
      rw [List.getElem?_map] at he
      cases q : cs[i]? with
      | none => rw [q] at he; simp at he
      | some c =>
        rw [q] at he
        have ee : e = .int c := by simpa using he.symm
        subst ee
        cases hy
        refine ⟨_, tg_name, ?_⟩
        refine st (σ' := [some v1, some (V.int 7), some v3, some (V.int c), some (V.int z)]) rfl ?_
        refine s_asg g5.sub (ed_IC (K := K) (ed_int1 (fun H Q q => .inl ⟨_, rfl, q⟩) (ed_I (ed_I (ed_IC (e_var rfl (.int z)) ed_int (.inr ⟨by decide, by decide⟩)) (ed_IC (e_var rfl (.int c)) ed_int (by decide))) ed_int)) ed_int (by decide)) fun v G6 H6 g6 rv => ?_
        cases d_int rv
        exact ⟨G6, (g5.trans g6).up, g6.sub, (gr.trans g5).trans g6, _, _, Int.emod_nonneg _ (by decide), rfl⟩
    · rintro σ' G' H' sg sh ⟨gr, z, a, hz, rfl⟩
      have r3' := Dp.up sg _ _ r3
      have ev := en_lc (K := K) (σ := [some v1, some (.int 7), some v3, a, some (.int z)]) (G := G') (tt := tTest (tOp (rI0 fun i j => .bl (decide (j ≤ i))) (tVar 3) (tOp (rI CPow fun i j => .int (i ^ j.toNat)) (tC (.int 10)) (tC (.int 18))))) (te := tVar 3) (g := gName 3) (vs := [3])
        (fun i acc => ∃ cs : List Int, acc = cs.map PyData.int ∧ cs.length ≤ i ∧ ∀ c ∈ cs, 0 ≤ c) (src_seq (.l (cs.map PyData.int)) (e_var (i := 2) rfl r3')) (by omega) ⟨[], rfl, Nat.le_refl _, by simp⟩ (fun i acc ⟨cs, e, h, _⟩ => by rw [e, List.length_map]; exact h) fun i acc G1 x hi hI u ⟨e, he, hx⟩ => by
          obtain ⟨as, rfl, ha, hb⟩ := hI
          rw [List.getElem?_map] at he
          cases q : cs[i]? with
          | none => rw [q] at he; simp at he
          | some c =>
            rw [q] at he
            have ee : e = .int c := by simpa using he.symm
            subst ee
            cases hx
            have hc := hn c (mem_of_get q)
            refine ⟨_, tg_name, rfl, fun _ => True, (et_T (ed_IB (K := K) (f := fun i j => decide (j ≤ i)) (e_var rfl (.int c)) (ed_IC ed_int ed_int ⟨by decide, by decide, by decide⟩))).imp fun _ _ => trivial, fun _ => ⟨as, rfl, by omega, hb⟩, fun _ => ?_⟩
            refine (e_var (R := D K (.int c)) rfl (.int c)).imp fun v H r => ⟨.int c, rfl, r, as ++ [c], by simp, by simp; omega, fun x hx => ?_⟩
            rcases List.mem_append.mp hx with q | q
            · exact hb x q
            · have : x = c := by simpa using q
              rw [this]; exact hc
      have ev2 : EvS _ _ _ (fun v H => ∃ as : List Int, (as.length ≤ 63 ∧ ∀ c ∈ as, 0 ≤ c) ∧ Dp K H v (.list (as.map PyData.int))) := ev.s.imp fun v H ⟨ds, ⟨as, e, h1, h2⟩, r⟩ => ⟨as, ⟨Nat.le_trans h1 hcl, h2⟩, e ▸ r⟩
      refine ret_rev (ev2 G' H' (.refl _) sh _ fun v5 G3 H3 g3 ⟨as, ⟨q1, q2⟩, r5⟩ => ?_)
      obtain ⟨a5, xs5, rfl, hq5, hd5⟩ := d_list r5
      have e5 := dp_ints hd5
      subst e5
      refine ⟨a5, _, rfl, g3.sub.seq hq5, fun p hp => ⟨_, rfl, ⟨by show 2 ≤ sizeLine; decide, fun q hq => ?_⟩⟩⟩
      have npq : q ≠ p := fun e => by subst e; rw [upd_same] at hq; cases hq
      have hq0 : H3 q = none := by rw [upd_ne npq] at hq; exact hq
      have g03 := gr.trans g3
      refine ⟨q, p, as.reverse, z, npq, ⟨by rw [List.length_reverse]; exact q1, fun c hc => q2 c (List.mem_reverse.mp hc)⟩, hz, upd_same, by rw [upd_ne npq.symm, upd_same, List.map_reverse], ?_⟩
      have gp : G3 p = none := g3.sub.free hp
      have gq : G3 q = none := g3.sub.free hq0
      refine k _ (upd (upd G3 p (HeapL p)) q (HeapH p q)) _ ⟨?_, ?_, ?_, ?_⟩ ⟨q, p, rfl, npq, upd_same, by rw [upd_ne npq.symm, upd_same]⟩
      · exact g03.up.trans ((Same.new gp).trans (Same.new (by rw [upd_ne npq]; exact gq)))
      · intro b u e
        by_cases b1 : b = q
        · subst b1; rw [upd_same] at e ⊢; exact e
        · rw [upd_ne b1] at e ⊢
          by_cases b2 : b = p
          · subst b2; rw [upd_same] at e ⊢; exact e
          · rw [upd_ne b2] at e ⊢
            rw [upd_ne b1, upd_ne b2]
            exact g3.sub b u e
      · intro b u e
        have b1 : b ≠ q := ne_of_none e (g03.keep.free hq0)
        have b2 : b ≠ p := ne_of_none e (g03.keep.free hp)
        rw [upd_ne b1, upd_ne b2, upd_ne b1, upd_ne b2]
        exact g03.keep b u e
      · intro b hb n
        have b1 : b ≠ q := fun e => hb (e ▸ g03.keep.free hq0)
        have b2 : b ≠ p := fun e => hb (e ▸ g03.keep.free hp)
        rw [upd_ne b1, upd_ne b2]
        exact g03.off b hb n
theorem e_draw {σ : L2.St} {G : Hp} {ta tb : TE} {n : Nat} (h1 : EvS ta σ G HeapAt) (h2 : EvS tb σ G (D K (.int (n : Nat)))) (n1 : 1 ≤ n) (n2 : n ≤ 1000000) : EvS (tCall (sp__law_draw K) [] E0 (tCons ta (tCons tb tNil))) σ G (LtR n) :=
  e_call (args := fun m => [HeapAt, D K (.int ((m : Nat) : Int))]) n (ea_cons h1 (ea_cons h2 ea_nil)) ⟨n1, n2⟩
def sp__law_pick (K : PySem.W.Frag) : Sp := SpG (Γ := PyData) (fun d => [HeapAt, D K d]) (fun d => 1 ≤ (itemsOf d).length ∧ (itemsOf d).length ≤ 1000) fun d v H => ∃ e ∈ itemsOf d, Dp K H v e
abbrev s__law_pick : Stmt := top 46
abbrev N__law_pick : List Str := ["_law_heap_here", "_law_some_here"]
theorem sc__law_pick : FnScope N__law_pick ["_law_heap_here", "_law_some_here"] (defScope s__law_pick) := ⟨rfl, rfl, rfl, by decide +kernel, rfl, by decide +kernel, by decide +kernel⟩
theorem ok__law_pick {f : Addr} {fd : FuncData} (F : Fun K "_law_pick" "_law_pick" s__law_pick f fd) (T : Txt mg) (c__law_draw : Cal P w K mg base CX0 1 "_law_draw" ["_law_heap_here", "_law_many"] (sp__law_draw K)) : FnOk P w K mg base CX0 2 f fd ["_law_heap_here", "_law_some_here"] (sp__law_pick K) := by
  refine F.ok sc__law_pick (fun vs H Q E h => ?_) (fun cdv A outer s H vs Q E hr h => ?_)
  · obtain ⟨x, G, hs, ⟨v1, _, rfl, h1, v2, _, rfl, h2, rfl⟩, hp, k⟩ := h; rfl
  · obtain ⟨d, G, hs, ⟨v1, _, rfl, h1, v2, _, rfl, h2, rfl⟩, ⟨p1, p2⟩, k⟩ := h
    replace h2 : Dp K G v2 d := h2
    replace p1 : 1 ≤ (itemsOf d).length := p1
    replace p2 : (itemsOf d).length ≤ 1000 := p2
    have nd := sc__law_pick.nd
    have hu := hu_of hr
    have hrU := hrU_of hr
    refine ⟨_, pss_one (ps_ret (pe_ix (kIx K) (pv 1) (pe_cal c__law_draw (hr.mono (by decide)) (by rfl) pass0 (pa_cons (pv 0) (pa_cons (pe_callB (kLen K) (by rfl) T.m_len (by decide +kernel) (pa_cons (pv 1) pa_nil)) pa_nil))) (fun _ _ => rfl))), ?_⟩
    refine st (σ' := [some v1, some v2]) rfl ?_
    have len : EvS (tCB (rLenV K) (tCons (tVar 1) tNil)) [some v1, some v2] G (D K (.int ((itemsOf d).length : Nat))) := by
      cases d with
      | list ds => exact ed_len (.l _) (e_var rfl h2)
      | tuple ds => exact ed_len (.t _) (e_var rfl h2)
      | str x =>
        have e : (itemsOf (.str x)).length = x.length := by show (x.cps.toList.map _).length = x.cps.size; rw [List.length_map, Array.length_toList]
        rw [e] at p2 ⊢
        exact ed_lenS (small9 (by omega)) (e_var rfl h2)
      | _ => simp [itemsOf] at p1
    refine s_ret hs (R := fun v H => ∃ e ∈ itemsOf d, Dp K H v e) (fun G1 H1 u s Q kk => ?_) k
    refine ⟨v2, rfl, (e_draw (e_var rfl h1) len p1 (by omega)) G1 H1 u s _ fun v G2 H2 g2 ⟨j, hj, ev⟩ => ?_⟩
    subst ev
    have h2' := Dp.up (u.trans g2.up) _ _ h2
    have hget : (itemsOf d)[j]? = some (itemsOf d)[j] := List.getElem?_eq_getElem _
    have hmem : (itemsOf d)[j] ∈ itemsOf d := List.getElem_mem _
    cases d with
    | list ds => exact (ed_ix (K := K) (σ := []) (ta := tC v2) (tb := tC (.int (j : Nat))) j (.l ds) (e_c h2') ed_int (.inl ⟨rfl, hj⟩) hget) G2 H2 (.refl _) g2.sub _ fun v G3 H3 g3 r => kk v G3 H3 (g2.trans g3) ⟨_, hmem, r⟩
    | tuple ds => exact (ed_ix (K := K) (σ := []) (ta := tC v2) (tb := tC (.int (j : Nat))) j (.t ds) (e_c h2') ed_int (.inl ⟨rfl, hj⟩) hget) G2 H2 (.refl _) g2.sub _ fun v G3 H3 g3 r => kk v G3 H3 (g2.trans g3) ⟨_, hmem, r⟩
    | str x =>
      have hx : x.cps.toList.length = (itemsOf (.str x)).length := by show _ = (x.cps.toList.map _).length; rw [List.length_map]
      have hj' : j < x.cps.toList.length := by rw [hx]; exact hj
      have ea : atI x.cps.toList (j : Nat) = some x.cps.toList[j] := by
        unfold atI
        rw [ixN_of (j := j) (.inl ⟨rfl, hj'⟩)]
        simp
      exact (ed_ixS (K := K) (σ := []) (a := x) (ta := tC v2) (tb := tC (.int (j : Nat))) (e_c h2') ed_int (small9 (by show x.cps.size ≤ _; rw [← Array.length_toList, hx]; omega)) ea) G2 H2 (.refl _) g2.sub _ fun v G3 H3 g3 r => kk v G3 H3 (g2.trans g3) ⟨_, List.mem_map.mpr ⟨_, List.getElem_mem _, rfl⟩, r⟩
    | _ => simp [itemsOf] at p1
theorem e_pick {σ : L2.St} {G : Hp} {ta tb : TE} {d : PyData} (h1 : EvS ta σ G HeapAt) (h2 : EvS tb σ G (D K d)) (n1 : 1 ≤ (itemsOf d).length) (n2 : (itemsOf d).length ≤ 1000) : EvS (tCall (sp__law_pick K) [] E0 (tCons ta (tCons tb tNil))) σ G (fun v H => ∃ e ∈ itemsOf d, Dp K H v e) :=
  e_call (args := fun d => [HeapAt, D K d]) d (ea_cons h1 (ea_cons h2 ea_nil)) ⟨n1, n2⟩
theorem e_pickS {σ : L2.St} {G : Hp} {ta tb : TE} {d : PyData} {xs : List Str} (hd : SqD d (sds xs)) (h1 : EvS ta σ G HeapAt) (h2 : EvS tb σ G (D K d)) (n1 : 1 ≤ xs.length) (n2 : xs.length ≤ 1000) : EvS (tCall (sp__law_pick K) [] E0 (tCons ta (tCons tb tNil))) σ G (fun v _ => ∃ x ∈ xs, v = .str x) := by
  have e : itemsOf d = sds xs := by cases hd <;> rfl
  refine (e_pick h1 h2 (by rw [e, List.length_map]; exact n1) (by rw [e, List.length_map]; exact n2)).imp fun v H ⟨y, hy, r⟩ => ?_
  rw [e] at hy
  obtain ⟨x, hx, rfl⟩ := List.mem_map.mp hy
  exact ⟨x, hx, d_str r⟩
def sp__law_mixed (K : PySem.W.Frag) : Sp := SpG (Γ := List Str) (fun xs => [HeapAt, D K (.list (sds xs))]) (fun xs => xs.length ≤ 1000) fun xs v H => ∃ ys : List Str, ys.Perm xs ∧ Dp K H v (.list (sds ys))
abbrev s__law_mixed : Stmt := top 47
abbrev N__law_mixed : List Str := ["_law_heap_here", "_law_some_here", "_law_left", "_law_found", "_law_turn"]
theorem sc__law_mixed : FnScope N__law_mixed ["_law_heap_here", "_law_some_here"] (defScope s__law_mixed) := ⟨rfl, rfl, rfl, by decide +kernel, rfl, by decide +kernel, by decide +kernel⟩
theorem ok__law_mixed {f : Addr} {fd : FuncData} (F : Fun K "_law_mixed" "_law_mixed" s__law_mixed f fd) (T : Txt mg) (c__law_draw : Cal P w K mg base CX0 1 "_law_draw" ["_law_heap_here", "_law_many"] (sp__law_draw K)) : FnOk P w K mg base CX0 2 f fd ["_law_heap_here", "_law_some_here"] (sp__law_mixed K) := by
  refine F.ok sc__law_mixed (fun vs H Q E h => ?_) (fun cdv A outer s H vs Q E hr h => ?_)
  · obtain ⟨x, G, hs, ⟨v1, _, rfl, h1, v2, _, rfl, h2, rfl⟩, hp, k⟩ := h; rfl
  · obtain ⟨xs, G, hs, ⟨v1, _, rfl, h1, v2, _, rfl, h2, rfl⟩, hp, k⟩ := h
    replace h2 : Dp K G v2 (.list (sds xs)) := h2
    replace hp : xs.length ≤ 1000 := hp
    have nd := sc__law_mixed.nd
    have hu := hu_of hr
    have hrU := hrU_of hr
    refine ⟨_, pss_cons (ps_par (i := 2) (j := 3) (by rfl) nd rfl rfl (by decide) rfl rfl (pa_cons (pe_callTy (kLst K) (by rfl) T.m_list (by decide +kernel) (pa_cons (pv 1) pa_nil)) (pa_cons (pe_lst pa_nil) pa_nil)) (by rfl))
    (pss_cons (ps_for PassesOwn.never rfl (pi_range1 (by rfl) T.m_range (pa_cons (pe_callB (kLen K) (by rfl) T.m_len (by decide +kernel) (pa_cons (pv 2) pa_nil)) pa_nil)) (pg_n 4 nd)
      (pss_one (ps_expr (pe_bm PySem.F.plainAttrs_list PySem.F.slot_list_append PySem.F.type_list_append mt_append (pv 3) (pa_cons (pe_bm PySem.F.plainAttrs_list PySem.F.slot_list_pop PySem.F.type_list_pop mt_popAt (pv 2) (pa_cons (pe_cal c__law_draw (hr.mono (by decide)) (by rfl) pass0 (pa_cons (pv 0) (pa_cons (pe_callB (kLen K) (by rfl) T.m_len (by decide +kernel) (pa_cons (pv 2) pa_nil)) pa_nil))) pa_nil)) pa_nil)))))
    (pss_one (ps_ret (pv 3)))), ?_⟩
    refine st (σ' := [some v1, some v2, none, none, none]) rfl ?_
    have nz : ∀ {o : HO}, some o ≠ none := fun z => nomatch z
    refine (en_lstOf (K := K) (.l _) (e_var (i := 1) rfl h2)) G H (.refl _) hs _ fun le vs ds G1 H1 g1 hl0 gl1 cl1 hds eds => ⟨Nat.zero_le _, fun fo hfo => ⟨_, _, rfl, ?_⟩⟩
    subst eds
    have e := dp_sds hds
    subst e
    have nfl : fo ≠ le := fun e => by subst e; rw [cl1] at hfo; cases hfo
    have g2 : Grow G1 H1 G1 (upd H1 fo (.lst [])) := Grow.cell g1.sub hfo
    have g02 := g1.trans g2
    have hf0 : H fo = none := g1.keep.free hfo
    have gf1 : G1 fo = none := g1.sub.free hfo
    have cl2 : upd H1 fo (.lst []) le = some (.lst (xs.map V.str)) := by rw [upd_ne nfl.symm]; exact cl1
    have cf2 : upd H1 fo (.lst []) fo = some (.lst []) := upd_same
    generalize upd H1 fo (.lst []) = H2 at *
    clear g2 g1 cl1
    refine st (σ' := [some v1, some v2, some (V.ref le), some (V.ref fo), none]) rfl ?_
    have lenev : ∀ {σ : L2.St} {G' : Hp} {zs : List Str}, σ[2]? = some (some (.ref le)) → EvS (tCB (rLenV K) (tCons (tVar 2) tNil)) σ (upd G' le (.lst (zs.map V.str))) (D K (.int (zs.length : Nat))) := fun {σ G' zs} e =>
      (ed_len (K := K) (te := tVar 2) (.l (sds zs)) (e_var (R := D K (.list (sds zs))) e (.lst (SqL.of upd_same) (sds_dp zs)))).to (by rw [List.length_map])
    refine q_forA (src_rangeA (n := xs.length) (by omega) g02.sub (same_with g02.sub cl2) (lenev rfl)) (fun i σ G' H' => Grow G H G' H' ∧ G' le = none ∧ G' fo = none ∧ ∃ (zs ys : List Str) (a : Option V), zs.length + i = xs.length ∧ (ys ++ zs).Perm xs ∧ H' le = some (.lst (zs.map V.str)) ∧ H' fo = some (.lst (ys.map V.str)) ∧
        σ = [some v1, some v2, some (.ref le), some (.ref fo), a]) (fun G3 H3 g3 => ⟨g02.trans g3, g3.off _ (by rw [cl2]; exact nz) gl1, g3.off _ (by rw [cf2]; exact nz) gf1, xs, [], none, by omega, .refl _, g3.keep _ _ cl2, g3.keep _ _ cf2, rfl⟩) ?_ ?_
    · rintro i σ' G' H' y G5 H5 hi sg sh ⟨gr, gl, gf, zs, ys, a, hl, hpm, cl, cf, rfl⟩ g5 hy
      cases d_int hy
      refine ⟨_, tg_name, ?_⟩
      refine st (σ' := [some v1, some v2, some (V.ref le), some (V.ref fo), some (V.int (i:Nat))]) rfl ?_
      have cl5 := g5.keep _ _ cl
      have cf5 := g5.keep _ _ cf
      have gl5 := g5.off _ (by rw [cl]; exact nz) gl
      have gf5 := g5.off _ (by rw [cf]; exact nz) gf
      have h1' := stb (gr.up.trans g5.up) h1
      have u5 : Same G5 (upd G5 le (.lst (zs.map V.str))) := Same.new gl5
      have hly : ys.length ≤ 1000 := by
        have := hpm.length_eq
        rw [List.length_append] at this
        omega
      refine ⟨.ref fo, rfl, .inl ⟨rfl, _, SqL.of cf5⟩, .ref le, rfl, .inl ⟨rfl, _, SqL.of cl5⟩, ?_⟩
      refine (e_draw (K := K) (e_var (i := 0) rfl (stb u5 h1')) (lenev (zs := zs) rfl) (by omega) (by omega)) _ _ (.refl _) (same_with g5.sub cl5) _ fun v G6 H6 g6 ⟨j, hj, ev⟩ => ?_
      subst ev
      have cl6 := g6.keep _ _ cl5
      have cf6 := g6.keep _ _ cf5
      obtain ⟨z, hz⟩ : ∃ z, zs[j]? = some z := ⟨zs[j], List.getElem?_eq_getElem hj⟩
      have pe := perm_erase hz
      refine ⟨le, _, (j : Int), j, .str z, rfl, rfl, cl6, by omega, by omega, ?_, by rw [List.getElem?_map, hz]; rfl, fo, _, .str z, rfl, rfl, by rw [upd_ne nfl]; exact cf6, by rw [List.length_map]; exact Nat.lt_of_le_of_lt hly (by decide), ?_⟩
      · rw [List.length_map]; exact seqIx_nat hj
      have e1 : (zs.map V.str).eraseIdx j = (zs.eraseIdx j).map V.str := erase_map _ _ _
      have e2 : ys.map V.str ++ [V.str z] = (ys ++ [z]).map V.str := by simp
      rw [e1, e2]
      have s6 : Same G5 H6 := g5.sub.trans g6.keep
      refine ⟨G5, g5.up, Same.mut (Same.mut s6 gl5) gf5, ⟨(gr.trans g5).up, Same.mut (Same.mut s6 gl5) gf5, ?_, (gr.trans g5).off⟩, gl5, gf5, zs.eraseIdx j, ys ++ [z], _, ?_, ?_, by rw [upd_ne nfl.symm, upd_same], upd_same, rfl⟩
      · intro b u e
        rw [upd_ne (ne_of_none e hf0), upd_ne (ne_of_none e hl0)]
        exact g6.keep _ _ ((gr.trans g5).keep _ _ e)
      · have := pe.length_eq
        simp only [List.length_cons] at this
        omega
      · rw [List.append_assoc]
        exact (List.Perm.append_left ys pe).trans hpm
    · rintro σ' G' H' sg sh ⟨gr, gl, gf, zs, ys, a, hl, hpm, cl, cf, rfl⟩
      have hz : zs = [] := List.length_eq_zero_iff.mp (by omega)
      subst hz
      rw [List.append_nil] at hpm
      have g9 := gr.addcell hf0 gf cf
      exact s_ret g9.sub (R := fun v H => ∃ ys : List Str, ys.Perm xs ∧ Dp K H v (.list (sds ys))) (e_var rfl ⟨ys, hpm, .lst (SqL.of upd_same) (sds_dp _)⟩) fun v G2 H2 g2 => k v G2 H2 (g9.trans g2)
theorem e_mixed {σ : L2.St} {G : Hp} {ta tb : TE} {xs : List Str} (h1 : EvS ta σ G HeapAt) (h2 : EvS tb σ G (D K (.list (sds xs)))) (hl : xs.length ≤ 1000) : EvS (tCall (sp__law_mixed K) [] E0 (tCons ta (tCons tb tNil))) σ G (fun v H => ∃ ys : List Str, ys.Perm xs ∧ Dp K H v (.list (sds ys))) :=
  e_call (args := fun xs => [HeapAt, D K (.list (sds xs))]) xs (ea_cons h1 (ea_cons h2 ea_nil)) hl
end
end KB

set_option Elab.async false
set_option linter.all false
set_option maxRecDepth 100000
set_option maxHeartbeats 4000000
/-! Lists joined, drawn lists. -/
namespace KB
open PySem PySem.Spec PyProof.Rows L2
theorem op_catL {X : Cx} : OpR X (binaryOp .Add) (rCatL X.K) := by
  intro pins s σ H x y v u Q I rx ry hq
  obtain ⟨l, b, xs, zs, e1, e2, h1, h2, hz, q⟩ := hq
  subst e1
  subst e2
  cases rx
  cases ry
  obtain ⟨its, r, pl, z1⟩ := I.list h1
  obtain ⟨its2, r2, pl2, z2⟩ := I.list h2
  obtain ⟨⟨cls, dd, data, sl⟩, ho, hc, n, hd⟩ := pl.isList
  obtain ⟨⟨cls2, dd2, data2, sl2⟩, ho2, hc2, n2, hd2⟩ := pl2.isList
  simp only at hc hd hc2 hd2
  subst hc hd hc2 hd2
  have ea : its.toArray ++ its2.toArray = (its ++ its2).toArray := by simp
  have hsz : its.toArray.size + its2.toArray.size ≤ sizeLine := by rw [List.size_toArray, List.size_toArray, ← r.length, ← r2.length]; exact hz
  refine concat_meets ⟨_, ho, rfl⟩ ⟨_, ho2, rfl⟩ noFill_list_add seq_list_add PySem.F.slot_list_add PySem.F.entry_list_add (PySem.F.args_list_add_2 _ _) (list_addW l b its.toArray its2.toArray n n2 dd dd2 sl sl2 hsz) ⟨ho, ho2, ?_⟩
  rw [ea]
  exact ⟨.ref _, _, I.lnew (t' := s.toks) (r.append r2) (by rw [List.length_append]; exact hz), rfl, q _ I.fresh⟩
theorem kCat (K : PySem.W.Frag) {X : Cx} (h : X.K = K := by rfl) : OpR X (binaryOp .Add) (rCatL K) := by subst h; exact op_catL
section
variable {K : PySem.W.Frag} {σ : L2.St} {G G2 H : Hp} {te ta tb tc tw : TE} {tt : TT}
abbrev StrP (P : Str → Prop) : RP := fun v _ => ∃ x, P x ∧ v = .str x
abbrev SomeB : RP := fun v _ => ∃ b : Bool, v = .bl b
instance {P : Str → Prop} : Stb (StrP P) := ⟨fun _ r => r⟩
instance : Stb SomeB := ⟨fun _ r => r⟩
theorem etP_any (h : EvS te σ G SomeB) : EtP (tTest te) σ G (fun _ => True) := fun G1 H u s Q k => h G1 H u s _ fun v G2 H2 g ⟨b, e⟩ => ⟨b, e, k b G2 H2 g trivial⟩
theorem e_ltEq {n : Nat} {c : Int} (h : EvS te σ G (LtR n)) : EvS (tOp rEq te (tC (.int c))) σ G SomeB := fun G1 H u s Q k => h G1 H u s _ fun v G2 H2 g ⟨j, hj, e⟩ => by
  subst e
  exact ⟨rfl, k _ G2 H2 g ⟨_, rfl⟩⟩
theorem e_orB (h : EvS ta σ G SomeB) (h2 : EvS tb σ G SomeB) : EvS (tOrV ta tb) σ G SomeB := fun G1 H u s Q k => h G1 H u s _ fun v G2 H2 g ⟨b, e⟩ => ⟨b, e, by
  cases b with
  | true => exact k _ G2 H2 g ⟨_, rfl⟩
  | false => exact h2 G2 H2 (u.trans g.up) g.sub Q fun v G3 H3 g3 r => k _ G3 H3 (g.trans g3) r⟩
theorem e_bI {f : Int → Int → Bool} {a b : Int} (ha : EvS ta σ G (D K (.int a))) (hb : EvS tb σ G (D K (.int b))) : EvS (tOp (rI0 fun i j => .bl (f i j)) ta tb) σ G SomeB := (ed_IB ha hb).imp fun v H r => ⟨_, d_bl r⟩
/-- [.. for ..], each text by P -/
theorem en_lcP {wi : TI} {g : TG} {vs : List Nat} {T : Nat → RP} {n : Nat} (P : Str → Prop) (src : SrcI wi σ G n T) (hn : n ≤ 1000000)
    (turn : ∀ i G1 x, i < n → Same G G1 → T i x G1 → ∃ σ2, Tg g x (wipe σ vs) G1 σ2 ∧ wipe σ2 vs = wipe σ vs ∧ EvS te σ2 G1 (StrP P)) :
    EvN K (tLc wi g tYes te vs) σ G (fun ds => ∃ xs : List Str, ds = sds xs ∧ xs.length = n ∧ ∀ x ∈ xs, P x) := by
  refine en_lc (fun i acc => ∃ xs : List Str, acc = sds xs ∧ xs.length = i ∧ ∀ x ∈ xs, P x) src hn ⟨[], rfl, rfl, by simp⟩ (fun i acc ⟨xs, e, h, _⟩ => by rw [e, List.length_map]; exact Nat.le_of_eq h) fun i acc G1 x hi hI u hT => ?_
  obtain ⟨xs, rfl, hl, hp⟩ := hI
  obtain ⟨σ2, h1, h2, h3⟩ := turn i G1 x hi u hT
  refine ⟨σ2, h1, h2, fun b => b = true, et_yes, fun h => by simp at h, fun _ => h3.imp fun v H ⟨y, hy, e⟩ => ?_⟩
  subst e
  refine ⟨.str y, rfl, .str y, xs ++ [y], by simp, by simp [hl], fun z hz => ?_⟩
  rcases List.mem_append.mp hz with q | q
  · exact hp z q
  · have : z = y := by simpa using q
    rw [this]; exact hy
/-- a range up to a drawn number -/
theorem src_rangeLt {m : Nat} (hm : m ≤ 1000000) (h : EvS te σ G (LtR m)) (P : List PyData → Prop) (g : TG) (tw : TE) (vs : List Nat) (tt : TT)
    (body : ∀ n, n < m → ∀ G1, Same G G1 → EvN K (tLc (iRng1 (tCons (tC (.int (n : Nat))) tNil)) g tt tw vs) σ G1 P) : EvN K (tLc (iRng1 (tCons te tNil)) g tt tw vs) σ G P := fun G1 H u s Q k => by
  show te σ H _
  refine h G1 H u s _ fun v G2 H2 g2 ⟨n, hn, e⟩ => ?_
  subst e
  exact body n hn G2 (u.trans g2.up) G2 H2 (.refl _) g2.sub Q fun p vs ds G3 H3 g3 a b c d r => k p vs ds G3 H3 (g2.trans g3) (g2.keep.free a) b c d r
end
/-! ### texts joined -/
abbrev one (c : Nat) : Str := ⟨#[c]⟩
end KB

set_option Elab.async false
set_option linter.all false
set_option maxRecDepth 100000
set_option maxHeartbeats 4000000
/-! The law's defs: drawn names. -/
namespace KB
open PySem PySem.Spec PyProof.Rows L2
theorem cps_app (a b : Str) : (a ++ b).cps.toList = a.cps.toList ++ b.cps.toList := by
  show (a.cps ++ b.cps).toList = _
  simp
theorem join_cps : ∀ ys : List Str, (Txt.join ("" : Str) ys).cps.toList = (ys.map fun y => y.cps.toList).flatten := by
  have e0 : ("" : Str).cps.toList = [] := rfl
  intro ys
  rw [TL.join_eq]
  induction ys with
  | nil => rfl
  | cons x r ih =>
    cases r with
    | nil => show x.cps.toList = _; simp
    | cons y r =>
      show (x ++ ("" : Str) ++ Str.join ("" : Str) (y :: r)).cps.toList = _
      rw [cps_app, cps_app, e0, ih]
      simp
/-- letters -/
abbrev Ltr (c : Nat) : Prop := 97 ≤ c ∧ c ≤ 122
theorem letters_of : ∀ c ∈ ("abcdefghijklmnopqrstuvwxyz" : Str).cps.toList, Ltr c := by decide +kernel
theorem letters_len : ("abcdefghijklmnopqrstuvwxyz" : Str).cps.toList.length = 26 := by decide +kernel
theorem letters_get : ∀ i : Fin 26, ("abcdefghijklmnopqrstuvwxyz" : Str).cps.toList[i.1]? = some (97 + i.1) := by decide +kernel
/-- a drawn name: at its place a letter of its own -/
structure Nm (pl first k : Nat) (y : Str) : Prop where
  at' : y.cps.toList[pl]? = some (97 + (first + k) % 26)
  len : y.cps.toList.length ≤ 7
  ltr : ∀ c ∈ y.cps.toList, Ltr c
theorem Nm.ok {pl first k : Nat} {y : Str} (h : Nm pl first k y) : NameOk y ∧ y.cps.size ≤ 7 := by
  have h1 := (List.getElem?_eq_some_iff.mp h.at').1
  have h2 := h.len
  rw [Array.length_toList] at h1 h2
  exact ⟨⟨by omega, by omega, h.ltr⟩, h2⟩
theorem Nm.inj {pl first k j : Nat} {y : Str} (h : Nm pl first k y) (h2 : Nm pl first j y) (hk : k < 26) (hj : j < 26) : k = j := by
  have := h.at'.symm.trans h2.at'
  simp only [Option.some.injEq] at this
  omega
/-- short names -/
structure NamesD (m : Nat) (ys : List Str) : Prop where
  nd : ys.Nodup
  len : ys.length = m
  ok : ∀ y ∈ ys, NameOk y ∧ y.cps.size ≤ 7
theorem NamesD.perm {m : Nat} {xs ys : List Str} (h : NamesD m xs) (p : ys.Perm xs) : NamesD m ys := ⟨p.symm.nodup h.nd, p.length_eq.trans h.len, fun y hy => h.ok y (p.mem_iff.mp hy)⟩
theorem names_of_nm {pl first m : Nat} {ys : List Str} (hm : m ≤ 26) (hl : ys.length = m) (h : ∀ (k : Nat) (y : Str), ys[k]? = some y → Nm pl first k y) : NamesD m ys := by
  refine ⟨List.pairwise_iff_getElem.mpr fun i j hi hj hij e => ?_, hl, fun y hy => ?_⟩
  · have h1 := h i _ (List.getElem?_eq_getElem hi)
    have h2 := h j _ (List.getElem?_eq_getElem hj)
    rw [← e] at h2
    have := h1.inj h2 (by omega) (by omega)
    omega
  · obtain ⟨k, hk⟩ := List.mem_iff_getElem?.mp hy
    exact (h k y hk).ok
section
variable {K : PySem.W.Frag} {σ : L2.St} {G G2 H : Hp} {te ta tb tc : TE} {ds : List PyData} {tlo : TO} {lo : Option Int}
theorem e_addLt {a : Int} {n : Nat} (ha : EvS ta σ G (D K (.int a))) (hb : EvS tb σ G (LtR n)) : EvS (tOp (rI0 fun i j => .int (i + j)) ta tb) σ G (fun v _ => ∃ i : Int, v = .int i) :=
  e_op ha hb fun x y G1 _ rx ⟨j, hj, e⟩ H s Q k => by
    subst e
    cases d_int rx
    exact ⟨a, j, rfl, rfl, k _ G1 H (.refl s) ⟨_, rfl⟩⟩
theorem eo_any (h : EvS te σ G (fun v _ => ∃ i : Int, v = .int i)) (ha : EvS ta σ G (D K (.list ds))) (hl : EvO tlo σ G lo) : EvN K (tSl (rSlL K) ta tlo (tPart te)) σ G (fun x => ∃ hi, x = cutD ds lo (some hi)) := fun G0 H u s Q k =>
  ha G0 H u s _ fun v G1 H1 g1 r => hl G1 H1 (u.trans g1.up) g1.sub _ fun G2 H2 g2 => h G2 H2 ((u.trans g1.up).trans g2.up) g2.sub _ fun w G3 H3 g3 ⟨i, e⟩ => by
    subst e
    obtain ⟨a, vs, rfl, hq, hd⟩ := d_list (Dp.up (g2.up.trans g3.up) _ _ r)
    exact ⟨i, rfl, a, vs, rfl, g3.sub.seq hq, fun p hp => k p _ _ G3 _ (((g1.trans g2).trans g3).trans (Grow.cell g3.sub hp)) (((g1.keep.trans g2.keep).trans g3.keep).free hp) (g3.sub.free hp) upd_same (dp_cut hd) ⟨i, rfl⟩⟩
theorem e_join {xs : List Str} {d : PyData} (hd : SqD d (sds xs)) (ha : EvS ta σ G (D K (.str ""))) (hb : EvS tb σ G (D K d)) (hl : (xs.map (·.length)).sum ≤ 1000000) :
    EvS (tM1 (fun x xs H Q => ∃ a p, ∃ ys : List Str, x = .str a ∧ xs = [.ref p] ∧ (SqL K H p (ys.map V.str) ∨ SqT K H p (ys.map V.str)) ∧ (ys.map (·.length)).sum + ys.length * a.length ≤ 16777216 ∧ Q (.str (Txt.join a ys)) H) ta tb) σ G (D K (.str (Txt.join ("" : Str) xs))) := fun G0 H u s Q k =>
  ha G0 H u s _ fun v G1 H1 g1 r => ⟨⟨_, d_str r⟩, hb G1 H1 (u.trans g1.up) g1.sub _ fun w G2 H2 g2 r2 => by
    cases d_str r
    obtain ⟨p, vs, rfl, hq, hall⟩ := d_seq hd r2
    have e := dp_sds hall
    subst e
    refine ⟨_, p, xs, rfl, rfl, same_a g2.sub hq, ?_, k _ G2 H2 (g1.trans g2) (.str _)⟩
    have : ("" : Str).length = 0 := rfl
    rw [this]
    omega⟩
end
section
variable {P : Program} {w : World} {K : PySem.W.Frag} {mg : Str → Option Value} {base : Heap}
theorem flat_one (cs : List Nat) : ((cs.map one).map fun y => y.cps.toList).flatten = cs := by
  induction cs with
  | nil => rfl
  | cons c r ih => simp only [List.map_cons, List.flatten_cons, ih]; rfl
theorem sum_one (cs : List Nat) : ((cs.map one).map (·.length)).sum = cs.length := by
  induction cs with
  | nil => rfl
  | cons c r ih =>
    simp only [List.map_cons, List.sum_cons, List.length_cons, ih]
    have : (one c).length = 1 := rfl
    omega
theorem nm_of {cs : List Nat} {pl b c first k : Nat} (hc : c = 97 + (first + k) % 26) (hp : pl ≤ cs.length) (hl : cs.length ≤ 6) (hL : ∀ x ∈ cs, Ltr x) {sg : Str} (hs : sg.cps.toList = [c]) :
    Nm pl first k (Txt.join ("" : Str) ((cs.map one).take pl ++ [sg] ++ ((cs.map one).drop pl).take b)) := by
  have e : (Txt.join ("" : Str) ((cs.map one).take pl ++ [sg] ++ ((cs.map one).drop pl).take b)).cps.toList = cs.take pl ++ c :: (cs.drop pl).take b := by
    rw [join_cps, List.map_append, List.map_append, List.flatten_append, List.flatten_append, ← List.map_take, ← List.map_drop, ← List.map_take, flat_one, flat_one]
    simp [hs]
  have lt : (cs.take pl).length = pl := by rw [List.length_take]; omega
  refine ⟨?_, ?_, ?_⟩
  · rw [e, List.getElem?_append_right (by rw [lt]; exact Nat.le_refl _), lt, Nat.sub_self, hc]; rfl
  · rw [e, List.length_append, List.length_cons, lt, List.length_take, List.length_drop]; omega
  · rw [e]
    intro x hx
    rcases List.mem_append.mp hx with q | q
    · exact hL x (List.mem_of_mem_take q)
    · rcases List.mem_cons.mp q with q | q
      · rw [q, hc]; exact ⟨by omega, by omega⟩
      · exact hL x (List.mem_of_mem_drop (List.mem_of_mem_take q))
theorem cut_from {ds : List PyData} {k : Nat} (h : k ≤ ds.length) : cutD ds (some (k : Nat)) none = ds.drop k := by
  unfold cutD
  rw [HT.sIx_nat, HT.sIx_none, Nat.min_eq_left h, List.take_of_length_le (by rw [List.length_drop]; exact Nat.le_refl _)]
theorem cut_to {ds : List PyData} {k : Nat} : cutD ds none (some (k : Nat)) = ds.take k := by
  unfold cutD
  rw [HT.sIx_nat, HT.sIx_none, List.drop_zero, Nat.sub_zero]
  rcases Nat.le_total k ds.length with h | h
  · rw [Nat.min_eq_left h]
  · rw [Nat.min_eq_right h, List.take_of_length_le (Nat.le_refl _), List.take_of_length_le h]
theorem cut_mid {ds : List PyData} {k : Nat} {hi : Option Int} (h : k ≤ ds.length) : ∃ b, cutD ds (some (k : Nat)) hi = (ds.drop k).take b := by
  unfold cutD
  rw [HT.sIx_nat, Nat.min_eq_left h]
  exact ⟨_, rfl⟩
def sp__law_names (K : PySem.W.Frag) : Sp := SpG (Γ := Nat) (fun m => [HeapAt, D K (.int (m : Nat))]) (fun m => 1 ≤ m ∧ m ≤ 20) fun m v H => ∃ ys, NamesD m ys ∧ Dp K H v (.list (sds ys))
theorem cut_sds (xs : List Str) (lo hi : Option Int) : ∃ a b, cutD (sds xs) lo hi = sds ((xs.drop a).take b) := ⟨_, _, by unfold cutD sds; rw [List.map_take, List.map_drop]⟩
abbrev s__law_names : Stmt := top 48
abbrev N__law_names : List Str := ["_law_heap_here", "_law_many", "_law_letters", "_law_stem", "_law_turn", "_law_place", "_law_first", "_law_found", "_law_even", "_law_at", "_law_sign", "_law_rest"]
theorem sc__law_names : FnScope N__law_names ["_law_heap_here", "_law_many"] (defScope s__law_names) := ⟨rfl, rfl, rfl, by decide +kernel, rfl, by decide +kernel, by decide +kernel⟩
theorem ok__law_names {f : Addr} {fd : FuncData} (F : Fun K "_law_names" "_law_names" s__law_names f fd) (T : Txt mg) (c__law_pick : Cal P w K mg base CX0 2 "_law_pick" ["_law_heap_here", "_law_some_here"] (sp__law_pick K)) (c__law_draw : Cal P w K mg base CX0 1 "_law_draw" ["_law_heap_here", "_law_many"] (sp__law_draw K)) (c__law_mixed : Cal P w K mg base CX0 2 "_law_mixed" ["_law_heap_here", "_law_some_here"] (sp__law_mixed K)) : FnOk P w K mg base CX0 3 f fd ["_law_heap_here", "_law_many"] (sp__law_names K) := by
  refine F.ok sc__law_names (fun vs H Q E h => ?_) (fun cdv A outer s H vs Q E hr h => ?_)
  · obtain ⟨x, G, hs, ⟨v1, _, rfl, h1, v2, _, rfl, h2, rfl⟩, hp, k⟩ := h; rfl
  · obtain ⟨m, G, hs, ⟨v1, _, rfl, h1, v2, _, rfl, h2, rfl⟩, ⟨m1, m2⟩, k⟩ := h
    replace h1 : HeapAt v1 G := h1
    replace m1 : 1 ≤ m := m1
    replace m2 : m ≤ 20 := m2
    cases d_int h2
    have nd := sc__law_names.nd
    have hu := hu_of hr
    have hrU := hrU_of hr
    refine ⟨_, pss_cons (ps_n 2 nd (pe_str))
    (pss_cons (ps_setLc (i := 3) (own := [("_law_turn", 4)]) (by rfl) nd rfl rfl (sw_true rfl rfl rfl (by decide +kernel)) (pi_range1 (by rfl) T.m_range (pa_cons (pe_cal c__law_pick (hr.mono (by decide)) (by rfl) pass0 (pa_cons (pv 0) (pa_cons (pe_lst (pa_cons (pe_int) (pa_cons (pe_int) (pa_cons (pe_int) (pa_cons (pe_int) (pa_cons (pe_int) pa_nil)))))) pa_nil))) pa_nil)) (blkOk_by (by kernel_rfl)) (fun _ _ _ _ _ => (pg_n 4 nd)) (fun _ _ _ _ _ => pts_nil) (fun _ _ _ _ _ => (pe_cal c__law_pick (hr.mono (by decide)) (by rfl) pass0 (pa_cons (pv 0) (pa_cons (pv 2) pa_nil)))))
    (pss_cons (ps_par3 (i := 5) (j := 6) (l := 7) (by rfl) nd rfl rfl rfl (by decide) (by decide) (by decide) rfl rfl rfl (pa_cons (pe_cal c__law_draw (hr.mono (by decide)) (by rfl) pass0 (pa_cons (pv 0) (pa_cons (pe_op op_add (pe_callB (kLen K) (by rfl) T.m_len (by decide +kernel) (pa_cons (pv 3) pa_nil)) (pe_int)) pa_nil))) (pa_cons (pe_cal c__law_draw (hr.mono (by decide)) (by rfl) pass0 (pa_cons (pv 0) (pa_cons (pe_int) pa_nil))) (pa_cons (pe_lst pa_nil) pa_nil))) (by rfl))
    (pss_cons (ps_n 8 nd (pe_or (pe_cmpR op_gt (pv 1) (pe_int) (nomark _)) (pe_one (pe_cmpR op_eq (pe_cal c__law_draw (hr.mono (by decide)) (by rfl) pass0 (pa_cons (pv 0) (pa_cons (pe_int) pa_nil))) (pe_int) (nomark _)))))
    (pss_cons (ps_for PassesOwn.never rfl (pi_range1 (by rfl) T.m_range (pa_cons (pv 1) pa_nil)) (pg_n 9 nd)
      (pss_cons (ps_n 10 nd (pe_op op_add_str (pe_ix (kIx K) (pv 2) (pe_op op_mod (pe_callTy call_int1 (by rfl) T.m_int (by decide +kernel) (pa_cons (pe_op op_add (pv 6) (pv 9)) pa_nil)) (pe_int)) (fun _ _ => rfl)) (pe_ifExp (pt_cmpR op_lt (pv 9) (pe_int) (nomark _)) (pe_str) (pe_str))))
        (pss_cons (ps_n 11 nd (pe_ifExp (pt_val (pv 8)) (pe_slice (kSl K) (pv 3) (po_some (pv 5)) po_none) (pe_slice (kSl K) (pv 3) (po_some (pv 5)) (po_some (pe_op op_add (pv 5) (pe_cal c__law_draw (hr.mono (by decide)) (by rfl) pass0 (pa_cons (pv 0) (pa_cons (pe_int) pa_nil))))))))
        (pss_one (ps_expr (pe_bm PySem.F.plainAttrs_list PySem.F.slot_list_append PySem.F.type_list_append mt_append (pv 7) (pa_cons (pe_join (pe_str) (pe_op (kCat K) (pe_op (kCat K) (pe_slice (kSl K) (pv 3) po_none (po_some (pv 5))) (pe_lst (pa_cons (pv 10) pa_nil))) (pv 11))) pa_nil)))))))
    (pss_one (ps_ret (pe_cal c__law_mixed (hr.mono (by decide)) (by rfl) pass0 (pa_cons (pv 0) (pa_cons (pv 7) pa_nil))))))))), ?_⟩
    refine st (σ' := [some v1, some (V.int (m:Nat)), none, none, none, none, none, none, none, none, none, none]) rfl ?_
    have nz : ∀ {o : HO}, some o ≠ none := fun z => nomatch z
    refine q_asg hs (ed_str (K := K)) fun v G1 H1 g1 rv => ?_
    cases d_str rv
    refine st (σ' := [some v1, some (V.int (m:Nat)), some (V.str "abcdefghijklmnopqrstuvwxyz"), none, none, none, none, none, none, none, none, none]) rfl ?_
    replace h1 := stb g1.up h1
    have pk : ∀ {σ : L2.St}, σ[0]? = some (some v1) → EvS (tCall (sp__law_pick K) [] E0 (tCons (tVar 0) (tCons (tLst (tCons (tC (.int 0)) (tCons (tC (.int 0)) (tCons (tC (.int 1)) (tCons (tC (.int 3)) (tCons (tC (.int 6)) tNil)))))) tNil))) σ G1 (LtR 7) := fun e =>
      (e_pick (K := K) (e_var e h1) (en_lst (dd_cons ed_int (dd_cons ed_int (dd_cons ed_int (dd_cons ed_int (dd_cons ed_int dd_nil))))) (by decide)).d (by decide) (by decide)).imp fun v H ⟨d, hd, r⟩ => by
        simp only [itemsOf, List.mem_cons, List.not_mem_nil, or_false] at hd
        rcases hd with rfl | rfl | rfl | rfl | rfl
        · exact ⟨0, by decide, d_int r⟩
        · exact ⟨0, by decide, d_int r⟩
        · exact ⟨1, by decide, d_int r⟩
        · exact ⟨3, by decide, d_int r⟩
        · exact ⟨6, by decide, d_int r⟩
    refine q_asg g1.sub (src_rangeLt (K := K) (m := 7) (by decide) (pk rfl) (fun ds => ∃ xs : List Str, ds = sds xs ∧ xs.length ≤ 6 ∧ ∀ x ∈ xs, ∃ c, Ltr c ∧ x = one c) _ _ _ _ fun n hn G2 u2 => ?_).s fun v3 G2 H2 g2 r3 => ?_
    · refine (en_lcP (K := K) (fun x => ∃ c, Ltr c ∧ x = one c) (src_range (K := K) (n := n) (by omega) ed_int) (by omega) fun i G3 x hi u hx => ?_).imp fun ds ⟨xs, e, hl, h⟩ => ⟨xs, e, by omega, h⟩
      refine ⟨_, tg_name, rfl, (e_pick (K := K) (e_var rfl (stb (u2.trans u) h1)) (e_var rfl (.str _)) (by decide +kernel) (by decide +kernel)).imp fun v H ⟨d, hd, r⟩ => ?_⟩
      obtain ⟨c, hc, rfl⟩ := List.mem_map.mp hd
      exact ⟨one c, ⟨c, letters_of c hc, rfl⟩, d_str r⟩
    obtain ⟨_, ⟨stem, rfl, hst, hsc⟩, r3⟩ := r3
    refine st (σ' := [some v1, some (V.int (m:Nat)), some (V.str "abcdefghijklmnopqrstuvwxyz"), some v3, none, none, none, none, none, none, none, none]) rfl ?_
    replace h1 := stb g2.up h1
    have g02 := g1.trans g2
    clear pk g1
    obtain ⟨cs, rfl, hL⟩ : ∃ cs : List Nat, stem = cs.map one ∧ ∀ x ∈ cs, Ltr x := by
      clear r3 hst
      induction stem with
      | nil => exact ⟨[], rfl, by simp⟩
      | cons x r ih =>
        obtain ⟨cs, e, h⟩ := ih fun y hy => hsc y (List.mem_cons_of_mem _ hy)
        obtain ⟨c, hc, e2⟩ := hsc x List.mem_cons_self
        refine ⟨c :: cs, by rw [e, e2]; rfl, fun y hy => ?_⟩
        rcases List.mem_cons.mp hy with q | q
        · rw [q]; exact hc
        · exact h y q
    rw [List.length_map] at hst
    have hsl : (sds (cs.map one)).length = cs.length := by rw [List.length_map, List.length_map]
    refine (e_draw (K := K) (n := cs.length + 1) (e_var (i := 0) rfl h1) ((ed_I (ed_len (.l _) (e_var (i := 3) rfl r3)) ed_int).to (by rw [hsl]; congr 1)) (by omega) (by omega)) G2 H2 (.refl _) g2.sub _ fun a G3 H3 g3 ⟨pl, hpl, ea⟩ => ?_
    subst ea
    refine (e_draw (K := K) (n := 26) (e_var (i := 0) rfl (stb g3.up h1)) ed_int (by omega) (by omega)) G3 H3 (.refl _) g3.sub _ fun b G4 H4 g4 ⟨fi, hfi, eb⟩ => ⟨Nat.zero_le _, fun fo hfo => ⟨_, _, _, rfl, ?_⟩⟩
    subst eb
    have g5 : Grow G4 H4 G4 (upd H4 fo (.lst [])) := Grow.cell g4.sub hfo
    have g05 := ((g02.trans g3).trans g4).trans g5
    have hf0 : H fo = none := ((g02.trans g3).trans g4).keep.free hfo
    have gf5 : G4 fo = none := g4.sub.free hfo
    have cf5 : upd H4 fo (.lst []) fo = some (.lst []) := upd_same
    replace h1 := stb (g3.up.trans g4.up) h1
    replace r3 := Dp.up (g3.up.trans g4.up) _ _ r3
    generalize upd H4 fo (.lst []) = H5 at *
    clear g02 g2 g3 g4
    refine st (σ' := [some v1, some (V.int (m:Nat)), some (V.str "abcdefghijklmnopqrstuvwxyz"), some v3, none, some (V.int (pl:Nat)), some (V.int (fi:Nat)), some (V.ref fo), none, none, none, none]) rfl ?_
    refine q_asg g5.sub (e_orB (e_bI (K := K) (f := fun i j => decide (j < i)) (e_var rfl (.int (m : Nat))) ed_int) (e_ltEq (e_draw (K := K) (n := 2) (e_var rfl h1) ed_int (by omega) (by omega)))) fun v8 G6 H6 g6 ⟨b8, e8⟩ => ?_
    subst e8
    refine st (σ' := [some v1, some (V.int (m:Nat)), some (V.str "abcdefghijklmnopqrstuvwxyz"), some v3, none, some (V.int (pl:Nat)), some (V.int (fi:Nat)), some (V.ref fo), some (V.bl b8), none, none, none]) rfl ?_
    have g06 := g05.trans g6
    have cf6 := g6.keep _ _ cf5
    have gf6 := g6.off fo (by rw [cf5]; exact nz) gf5
    replace h1 := stb g6.up h1
    replace r3 := Dp.up g6.up _ _ r3
    clear g5 g05
    refine q_for g6.sub (src_range (K := K) (n := m) (by omega) (e_var rfl (.int (m : Nat)))) (fun i σ G' H' => Grow G H G' H' ∧ G' fo = none ∧ ∃ (ys : List Str) (a9 a10 a11 : Option V), ys.length = i ∧ (∀ (k : Nat) (y : Str), ys[k]? = some y → Nm pl fi k y) ∧ H' fo = some (.lst (ys.map V.str)) ∧
        σ = [some v1, some (.int (m : Nat)), some (.str "abcdefghijklmnopqrstuvwxyz"), some v3, none, some (.int (pl : Nat)), some (.int (fi : Nat)), some (.ref fo), some (.bl b8), a9, a10, a11])
      (fun G7 H7 g7 => ⟨g06.trans g7, g7.off fo (by rw [cf6]; exact nz) gf6, [], _, _, _, rfl, fun k y e => by simp at e, g7.keep _ _ cf6, rfl⟩) ?_ ?_
    · rintro i σ' G' H' y G7 H7 hi sg sh ⟨gr, gf, ys, a9, a10, a11, hl, hnm, cf, rfl⟩ g7 hy
      cases d_int hy
      refine ⟨_, tg_name, ?_⟩
      refine st (σ' := [some v1, some (V.int (m:Nat)), some (V.str "abcdefghijklmnopqrstuvwxyz"), some v3, none, some (V.int (pl:Nat)), some (V.int (fi:Nat)), some (V.ref fo), some (V.bl b8), some (V.int (i:Nat)), a10, a11]) rfl ?_
      have h1' := stb (sg.trans g7.up) h1
      have r3' := Dp.up (sg.trans g7.up) _ _ r3
      have cf7 := g7.keep _ _ cf
      have gf7 := g7.off fo (by rw [cf]; exact nz) gf
      have gr7 := gr.trans g7
      have hat : atI ("abcdefghijklmnopqrstuvwxyz" : Str).cps.toList (((fi : Int) + (i : Int)) % 26) = some (97 + (fi + i) % 26) := by
        unfold atI
        rw [ixN_of (j := (fi + i) % 26) (.inl ⟨by push_cast; rfl, by rw [letters_len]; omega⟩)]
        exact letters_get ⟨(fi + i) % 26, by omega⟩
      refine q_asg g7.sub (ed_addS (K := K) (ed_ixS (e_var rfl (.str _)) (ed_IC (ed_int1 (fun H Q q => .inl ⟨_, rfl, q⟩) (ed_I (e_var rfl (.int (fi : Nat))) (e_var rfl (.int (i : Nat))))) ed_int (by decide)) (by decide +kernel) hat)
        (e_if (b := true) ((et_T (ed_IB (K := K) (f := fun i j => decide (i < j)) (e_var rfl (.int (i : Nat))) ed_int)).to (decide_eq_true (by omega))) (fun _ => ed_str (i := "")) (fun z => by cases z)) (by show 1 + 0 ≤ sizeLine; decide)) fun v10 G8 H8 g8 r10 => ?_
      cases d_str r10
      generalize hsg : (one (97 + (fi + i) % 26) ++ ("" : Str)) = sg10 at *
      have hsgc : sg10.cps.toList = [97 + (fi + i) % 26] := by rw [← hsg, cps_app]; rfl
      refine st (σ' := [some v1, some (V.int (m:Nat)), some (V.str "abcdefghijklmnopqrstuvwxyz"), some v3, none, some (V.int (pl:Nat)), some (V.int (fi:Nat)), some (V.ref fo), some (V.bl b8), some (V.int (i:Nat)), some (V.str sg10), a11]) rfl ?_
      replace h1' := stb g8.up h1'
      replace r3' := Dp.up g8.up _ _ r3'
      refine q_asg g8.sub (R := fun v H => ∃ b, Dp K H v (.list (sds (((cs.map one).drop pl).take b)))) (e_ifP (p := fun _ => True) (fun G1 H1 u s Q k => ⟨_, rfl, _, rfl, k _ G1 H1 (.refl s) trivial⟩) (fun _ => ?_) (fun _ => ?_)) fun v11 G9 H9 g9 ⟨bb, r11⟩ => ?_
      · refine (en_sl (K := K) (e_var rfl r3') (eo_some (K := K) (e_var rfl (.int (pl : Nat)))) eo_none).s.imp fun v H ⟨ds, e, r⟩ => ⟨cs.length, ?_⟩
        subst e
        rw [cut_from (by rw [hsl]; omega)] at r
        rw [List.take_of_length_le (by rw [List.length_drop, List.length_map]; omega)]
        show Dp K H v (.list (((cs.map one).drop pl).map PyData.str))
        rw [List.map_drop]
        exact r
      · refine (eo_any (K := K) (ds := sds (cs.map one)) (lo := some (pl : Nat)) (e_addLt (K := K) (e_var rfl (.int (pl : Nat))) (e_draw (K := K) (n := 3) (e_var (i := 0) rfl h1') ed_int (by omega) (by omega))) (e_var rfl r3') (eo_some (K := K) (e_var rfl (.int (pl : Nat))))).s.imp fun v H ⟨ds, ⟨hi, e⟩, r⟩ => ?_
        obtain ⟨b, eb⟩ := cut_mid (ds := sds (cs.map one)) (k := pl) (hi := some hi) (by rw [hsl]; omega)
        rw [e, eb] at r
        refine ⟨b, ?_⟩
        unfold sds
        rw [List.map_take, List.map_drop]
        exact r
      refine st (σ' := [some v1, some (V.int (m:Nat)), some (V.str "abcdefghijklmnopqrstuvwxyz"), some v3, none, some (V.int (pl:Nat)), some (V.int (fi:Nat)), some (V.ref fo), some (V.bl b8), some (V.int (i:Nat)), some (V.str sg10), some v11]) rfl ?_
      have r3'' := Dp.up g9.up _ _ r3'
      have g79 := g8.trans g9
      have sm : ∀ (b : Nat), ((((cs.map one).take pl ++ [sg10] ++ ((cs.map one).drop pl).take b)).map (·.length)).sum ≤ 1000000 := fun b => by
        rw [List.map_append, List.map_append, List.sum_append, List.sum_append, ← List.map_take, ← List.map_drop, ← List.map_take, sum_one, sum_one, List.length_take, List.length_take, List.length_drop]
        have : sg10.length = 1 := by show sg10.cps.size = 1; rw [← Array.length_toList, hsgc]; rfl
        simp only [List.map_cons, List.map_nil, List.sum_cons, List.sum_nil, this]
        omega
      refine s_app (K := K) g9.sub rfl (g79.keep _ _ cf7) (g79.off fo (by rw [cf7]; exact nz) gf7) (by rw [List.length_map]; omega) (e_join (K := K) (xs := (cs.map one).take pl ++ [sg10] ++ ((cs.map one).drop pl).take bb) (.l _) ed_str
        ((en_cat (en_cat (en_sl (e_var rfl r3'') eo_none (eo_some (K := K) (e_var rfl (.int (pl : Nat))))).d (en_lst (dd_cons (e_var rfl (.str sg10)) dd_nil) (by simp)).d (by rw [cut_to, List.length_take, hsl]; simp; omega)).d (e_var rfl r11) (by rw [cut_to, List.length_append, List.length_take, hsl, List.length_map, List.length_take, List.length_drop, List.length_map]; simp; omega)).d.to (by rw [cut_to]; unfold sds; rw [List.map_append, List.map_append, ← List.map_take]; rfl)) (sm bb)) fun v G10 H10 w10 rv => ?_
      cases d_str rv
      refine ⟨G10, (g7.trans g79).up.trans w10.up, w10.sub, (gr7.trans g79).cellwr hf0 w10, w10.cell, ys ++ [_], _, _, _, by simp [hl], fun k y e => ?_, by rw [w10.at, List.map_append]; rfl, rfl⟩
      by_cases q : k < ys.length
      · rw [List.getElem?_append_left q] at e
        exact hnm k y e
      · have hk : k = i := by
          have := (List.getElem?_eq_some_iff.mp e).1
          simp at this
          omega
        subst hk
        rw [List.getElem?_append_right (by omega), hl, Nat.sub_self] at e
        have : y = Txt.join ("" : Str) ((cs.map one).take pl ++ [sg10] ++ ((cs.map one).drop pl).take bb) := by simpa using e.symm
        rw [this]
        exact nm_of rfl (by omega) hst hL hsgc
    · rintro σ' G' H' sg sh ⟨gr, gf, ys, a9, a10, a11, hl, hnm, cf, rfl⟩
      have g9 := gr.addcell hf0 gf cf
      have nd := names_of_nm (by omega) hl hnm
      refine s_ret g9.sub (R := fun v H => ∃ ys, NamesD m ys ∧ Dp K H v (.list (sds ys))) ((e_mixed (xs := ys) (e_var (i := 0) rfl (stb ((Same.trans sg (Same.new gf))) h1)) (e_var rfl (.lst (SqL.of upd_same) (sds_dp ys))) (by omega)).imp fun v H ⟨zs, p, r⟩ => ⟨zs, nd.perm p, r⟩) fun v G2 H2 g2 => k v G2 H2 (g9.trans g2)
end
end KB

set_option Elab.async false
set_option linter.all false
set_option maxRecDepth 100000
set_option maxHeartbeats 4000000
/-! The law's defs: what lies under what. -/
namespace KB
open PySem PySem.Spec PyProof.Rows L2
/-- all but dicts are as they were -/
def SameD (H H' : Hp) : Prop := ∀ b o, H b = some o → (∀ kvs, o ≠ .dK kvs) → H' b = some o
theorem sameD_rd {H H' : Hp} {a : Addr} {u : HO} (e : SameD H H') (n : ∀ kvs, u ≠ .dK kvs) (h : Rd H a u) : Rd H' a u := by
  rcases h with h | ⟨o, h⟩
  · exact .inl (e _ _ h n)
  · exact .inr ⟨o, e _ _ h fun _ z => nomatch z⟩
theorem sameD_l {K : PySem.W.Frag} {H H' : Hp} {a : Addr} {xs : List V} (e : SameD H H') (h : SqL K H a xs) : SqL K H' a xs := by
  rcases h with h | h
  · exact .inl (sameD_rd e (fun _ z => nomatch z) h)
  · exact .inr h
theorem sameD_t {K : PySem.W.Frag} {H H' : Hp} {a : Addr} {xs : List V} (e : SameD H H') (h : SqT K H a xs) : SqT K H' a xs := by
  rcases h with h | h
  · exact .inl (sameD_rd e (fun _ z => nomatch z) h)
  · exact .inr h
mutual
theorem Dp.nd {K : PySem.W.Frag} {H H' : Hp} (e : SameD H H') : ∀ (d : PyData) (v : V), Dp K H v d → Dp K H' v d
  | .none, _, h => by cases h; exact .non
  | .bool b, _, h => by cases h; exact .bl b
  | .int i, _, h => by cases h; exact .int i
  | .str x, _, h => by cases h; exact .str x
  | .list ds, _, h => by
    cases h with
    | lst a b => exact .lst (sameD_l e a) (DpAll.nd e ds _ b)
  | .tuple ds, _, h => by
    cases h with
    | tup a b => exact .tup (sameD_t e a) (DpAll.nd e ds _ b)
  | .dict _, _, h => by cases h
theorem DpAll.nd {K : PySem.W.Frag} {H H' : Hp} (e : SameD H H') : ∀ (ds : List PyData) (vs : List V), DpAll K H vs ds → DpAll K H' vs ds
  | [], _, h => by cases h; exact .nil
  | d :: ds, _, h => by
    cases h with
    | cons a b => exact .cons (Dp.nd e d _ a) (DpAll.nd e ds _ b)
end
theorem sameD_hid {G : Hp} {l : Addr} {kvs : List (Key × V)} (h : G l = some (.dK kvs)) : SameD G (hid l G) := fun b o e n => by
  have q : b ≠ l := fun q => by subst q; rw [h] at e; cases e; exact n _ rfl
  rw [hid_ne q]; exact e
theorem SameD.trans {A B C : Hp} (h : SameD A B) (h2 : SameD B C) : SameD A C := fun b o e n => h2 b o (h b o e n) n
def UL (ns : List Note) (i : Nat) (L : Str → List Str) : Prop := ∀ y ∈ nms (ns.take i), (L y).Nodup ∧ ∀ x, x ∈ L y ↔ Und ns x y
abbrev ulF (ns : List Note) (L : Str → List Str) : List (Str × PyData) := ns.map fun n => (n.1, .list (sds (L n.1)))
/-- a dict, not locked -/
def DTm (K : PySem.W.Frag) (f : List (Str × PyData)) : RP := fun v H => ∃ a kvs, v = .ref a ∧ H a = some (.dK kvs) ∧ KvD K H kvs f
instance {K : PySem.W.Frag} {f : List (Str × PyData)} : Stb (DTm K f) := ⟨fun u ⟨a, kvs, e, h1, h2⟩ => ⟨a, kvs, e, u _ _ h1, h2.up u⟩⟩
theorem DTm.dt {K : PySem.W.Frag} {f : List (Str × PyData)} {v : V} {H : Hp} (h : DTm K f v H) : DT K f v H := by
  obtain ⟨a, kvs, e, h1, h2⟩ := h
  exact ⟨a, kvs, e, .inl h1, h2⟩
/-- a dict that tells what lies under each note -/
def UndD (K : PySem.W.Frag) (ns : List Note) : RP := fun v H => ∃ L, UL ns ns.length L ∧ DTm K (ulF ns L) v H
instance {K : PySem.W.Frag} {ns : List Note} : Stb (UndD K ns) := ⟨fun u ⟨L, h, r⟩ => ⟨L, h, stb u r⟩⟩
def LastD (ns : List Note) (i : Nat) (f : List (Str × PyData)) : Prop := ∀ h : Str, f.lookup h = if lastL (row (ns.take i) h) = [] then none else some (.list (sds (lastL (row (ns.take i) h))))
theorem lastD_step {ns : List Note} {i : Nat} {f : List (Str × PyData)} {n : Note} (h : LastD ns i f) (hn : ns[i]? = some n) : LastD ns (i + 1) (putS f n.2.1 (.list (sds [n.1]))) := fun hd => by
  rw [lookup_putS, take_snoc hn, row_app, row_one]
  by_cases q : hd = n.2.1
  · subst q
    rw [if_pos rfl, if_pos rfl, lastL_snoc, if_neg (by simp)]
  · rw [if_neg q, if_neg (Ne.symm q), List.append_nil]
    exact h hd
theorem und_pre {ns : List Note} (t : Told ns) {i : Nat} {n : Note} (hn : ns[i]? = some n) {z : Str} (hz : z ∈ ahead ns n.1) : z ∈ nms (ns.take i) := by
  have a := ahead_mem t (y := n.1) (List.mem_map.mpr ⟨n, mem_of_get hn, rfl⟩) hz
  have e2 : (nms ns).idxOf n.1 = i := by
    have l1 := idx_lt (List.mem_map.mpr ⟨n, mem_of_get hn, rfl⟩ : n.1 ∈ nms ns)
    have l2 : (nms ns)[(nms ns).idxOf n.1]? = some n.1 := by rw [List.getElem?_eq_getElem l1]; simp
    exact nodup_get t.nodup l2 (nms_get hn)
  have l1 := idx_lt a.1
  have l2 : (nms ns)[(nms ns).idxOf z]? = some z := by rw [List.getElem?_eq_getElem l1]; simp
  rw [nms_take]
  refine List.mem_of_getElem? (i := (nms ns).idxOf z) ?_
  rw [List.getElem?_take, if_pos (by omega), l2]
section
variable {K : PySem.W.Frag} {σ : L2.St} {G G2 H : Hp} {tz : TS} {En : Ends} {td ty tx : TE} {R : RP}
theorem ed_dget2S {f : List (Str × PyData)} {x : Str} {d : PyData} (ha : EvS td σ G (DT K f)) (hb : EvS ty σ G (D K (.str x))) (hx : EvS tx σ G R) (hl : f.lookup x = some d) : EvS (tDGet2 td ty tx) σ G (D K d) := fun G0 H u s Q k =>
  ha G0 H u s _ fun v G1 H1 g1 r => by
    obtain ⟨a, kvs, rfl, hr, hk⟩ := r
    refine ⟨a, rfl, .inl ⟨kvs, same_rd g1.sub hr⟩, hb G1 H1 (u.trans g1.up) g1.sub _ fun y G2 H2 g2 ry => ?_⟩
    cases d_str ry
    refine hx G2 H2 ((u.trans g1.up).trans g2.up) g2.sub _ fun z G3 H3 g3 rz => ?_
    refine ⟨_, .inl ⟨kvs, .inr x, same_rd ((g1.sub.trans g2.keep).trans g3.keep) hr, rfl, rfl⟩, ?_⟩
    obtain ⟨w, e1, e2⟩ := hk.get.1 d hl
    rw [e1]
    exact k _ G3 H3 ((g1.trans g2).trans g3) (Dp.up (g2.up.trans g3.up) _ _ e2)
theorem q_par2d {i j : Nat} (s : Same G H) (k : ∀ p q H2, Grow G H G H2 → p ≠ q → H p = none → H q = none → G p = none → G q = none → H2 p = some (.dK []) → H2 q = some (.dK []) → tz En ((σ.set i (some (.ref p))).set j (some (.ref q))) H2) :
    tSeq (tPar i j (tCons tDNewK (tCons tDNewK tNil))) tz En σ H := by
  intro p hp q hq
  refine ⟨_, _, rfl, ?_⟩
  have npq : q ≠ p := fun e => by subst e; rw [upd_same] at hq; cases hq
  have hq' : H q = none := by rw [upd_ne npq] at hq; exact hq
  have g1 : Grow G H G (upd H p (.dK [])) := Grow.cell s hp
  have g2 : Grow G (upd H p (.dK [])) G (upd (upd H p (.dK [])) q (.dK [])) := Grow.cell g1.sub hq
  exact k p q _ (g1.trans g2) npq.symm hp hq' (s.free hp) (s.free hq') (by rw [upd_ne npq.symm, upd_same]) upd_same
end
section
variable {P : Program} {w : World} {K : PySem.W.Frag} {mg : Str → Option Value} {base : Heap}
def sp__law_unders (K : PySem.W.Frag) : Sp := SpG (Γ := List Note) (fun ns => [D K (.list (dNotes ns))]) (fun ns => Told ns ∧ ns.length ≤ 40 ∧ ∀ n ∈ ns, n.2.2.length ≤ 1000) fun ns => UndD K ns
abbrev s__law_unders : Stmt := top 49
abbrev N__law_unders : List Str := ["_law_notes_here", "_law_found", "_law_lasts", "_law_name", "_law_hand", "_law_waits", "_law_below", "_law_other_here", "_law_one"]
theorem sc__law_unders : FnScope N__law_unders ["_law_notes_here"] (defScope s__law_unders) := ⟨rfl, rfl, rfl, by decide +kernel, rfl, by decide +kernel, by decide +kernel⟩
theorem ok__law_unders {f : Addr} {fd : FuncData} (F : Fun K "_law_unders" "_law_unders" s__law_unders f fd) (T : Txt mg)  : FnOk P w K mg base CX0 1 f fd ["_law_notes_here"] (sp__law_unders K) := by
  refine F.ok sc__law_unders (fun vs H Q E h => ?_) (fun cdv A outer s H vs Q E hr h => ?_)
  · obtain ⟨x, G, hs, ⟨v1, _, rfl, h1, rfl⟩, hp, k⟩ := h; rfl
  · obtain ⟨ns, G, hs, ⟨v1, _, rfl, h1, rfl⟩, ⟨ht, hln, hwl⟩, k⟩ := h
    replace h1 : Dp K G v1 (.list (dNotes ns)) := h1
    replace ht : Told ns := ht
    replace hln : ns.length ≤ 40 := hln
    replace hwl : ∀ n ∈ ns, n.2.2.length ≤ 1000 := hwl
    have nd := sc__law_unders.nd
    have hu := hu_of hr
    have hrU := hrU_of hr
    refine ⟨_, pss_cons (ps_par (i := 1) (j := 2) (by rfl) nd rfl rfl (by decide) rfl rfl (pa_cons (pe_dnewK) (pa_cons (pe_dnewK) pa_nil)) (by rfl))
    (pss_cons (ps_for PassesOwn.never rfl (kSeq K (pv 0)) (kTg K 3 rfl (pgs_cons (pg_n 3 nd) (pgs_cons (pg_n 4 nd) (pgs_cons (pg_n 5 nd) pgs_nil))))
      (pss_cons (ps_n 6 nd (pe_lst (pa_cons (pv 3) pa_nil)))
        (pss_cons (ps_for PassesOwn.never rfl (kSeq K (pe_op (kCat K) (pe_callTy (kLst K) (by rfl) T.m_list (by decide +kernel) (pa_cons (pv 5) pa_nil)) (pe_dget2 hu (pv 2) (pv 4) (pe_lst pa_nil) m2))) (pg_n 7 nd)
          (pss_one (ps_n 6 nd (pe_op (kCat K) (pv 6) (pe_lc (own := [("_law_one", 8)]) (by rfl) nd (kSeq K (pe_dget hu (pv 1) (pv 7) (fun _ _ => rfl))) (blkOk_by (by kernel_rfl)) (fun _ _ _ _ _ => (pg_n 8 nd)) (fun _ _ _ _ _ => (pts_one (pt_cmpR (kNi K) (pv 8) (pv 6) (by rfl)))) (fun _ _ _ _ _ => (pv 8)))))))
        (pss_cons (ps_dput hu (pv 1) (pv 3) (pv 6) rfl)
        (pss_one (ps_dput hu (pv 2) (pv 4) (pe_lst (pa_cons (pv 3) pa_nil)) rfl))))))
    (pss_one (ps_ret (pv 1)))), ?_⟩
    refine st (σ' := [some v1, none, none, none, none, none, none, none, none]) rfl ?_
    have nz : ∀ {o : HO}, some o ≠ none := fun z => nomatch z
    have nd2 := ht.nodup
    have hl : (dNotes ns).length = ns.length := List.length_map _
    refine q_par2d hs fun fo la H1 g1 nfl hf0 hl0 gf1 gl1 cf1 cl1 => ?_
    refine st (σ' := [some v1, some (V.ref fo), some (V.ref la), none, none, none, none, none, none]) rfl ?_
    refine q_for g1.sub (src_seq (.l _) (e_var rfl h1)) (fun i σ G' H' => Grow G H G' H' ∧ G' fo = none ∧ G' la = none ∧ ∃ (L : Str → List Str) (kf kl : List (Key × V)) (fl : List (Str × PyData)) (a3 a4 a5 a6 a7 : Option V),
        H' fo = some (.dK kf) ∧ KvD K G' kf (ulF (ns.take i) L) ∧ UL ns i L ∧ H' la = some (.dK kl) ∧ KvD K G' kl fl ∧ LastD ns i fl ∧ fl.length ≤ i ∧ σ = [some v1, some (.ref fo), some (.ref la), a3, a4, a5, a6, a7, none])
      (fun G2 H2 g2 => ⟨g1.trans g2, g2.off _ (by rw [cf1]; exact nz) gf1, g2.off _ (by rw [cl1]; exact nz) gl1, fun _ => [], [], [], [], _, _, _, _, _, g2.keep _ _ cf1, .nil, fun y hy => by simp at hy, g2.keep _ _ cl1, .nil, fun h => rfl, Nat.le_refl _, rfl⟩) ?_ ?_
    · rintro i σ' G' H' y G5 H5 hi sg sh ⟨gr, gf, gl, L, kf, kl, fl, a3, a4, a5, a6, a7, cf, kdf, hUL, cl, kdl, hLd, hfl, rfl⟩ g5 ⟨e, he, hy⟩
      obtain ⟨n, hn, rfl⟩ := dN_get he
      obtain ⟨u1, u2, u3, r1, r2, r3, htg⟩ := tg_3 hy
      cases r1
      cases r2
      refine ⟨_, htg _ _ _ _ tg_name tg_name tg_name, ?_⟩
      refine st (σ' := [some v1, some (V.ref fo), some (V.ref la), some (V.str n.1), some (V.str n.2.1), some u3, a6, a7, none]) rfl ?_
      have cf5 := g5.keep _ _ cf
      have cl5 := g5.keep _ _ cl
      have gf5 := g5.off _ (by rw [cf]; exact nz) gf
      have gl5 := g5.off _ (by rw [cl]; exact nz) gl
      have kdf5 := kdf.up g5.up
      have kdl5 := kdl.up g5.up
      have gr5 := gr.trans g5
      have hy2 : n.1 ∈ nms ns := List.mem_map.mpr ⟨n, mem_of_get hn, rfl⟩
      have ea : wts ns n.1 = n.2.2 := wts_at nd2 hn
      have ep : prv ns n.1 = lastL (row (ns.take i) n.2.1) := prv_at nd2 hn
      have sub40 : ∀ {bl : List Str}, bl.Nodup → (∀ x ∈ bl, x ∈ nms ns) → bl.length ≤ 40 := fun a b => by
        have := nodup_sub_len a b
        rw [List.length_map] at this
        omega
      -- both dicts frozen for a while
      have u1f : Same G5 (upd G5 fo (.dK kf)) := Same.new gf5
      have s1f := same_with g5.sub cf5
      have gl5' : upd G5 fo (.dK kf) la = none := by rw [upd_ne nfl.symm]; exact gl5
      have u2f : Same (upd G5 fo (.dK kf)) (upd (upd G5 fo (.dK kf)) la (.dK kl)) := Same.new gl5'
      have s2f := same_with s1f cl5
      have hfo : DT K (ulF (ns.take i) L) (.ref fo) (upd (upd G5 fo (.dK kf)) la (.dK kl)) := ⟨fo, kf, rfl, .inl (by rw [upd_ne nfl, upd_same]), kdf5.up (u1f.trans u2f)⟩
      have hla : DT K fl (.ref la) (upd (upd G5 fo (.dK kf)) la (.dK kl)) := ⟨la, kl, rfl, .inl upd_same, kdl5.up (u1f.trans u2f)⟩
      have r3' := Dp.up (u1f.trans u2f) _ _ r3
      have thaw : ∀ {Gz Hz : Hp}, Grow (upd (upd G5 fo (.dK kf)) la (.dK kl)) H5 Gz Hz → Grow G5 H5 (hid fo (hid la Gz)) Hz ∧ SameD Gz (hid fo (hid la Gz)) := fun {Gz Hz} g => by
        have t1 := g.thaw gl5' cl5
        have t2 := t1.thaw gf5 cf5
        have z1 : Gz la = some (.dK kl) := g.up _ _ upd_same
        have z2 : hid la Gz fo = some (.dK kf) := by rw [hid_ne nfl]; exact g.up _ _ (by rw [upd_ne nfl, upd_same])
        exact ⟨t2, (sameD_hid z1).trans (sameD_hid z2)⟩
      generalize upd (upd G5 fo (.dK kf)) la (.dK kl) = Gp at *
      refine q_asg s2f (en_lst (K := K) (dd_cons (e_var rfl (.str n.1)) dd_nil) (by simp)).d fun v6 G6 H6 g6 r6 => ?_
      refine st (σ' := [some v1, some (V.ref fo), some (V.ref la), some (V.str n.1), some (V.str n.2.1), some u3, some v6, a7, none]) rfl ?_
      have evw : EvS (tCB (rLstOf K) (tCons (tVar 5) tNil)) [some v1, some (.ref fo), some (.ref la), some (.str n.1), some (.str n.2.1), some u3, some v6, a7, none] G6 (D K (.list (sds n.2.2))) := (en_lstOf (.t _) (e_var rfl (Dp.up g6.up _ _ r3'))).d
      have evl : EvS (tDGet2 (tVar 2) (tVar 4) (tLst tNil)) [some v1, some (.ref fo), some (.ref la), some (.str n.1), some (.str n.2.1), some u3, some v6, a7, none] G6 (D K (.list (sds (prv ns n.1)))) := by
        have hq := hLd n.2.1
        rw [ep]
        by_cases q : lastL (row (ns.take i) n.2.1) = []
        · rw [if_pos q] at hq
          rw [q]
          exact e_dget2 (K := K) (f := fl) (x := n.2.1) (e_var rfl (stb g6.up hla)) (e_var rfl (.str n.2.1)) ed_nil (fun d v H e r => by rw [hq] at e; cases e) (.inl hq)
        · rw [if_neg q] at hq
          exact ed_dget2S (K := K) (f := fl) (x := n.2.1) (e_var rfl (stb g6.up hla)) (e_var rfl (.str n.2.1)) (ed_nil (K := K)) hq
      have hll : n.2.2.length ≤ 1000 ∧ (prv ns n.1).length ≤ 1 := by
        refine ⟨hwl n (mem_of_get hn), ?_⟩
        rw [ep]
        unfold lastL
        cases (row (ns.take i) n.2.1).getLast? <;> simp
      refine q_for g6.sub (src_seq (.l (sds (ahead ns n.1))) ((en_cat evw evl (by rw [List.length_map, List.length_map]; omega)).d.to (by unfold ahead sds; rw [ea, List.map_append]))) (fun m σ Gz Hz => Grow Gp H5 Gz Hz ∧ ∃ (bl : List Str) (vb : V) (a7 : Option V), Dp K Gz vb (.list (sds bl)) ∧ bl.Nodup ∧ (∀ x, x ∈ bl ↔ x = n.1 ∨ ∃ z ∈ (ahead ns n.1).take m, Und ns x z) ∧
          σ = [some v1, some (.ref fo), some (.ref la), some (.str n.1), some (.str n.2.1), some u3, some vb, a7, none]) (fun G7 H7 g7 => ⟨g6.trans g7, [n.1], v6, _, Dp.up g7.up _ _ r6, by simp, fun x => by simp, rfl⟩) ?_ ?_
      · rintro m σ' Gz Hz y2 G7 H7 hm sgz shz ⟨grz, bl, vb, a7', rb, bnd, bmem, rfl⟩ g7 ⟨e, he, hy2'⟩
        obtain ⟨z, hz, rfl⟩ := sds_get he
        cases hy2'
        refine ⟨_, tg_name, ?_⟩
        refine st (σ' := [some v1, some (V.ref fo), some (V.ref la), some (V.str n.1), some (V.str n.2.1), some u3, some vb, some (V.str z), none]) rfl ?_
        have zm := mem_of_get hz
        have zp := und_pre ht hn zm
        obtain ⟨n2, e1, e2, e3, e4⟩ := lookup_notes (g := fun n => .list (sds (L n.1))) zp
        have grz7 := grz.trans g7
        obtain ⟨Ln, Lm⟩ := hUL z zp
        have bin : ∀ x ∈ bl, x ∈ nms ns := fun x hx => by
          rcases (bmem x).mp hx with q | ⟨z', _, u⟩
          · rw [q]; exact hy2
          · exact (u.mem ht).1
        have l1 := sub40 bnd bin
        have l2 := sub40 Ln fun x hx => (((Lm x).mp hx).mem ht).1
        have rb7 := Dp.up g7.up _ _ rb
        refine s_asg g7.sub (en_cat (e_var rfl rb7) (en_filt (K := K) (xs := L z) (fun x => !decide (x ∈ bl)) (.l _) ((ed_dget (f := ulF (ns.take i) L) (e_var rfl (stb grz7.up hfo)) (e_var rfl (.str z)) e4).to (by rw [e2])) (by omega) (by simp) fun x G8 hx u8 => et_T (ed_niIn (.l (sds bl)) (e_var rfl (.str x)) (e_var rfl (Dp.up u8 _ _ rb7)))).d (by
          rw [List.length_map, List.length_map]
          have := List.length_filter_le (fun x => !decide (x ∈ bl)) (L z)
          omega)).d fun v8 G8 H8 g8 r8 => ?_
        refine ⟨G8, (g7.trans g8).up, g8.sub, grz7.trans g8, bl ++ (L z).filter (fun x => !decide (x ∈ bl)), v8, _, by
          have : sds (bl ++ (L z).filter fun x => !decide (x ∈ bl)) = sds bl ++ sds ((L z).filter fun x => !decide (x ∈ bl)) := List.map_append
          rw [this]; exact r8, ?_, fun x => ?_, rfl⟩
        · refine List.nodup_append.mpr ⟨bnd, Ln.filter _, fun a ha b hb => ?_⟩
          have := (List.mem_filter.mp hb).2
          simp only [Bool.not_eq_true', decide_eq_false_iff_not] at this
          exact fun e => this (e ▸ ha)
        · rw [List.mem_append, List.mem_filter, List.take_add_one, hz]
          simp only [Option.toList_some, List.mem_append, List.mem_singleton, Bool.not_eq_true', decide_eq_false_iff_not]
          constructor
          · rintro (h | ⟨h, _⟩)
            · rcases (bmem x).mp h with h | ⟨z', h, u⟩
              · exact .inl h
              · exact .inr ⟨z', .inl h, u⟩
            · exact .inr ⟨z, .inr rfl, (Lm x).mp h⟩
          · rintro (h | ⟨z', h | h, u⟩)
            · exact .inl ((bmem x).mpr (.inl h))
            · exact .inl ((bmem x).mpr (.inr ⟨z', h, u⟩))
            · subst h
              by_cases q : x ∈ bl
              · exact .inl q
              · exact .inr ⟨(Lm x).mpr u, q⟩
      · rintro σ' Gz Hz sgz shz ⟨grz, bl, vb, a7', rb, bnd, bmem, rfl⟩
        rw [List.length_map, List.take_length] at bmem
        obtain ⟨gz, sd⟩ := thaw grz
        have rbz := Dp.nd sd _ _ rb
        have cfz := gz.keep _ _ cf5
        have clz := gz.keep _ _ cl5
        have gfz := gz.off _ (by rw [cf5]; exact nz) gf5
        have glz := gz.off _ (by rw [cl5]; exact nz) gl5
        generalize hid fo (hid la Gz) = Gy at *
        have kfl : kf.length ≤ 1000000 := by rw [kdf.len, List.length_map, List.length_take]; omega
        refine q_dput (K := K) (R := D K (.list (sds bl))) gz.sub rfl cfz gfz kfl (e_var rfl (.str n.1)) (e_var rfl rbz) fun v9 G9 H9 w9 r9 => ?_
        have cl9 : H9 la = some (.dK kl) := w9.oth _ _ nfl.symm clz
        have gl9 : G9 la = none := w9.off _ (by rw [clz]; exact nz) glz
        refine s_dput (K := K) (R := D K (.list (sds [n.1]))) w9.sub rfl cl9 gl9 (by rw [kdl.len]; omega) (e_var rfl (.str n.2.1)) (en_lst (dd_cons (e_var rfl (.str n.1)) dd_nil) (by simp)).d fun v10 G10 H10 w10 r10 => ?_
        have up5 := (gz.up.trans w9.up).trans w10.up
        refine ⟨G10, g5.up.trans up5, w10.sub, ((gr5.trans gz).cellwr hf0 w9).cellwr hl0 w10, w10.off _ (by rw [w9.at]; exact nz) w9.cell, w10.cell, fun y => if y = n.1 then bl else L y, _, _, _, _, _, _, _, _, w10.oth _ _ nfl w9.at, ?_, ?_, w10.at, (kdl5.up up5).put r10, lastD_step hLd hn, ?_, rfl⟩
        · have e : ulF (ns.take (i + 1)) (fun y => if y = n.1 then bl else L y) = putS (ulF (ns.take i) L) n.1 (.list (sds bl)) := by
            rw [putS_new (by rw [List.map_map]; exact not_pre nd2 hn), take_snoc hn]
            unfold ulF
            rw [List.map_append]
            congr 1
            · refine List.map_congr_left fun m hm => ?_
              have : m.1 ≠ n.1 := fun q => not_pre nd2 hn (q ▸ List.mem_map.mpr ⟨m, hm, rfl⟩)
              dsimp only
              rw [if_neg this]
            · simp
          rw [e]
          exact (kdf5.up up5).put (Dp.up w10.up _ _ r9)
        · intro y hy
          rw [take_snoc hn, nms_app, List.mem_append] at hy
          by_cases q : y = n.1
          · subst q
            dsimp only
            rw [if_pos rfl]
            exact ⟨bnd, fun x => by rw [bmem, und_step ht hy2]⟩
          · dsimp only
            rw [if_neg q]
            rcases hy with hy | hy
            · exact hUL y hy
            · exact absurd (by simpa using hy) q
        · have := putS_len fl n.2.1 (.list (sds [n.1])); omega
    · rintro σ' G' H' sg sh ⟨gr, gf, gl, L, kf, kl, fl, a3, a4, a5, a6, a7, cf, kdf, hUL, cl, kdl, hLd, hfl, rfl⟩
      rw [hl, List.take_length] at kdf
      rw [hl] at hUL
      have g9 := gr.addcell hf0 gf cf
      exact s_ret g9.sub (R := UndD K ns) (e_var rfl ⟨L, hUL, fo, kf, rfl, upd_same, kdf.up (Same.new gf)⟩) fun v G2 H2 g2 => k v G2 H2 (g9.trans g2)
end
end KB

set_option Elab.async false
set_option linter.all false
set_option maxRecDepth 100000
set_option maxHeartbeats 4000000
/-! The law's defs: drawn notes. -/
namespace KB
open PySem PySem.Spec PyProof.Rows L2
section
variable {K : PySem.W.Frag} {σ : L2.St} {G G2 H : Hp} {te ta tb tc : TE} {R Ra Rb : RP} {ds : List PyData}
/-- a call whose arguments are told by what they are -/
theorem e_call2 {Γ : Type} {args : Γ → List RP} {pre : Γ → Prop} {res : Γ → RP} {E : XK} [Stb Ra] (ha : EvS ta σ G Ra) (hb : EvS tb σ G Rb)
    (h : ∀ x y G, Ra x G → Rb y G → ∃ g, Alls (args g) [x, y] G ∧ pre g ∧ ∀ v G', res g v G' → R v G') : EvS (tCall (SpG args pre res) [] E (tCons ta (tCons tb tNil))) σ G R := fun G0 H u s Q k =>
  ha G0 H u s _ fun x G1 H1 g1 rx => hb G1 H1 (u.trans g1.up) g1.sub _ fun y G2 H2 g2 ry => by
    obtain ⟨g, h1, h2, h3⟩ := h x y G2 (stb g2.up rx) ry
    exact ⟨g, G2, g2.sub, by rw [List.append_nil]; exact h1, h2, fun v G3 H3 g3 r => k v G3 H3 ((g1.trans g2).trans g3) (h3 v G3 r)⟩
abbrev NatR (lo hi : Nat) : RP := fun v _ => ∃ n : Nat, lo ≤ n ∧ n ≤ hi ∧ v = .int (n : Nat)
instance {lo hi : Nat} : Stb (NatR lo hi) := ⟨fun _ r => r⟩
theorem e_nat {n lo hi : Nat} (h : EvS te σ G (D K (.int (n : Nat)))) (h1 : lo ≤ n) (h2 : n ≤ hi) : EvS te σ G (NatR lo hi) := h.imp fun v H r => ⟨n, h1, h2, d_int r⟩
theorem e_drawLe {N : Nat} (h1 : EvS ta σ G HeapAt) (h2 : EvS tb σ G (NatR 1 N)) (hN : N ≤ 1000000) : EvS (tCall (sp__law_draw K) [] E0 (tCons ta (tCons tb tNil))) σ G (LtR N) :=
  e_call2 h1 h2 fun x y G rx ⟨n, a, b, e⟩ => ⟨n, ⟨x, _, rfl, rx, y, _, rfl, by subst e; exact .int _, rfl⟩, ⟨a, by omega⟩, fun v G' ⟨j, hj, e⟩ => ⟨j, by omega, e⟩⟩
theorem cut_sub {k : Nat} {lo : Option Int} : ∀ e ∈ cutD ds lo (some (k : Nat)), e ∈ ds.take k := fun e he => by
  unfold cutD at he
  rw [HT.sIx_nat, ← List.drop_take] at he
  have := List.mem_of_mem_drop he
  rcases Nat.le_total k ds.length with h | h
  · rw [Nat.min_eq_left h] at this; exact this
  · rw [List.take_of_length_le h]; exact List.mem_of_mem_take this
theorem cut_len {lo hi : Option Int} : (cutD ds lo hi).length ≤ ds.length := by
  unfold cutD
  rw [List.length_take, List.length_drop]; omega
/-- a list of some of these -/
abbrev SubR (K : PySem.W.Frag) (n : Nat) (xs : List Str) : RP := fun v H => ∃ ws : List Str, (∀ x ∈ ws, x ∈ xs) ∧ ws.length ≤ n ∧ Dp K H v (.list (sds ws))
instance {n : Nat} {xs : List Str} : Stb (SubR K n xs) := ⟨fun u ⟨ws, a, b, r⟩ => ⟨ws, a, b, Dp.up u _ _ r⟩⟩
theorem sub_sds {es : List PyData} {xs : List Str} (h : ∀ e ∈ es, e ∈ sds xs) : ∃ ws : List Str, es = sds ws ∧ ∀ x ∈ ws, x ∈ xs := by
  induction es with
  | nil => exact ⟨[], rfl, by simp⟩
  | cons e r ih =>
    obtain ⟨ws, e1, h1⟩ := ih fun x hx => h x (List.mem_cons_of_mem _ hx)
    obtain ⟨x, hx, rfl⟩ := List.mem_map.mp (h e List.mem_cons_self)
    refine ⟨x :: ws, by rw [e1]; rfl, fun y hy => ?_⟩
    rcases List.mem_cons.mp hy with q | q
    · rw [q]; exact hx
    · exact h1 y q
theorem e_cutS {xs : List Str} {k n : Nat} {tlo thi : TO} {lo : Option Int} (h : EvS te σ G (D K (.list (sds xs)))) (h1 : EvO tlo σ G lo) (h2 : EvO thi σ G (some (k : Nat))) (hn : xs.length ≤ n) : EvS (tSl (rSlL K) te tlo thi) σ G (SubR K n (xs.take k)) :=
  (en_sl h h1 h2).s.imp fun v H ⟨es, e, r⟩ => by
    have hs : ∀ y ∈ es, y ∈ sds (xs.take k) := fun y hy => by
      rw [e] at hy
      have := cut_sub y hy
      rw [← List.map_take] at this; exact this
    obtain ⟨ws, e2, h3⟩ := sub_sds hs
    refine ⟨ws, h3, ?_, e2 ▸ r⟩
    have l1 : es.length ≤ xs.length := by
      rw [e]
      have := cut_len (ds := sds xs) (lo := lo) (hi := some (k : Nat))
      rw [List.length_map] at this; exact this
    rw [e2, List.length_map] at l1
    omega
end
section
variable {K : PySem.W.Frag} {σ : L2.St} {G G2 H : Hp} {te ta tb tc : TE}
theorem e_catR {xs : List Str} {Pp : List Str → Prop} (ha : EvS ta σ G (D K (.list (sds xs)))) (hb : EvS tb σ G (fun v H => ∃ ps : List Str, Pp ps ∧ Dp K H v (.list (sds ps)))) (hl : ∀ ps, Pp ps → xs.length + ps.length ≤ 1000000) :
    EvS (tOp (rCatL K) ta tb) σ G (fun v H => ∃ ps : List Str, Pp ps ∧ Dp K H v (.list (sds (xs ++ ps)))) := fun G0 H u s Q k =>
  ha G0 H u s _ fun x G1 H1 g1 rx => hb G1 H1 (u.trans g1.up) g1.sub _ fun y G2 H2 g2 ⟨ps, hp, ry⟩ => by
    have c := (en_cat (K := K) (σ := []) (ta := tC x) (tb := tC y) (e_c (Dp.up g2.up _ _ rx)) (e_c ry) (by rw [List.length_map, List.length_map]; exact hl ps hp)).d
    exact c G2 H2 (.refl _) g2.sub _ fun v G3 H3 g3 r => k v G3 H3 ((g1.trans g2).trans g3) ⟨ps, hp, by unfold sds at r ⊢; rw [List.map_append]; exact r⟩
end
/-- owners of so many notes -/
structure OwnD (hands : List Str) (m : Nat) (os : List Str) : Prop where
  len : os.length = m
  sub : ∀ o ∈ os, o ∈ hands
  all : ∀ h ∈ hands, h ∈ os
structure NotesD (hands names : List Str) (ns : List Note) : Prop where
  nm : nms ns = names
  told : Told ns
  ok : ∀ n ∈ ns, n.2.1 ∈ hands ∧ Asc n.2.2 ∧ n.2.2.length ≤ 40
  all : ∀ h ∈ hands, ∃ n ∈ ns, n.2.1 = h
section
variable {P : Program} {w : World} {K : PySem.W.Frag} {mg : Str → Option Value} {base : Heap}
structure NPre (hands names : List Str) : Prop where
  nd : names.Nodup
  h1 : 1 ≤ hands.length
  le : hands.length ≤ names.length
  m : names.length ≤ 20
instance {hands names : List Str} : Stb (fun v H => ∃ ns, NotesD hands names ns ∧ Dp K H v (.list (dNotes ns))) := ⟨fun u ⟨ns, h, r⟩ => ⟨ns, h, Dp.up u _ _ r⟩⟩
def sp__law_notes (K : PySem.W.Frag) : Sp := SpG (Γ := List Str × List Str) (fun x => [HeapAt, D K (.list (sds x.1)), D K (.list (sds x.2))]) (fun x => NPre x.1 x.2) fun x v H => ∃ ns, NotesD x.1 x.2 ns ∧ Dp K H v (.list (dNotes ns))
abbrev s__law_notes : Stmt := top 50
abbrev N__law_notes : List Str := ["_law_heap_here", "_law_hands", "_law_names_here", "_law_many", "_law_notes_here", "_law_form", "_law_owners", "_law_turn", "_law_at", "_law_waits"]
theorem sc__law_notes : FnScope N__law_notes ["_law_heap_here", "_law_hands", "_law_names_here"] (defScope s__law_notes) := ⟨rfl, rfl, rfl, by decide +kernel, rfl, by decide +kernel, by decide +kernel⟩
theorem ok__law_notes {f : Addr} {fd : FuncData} (F : Fun K "_law_notes" "_law_notes" s__law_notes f fd) (T : Txt mg) (c__law_draw : Cal P w K mg base CX0 1 "_law_draw" ["_law_heap_here", "_law_many"] (sp__law_draw K)) (c__law_mixed : Cal P w K mg base CX0 2 "_law_mixed" ["_law_heap_here", "_law_some_here"] (sp__law_mixed K)) (c__law_pick : Cal P w K mg base CX0 2 "_law_pick" ["_law_heap_here", "_law_some_here"] (sp__law_pick K)) : FnOk P w K mg base CX0 3 f fd ["_law_heap_here", "_law_hands", "_law_names_here"] (sp__law_notes K) := by
  refine F.ok sc__law_notes (fun vs H Q E h => ?_) (fun cdv A outer s H vs Q E hr h => ?_)
  · obtain ⟨x, G, hs, ⟨v1, _, rfl, h1, v2, _, rfl, h2, v3, _, rfl, h3, rfl⟩, hp, k⟩ := h; rfl
  · obtain ⟨⟨hands, names⟩, G, hs, ⟨v1, _, rfl, h1, v2, _, rfl, h2, v3, _, rfl, h3, rfl⟩, hp, k⟩ := h
    replace h1 : HeapAt v1 G := h1
    replace h2 : Dp K G v2 (.list (sds hands)) := h2
    replace h3 : Dp K G v3 (.list (sds names)) := h3
    obtain ⟨nd, p1, p2, p3⟩ : NPre hands names := hp
    have ndn := nd
    clear nd
    have nd := sc__law_notes.nd
    have hu := hu_of hr
    have hrU := hrU_of hr
    refine ⟨_, pss_cons (ps_par3 (i := 3) (j := 4) (l := 5) (by rfl) nd rfl rfl rfl (by decide) (by decide) (by decide) rfl rfl rfl (pa_cons (pe_callB (kLen K) (by rfl) T.m_len (by decide +kernel) (pa_cons (pv 2) pa_nil)) (pa_cons (pe_lst pa_nil) (pa_cons (pe_cal c__law_draw (hr.mono (by decide)) (by rfl) pass0 (pa_cons (pv 0) (pa_cons (pe_int) pa_nil))) pa_nil))) (by rfl))
    (pss_cons (ps_n 6 nd (pe_cal c__law_mixed (hr.mono (by decide)) (by rfl) pass0 (pa_cons (pv 0) (pa_cons (pe_op (kCat K) (pv 1) (pe_lc (own := [("_law_turn", 7)]) (by rfl) nd (pi_range1 (by rfl) T.m_range (pa_cons (pe_op op_sub (pv 3) (pe_callB (kLen K) (by rfl) T.m_len (by decide +kernel) (pa_cons (pv 1) pa_nil))) pa_nil)) (blkOk_by (by kernel_rfl)) (fun _ _ _ _ _ => (pg_n 7 nd)) (fun _ _ _ _ _ => pts_nil) (fun _ _ _ _ _ => (pe_cal c__law_pick (hr.mono (by decide)) (by rfl) pass0 (pa_cons (pv 0) (pa_cons (pv 1) pa_nil)))))) pa_nil))))
    (pss_cons (ps_if (pt_cmpR op_eq (pe_cal c__law_draw (hr.mono (by decide)) (by rfl) pass0 (pa_cons (pv 0) (pa_cons (pe_int) pa_nil))) (pe_int) (nomark _))
      (pss_one (ps_setLc (i := 6) (own := [("_law_at", 8)]) (by rfl) nd rfl rfl (sw_true rfl rfl rfl (by decide +kernel)) (pi_range1 (by rfl) T.m_range (pa_cons (pv 3) pa_nil)) (blkOk_by (by kernel_rfl)) (fun _ _ _ _ _ => (pg_n 8 nd)) (fun _ _ _ _ _ => pts_nil) (fun _ _ _ _ _ => (pe_ix (kIx K) (pv 1) (pe_op op_mod (pe_callTy call_int1 (by rfl) T.m_int (by decide +kernel) (pa_cons (pv 8) pa_nil)) (pe_callB (kLen K) (by rfl) T.m_len (by decide +kernel) (pa_cons (pv 1) pa_nil))) (fun _ _ => rfl)))))
      (pss_nil))
    (pss_cons (ps_for PassesOwn.never rfl (pi_range1 (by rfl) T.m_range (pa_cons (pv 3) pa_nil)) (pg_n 8 nd)
      (pss_cons (ps_n 9 nd (pe_ifExp (PW.pt (pw_and (pt_cmpR op_eq (pv 5) (pe_int) (nomark _)) (pw_and1 (pt_cmpR op_gt (pv 8) (pe_int) (nomark _))))) (pe_slice (kSl K) (pv 2) (po_some (pe_op op_sub (pv 8) (pe_int))) (po_some (pv 8))) (pe_lst pa_nil)))
        (pss_cons (ps_if (PW.pt (pw_and (pt_cmpR op_gt (pv 5) (pe_int) (nomark _)) (pw_and1 (pt_cmpR op_gt (pv 8) (pe_int) (nomark _)))))
          (pss_one (ps_setLc (i := 9) (own := [("_law_turn", 7)]) (by rfl) nd rfl rfl (sw_true rfl rfl rfl (by decide +kernel)) (pi_range1 (by rfl) T.m_range (pa_cons (pe_cal c__law_draw (hr.mono (by decide)) (by rfl) pass0 (pa_cons (pv 0) (pa_cons (pe_ifExp (pt_cmpR op_gt (pv 5) (pe_int) (nomark _)) (pe_int) (pe_int)) pa_nil))) pa_nil)) (blkOk_by (by kernel_rfl)) (fun _ _ _ _ _ => (pg_n 7 nd)) (fun _ _ _ _ _ => pts_nil) (fun _ _ _ _ _ => (pe_cal c__law_pick (hr.mono (by decide)) (by rfl) pass0 (pa_cons (pv 0) (pa_cons (pe_slice (kSl K) (pv 2) po_none (po_some (pv 8))) pa_nil))))))
          (pss_nil))
        (pss_cons (ps_if (PW.pt (pw_and (pt_cmpR op_eq (pv 5) (pe_int) (nomark _)) (pw_and1 (pt_cmpR op_lt (pv 3) (pe_int) (nomark _)))))
          (pss_one (ps_n 9 nd (pe_slice (kSl K) (pv 2) po_none (po_some (pv 8)))))
          (pss_nil))
        (pss_one (ps_expr (pe_bm PySem.F.plainAttrs_list PySem.F.slot_list_append PySem.F.type_list_append mt_append (pv 4) (pa_cons (pe_tup (pa_cons (pe_ix (kIx K) (pv 2) (pv 8) (fun _ _ => rfl)) (pa_cons (pe_ix (kIx K) (pv 6) (pv 8) (fun _ _ => rfl)) (pa_cons (pe_callTy (kTup K) (by rfl) T.m_tuple (by decide +kernel) (pa_cons (pe_callB (kSrtSet w rfl) (by rfl) T.m_sorted (by decide +kernel) (pa_cons (pe_callTy (kSet K w rfl) (by rfl) T.m_set (by decide +kernel) (pa_cons (pv 9) pa_nil)) pa_nil)) pa_nil)) pa_nil)))) pa_nil))))))))
    (pss_one (ps_ret (pv 4)))))), ?_⟩
    refine st (σ' := [some v1, some v2, some v3, none, none, none, none, none, none, none]) rfl ?_
    have nz : ∀ {o : HO}, some o ≠ none := fun z => nomatch z
    have lh : (sds hands).length = hands.length := List.length_map _
    have lnm : (sds names).length = names.length := List.length_map _
    generalize hm : names.length = m at *
    refine ((ed_len (K := K) (.l (sds names)) (e_var (i := 2) rfl h3)).to (d' := .int (m : Nat)) (by rw [lnm])) G H (.refl _) hs _ fun a G1 H1 g1 ra => ⟨Nat.zero_le _, fun fo hfo => ?_⟩
    cases d_int ra
    have g2 : Grow G1 H1 G1 (upd H1 fo (.lst [])) := Grow.cell g1.sub hfo
    refine (e_draw (K := K) (n := 6) (e_var (i := 0) rfl (stb g1.up h1)) ed_int (by omega) (by omega)) G1 (upd H1 fo (.lst [])) (.refl _) g2.sub _ fun b G3 H3 g3 ⟨fm, hfm, eb⟩ => ⟨_, _, _, rfl, ?_⟩
    subst eb
    have g03 := (g1.trans g2).trans g3
    have hf0 : H fo = none := g1.keep.free hfo
    have cf3 : H3 fo = some (.lst []) := g3.keep _ _ upd_same
    have gf3 : G3 fo = none := g3.off fo (by rw [upd_same]; exact nz) (g1.sub.free hfo)
    replace h1 := stb g03.up h1
    replace h2 := Dp.up g03.up _ _ h2
    replace h3 := Dp.up g03.up _ _ h3
    have s3 := g03.sub
    clear g1 g2 g3
    refine st (σ' := [some v1, some v2, some v3, some (V.int (m:Nat)), some (V.ref fo), some (V.int (fm:Nat)), none, none, none, none]) rfl ?_
    -- the owners
    refine q_asg s3 (R := fun v H => ∃ os, OwnD hands m os ∧ Dp K H v (.list (sds os))) ((e_call2 (Ra := HeapAt) (Rb := fun v H => ∃ ps : List Str, (ps.length = m - hands.length ∧ ∀ x ∈ ps, x ∈ hands) ∧ Dp K H v (.list (sds (hands ++ ps)))) (R := fun v H => ∃ os, OwnD hands m os ∧ Dp K H v (.list (sds os))) (e_var rfl h1) ?_ ?_)) fun v6 G4 H4 g4 ⟨os, hos, r6⟩ => ?_
    · have e1 := en_lcP (K := K) (σ := [some v1, some v2, some v3, some (.int (m : Nat)), some (.ref fo), some (.int (fm : Nat)), none, none, none, none]) (G := G3) (te := tCall (sp__law_pick K) [] E0 (tCons (tVar 0) (tCons (tVar 1) tNil))) (g := gName 7) (vs := [7]) (fun x => x ∈ hands)
        (src_range (n := m - hands.length) (by omega) ((ed_I (K := K) (f := fun i j => i - j) (e_var (i := 3) rfl (.int (m : Nat))) (ed_len (.l _) (e_var (i := 1) rfl h2))).to (by rw [lh]; congr 1; omega))) (by omega) fun i G5 x hi u hx =>
          ⟨_, tg_name, rfl, (e_pickS (K := K) (xs := hands) (.l _) (e_var rfl (stb u h1)) (e_var rfl (Dp.up u _ _ h2)) p1 (by omega)).imp fun v H ⟨x, a, b⟩ => ⟨x, a, b⟩⟩
      exact e_catR (Pp := fun ps => ps.length = m - hands.length ∧ ∀ x ∈ ps, x ∈ hands) (e_var rfl h2) (e1.s.imp fun v H ⟨es, ⟨ps, e, hl, hp⟩, r⟩ => ⟨ps, ⟨hl, hp⟩, e ▸ r⟩) fun ps hp => by rw [hp.1]; omega
    · intro x y G5 rx ⟨ps, ⟨hl, hp⟩, ry⟩
      refine ⟨hands ++ ps, ⟨x, _, rfl, rx, y, _, rfl, ry, rfl⟩, by show (hands ++ ps).length ≤ 1000; rw [List.length_append]; omega, fun v G' ⟨ys, pm, r⟩ => ⟨ys, ⟨?_, fun o ho => ?_, fun h hh => pm.symm.mem_iff.mp (List.mem_append_left _ hh)⟩, r⟩⟩
      · rw [pm.length_eq, List.length_append]; omega
      · rcases List.mem_append.mp (pm.mem_iff.mp ho) with q | q
        · exact q
        · exact hp o q
    refine st (σ' := [some v1, some v2, some v3, some (V.int (m:Nat)), some (V.ref fo), some (V.int (fm:Nat)), some v6, none, none, none]) rfl ?_
    have g04 := g03.trans g4
    have cf4 := g4.keep _ _ cf3
    have gf4 := g4.off fo (by rw [cf3]; exact nz) gf3
    replace h1 := stb g4.up h1
    replace h2 := Dp.up g4.up _ _ h2
    replace h3 := Dp.up g4.up _ _ h3
    clear g4
    refine joinK (I := fun σ' H' => ∃ (G' : Hp) (os : List Str) (vo : V), Grow G4 H4 G' H' ∧ OwnD hands m os ∧ Dp K G' vo (.list (sds os)) ∧ σ' = [some v1, some v2, some v3, some (.int (m : Nat)), some (.ref fo), some (.int (fm : Nat)), some vo, none, none, none]) ?_ fun fin => ?_
    · rintro σ' H5 ⟨G5, os, vo, g5, hos, ro, rfl⟩
      have g05 := g04.trans g5
      have cf5 := g5.keep _ _ cf4
      have gf5 := g5.off fo (by rw [cf4]; exact nz) gf4
      replace h1 := stb g5.up h1
      replace h2 := Dp.up g5.up _ _ h2
      replace h3 := Dp.up g5.up _ _ h3
      have s5 := g5.sub
      clear g5 r6
      refine q_for s5 (src_range (K := K) (n := m) (by omega) (e_var rfl (.int (m : Nat)))) (fun i σ G' H' => Grow G H G' H' ∧ G' fo = none ∧ ∃ (ns : List Note) (vs : List V) (a7 a8 a9 : Option V), H' fo = some (.lst vs) ∧ DpAll K G' vs (dNotes ns) ∧ nms ns = names.take i ∧ ns.map (·.2.1) = os.take i ∧ Told ns ∧ (∀ n ∈ ns, n.2.1 ∈ hands ∧ Asc n.2.2 ∧ n.2.2.length ≤ 40) ∧
          σ = [some v1, some v2, some v3, some (.int (m : Nat)), some (.ref fo), some (.int (fm : Nat)), some vo, a7, a8, a9])
        (fun G6 H6 g6 => ⟨g05.trans g6, g6.off fo (by rw [cf5]; exact nz) gf5, [], [], _, _, _, g6.keep _ _ cf5, .nil, rfl, rfl, .nil, by simp, rfl⟩) ?_ ?_
      · rintro i σ' G' H' y G6 H6 hi sg sh ⟨gr, gf, ns, vs, a7, a8, a9, cf, hvs, e1, e2, ht, hok, rfl⟩ g6 hy
        cases d_int hy
        refine ⟨_, tg_name, ?_⟩
        refine st (σ' := [some v1, some v2, some v3, some (V.int (m:Nat)), some (V.ref fo), some (V.int (fm:Nat)), some vo, a7, some (V.int (i:Nat)), a9]) rfl ?_
        have up6 := sg.trans g6.up
        have h1' := stb up6 h1
        have h3' := Dp.up up6 _ _ h3
        have ro' := Dp.up up6 _ _ ro
        have cf6 := g6.keep _ _ cf
        have gf6 := g6.off fo (by rw [cf]; exact nz) gf
        have hvs6 := DpAll.up g6.up _ _ hvs
        have gr6 := gr.trans g6
        have s6 := g6.sub
        have lt20 : (names.take i).length ≤ 20 := by rw [List.length_take]; omega
        have en : names[i]? = some names[i] := List.getElem?_eq_getElem (by omega)
        have eo : os[i]? = some (os[i]'(by rw [hos.len]; omega)) := List.getElem?_eq_getElem _
        generalize hx : names[i]'(by omega) = x at *
        generalize hz : os[i]'(by rw [hos.len]; omega) = z at *
        refine q_asg s6 (R := SubR K 40 (names.take i)) (e_if (et_and (et_T (ed_eqI (K := K) (e_var rfl (.int (fm : Nat))) ed_int)) fun _ => et_T (ed_IB (K := K) (f := fun i j => decide (j < i)) (e_var rfl (.int (i : Nat))) ed_int)) (fun _ => e_cutS (e_var rfl h3') (eo_some (ed_I (K := K) (f := fun i j => i - j) (e_var rfl (.int (i : Nat))) ed_int)) (eo_some (K := K) (e_var rfl (.int (i : Nat)))) (by omega)) (fun _ => ed_nil.imp fun v H r => ⟨[], by simp, by simp, r⟩)) fun v9 G7 H7 g7 r9 => ?_
        refine st (σ' := [some v1, some v2, some v3, some (V.int (m:Nat)), some (V.ref fo), some (V.int (fm:Nat)), some vo, a7, some (V.int (i:Nat)), some v9]) rfl ?_
        refine joinK (I := fun σ' H' => ∃ (G' : Hp) (vw : V), Grow G6 H6 G' H' ∧ SubR K 40 (names.take i) vw G' ∧ σ' = [some v1, some v2, some v3, some (.int (m : Nat)), some (.ref fo), some (.int (fm : Nat)), some vo, a7, some (.int (i : Nat)), some vw]) ?_ fun fin => ?_
        · rintro σ' H8 ⟨G8, vw, g8, rw8, rfl⟩
          refine joinK (I := fun σ' H' => ∃ (G' : Hp) (vw : V), Grow G6 H6 G' H' ∧ SubR K 40 (names.take i) vw G' ∧ σ' = [some v1, some v2, some v3, some (.int (m : Nat)), some (.ref fo), some (.int (fm : Nat)), some vo, a7, some (.int (i : Nat)), some vw]) ?_ fun fin => ?_
          · rintro σ' H9 ⟨G9, vw, g9, ⟨ws, w1, w2, w3⟩, rfl⟩
            have evn : EvS (tOp (rIx K) (tVar 2) (tVar 8)) [some v1, some v2, some v3, some (.int (m : Nat)), some (.ref fo), some (.int (fm : Nat)), some vo, a7, some (.int (i : Nat)), some vw] G9 (D K (.str x)) := ed_ix i (.l (sds names)) (e_var rfl (Dp.up g9.up _ _ h3')) (e_var rfl (.int (i : Nat))) (.inl ⟨rfl, by rw [lnm]; exact hi⟩) (by rw [List.getElem?_map, en]; rfl)
            have evo : EvS (tOp (rIx K) (tVar 6) (tVar 8)) [some v1, some v2, some v3, some (.int (m : Nat)), some (.ref fo), some (.int (fm : Nat)), some vo, a7, some (.int (i : Nat)), some vw] G9 (D K (.str z)) := ed_ix i (.l (sds os)) (e_var rfl (Dp.up g9.up _ _ ro')) (e_var rfl (.int (i : Nat))) (.inl ⟨rfl, by rw [List.length_map, hos.len]; exact hi⟩) (by rw [List.getElem?_map, eo]; rfl)
            have hlv : vs.length ≤ 1000000 := by
              have := congrArg List.length e1
              rw [List.length_map, List.length_take] at this
              rw [dp_len hvs, List.length_map]; omega
            refine s_app (K := K) g9.sub rfl (g9.keep _ _ cf6) (g9.off fo (by rw [cf6]; exact nz) gf6) hlv (ed_tup (dd_cons evn (dd_cons evo (dd_cons (ed_lot (xs := ws) (.l _) (by omega) (e_var rfl w3)) dd_nil))) (by simp)) fun v G10 H10 w10 rv => ?_
            have xin : x ∈ names := mem_of_get en
            have snm : (names.take i) ++ [x] = names.take (i + 1) := by rw [List.take_add_one, en]; rfl
            refine ⟨G10, (g6.trans g9).up.trans w10.up, w10.sub, (gr6.trans g9).cellwr hf0 w10, w10.cell, ns ++ [(x, z, lotOf ws)], vs ++ [v], _, _, _, w10.at, ?_, ?_, ?_, .snoc ht ?_ fun q hq => ?_, fun n hn => ?_, rfl⟩
            · have : dNotes (ns ++ [(x, z, lotOf ws)]) = dNotes ns ++ [dNote (x, z, lotOf ws)] := List.map_append
              rw [this]
              exact dp_app (DpAll.up (g9.up.trans w10.up) _ _ hvs6) (.cons rv .nil)
            · rw [nms_app, e1, ← snm]; rfl
            · rw [List.map_append, e2, List.take_add_one, eo]; rfl
            · rw [e1]
              intro q
              obtain ⟨j, hj⟩ := List.mem_iff_getElem?.mp q
              rw [List.getElem?_take] at hj
              split at hj
              · rename_i hji
                have := nodup_get ndn hj en
                omega
              · cases hj
            · rw [e1]; exact w1 q (mem_lotOf.mp hq)
            · rcases List.mem_append.mp hn with q | q
              · exact hok n q
              · have : n = (x, z, lotOf ws) := by simpa using q
                rw [this]
                exact ⟨hos.sub z (mem_of_get eo), asc_lotOf _, Nat.le_trans (lot_len_le ws) w2⟩
          · refine q_if g8.sub (et_and (et_T (ed_eqI (K := K) (e_var rfl (.int (fm : Nat))) ed_int)) fun _ => et_T (ed_IB (K := K) (f := fun i j => decide (i < j)) (e_var rfl (.int (m : Nat))) ed_int)) (fun _ G9 H9 g9 => ?_) (fun _ G9 H9 g9 => fin _ _ ⟨G9, vw, g8.trans g9, stb g9.up rw8, rfl⟩)
            exact s_asg g9.sub (R := SubR K 40 (names.take i)) (e_cutS (e_var rfl (Dp.up (g8.up.trans g9.up) _ _ h3')) eo_none (eo_some (K := K) (e_var rfl (.int (i : Nat)))) (by omega)) fun v G10 H10 g10 r10 => fin _ _ ⟨G10, v, (g8.trans g9).trans g10, r10, rfl⟩
        · refine q_if g7.sub (et_and (et_T (ed_IB (K := K) (f := fun i j => decide (j < i)) (e_var rfl (.int (fm : Nat))) ed_int)) fun _ => et_T (ed_IB (K := K) (f := fun i j => decide (j < i)) (e_var rfl (.int (i : Nat))) ed_int)) (fun hb G8 H8 g8 => ?_) (fun _ G8 H8 g8 => fin _ _ ⟨G8, v9, g7.trans g8, stb g8.up r9, rfl⟩)
          have hi0 : 0 < i := by
            simp only [Bool.and_eq_true, decide_eq_true_eq] at hb
            omega
          have up8 := g7.up.trans g8.up
          have h1'' := stb up8 h1'
          have h3'' := Dp.up up8 _ _ h3'
          refine s_asg g8.sub (src_rangeLt (K := K) (m := 3) (by decide) (e_drawLe (N := 3) (e_var rfl h1'') (e_if (et_T (ed_IB (K := K) (f := fun i j => decide (j < i)) (e_var rfl (.int (fm : Nat))) ed_int)) (fun _ => e_nat (K := K) (n := 3) ed_int (by omega) (by omega)) (fun _ => e_nat (K := K) (n := 2) ed_int (by omega) (by omega))) (by decide)) (fun ds => ∃ ws : List Str, ds = sds ws ∧ (∀ x ∈ ws, x ∈ names.take i) ∧ ws.length ≤ 40) _ _ _ _ fun n hn G9 u9 => ?_).s fun v10 G10 H10 g10 ⟨ds, ⟨ws, e, w1, w2⟩, r10⟩ => ?_
          · refine (en_lcP (K := K) (fun x => x ∈ names.take i) (src_range (K := K) (n := n) (by omega) ed_int) (by omega) fun j G11 y hj u hy => ?_).imp fun ds ⟨ws, e, hl, h⟩ => ⟨ws, e, h, by omega⟩
            exact ⟨_, tg_name, rfl, (e_pickS (K := K) (xs := names.take i) (.l _) (e_var rfl (stb (u9.trans u) h1'')) ((en_sl (e_var rfl (Dp.up (u9.trans u) _ _ h3'')) eo_none (eo_some (K := K) (e_var rfl (.int (i : Nat))))).d.to (by rw [cut_to, ← List.map_take])) (by rw [List.length_take]; omega) (by omega)).imp fun v H ⟨x, a, b⟩ => ⟨x, a, b⟩⟩
          · subst e
            exact fin _ _ ⟨G10, v10, (g7.trans g8).trans g10, ⟨ws, w1, w2, r10⟩, rfl⟩
      · rintro σ' G' H' sg sh ⟨gr, gf, ns, vs, a7, a8, a9, cf, hvs, e1, e2, ht, hok, rfl⟩
        rw [← hm, List.take_length] at e1
        rw [← hos.len, List.take_length] at e2
        have g9 := gr.addcell hf0 gf cf
        refine s_ret g9.sub (R := fun v H => ∃ ns, NotesD hands names ns ∧ Dp K H v (.list (dNotes ns))) (e_var rfl ⟨ns, ⟨e1, ht, hok, fun h hh => ?_⟩, .lst (SqL.of upd_same) (DpAll.up (Same.new gf) _ _ hvs)⟩) fun v G2 H2 g2 => k v G2 H2 (g9.trans g2)
        have := hos.all h hh
        rw [← e2] at this
        obtain ⟨n, hn, e⟩ := List.mem_map.mp this
        exact ⟨n, hn, e⟩
    · refine q_ifP g04.sub (etP_any (e_ltEq (e_draw (K := K) (n := 3) (e_var rfl h1) ed_int (by omega) (by omega)))) (fun _ G5 H5 g5 => ?_) (fun _ G5 H5 g5 => fin _ _ ⟨G5, os, v6, g5, hos, Dp.up g5.up _ _ r6, rfl⟩)
      have h2' := Dp.up g5.up _ _ h2
      refine s_asg g5.sub ((en_lc (K := K) (fun i acc => acc = sds ((List.range i).map fun j => hands.getD (j % hands.length) ⟨#[]⟩)) (src_range (K := K) (n := m) (by omega) (e_var rfl (.int (m : Nat)))) (by omega) rfl (fun i acc e => by rw [e, List.length_map, List.length_map, List.length_range]; exact Nat.le_refl _) fun i acc G6 x hi hI u hx => ?_).imp (R' := fun x => x = sds ((List.range m).map fun j => hands.getD (j % hands.length) ⟨#[]⟩)) fun _ e => e).d fun v7 G6 H6 g6 r7 => ?_
      · subst hI
        cases d_int hx
        have hj : i % hands.length < hands.length := Nat.mod_lt _ (by omega)
        have e : hands[i % hands.length]? = some hands[i % hands.length] := List.getElem?_eq_getElem _
        refine ⟨_, tg_name, rfl, fun b => b = true, et_yes, fun h => by simp at h, fun _ => ?_⟩
        refine (ed_ix (K := K) (e := .str hands[i % hands.length]) (i % hands.length) (.l (sds hands)) (e_var rfl (Dp.up u _ _ h2')) (ed_IC (ed_int1 (fun H Q q => .inl ⟨_, rfl, q⟩) (e_var rfl (.int (i : Nat)))) (ed_len (.l (sds hands)) (e_var rfl (Dp.up u _ _ h2'))) (by rw [lh]; omega)) (.inl ⟨by rw [lh]; push_cast; rfl, by rw [lh]; exact hj⟩) (by rw [List.getElem?_map, e]; rfl)).imp fun v H r => ⟨.str hands[i % hands.length], rfl, r, ?_⟩
        rw [List.range_succ, List.map_append]
        show _ = sds (_ ++ [hands.getD (i % hands.length) ⟨#[]⟩])
        rw [List.getD_eq_getElem?_getD, e]
        unfold sds
        rw [List.map_append]; rfl
      · refine fin _ _ ⟨G6, _, v7, g5.trans g6, ⟨by rw [List.length_map, List.length_range], fun o ho => ?_, fun h hh => ?_⟩, r7, rfl⟩
        · obtain ⟨j, _, rfl⟩ := List.mem_map.mp ho
          have hj : j % hands.length < hands.length := Nat.mod_lt _ (by omega)
          rw [List.getD_eq_getElem?_getD, List.getElem?_eq_getElem hj]
          exact List.getElem_mem _
        · obtain ⟨j, hj⟩ := List.mem_iff_getElem?.mp hh
          have hl := (List.getElem?_eq_some_iff.mp hj).1
          refine List.mem_map.mpr ⟨j, List.mem_range.mpr (by omega), ?_⟩
          rw [Nat.mod_eq_of_lt hl, List.getD_eq_getElem?_getD, hj]; rfl
end
end KB

set_option Elab.async false
set_option linter.all false
set_option maxRecDepth 100000
set_option maxHeartbeats 4000000
/-! The law's defs: a drawn pact. -/
namespace KB
open PySem PySem.Spec PyProof.Rows L2
structure ShortP (p : Pac) : Prop where
  h : ∀ x ∈ p.hands, x.cps.size ≤ 7
  n : ∀ x ∈ nms p.notes, x.cps.size ≤ 7
  m : p.notes.length ≤ 20
abbrev dParts (p : Pac) : PyData := .tuple [.list (sds p.hands), .list (dNotes p.notes), .list (sds p.ready), .tuple (sds p.paper)]
section
variable {K : PySem.W.Frag} {σ : L2.St} {G G2 H : Hp} {te ta tb tc : TE} {tt : TT} {p : Bool → Prop} {R : RP}
theorem en_ifP {R : List PyData → Prop} (h : EtP tt σ G p) (h1 : p true → EvN K ta σ G R) (h2 : p false → EvN K tb σ G R) : EvN K (tIf tt ta tb) σ G R := fun G1 H u s Q k =>
  h G1 H u s _ fun c G2 H2 g e => by
    cases c with
    | true =>
      show ta σ H2 Q
      exact h1 e G2 H2 (u.trans g.up) g.sub Q fun p vs ds G3 H3 g3 a b c d r => k p vs ds G3 H3 (g.trans g3) (g.keep.free a) b c d r
    | false =>
      show tb σ H2 Q
      exact h2 e G2 H2 (u.trans g.up) g.sub Q fun p vs ds G3 H3 g3 a b c d r => k p vs ds G3 H3 (g.trans g3) (g.keep.free a) b c d r
/-- the notes of a hand, by name -/
theorem en_row {ns : List Note} {i j k : Nat} {h : Str} (hn : ns.length ≤ 1000000) (hr : EvS (tVar i) σ G (D K (.list (dNotes ns)))) (hj : j < σ.length) (hk : ∀ G1 v, Same G G1 → EvS (tVar k) ((σ.set j none).set j (some v)) G1 (D K (.str h))) :
    EvN K (tLc (iSeq K (tVar i)) (gName j) (tTest (tOp rEq (tOp (rIx K) (tVar j) (tC (.int 1))) (tVar k))) (tOp (rIx K) (tVar j) (tC (.int 0))) [j]) σ G (fun ds => ds = sds (row ns h)) := by
  have ev := en_lcD (K := K) (tt := tTest (tOp rEq (tOp (rIx K) (tVar j) (tC (.int 1))) (tVar k))) (te := tOp (rIx K) (tVar j) (tC (.int 0))) (g := gName j) (vs := [j]) (fun i => decide ((ns.map (·.2.1)).getD i ⟨#[]⟩ = h)) (fun i => .str ((nms ns).getD i ⟨#[]⟩)) (src_seq (.l _) hr) (by rw [List.length_map]; exact hn) fun i G1 x hi u ⟨e, he, hx⟩ => by
    obtain ⟨n, hn', rfl⟩ := dN_get he
    have e1 : (ns.map (·.2.1)).getD i ⟨#[]⟩ = n.2.1 := by rw [List.getD_eq_getElem?_getD, List.getElem?_map, hn']; rfl
    have e2 : (nms ns).getD i ⟨#[]⟩ = n.1 := by rw [List.getD_eq_getElem?_getD, nms_get hn']; rfl
    have hs : ((σ.set j none).set j (some x))[j]? = some (some x) := by rw [List.getElem?_set_self (by rw [List.length_set]; exact hj)]
    refine ⟨_, tg_name, ?_, ?_, fun _ => ⟨rfl, ?_⟩⟩
    · show ((σ.set j none).set j _).set j none = σ.set j none
      rw [List.set_set, List.set_set]
    · rw [e1]
      exact et_T (ed_eqS (K := K) (ed_ix 1 (.t _) (e_var hs hx) ed_int (.inl ⟨rfl, by simp⟩) rfl) (hk G1 x u))
    · rw [e2]
      exact ed_ix 0 (.t _) (e_var hs hx) ed_int (.inl ⟨rfl, by simp⟩) rfl
  refine ev.imp fun ds e => ?_
  rw [e, List.length_map]
  have := range_map ns (fun n => decide (n.2.1 = h)) (fun n => PyData.str n.1) (fun i => decide ((ns.map (·.2.1)).getD i ⟨#[]⟩ = h)) (fun i => PyData.str ((nms ns).getD i ⟨#[]⟩))
    (fun i n h => by rw [List.getD_eq_getElem?_getD, List.getElem?_map, h]; rfl) (fun i n h => by rw [List.getD_eq_getElem?_getD, nms_get h]; rfl)
  rw [this]
  unfold row sds
  rw [List.map_map]; rfl
/-- below[x] -/
theorem ed_below {ns : List Note} {L : Str → List Str} {x : Str} (hx : x ∈ nms ns) (h : EvS ta σ G (DT K (ulF ns L))) (h2 : EvS tb σ G (D K (.str x))) : EvS (tDGet ta tb) σ G (D K (.list (sds (L x)))) := by
  obtain ⟨n2, e1, e2, e3, e4⟩ := lookup_notes (g := fun n => .list (sds (L n.1))) hx
  exact (ed_dget h h2 e4).to (by rw [e2])
end
section
variable {K : PySem.W.Frag} {σ : L2.St} {G H : Hp} {te : TE} {R : RP} {g : TG} {tu tz : TS} {En : Ends}
theorem q_forR (s : Same G H) (h : EvS te σ G R) (k : ∀ v G2 H2, Grow G H G2 H2 → R v G2 → tSeq (tFor (iSeq K (tC v)) g tu) tz En σ H2) : tSeq (tFor (iSeq K te) g tu) tz En σ H := h G H (.refl _) s _ k
theorem s_forR (s : Same G H) (h : EvS te σ G R) (k : ∀ v G2 H2, Grow G H G2 H2 → R v G2 → tFor (iSeq K (tC v)) g tu En σ H2) : tFor (iSeq K te) g tu En σ H := h G H (.refl _) s _ k
end
section
variable {K : PySem.W.Frag} {σ : L2.St} {G : Hp} {ta tb tc : TE}
theorem e_lnotes {hands names : List Str} (h1 : EvS ta σ G HeapAt) (h2 : EvS tb σ G (D K (.list (sds hands)))) (h3 : EvS tc σ G (D K (.list (sds names)))) (hp : NPre hands names) :
    EvS (tCall (sp__law_notes K) [] E0 (tCons ta (tCons tb (tCons tc tNil)))) σ G (fun v H => ∃ ns, NotesD hands names ns ∧ Dp K H v (.list (dNotes ns))) :=
  e_call (Γ := List Str × List Str) (args := fun x => [HeapAt, D K (.list (sds x.1)), D K (.list (sds x.2))]) (hands, names) (ea_cons h1 (ea_cons h2 (ea_cons h3 ea_nil))) hp
theorem e_lunders {ns : List Note} (h1 : EvS ta σ G (D K (.list (dNotes ns)))) (t : Told ns) (l : ns.length ≤ 40) (wl : ∀ n ∈ ns, n.2.2.length ≤ 1000) : EvS (tCall (sp__law_unders K) [] E0 (tCons ta tNil)) σ G (UndD K ns) :=
  e_call (Γ := List Note) (args := fun ns => [D K (.list (dNotes ns))]) ns (ea_cons h1 ea_nil) ⟨t, l, wl⟩
end
theorem row_le {ns : List Note} (h : Str) : (row ns h).length ≤ ns.length := by
  unfold row
  rw [List.length_map]
  exact List.length_filter_le _ _
section
variable {P : Program} {w : World} {K : PySem.W.Frag} {mg : Str → Option Value} {base : Heap}
abbrev PartsR (K : PySem.W.Frag) : RP := fun v H => ∃ p, Val p ∧ ShortP p ∧ Dp K H v (dParts p)
instance : Stb (PartsR K) := ⟨fun u ⟨p, a, b, r⟩ => ⟨p, a, b, Dp.up u _ _ r⟩⟩
def sp__law_pact (K : PySem.W.Frag) : Sp := SpG (Γ := Nat) (fun m => [HeapAt, D K (.int (m : Nat))]) (fun m => 6 ≤ m ∧ m ≤ 18) fun _ => PartsR K
abbrev s__law_pact : Stmt := top 51
abbrev N__law_pact : List Str := ["_law_heap_here", "_law_most", "_law_hands", "_law_names_here", "_law_notes_here", "_law_ready", "_law_hand", "_law_note", "_law_below", "_law_paper", "_law_own", "_law_one", "_law_name"]
theorem sc__law_pact : FnScope N__law_pact ["_law_heap_here", "_law_most"] (defScope s__law_pact) := ⟨rfl, rfl, rfl, by decide +kernel, rfl, by decide +kernel, by decide +kernel⟩
theorem ok__law_pact {f : Addr} {fd : FuncData} (F : Fun K "_law_pact" "_law_pact" s__law_pact f fd) (T : Txt mg) (c__law_names : Cal P w K mg base CX0 3 "_law_names" ["_law_heap_here", "_law_many"] (sp__law_names K)) (c__law_pick : Cal P w K mg base CX0 2 "_law_pick" ["_law_heap_here", "_law_some_here"] (sp__law_pick K)) (c__law_draw : Cal P w K mg base CX0 1 "_law_draw" ["_law_heap_here", "_law_many"] (sp__law_draw K)) (c__law_notes : Cal P w K mg base CX0 3 "_law_notes" ["_law_heap_here", "_law_hands", "_law_names_here"] (sp__law_notes K)) (c__law_unders : Cal P w K mg base CX0 1 "_law_unders" ["_law_notes_here"] (sp__law_unders K)) (c__law_mixed : Cal P w K mg base CX0 2 "_law_mixed" ["_law_heap_here", "_law_some_here"] (sp__law_mixed K)) : FnOk P w K mg base CX0 4 f fd ["_law_heap_here", "_law_most"] (sp__law_pact K) := by
  refine F.ok sc__law_pact (fun vs H Q E h => ?_) (fun cdv A outer s H vs Q E hr h => ?_)
  · obtain ⟨x, G, hs, ⟨v1, _, rfl, h1, v2, _, rfl, h2, rfl⟩, hp, k⟩ := h; rfl
  · obtain ⟨m, G, hs, ⟨v1, _, rfl, h1, v2, _, rfl, h2, rfl⟩, ⟨m1, m2⟩, k⟩ := h
    replace h1 : HeapAt v1 G := h1
    replace m1 : 6 ≤ m := m1
    replace m2 : m ≤ 18 := m2
    cases d_int h2
    have nd := sc__law_pact.nd
    have hu := hu_of hr
    have hrU := hrU_of hr
    refine ⟨_, pss_cons (ps_n 2 nd (pe_cal c__law_names (hr.mono (by decide)) (by rfl) pass0 (pa_cons (pv 0) (pa_cons (pe_cal c__law_pick (hr.mono (by decide)) (by rfl) pass0 (pa_cons (pv 0) (pa_cons (pe_lst (pa_cons (pe_int) (pa_cons (pe_int) (pa_cons (pe_int) (pa_cons (pe_int) (pa_cons (pe_int) (pa_cons (pe_int) (pa_cons (pe_int) (pa_cons (pe_int) pa_nil))))))))) pa_nil))) pa_nil))))
    (pss_cons (ps_n 3 nd (pe_cal c__law_names (hr.mono (by decide)) (by rfl) pass0 (pa_cons (pv 0) (pa_cons (pe_op op_add (pe_callB (kLen K) (by rfl) T.m_len (by decide +kernel) (pa_cons (pv 2) pa_nil)) (pe_cal c__law_draw (hr.mono (by decide)) (by rfl) pass0 (pa_cons (pv 0) (pa_cons (pe_op op_sub (pe_op op_add (pv 1) (pe_int)) (pe_callB (kLen K) (by rfl) T.m_len (by decide +kernel) (pa_cons (pv 2) pa_nil))) pa_nil)))) pa_nil))))
    (pss_cons (ps_if (PW.pt (pw_and (pt_cmpR op_eq (pe_cal c__law_draw (hr.mono (by decide)) (by rfl) pass0 (pa_cons (pv 0) (pa_cons (pe_int) pa_nil))) (pe_int) (nomark _)) (pw_and1 (pt_cmpR (kNi K) (pe_ix (kIx K) (pv 2) (pe_int) (fun _ _ => rfl)) (pv 3) (by rfl)))))
      (pss_one (ps_n 3 nd (pe_op (kCat K) (pe_lst (pa_cons (pe_ix (kIx K) (pv 2) (pe_int) (fun _ _ => rfl)) pa_nil)) (pe_slice (kSl K) (pv 3) (po_some (pe_int)) po_none))))
      (pss_nil))
    (pss_cons (ps_n 4 nd (pe_cal c__law_notes (hr.mono (by decide)) (by rfl) pass0 (pa_cons (pv 0) (pa_cons (pv 2) (pa_cons (pv 3) pa_nil)))))
    (pss_cons (ps_setLc (i := 5) (own := [("_law_hand", 6)]) (by rfl) nd rfl rfl (sw_true rfl rfl rfl (by decide +kernel)) (kSeq K (pv 2)) (blkOk_by (by kernel_rfl)) (fun _ _ _ _ _ => (pg_n 6 nd)) (fun _ _ _ _ _ => pts_nil) (fun _ _ _ _ _ => (pe_cal c__law_pick (hr.mono (by decide)) (by rfl) pass0 (pa_cons (pv 0) (pa_cons (pe_lc (own := [("_law_note", 7)]) (by rfl) nd (kSeq K (pv 4)) (blkOk_by (by kernel_rfl)) (fun _ _ _ _ _ => (pg_n 7 nd)) (fun _ _ _ _ _ => (pts_one (pt_cmpR op_eq (pe_ix (kIx K) (pv 7) (pe_int) (fun _ _ => rfl)) (pv 6) (nomark _)))) (fun _ _ _ _ _ => (pe_ix (kIx K) (pv 7) (pe_int) (fun _ _ => rfl)))) pa_nil)))))
    (pss_cons (ps_asg (pe_tup (pa_cons (pe_cal c__law_unders (hr.mono (by decide)) (by rfl) pass0 (pa_cons (pv 4) pa_nil)) (pa_cons (pe_ifExp (pt_cmpR op_eq (pe_cal c__law_draw (hr.mono (by decide)) (by rfl) pass0 (pa_cons (pv 0) (pa_cons (pe_int) pa_nil))) (pe_int) (nomark _)) (pe_slice (kSl K) (pv 3) (po_some (pe_un un_neg (pe_int))) po_none) (pe_lst pa_nil)) pa_nil))) (kTg K 2 rfl (pgs_cons (pg_n 8 nd) (pgs_cons (pg_n 9 nd) pgs_nil))))
    (pss_cons (ps_for PassesOwn.never rfl (kSeq K (pe_cal c__law_mixed (hr.mono (by decide)) (by rfl) pass0 (pa_cons (pv 0) (pa_cons (pv 2) pa_nil)))) (pg_n 6 nd)
      (pss_cons (ps_n 10 nd (pe_lc (own := [("_law_note", 7)]) (by rfl) nd (kSeq K (pv 4)) (blkOk_by (by kernel_rfl)) (fun _ _ _ _ _ => (pg_n 7 nd)) (fun _ _ _ _ _ => (pts_one (pt_cmpR op_eq (pe_ix (kIx K) (pv 7) (pe_int) (fun _ _ => rfl)) (pv 6) (nomark _)))) (fun _ _ _ _ _ => (pe_ix (kIx K) (pv 7) (pe_int) (fun _ _ => rfl)))))
        (pss_one (ps_if (PW.pt (pw_or (pt_cmpR (kEq K hrU) (pe_lc (own := [("_law_one", 11)]) (by rfl) nd (kSeq K (pv 9)) (blkOk_by (by kernel_rfl)) (fun _ _ _ _ _ => (pg_n 11 nd)) (fun _ _ _ _ _ => (pts_one (pt_cmpR (kNe K hrU) (pe_lc (own := [("_law_name", 12)]) (by rfl) nd (kSeq K (pv 10)) (blkOk_by (by kernel_rfl)) (fun _ _ _ _ _ => (pg_n 12 nd)) (fun _ _ _ _ _ => (pts_one (pt_cmpR (kIn K) (pv 12) (pe_dget hu (pv 8) (pv 11) (fun _ _ => rfl)) (by rfl)))) (fun _ _ _ _ _ => (pv 12))) (pe_lst pa_nil) (nomark _)))) (fun _ _ _ _ _ => (pv 11))) (pe_lst pa_nil) (nomark _)) (pw_or1 (pt_cmpR op_eq (pe_cal c__law_draw (hr.mono (by decide)) (by rfl) pass0 (pa_cons (pv 0) (pa_cons (pe_int) pa_nil))) (pe_int) (nomark _)))))
          (pss_one (ps_expr (pe_bm PySem.F.plainAttrs_list PySem.F.slot_list_append PySem.F.type_list_append mt_append (pv 9) (pa_cons (pe_cal c__law_pick (hr.mono (by decide)) (by rfl) pass0 (pa_cons (pv 0) (pa_cons (pv 10) pa_nil))) pa_nil))))
          (pss_nil)))))
    (pss_one (ps_ret (pe_tup (pa_cons (pv 2) (pa_cons (pv 4) (pa_cons (pv 5) (pa_cons (pe_callTy (kTup K) (by rfl) T.m_tuple (by decide +kernel) (pa_cons (pe_callB (kSrtSet w rfl) (by rfl) T.m_sorted (by decide +kernel) (pa_cons (pe_callTy (kSet K w rfl) (by rfl) T.m_set (by decide +kernel) (pa_cons (pv 9) pa_nil)) pa_nil)) pa_nil)) pa_nil))))))))))))), ?_⟩
    refine st (σ' := [some v1, some (V.int (m:Nat)), none, none, none, none, none, none, none, none, none, none, none]) rfl ?_
    have nz : ∀ {o : HO}, some o ≠ none := fun z => nomatch z
    -- the hands
    have pk : EvS (tCall (sp__law_pick K) [] E0 (tCons (tVar 0) (tCons (tLst (tCons (tC (.int 2)) (tCons (tC (.int 2)) (tCons (tC (.int 2)) (tCons (tC (.int 3)) (tCons (tC (.int 3)) (tCons (tC (.int 3)) (tCons (tC (.int 4)) (tCons (tC (.int 6)) tNil))))))))) tNil))) [some v1, some (.int (m : Nat)), none, none, none, none, none, none, none, none, none, none, none] G (NatR 2 6) :=
      (e_pick (K := K) (e_var rfl h1) (en_lst (dd_cons ed_int (dd_cons ed_int (dd_cons ed_int (dd_cons ed_int (dd_cons ed_int (dd_cons ed_int (dd_cons ed_int (dd_cons ed_int dd_nil)))))))) (by decide)).d (by decide) (by decide)).imp fun v H ⟨d, hd, r⟩ => by
        simp only [itemsOf, List.mem_cons, List.not_mem_nil, or_false] at hd
        rcases hd with rfl | rfl | rfl | rfl | rfl | rfl | rfl | rfl
        · exact ⟨2, by decide, by decide, d_int r⟩
        · exact ⟨2, by decide, by decide, d_int r⟩
        · exact ⟨2, by decide, by decide, d_int r⟩
        · exact ⟨3, by decide, by decide, d_int r⟩
        · exact ⟨3, by decide, by decide, d_int r⟩
        · exact ⟨3, by decide, by decide, d_int r⟩
        · exact ⟨4, by decide, by decide, d_int r⟩
        · exact ⟨6, by decide, by decide, d_int r⟩
    refine q_asg hs (R := fun v H => ∃ (n : Nat) (ys : List Str), (2 ≤ n ∧ n ≤ 6) ∧ NamesD n ys ∧ Dp K H v (.list (sds ys))) (e_call2 (e_var (R := HeapAt) rfl h1) pk fun x y G rx ⟨n, a, b, e⟩ => ⟨n, ⟨x, _, rfl, rx, y, _, rfl, by subst e; exact .int _, rfl⟩, ⟨by omega, by omega⟩, fun v G' ⟨ys, h, r⟩ => ⟨n, ys, ⟨a, b⟩, h, r⟩⟩) fun v2 G1 H1 g1 ⟨hl, hands, ⟨l1, l2⟩, hH, r2⟩ => ?_
    refine st (σ' := [some v1, some (V.int (m:Nat)), some v2, none, none, none, none, none, none, none, none, none, none]) rfl ?_
    replace h1 := stb g1.up h1
    have lh : (sds hands).length = hl := by rw [List.length_map, hH.len]
    have ev2 : EvS (tOp (rI0 fun i j => .int (i + j)) (tCB (rLenV K) (tCons (tVar 2) tNil)) (tCall (sp__law_draw K) [] E0 (tCons (tVar 0) (tCons (tOp (rI0 fun i j => .int (i - j)) (tOp (rI0 fun i j => .int (i + j)) (tVar 1) (tC (.int 1))) (tCB (rLenV K) (tCons (tVar 2) tNil))) tNil))))
        [some v1, some (.int (m : Nat)), some v2, none, none, none, none, none, none, none, none, none, none] G1 (NatR hl m) :=
      e_op (ed_len (.l _) (e_var rfl r2)) (e_draw (K := K) (n := m + 1 - hl) (e_var rfl h1) ((ed_I (K := K) (f := fun i j => i - j) (ed_I (K := K) (f := fun i j => i + j) (e_var rfl (.int (m : Nat))) ed_int) (ed_len (.l _) (e_var rfl r2))).to (by rw [lh]; congr 1; omega)) (by omega) (by omega)) fun x y G2 u rx ⟨j, hj, e⟩ H s Q k => by
        subst e
        cases d_int rx
        rw [lh]
        exact ⟨_, _, rfl, rfl, k _ G2 H (.refl s) ⟨hl + j, by omega, by omega, by push_cast; rfl⟩⟩
    refine q_asg g1.sub (R := fun v H => ∃ (n : Nat) (ys : List Str), (hl ≤ n ∧ n ≤ m) ∧ NamesD n ys ∧ Dp K H v (.list (sds ys))) (e_call2 (e_var (R := HeapAt) rfl h1) ev2 fun x y G rx ⟨n, a, b, e⟩ => ⟨n, ⟨x, _, rfl, rx, y, _, rfl, by subst e; exact .int _, rfl⟩, ⟨by omega, by omega⟩, fun v G' ⟨ys, h, r⟩ => ⟨n, ys, ⟨a, b⟩, h, r⟩⟩) fun v3 G2 H2 g2 ⟨nl, names0, ⟨l3, l4⟩, hN0, r3⟩ => ?_
    refine st (σ' := [some v1, some (V.int (m:Nat)), some v2, some v3, none, none, none, none, none, none, none, none, none]) rfl ?_
    replace h1 := stb g2.up h1
    replace r2 := Dp.up g2.up _ _ r2
    have g02 := g1.trans g2
    clear ev2 pk g1 g2
    -- a hand's name among the notes'
    refine joinK (I := fun σ' H' => ∃ (G' : Hp) (names : List Str) (vn : V), Grow G H G' H' ∧ NamesD nl names ∧ HeapAt v1 G' ∧ Dp K G' v2 (.list (sds hands)) ∧ Dp K G' vn (.list (sds names)) ∧ σ' = [some v1, some (.int (m : Nat)), some v2, some vn, none, none, none, none, none, none, none, none, none]) ?_ fun fin => ?_
    · rintro σ' H3 ⟨G3, names, v3, g03, hN, h1, r2, r3, rfl⟩
      refine q_asg g03.sub (R := fun v H => ∃ ns, NotesD hands names ns ∧ Dp K H v (.list (dNotes ns))) (e_lnotes (e_var rfl h1) (e_var rfl r2) (e_var rfl r3) ⟨hN.nd, by show 1 ≤ hands.length; rw [hH.len]; omega, by show hands.length ≤ names.length; rw [hH.len, hN.len]; omega, by show names.length ≤ 20; rw [hN.len]; omega⟩) fun v4 G4 H4 g4 ⟨ns, hns, r4⟩ => ?_
      refine st (σ' := [some v1, some (V.int (m:Nat)), some v2, some v3, some v4, none, none, none, none, none, none, none, none]) rfl ?_
      replace h1 := stb g4.up h1
      replace r2 := Dp.up g4.up _ _ r2
      replace r3 := Dp.up g4.up _ _ r3
      have g04 := g03.trans g4
      have nsl : ns.length = nl := by rw [← hN.len, ← hns.nm, List.length_map]
      have nd2 := hns.told.nodup
      have rne : ∀ h ∈ hands, 1 ≤ (row ns h).length := fun h hh => by
        obtain ⟨n, hn, e⟩ := hns.all h hh
        have : n.1 ∈ row ns h := List.mem_map.mpr ⟨n, List.mem_filter.mpr ⟨hn, by simp [e]⟩, rfl⟩
        exact List.length_pos_of_mem this
      clear g03 g4
      -- the ready notes
      refine q_asg g04.sub (en_lc (K := K) (fun i acc => ∃ rs : List Str, acc = sds rs ∧ rs.length = i ∧ ∀ (j : Nat) (r h : Str), rs[j]? = some r → hands[j]? = some h → r ∈ row ns h) (src_seq (.l _) (e_var rfl r2)) (by omega) ⟨[], rfl, rfl, fun j r h e => by simp at e⟩ (fun i acc ⟨rs, e, h, _⟩ => by rw [e, List.length_map]; exact Nat.le_of_eq h) fun i acc G5 x hi hI u hT => ?_).s fun v5 G5 H5 g5 r5 => ?_
      · obtain ⟨e, he, hx⟩ := hT
        obtain ⟨h, hh, rfl⟩ := sds_get he
        obtain ⟨rs, rfl, rl, rok⟩ := hI
        cases hx
        have h1' := stb u h1
        have r4' := Dp.up u _ _ r4
        refine ⟨_, tg_name, rfl, fun b => b = true, et_yes, fun h => by simp at h, fun _ => (e_pickS (K := K) (xs := row ns h) (.l _) (e_var rfl h1') (en_row (i := 4) (j := 7) (k := 6) (h := h) (by omega) (e_var rfl r4') (by simp [wipe]) fun G6 v u6 => e_var rfl (.str h)).d (rne h (mem_of_get hh)) (by have := row_le (ns := ns) h; omega)).imp fun v H ⟨x, hx, e⟩ => ?_⟩
        subst e
        refine ⟨.str x, rfl, .str x, rs ++ [x], by simp, by simp [rl], fun j r h2 ej eh => ?_⟩
        by_cases q : j < rs.length
        · rw [List.getElem?_append_left q] at ej
          exact rok j r h2 ej eh
        · have hj : j = i := by
            have := (List.getElem?_eq_some_iff.mp ej).1
            simp at this
            omega
          subst hj
          rw [List.getElem?_append_right (by omega), rl, Nat.sub_self] at ej
          rw [hh] at eh
          cases eh
          have : r = x := by simpa using ej.symm
          rw [this]; exact hx
      obtain ⟨ds, ⟨rs, rfl, rl, rok⟩, r5⟩ := r5
      rw [lh] at rl
      refine st (σ' := [some v1, some (V.int (m:Nat)), some v2, some v3, some v4, some v5, none, none, none, none, none, none, none]) rfl ?_
      replace h1 := stb g5.up h1
      replace r2 := Dp.up g5.up _ _ r2
      replace r3 := Dp.up g5.up _ _ r3
      replace r4 := Dp.up g5.up _ _ r4
      have g05 := g04.trans g5
      clear g04 g5
      refine (e_lunders (ns := ns) (e_var (i := 4) rfl r4) hns.told (by omega) fun n hn => Nat.le_trans (hns.ok n hn).2.2 (by decide)) G5 H5 (.refl _) g05.sub _ fun v8 G6 H6 g6 r8 => ?_
      refine (en_ifP (K := K) (p := fun _ => True) (R := fun ds => ∃ ps : List Str, ds = sds ps ∧ ps.length ≤ 20 ∧ ∀ x ∈ ps, x ∈ names) (etP_any (e_ltEq (e_draw (K := K) (n := 2) (e_var (i := 0) rfl (stb g6.up h1)) ed_int (by omega) (by omega))))
        (fun _ => (en_sl (e_var (i := 3) rfl (Dp.up g6.up _ _ r3)) (eo_some (K := K) (ed_neg ed_int)) eo_none).imp fun ds e => ?_) (fun _ => (en_lst dd_nil (by decide)).imp fun ds e => ⟨[], e, by simp, by simp⟩)) G6 H6 (.refl _) g6.sub _ fun pp vs ds G7 H7 g7 hpp gpp cpp hds ⟨ps, e, psl, psm⟩ => ⟨by show 2 ≤ sizeLine; decide, fun q hq => ⟨q, _, rfl, .inl (.inl upd_same), rfl, ⟨_, _, rfl, ⟨_, _, rfl, ⟨rfl, ?_⟩⟩⟩⟩⟩
      · obtain ⟨ws, e1, h1⟩ := sub_sds (xs := names) (es := ds) fun y hy => by
          rw [e] at hy
          unfold cutD at hy
          exact List.mem_of_mem_drop (List.mem_of_mem_take hy)
        refine ⟨ws, e1, ?_, h1⟩
        have := cut_len (ds := sds names) (lo := some (-1)) (hi := none)
        rw [← e, e1, List.length_map, List.length_map, hN.len] at this
        omega
      subst e
      have e := dp_sds hds
      subst e
      have g8 : Grow G7 H7 G7 (upd H7 q (.tup [v8, .ref pp])) := Grow.cell g7.sub hq
      have g08 := ((g05.trans g6).trans g7).trans g8
      have hp0 : H pp = none := (g05.trans g6).keep.free hpp
      have cp8 : upd H7 q (.tup [v8, .ref pp]) pp = some (.lst (ps.map V.str)) := by rw [upd_ne (ne_of_none cpp hq)]; exact cpp
      generalize upd H7 q (.tup [v8, .ref pp]) = H8 at *
      refine st (σ' := [some v1, some (V.int (m:Nat)), some v2, some v3, some v4, some v5, none, none, some v8, some (V.ref pp), none, none, none]) rfl ?_
      have up57 := g6.up.trans g7.up
      replace h1 := stb up57 h1
      replace r2 := Dp.up up57 _ _ r2
      replace r4 := Dp.up up57 _ _ r4
      replace r5 := Dp.up up57 _ _ r5
      obtain ⟨L, hUL, r8⟩ := stb (R := UndD K ns) g7.up r8
      replace r8 := r8.dt
      have s8 := g08.sub
      clear g8 g7 g6 g05 up57 hpp cpp hq r3
      have nin : ∀ x, x ∈ nms ns ↔ x ∈ names := fun x => by rw [hns.nm]
      have hULx : ∀ y ∈ nms ns, (L y).Nodup ∧ ∀ x, x ∈ L y ↔ Und ns x y := fun y hy => hUL y (by rw [List.take_length]; exact hy)
      have nok : ∀ x ∈ nms ns, NameOk x := fun x hx => (hN.ok x ((nin x).mp hx)).1
      refine q_forR (R := fun v H => ∃ ys : List Str, ys.Perm hands ∧ Dp K H v (.list (sds ys))) s8 (e_mixed (e_var (i := 0) rfl h1) (e_var (i := 2) rfl r2) (by rw [hH.len]; omega)) fun v G9 H9 g9 ⟨ys, pm, ry⟩ => ?_
      have cp9 := g9.keep _ _ cp8
      have gp9 := g9.off pp (by rw [cp8]; exact nz) gpp
      have g09 := g08.trans g9
      replace h1 := stb g9.up h1
      replace r2 := Dp.up g9.up _ _ r2
      replace r4 := Dp.up g9.up _ _ r4
      replace r5 := Dp.up g9.up _ _ r5
      replace r8 := stb (R := DT K (ulF ns L)) g9.up r8
      refine q_for g9.sub (src_seq (.l (sds ys)) (e_c ry)) (fun i σ G' H' => Grow G H G' H' ∧ G' pp = none ∧ ∃ (pl : List Str) (a6 a10 : Option V), H' pp = some (.lst (pl.map V.str)) ∧ pl.length ≤ 20 + i ∧ (∀ x ∈ pl, x ∈ nms ns) ∧ (∀ h ∈ ys.take i, ∃ y ∈ row ns h, ∃ z ∈ pl, Und ns y z) ∧
          σ = [some v1, some (.int (m : Nat)), some v2, some v3, some v4, some v5, a6, none, some v8, some (.ref pp), a10, none, none])
        (fun G2 H2 g2 => ⟨g09.trans g2, g2.off pp (by rw [cp9]; exact nz) gp9, ps, _, _, g2.keep _ _ cp9, by omega, fun x hx => (nin x).mpr (psm x hx), by simp, rfl⟩) ?_ ?_
      · rintro i σ' G' H' y Ga Ha hi sg sh ⟨gr, gp, pl, a6, a10, cp, pll, plm, cov, rfl⟩ ga ⟨e, he, hy⟩
        obtain ⟨h, hh, rfl⟩ := sds_get he
        cases hy
        refine ⟨_, tg_name, ?_⟩
        refine st (σ' := [some v1, some (V.int (m:Nat)), some v2, some v3, some v4, some v5, some (V.str h), none, some v8, some (V.ref pp), a10, none, none]) rfl ?_
        have hhm : h ∈ hands := pm.mem_iff.mp (mem_of_get hh)
        have upa := sg.trans ga.up
        refine q_asg ga.sub (en_row (K := K) (ns := ns) (i := 4) (j := 7) (k := 6) (h := h) (by omega) (e_var rfl (Dp.up upa _ _ r4)) (by simp) fun G6 v u6 => e_var rfl (.str h)).d fun v10 Gb Hb gb r10 => ?_
        refine st (σ' := [some v1, some (V.int (m:Nat)), some v2, some v3, some v4, some v5, some (V.str h), none, some v8, some (V.ref pp), some v10, none, none]) rfl ?_
        have gab := ga.trans gb
        have cpb := gab.keep _ _ cp
        have gpb := gab.off pp (by rw [cp]; exact nz) gp
        have upb := sg.trans gab.up
        have upp : Same Gb (upd Gb pp (.lst (pl.map V.str))) := Same.new gpb
        have sp := same_with gb.sub cpb
        have rl1 := row_le (ns := ns) h
        have hrow : ∀ x ∈ row ns h, x ∈ nms ns := fun x hx => row_sub _ _ _ hx
        have hys : ys.length = hl := by rw [pm.length_eq, hH.len]
        have hil : i < hl := by rw [List.length_map] at hi; omega
        refine s_ifP sp (etP_or (p := fun c => c = (pl.filter (fun o => !((row ns h).filter fun x => decide (x ∈ L o)).isEmpty)).isEmpty) (q := fun _ => True) ?_ fun _ => ?_) (fun _ Gc Hc gc => ?_) (fun hb Gc Hc gc => ?_)
        · refine et_T (ed_eqE (K := K) (en_filt (xs := pl) (fun o => !((row ns h).filter fun x => decide (x ∈ L o)).isEmpty) (.l _) (e_var (i := 9) rfl (.lst (SqL.of upd_same) (sds_dp pl))) (by omega) (by simp) fun o Gc ho uc => ?_).d fun x hx => nok x (plm x (List.mem_filter.mp hx).1))
          exact et_T (ed_neE (K := K) (en_filt (xs := row ns h) (fun x => decide (x ∈ L o)) (.l _) (e_var rfl (Dp.up (upp.trans uc) _ _ r10)) (by omega) (by simp) fun x Gd hx ud => et_T (ed_isIn (.l (sds (L o))) (e_var rfl (.str x)) (ed_below (plm o ho) (e_var rfl (stb (R := DT K (ulF ns L)) (upb.trans (upp.trans (uc.trans ud))) r8)) (e_var rfl (.str o))))).d fun x hx => nok x (hrow x (List.mem_filter.mp hx).1))
        · exact etP_any (e_ltEq (e_draw (K := K) (n := 4) (e_var (i := 0) rfl (stb (upb.trans upp) h1)) ed_int (by omega) (by omega)))
        · refine s_app (K := K) (R := StrP (fun x => x ∈ row ns h)) (gb.sub.trans gc.keep) rfl (gc.keep _ _ cpb) gpb (by rw [List.length_map]; omega) (e_pickS (xs := row ns h) (.l _) (e_var (i := 0) rfl (stb upb h1)) (e_var rfl r10) (rne h hhm) (by omega)) fun v Gd Hd wd ⟨x, hx, e⟩ => ?_
          subst e
          have grb : Grow G H Gb Hc := ⟨(gr.trans gab).up, gb.sub.trans gc.keep, (gr.trans gab).keep.trans gc.keep, (gr.trans gab).off⟩
          refine ⟨Gd, gab.up.trans wd.up, wd.sub, grb.cellwr hp0 wd, wd.cell, pl ++ [x], _, _, by rw [wd.at, List.map_append]; rfl, by simp; omega, fun z hz => ?_, fun h2 h2m => ?_, rfl⟩
          · rcases List.mem_append.mp hz with q | q
            · exact plm z q
            · have : z = x := by simpa using q
              rw [this]; exact hrow x hx
          · rw [List.take_add_one, hh] at h2m
            rcases List.mem_append.mp h2m with q | q
            · obtain ⟨y, y1, z, z1, z2⟩ := cov h2 q
              exact ⟨y, y1, z, List.mem_append_left _ z1, z2⟩
            · have : h2 = h := by simpa using q
              rw [this]
              exact ⟨x, hx, x, by simp, Und.rfl hns.told (hrow x hx)⟩
        · have hb2 : (pl.filter (fun o => !((row ns h).filter fun x => decide (x ∈ L o)).isEmpty)).isEmpty = false := by
            rcases hb with ⟨a, _⟩ | ⟨_, a⟩
            · exact a.symm
            · cases a
          refine ⟨Gb, gab.up, gb.sub.trans gc.keep, ⟨(gr.trans gab).up, gb.sub.trans gc.keep, (gr.trans gab).keep.trans gc.keep, (gr.trans gab).off⟩, gpb, pl, _, _, gc.keep _ _ cpb, by omega, plm, fun h2 h2m => ?_, rfl⟩
          rw [List.take_add_one, hh] at h2m
          rcases List.mem_append.mp h2m with q | q
          · exact cov h2 q
          · have e2 : h2 = h := by simpa using q
            rw [e2]
            cases ef : pl.filter (fun o => !((row ns h).filter fun x => decide (x ∈ L o)).isEmpty) with
            | nil => rw [ef] at hb2; simp at hb2
            | cons o r =>
              have ho : o ∈ pl.filter (fun o => !((row ns h).filter fun x => decide (x ∈ L o)).isEmpty) := by rw [ef]; exact List.mem_cons_self
              obtain ⟨o1, o2⟩ := List.mem_filter.mp ho
              cases ex : (row ns h).filter fun x => decide (x ∈ L o) with
              | nil => rw [ex] at o2; simp at o2
              | cons x r2 =>
                have hx : x ∈ (row ns h).filter fun x => decide (x ∈ L o) := by rw [ex]; exact List.mem_cons_self
                obtain ⟨x1, x2⟩ := List.mem_filter.mp hx
                exact ⟨x, x1, o, o1, ((hULx o (plm o o1)).2 x).mp (of_decide_eq_true x2)⟩
      · rintro σ' G' H' sg sh ⟨gr, gp, pl, a6, a10, cp, pll, plm, cov, rfl⟩
        rw [List.length_map, List.take_length] at cov
        have hys : ys.length = hl := by rw [pm.length_eq, hH.len]
        have g9' := gr.addcell hp0 gp cp
        have upz : Same G9 (upd G' pp (.lst (pl.map V.str))) := sg.trans (Same.new gp)
        refine s_ret g9'.sub (R := PartsR K) ((ed_tup (K := K) (dd_cons (e_var (i := 2) rfl (Dp.up upz _ _ r2)) (dd_cons (e_var (i := 4) rfl (Dp.up upz _ _ r4)) (dd_cons (e_var (i := 5) rfl (Dp.up upz _ _ r5)) (dd_cons (ed_lot (xs := pl) (.l _) (by rw [List.length_map] at pll; omega) (e_var (i := 9) rfl (.lst (SqL.of upd_same) (sds_dp pl)))) dd_nil)))) (by simp)).imp fun v H r => ⟨⟨hands, ns, rs, lotOf pl⟩, ?_, ?_, r⟩) fun v G2 H2 g2 => k v G2 H2 (g9'.trans g2)
        · refine ⟨hns.told, by show 2 ≤ hands.length; rw [hH.len]; omega, by show hands.length ≤ 6; rw [hH.len]; omega, hH.nd, fun h hh => (hH.ok h hh).1, by show 2 ≤ ns.length; omega, by show ns.length ≤ 40; omega, fun n hn => ⟨nok n.1 (List.mem_map.mpr ⟨n, hn, rfl⟩), (hns.ok n hn).1, (hns.ok n hn).2.1⟩, by show rs.length = hands.length; rw [rl, hH.len], fun i r h hr hh => ?_, asc_lotOf _, fun z hz => plm z (mem_lotOf.mp hz), fun h hh => ?_⟩
          · exact (mem_row nd2).mp (rok i r h hr hh)
          · obtain ⟨y, y1, z, z1, z2⟩ := cov h (pm.mem_iff.mpr hh)
            have := (mem_row nd2).mp y1
            exact ⟨y, this.1, this.2, z, mem_lotOf.mpr z1, z2⟩
        · exact ⟨fun x hx => (hH.ok x hx).2, fun x hx => (hN.ok x ((nin x).mp hx)).2, by show ns.length ≤ 20; omega⟩
    · have hd0 : ∃ h0, hands[0]? = some h0 := ⟨_, List.getElem?_eq_getElem (by rw [hH.len]; omega)⟩
      obtain ⟨h0, hd0⟩ := hd0
      have ix0 : ∀ {σ : L2.St} {Gx : Hp}, Same G2 Gx → σ[2]? = some (some v2) → EvS (tOp (rIx K) (tVar 2) (tC (.int 0))) σ Gx (D K (.str h0)) := fun u e => ed_ix 0 (.l (sds hands)) (e_var e (Dp.up u _ _ r2)) ed_int (.inl ⟨rfl, by rw [lh]; omega⟩) (by rw [List.getElem?_map, hd0]; rfl)
      refine q_ifP g02.sub (etP_and (p := fun _ => True) (q := fun b => b = !decide (h0 ∈ names0)) ?_ fun _ => ?_) (fun hb Ga Ha ga => ?_) (fun _ Ga Ha ga => fin _ _ ⟨Ga, names0, v3, g02.trans ga, hN0, stb ga.up h1, Dp.up ga.up _ _ r2, Dp.up ga.up _ _ r3, rfl⟩)
      · exact etP_any (e_ltEq (e_draw (K := K) (n := 3) (e_var rfl h1) ed_int (by omega) (by omega)))
      · exact et_T (ed_niIn (.l (sds names0)) (ix0 (.refl _) rfl) (e_var rfl r3))
      · have hnot : h0 ∉ names0 := by
          rcases hb with ⟨_, a⟩ | ⟨_, a⟩
          · simpa using a
          · cases a
        refine s_asg ga.sub (en_cat (en_lst (dd_cons (ix0 ga.up rfl) dd_nil) (by simp)).d (en_sl (e_var rfl (Dp.up ga.up _ _ r3)) (eo_some (K := K) ed_int) eo_none).d (by have := cut_len (ds := sds names0) (lo := some 1) (hi := none); rw [List.length_map, hN0.len] at this; simp; omega)).d fun v Gb Hb gb rb => ?_
        have ec : cutD (sds names0) (some 1) none = sds (names0.drop 1) := by
          have := cut_from (ds := sds names0) (k := 1) (by rw [List.length_map, hN0.len]; omega)
          unfold sds
          rw [List.map_drop]
          exact this
        rw [ec] at rb
        refine fin _ _ ⟨Gb, h0 :: names0.drop 1, v, (g02.trans ga).trans gb, ⟨List.nodup_cons.mpr ⟨fun q => hnot (List.mem_of_mem_drop q), hN0.nd.sublist (List.drop_sublist _ _)⟩, by rw [List.length_cons, List.length_drop, hN0.len]; omega, fun y hy => ?_⟩, stb (ga.up.trans gb.up) h1, Dp.up (ga.up.trans gb.up) _ _ r2, rb, rfl⟩
        rcases List.mem_cons.mp hy with q | q
        · rw [q]; exact hH.ok h0 (mem_of_get hd0)
        · exact hN0.ok y (List.mem_of_mem_drop q)
end
end KB

set_option Elab.async false
set_option linter.all false
set_option maxRecDepth 100000
set_option maxHeartbeats 4000000
/-! The law's defs: uppermost ones, fewest waits, all of a lot. -/
namespace KB
open PySem PySem.Spec PyProof.Rows L2
theorem upper_congr {ns : List Note} {xs ys : List Str} (h : ∀ x, x ∈ xs ↔ x ∈ ys) : upper ns xs = upper ns ys := asc_uniq (asc_upper _ _) (asc_upper _ _) fun z => by
  rw [mem_upper, mem_upper, h z]
  exact and_congr Iff.rfl ⟨fun q w hw => q w ((h w).mpr hw), fun q w hw => q w ((h w).mp hw)⟩
theorem cut_last (xs : List Str) : cutD (sds xs) (some (-1)) none = sds (lastL xs) := by
  unfold cutD
  rw [HT.sIx_none]
  have e : HT.sIx (sds xs).length 0 (some (-1)) = (sds xs).length - 1 := by
    show (if (-1 : Int) < 0 then ((-1 : Int) + ((sds xs).length : Int)).toNat else min (-1 : Int).toNat (sds xs).length) = (sds xs).length - 1
    rw [if_pos (by decide)]
    omega
  rw [e, List.length_map]
  rcases List.eq_nil_or_concat xs with h | ⟨r, z, h⟩
  · subst h; rfl
  · subst h
    rw [List.concat_eq_append, lastL_snoc]
    simp
/-- the texts of the notes are names -/
def NotesOk (ns : List Note) : Prop := ∀ n ∈ ns, NameOk n.1 ∧ NameOk n.2.1 ∧ ∀ z ∈ n.2.2, NameOk z
theorem notes_ok {p : Pac} (v : Val p) : NotesOk p.notes := fun n hn => by
  obtain ⟨i, hi⟩ := List.mem_iff_getElem?.mp hn
  have t := told_at v hi
  exact ⟨t.ok, t.hok, t.lot.ok⟩
theorem sh_note {n : Note} (h : NameOk n.1 ∧ NameOk n.2.1 ∧ ∀ z ∈ n.2.2, NameOk z) : Sh 2 (dNote n) := by
  refine sh_tup (n := 1) fun e he => ?_
  simp only [List.mem_cons, List.not_mem_nil, or_false] at he
  rcases he with rfl | rfl | rfl
  · exact (sh_str (name_strOk h.1)).up (by decide)
  · exact (sh_str (name_strOk h.2.1)).up (by decide)
  · exact sh_tup (n := 0) (sh_sds h.2.2)
theorem nms_ok {ns : List Note} (h : NotesOk ns) : ∀ x ∈ nms ns, NameOk x := fun x hx => by
  obtain ⟨n, hn, rfl⟩ := List.mem_map.mp hx
  exact (h n hn).1
theorem ul_at {ns : List Note} {L : Str → List Str} (h : UL ns ns.length L) : ∀ y ∈ nms ns, (L y).Nodup ∧ ∀ x, x ∈ L y ↔ Und ns x y := fun y hy => h y (by rw [List.take_length]; exact hy)
theorem ul_len {ns : List Note} (t : Told ns) {L : Str → List Str} (h : UL ns ns.length L) {y : Str} (hy : y ∈ nms ns) : (L y).length ≤ ns.length := by
  obtain ⟨a, b⟩ := ul_at h y hy
  have := nodup_sub_len a (ys := nms ns) fun x hx => (((b x).mp hx).mem t).1
  rw [List.length_map] at this
  exact this
section
variable {K : PySem.W.Frag} {σ : L2.St} {G G2 H : Hp} {te ta tb tc : TE} {t : TE}
theorem ed_index {xs : List Str} {x : Str} (hx : x ∈ xs) (h : EvS ta σ G (D K (.list (sds xs)))) (h2 : EvS tb σ G (D K (.str x))) : EvS (tBM K "list" (rIndex K) ta (tCons tb tNil)) σ G (D K (.int (xs.idxOf x : Nat))) := fun G0 H u s Q k =>
  h G0 H u s _ fun v G1 H1 g1 r => by
    obtain ⟨a, vs, rfl, hq, hall⟩ := d_list r
    have e := dp_sds hall
    subst e
    refine ⟨.inl ⟨rfl, _, g1.sub.seq hq⟩, h2 G1 H1 (u.trans g1.up) g1.sub _ fun y G2 H2 g2 ry => ?_⟩
    cases d_str ry
    have hl := idx_lt hx
    have e1 : xs[xs.idxOf x]? = some x := by rw [List.getElem?_eq_getElem hl]; simp
    refine ⟨a, _, .str x, xs.idxOf x, .str x, rfl, rfl, g2.keep.seq (g1.sub.seq hq), rfl, flat_strs' xs, by rw [List.getElem?_map, e1]; rfl, ?_, fun m z' hm e2 => ?_, k _ G2 H2 (g1.trans g2) (.int _)⟩
    · show (x == x) = true; simp
    · rw [List.getElem?_map] at e2
      cases q : xs[m]? with
      | none => rw [q] at e2; simp at e2
      | some y =>
        rw [q] at e2
        have : z' = .str y := by simpa using e2.symm
        subst this
        show (y == x) = false
        have := List.not_of_lt_findIdx (p := (· == x)) (xs := xs) (i := m) (by simpa [List.idxOf] using hm)
        obtain ⟨l1, l2⟩ := List.getElem?_eq_some_iff.mp q
        rw [l2] at this
        simpa using this
theorem sameD_frz {G : Hp} {a : Addr} {kvs : List (Key × V)} {o : HO} (h : G a = some (.dK kvs)) : SameD G (upd G a o) := fun b u e n => by
  have q : b ≠ a := fun q => by subst q; rw [h] at e; cases e; exact n _ rfl
  rw [upd_ne q]; exact e
/-- a dict locked while it is walked; the answer is a new list of texts -/
theorem en_lock {a : Addr} {kvs : List (Key × V)} {xs : List Str} (hG : G a = some (.dK kvs)) (h : ∀ od, EvN K t σ (upd G a (.frz od (.dK kvs))) (fun ds => ds = sds xs)) : EvN K (tLockE t) σ G (fun ds => ds = sds xs) := fun G1 H u s Q k => by
  have hG1 := u a _ hG
  have hH := s a _ hG1
  refine ⟨a, .dK kvs, hH, trivial, fun od => ?_⟩
  have u1 : Same (upd G a (.frz od (.dK kvs))) (upd G1 a (.frz od (.dK kvs))) := fun b w e => by
    by_cases q : b = a
    · subst q; rw [upd_same] at e ⊢; exact e
    · rw [upd_ne q] at e ⊢; exact u b w e
  have s1 : Same (upd G1 a (.frz od (.dK kvs))) (upd H a (.frz od (.dK kvs))) := fun b w e => by
    by_cases q : b = a
    · subst q; rw [upd_same] at e ⊢; exact e
    · rw [upd_ne q] at e ⊢; exact s b w e
  refine h od _ _ u1 s1 _ fun p vs ds G2 H2 g hp gp h2 hd e => ?_
  subst e
  have e := dp_sds hd
  subst e
  have npa : p ≠ a := fun q => by subst q; rw [upd_same] at hp; cases hp
  refine ⟨g.keep _ _ upd_same, k p _ _ (upd G2 a (.dK kvs)) _ ⟨fun b w e => ?_, fun b w e => ?_, fun b w e => ?_, fun b hb n => ?_⟩ (by rw [upd_ne npa] at hp; exact hp) (by rw [upd_ne npa]; exact gp) (by rw [upd_ne npa]; exact h2) (sds_dp xs) rfl⟩
  · by_cases q : b = a
    · subst q; rw [upd_same]; rw [hG1] at e; exact e
    · rw [upd_ne q]; exact g.up b w (by rw [upd_ne q]; exact e)
  · by_cases q : b = a
    · subst q; rw [upd_same] at e ⊢; exact e
    · rw [upd_ne q] at e ⊢; exact g.sub b w e
  · by_cases q : b = a
    · subst q; rw [upd_same]; rw [hH] at e; exact e
    · rw [upd_ne q]; exact g.keep b w (by rw [upd_ne q]; exact e)
  · have q : b ≠ a := ne_of_none hG1 n |>.symm
    rw [upd_ne q]
    exact g.off b (by rw [upd_ne q]; exact hb) (by rw [upd_ne q]; exact n)
theorem src_keys {a : Addr} {od : Obj} {kvs : List (Key × V)} {xs : List Str} {i : Nat} (hσ : σ[i]? = some (some (.ref a))) (hG : G a = some (.frz od (.dK kvs))) (hk : kvs.map (·.1) = xs.map Sum.inr) : SrcI (iKeys (tVar i)) σ G xs.length (fun j v _ => ∃ x, xs[j]? = some x ∧ v = .str x) := fun G0 H u s Q k => by
  have hl : kvs.length = xs.length := by have := congrArg List.length hk; simpa using this
  refine ⟨_, hσ, a, od, rfl, .inl ⟨kvs, s _ _ (u _ _ hG), k _ _ G0 H _ (.refl s) (fun H3 s3 => s3 _ _ (u _ _ hG)) (hl ▸ walk_keys) fun j G3 H3 x H4 hj u3 s3 ⟨e1, key, v, e2, e3⟩ => ?_⟩⟩
  subst e1
  subst e3
  refine ⟨G3, .refl s3, ?_⟩
  have e4 : (kvs.map (·.1))[j]? = some key := by rw [List.getElem?_map, e2]; rfl
  rw [hk, List.getElem?_map] at e4
  cases q : xs[j]? with
  | none => rw [q] at e4; simp at e4
  | some x =>
    rw [q] at e4
    have : key = .inr x := by simpa using e4.symm
    subst this
    exact ⟨x, q, rfl⟩
/-- [x for x in .. if ..], the texts walked told one by one -/
theorem en_filtS {wi : TI} {xs : List Str} {j : Nat} {tt : TT} (pf : Str → Bool) (src : SrcI wi σ G xs.length (fun j v _ => ∃ x, xs[j]? = some x ∧ v = .str x)) (hn : xs.length ≤ 1000000) (hj : j < σ.length)
    (turn : ∀ x G1, x ∈ xs → Same G G1 → Et tt ((σ.set j none).set j (some (.str x))) G1 (pf x)) : EvN K (tLc wi (gName j) tt (tVar j) [j]) σ G (fun ds => ds = sds (xs.filter pf)) := by
  have ev := en_lcD (K := K) (tt := tt) (te := tVar j) (g := gName j) (vs := [j]) (fun i => pf (xs.getD i ⟨#[]⟩)) (fun i => .str (xs.getD i ⟨#[]⟩)) src hn fun i G1 x hi u ⟨z, hz, hx⟩ => by
    subst hx
    have e1 : xs.getD i ⟨#[]⟩ = z := by rw [List.getD_eq_getElem?_getD, hz]; rfl
    refine ⟨_, tg_name, ?_, ?_, fun _ => ⟨rfl, ?_⟩⟩
    · show ((σ.set j none).set j _).set j none = σ.set j none
      rw [List.set_set, List.set_set]
    · rw [e1]; exact turn z G1 (mem_of_get hz) u
    · rw [e1]
      refine e_var ?_ (.str z)
      show ((σ.set j none).set j (some (V.str z)))[j]? = _
      rw [List.getElem?_set_self (by rw [List.length_set]; exact hj)]
  refine ev.imp fun ds e => ?_
  rw [e, range_map xs pf PyData.str]
  · intro i x hx; rw [List.getD_eq_getElem?_getD, hx]; rfl
  · intro i x hx; rw [List.getD_eq_getElem?_getD, hx]; rfl
end
section
variable {P : Program} {w : World} {K : PySem.W.Frag} {mg : Str → Option Value} {base : Heap}
structure UPre (ns : List Note) (d : PyData) (xs : List Str) : Prop where
  t : Told ns
  ok : NotesOk ns
  l : ns.length ≤ 40
  d : SqD d (sds xs)
  sub : ∀ x ∈ xs, x ∈ nms ns
  len : xs.length ≤ 50
def sp__law_upper (K : PySem.W.Frag) : Sp := SpG (Γ := List Note × PyData × List Str) (fun x => [UndD K x.1, D K x.2.1]) (fun x => UPre x.1 x.2.1 x.2.2 ∧ x.2.2.Nodup) fun x => D K (.tuple (sds (upper x.1 x.2.2)))
abbrev s__law_upper : Stmt := top 53
abbrev N__law_upper : List Str := ["_law_below", "_law_some_here", "_law_one", "_law_more"]
theorem sc__law_upper : FnScope N__law_upper ["_law_below", "_law_some_here"] (defScope s__law_upper) := ⟨rfl, rfl, rfl, by decide +kernel, rfl, by decide +kernel, by decide +kernel⟩
theorem ok__law_upper {f : Addr} {fd : FuncData} (F : Fun K "_law_upper" "_law_upper" s__law_upper f fd) (T : Txt mg)  : FnOk P w K mg base CX0 1 f fd ["_law_below", "_law_some_here"] (sp__law_upper K) := by
  refine F.ok sc__law_upper (fun vs H Q E h => ?_) (fun cdv A outer s H vs Q E hr h => ?_)
  · obtain ⟨x, G, hs, ⟨v1, _, rfl, h1, v2, _, rfl, h2, rfl⟩, hp, k⟩ := h; rfl
  · obtain ⟨⟨ns, d, xs⟩, G, hs, ⟨v1, _, rfl, h1, v2, _, rfl, h2, rfl⟩, ⟨hp, hnd⟩, k⟩ := h
    replace h2 : Dp K G v2 d := h2
    obtain ⟨t, ok, l40, hd, hsub, hlen⟩ : UPre ns d xs := hp
    replace hnd : xs.Nodup := hnd
    obtain ⟨L, hUL, h1⟩ : UndD K ns v1 G := h1
    replace h1 := h1.dt
    have nd := sc__law_upper.nd
    have hu := hu_of hr
    have hrU := hrU_of hr
    refine ⟨_, pss_one (ps_ret (pe_callTy (kTup K) (by rfl) T.m_tuple (by decide +kernel) (pa_cons (pe_callB (kSrt K) (by rfl) T.m_sorted (by decide +kernel) (pa_cons (pe_lc (own := [("_law_one", 2)]) (by rfl) nd (kSeq K (pv 1)) (blkOk_by (by kernel_rfl)) (fun _ _ _ _ _ => (pg_n 2 nd)) (fun _ _ _ _ _ => (pts_one (pt_cmpR (kEq K hrU) (pe_lc (own := [("_law_more", 3)]) (by rfl) nd (kSeq K (pv 1)) (blkOk_by (by kernel_rfl)) (fun _ _ _ _ _ => (pg_n 3 nd)) (fun _ _ _ _ _ => (pts_one (PW.pt (pw_and (pt_cmpR op_ne (pv 3) (pv 2) (nomark _)) (pw_and1 (pt_cmpR (kIn K) (pv 2) (pe_dget hu (pv 0) (pv 3) (fun _ _ => rfl)) (by rfl))))))) (fun _ _ _ _ _ => (pv 3))) (pe_lst pa_nil) (nomark _)))) (fun _ _ _ _ _ => (pv 2))) pa_nil)) pa_nil))), ?_⟩
    refine st (σ' := [some v1, some v2, none, none]) rfl ?_
    have key : xs.filter (fun o => (xs.filter fun z => !decide (z = o) && decide (o ∈ L z)).isEmpty) = xs.filter (fun o => bP (∀ z ∈ xs, z ≠ o → ¬ Und ns o z)) := by
      apply List.filter_congr
      intro o ho
      apply bP_of
      rw [List.isEmpty_iff, List.filter_eq_nil_iff]
      constructor
      · intro h z hz hne hu
        exact h z hz (by have := ((ul_at hUL z (hsub z hz)).2 o).mpr hu; simp [hne, this])
      · intro h z hz q
        simp only [Bool.and_eq_true, Bool.not_eq_true', decide_eq_false_iff_not, decide_eq_true_eq] at q
        exact h z hz q.1 (((ul_at hUL z (hsub z hz)).2 o).mp q.2)
    have e : upper ns xs = lotOf (xs.filter (fun o => (xs.filter fun z => !decide (z = o) && decide (o ∈ L z)).isEmpty)) := by unfold upper; rw [key]
    refine s_ret hs ((ed_tupOf (K := K) (.l _) (en_srt (xs := xs.filter (fun o => (xs.filter fun z => !decide (z = o) && decide (o ∈ L z)).isEmpty)) (hnd.filter _) (by have := List.length_filter_le (fun o => (xs.filter fun z => !decide (z = o) && decide (o ∈ L z)).isEmpty) xs; omega) (en_filt (xs := xs) (fun o => (xs.filter fun z => !decide (z = o) && decide (o ∈ L z)).isEmpty) hd (e_var rfl h2) (by omega) (by simp) fun o G1 ho u1 => ?_).d).d).to (by rw [e])) k
    refine et_T (ed_eqE (en_filt (K := K) (xs := xs) (fun z => !decide (z = o) && decide (o ∈ L z)) hd (e_var rfl (Dp.up u1 _ _ h2)) (by omega) (by simp) fun z G2 hz u2 => ?_).d fun z hz => nms_ok ok z (hsub z (List.mem_filter.mp hz).1))
    exact et_and (et_T (ed_neS (K := K) (e_var rfl (.str z)) (e_var rfl (.str o)))) fun _ => et_T (ed_isIn (.l (sds (L z))) (e_var rfl (.str o)) (ed_below (hsub z hz) (e_var rfl (stb (R := DT K (ulF ns L)) (u1.trans u2) h1)) (e_var rfl (.str z))))
def sp__law_bare (K : PySem.W.Frag) : Sp := SpG (Γ := List Note × Str) (fun x => [D K (.list (dNotes x.1)), UndD K x.1, D K (.str x.2)]) (fun x => Told x.1 ∧ NotesOk x.1 ∧ x.1.length ≤ 40 ∧ x.2 ∈ nms x.1) fun x => D K (.tuple (sds (bare x.1 x.2)))
abbrev s__law_bare : Stmt := top 54
abbrev N__law_bare : List Str := ["_law_notes_here", "_law_below", "_law_name", "_law_owner", "_law_note", "_law_row", "_law_own", "_law_one", "_law_more"]
theorem sc__law_bare : FnScope N__law_bare ["_law_notes_here", "_law_below", "_law_name"] (defScope s__law_bare) := ⟨rfl, rfl, rfl, by decide +kernel, rfl, by decide +kernel, by decide +kernel⟩
theorem ok__law_bare {f : Addr} {fd : FuncData} (F : Fun K "_law_bare" "_law_bare" s__law_bare f fd) (T : Txt mg) (c__law_upper : Cal P w K mg base CX0 1 "_law_upper" ["_law_below", "_law_some_here"] (sp__law_upper K)) : FnOk P w K mg base CX0 2 f fd ["_law_notes_here", "_law_below", "_law_name"] (sp__law_bare K) := by
  refine F.ok sc__law_bare (fun vs H Q E h => ?_) (fun cdv A outer s H vs Q E hr h => ?_)
  · obtain ⟨x, G, hs, ⟨v1, _, rfl, h1, v2, _, rfl, h2, v3, _, rfl, h3, rfl⟩, hp, k⟩ := h; rfl
  · obtain ⟨⟨ns, y⟩, G, hs, ⟨v1, _, rfl, h1, v2, _, rfl, h2, v3, _, rfl, h3, rfl⟩, ⟨t, ok, l40, hy⟩, k⟩ := h
    replace h1 : Dp K G v1 (.list (dNotes ns)) := h1
    replace t : Told ns := t
    replace ok : NotesOk ns := ok
    replace l40 : ns.length ≤ 40 := l40
    replace hy : y ∈ nms ns := hy
    have hu2 : UndD K ns v2 G := h2
    obtain ⟨L, hUL, h2⟩ : UndD K ns v2 G := h2
    replace h2 := h2.dt
    cases d_str h3
    have nd := sc__law_bare.nd
    have hu := hu_of hr
    have hrU := hrU_of hr
    refine ⟨_, pss_cons (ps_n 3 nd (pe_ix (kIx K) (pe_lc (own := [("_law_note", 4)]) (by rfl) nd (kSeq K (pv 0)) (blkOk_by (by kernel_rfl)) (fun _ _ _ _ _ => (pg_n 4 nd)) (fun _ _ _ _ _ => (pts_one (pt_cmpR op_eq (pe_ix (kIx K) (pv 4) (pe_int) (fun _ _ => rfl)) (pv 2) (nomark _)))) (fun _ _ _ _ _ => (pe_ix (kIx K) (pv 4) (pe_int) (fun _ _ => rfl)))) (pe_int) (fun _ _ => rfl)))
    (pss_cons (ps_setLc (i := 5) (own := [("_law_note", 4)]) (by rfl) nd rfl rfl (sw_true rfl rfl rfl (by decide +kernel)) (kSeq K (pv 0)) (blkOk_by (by kernel_rfl)) (fun _ _ _ _ _ => (pg_n 4 nd)) (fun _ _ _ _ _ => (pts_one (pt_cmpR op_eq (pe_ix (kIx K) (pv 4) (pe_int) (fun _ _ => rfl)) (pv 3) (nomark _)))) (fun _ _ _ _ _ => (pe_ix (kIx K) (pv 4) (pe_int) (fun _ _ => rfl))))
    (pss_cons (ps_n 6 nd (pe_slice (kSl K) (pe_slice (kSl K) (pv 5) po_none (po_some (pe_bm PySem.F.plainAttrs_list PySem.F.slot_list_index PySem.F.type_list_index (kIndex K) (pv 5) (pa_cons (pv 2) pa_nil)))) (po_some (pe_un un_neg (pe_int))) po_none))
    (pss_one (ps_ret (pe_callTy (kTup K) (by rfl) T.m_tuple (by decide +kernel) (pa_cons (pe_lc (own := [("_law_one", 7)]) (by rfl) nd (kSeq K (pe_cal c__law_upper (hr.mono (by decide)) (by rfl) pass0 (pa_cons (pv 1) (pa_cons (pe_lc (own := [("_law_more", 8)]) (by rfl) nd (kSeq K (pe_dget hu (pv 1) (pv 2) (fun _ _ => rfl))) (blkOk_by (by kernel_rfl)) (fun _ _ _ _ _ => (pg_n 8 nd)) (fun _ _ _ _ _ => (pts_one (pt_cmpR op_ne (pv 8) (pv 2) (nomark _)))) (fun _ _ _ _ _ => (pv 8))) pa_nil)))) (blkOk_by (by kernel_rfl)) (fun _ _ _ _ _ => (pg_n 7 nd)) (fun _ _ _ _ _ => (pts_one (pt_cmpR (kNi K) (pv 7) (pv 6) (by rfl)))) (fun _ _ _ _ _ => (pv 7))) pa_nil)))))), ?_⟩
    refine st (σ' := [some v1, some v2, some (V.str y), none, none, none, none, none, none]) rfl ?_
    obtain ⟨i, n, hi, e0⟩ := get_mem_nms hy
    have ehd : hnd ns y = n.2.1 := by rw [← e0]; exact hnd_at t.nodup hi
    have hl : (dNotes ns).length = ns.length := List.length_map _
    have evo := en_lcD (K := K) (σ := [some v1, some v2, some (.str y), none, none, none, none, none, none]) (G := G) (tt := tTest (tOp rEq (tOp (rIx K) (tVar 4) (tC (.int 0))) (tVar 2))) (te := tOp (rIx K) (tVar 4) (tC (.int 1))) (g := gName 4) (vs := [4]) (fun i => decide ((nms ns).getD i ⟨#[]⟩ = y)) (fun i => .str ((ns.map (·.2.1)).getD i ⟨#[]⟩)) (src_seq (.l (dNotes ns)) (e_var (i := 0) rfl h1)) (by omega) fun i G1 x hi u ⟨e, he, hx⟩ => by
      obtain ⟨n, hn', rfl⟩ := dN_get he
      have e1 : (ns.map (·.2.1)).getD i ⟨#[]⟩ = n.2.1 := by rw [List.getD_eq_getElem?_getD, List.getElem?_map, hn']; rfl
      have e2 : (nms ns).getD i ⟨#[]⟩ = n.1 := by rw [List.getD_eq_getElem?_getD, nms_get hn']; rfl
      refine ⟨_, tg_name, rfl, ?_, fun _ => ⟨rfl, ?_⟩⟩
      · rw [e2]
        exact et_T (ed_eqS (K := K) (ed_ix 0 (.t _) (e_var rfl hx) ed_int (.inl ⟨rfl, by simp⟩) rfl) (e_var rfl (.str y)))
      · rw [e1]
        exact ed_ix 1 (.t _) (e_var rfl hx) ed_int (.inl ⟨rfl, by simp⟩) rfl
    have eqo : ((List.range (dNotes ns).length).filter fun i => decide ((nms ns).getD i ⟨#[]⟩ = y)).map (fun i => PyData.str ((ns.map (·.2.1)).getD i ⟨#[]⟩)) = (ns.filter fun n => decide (n.1 = y)).map fun n => PyData.str n.2.1 := by
      rw [hl]
      exact range_map ns (fun n => decide (n.1 = y)) (fun n => PyData.str n.2.1) _ _ (fun i n h => by rw [List.getD_eq_getElem?_getD, nms_get h]; rfl) (fun i n h => by rw [List.getD_eq_getElem?_getD, List.getElem?_map, h]; rfl)
    rw [eqo] at evo
    have hfirst : ((ns.filter fun n => decide (n.1 = y)).map fun n => PyData.str n.2.1)[0]? = some (.str (hnd ns y)) := by
      obtain ⟨m, m1, m2, m3, _⟩ := lookup_notes (g := fun _ => .none) hy
      rw [List.getElem?_map, ← List.head?_eq_getElem?, List.head?_filter, m3]
      unfold hnd
      rw [m3]; rfl
    have hlen0 : 0 < ((ns.filter fun n => decide (n.1 = y)).map fun n => PyData.str n.2.1).length := by
      rcases Nat.eq_zero_or_pos ((ns.filter fun n => decide (n.1 = y)).map fun n => PyData.str n.2.1).length with q | q
      · rw [List.length_eq_zero_iff.mp q] at hfirst; simp at hfirst
      · exact q
    refine q_asg hs (ed_ix (K := K) (e := .str (hnd ns y)) 0 (.l _) evo.d ed_int (.inl ⟨rfl, hlen0⟩) hfirst) fun w3 G1 H1 g1 q3 => ?_
    cases d_str q3
    refine st (σ' := [some v1, some v2, some (V.str y), some (V.str (hnd ns y)), none, none, none, none, none]) rfl ?_
    replace h1 := Dp.up g1.up _ _ h1
    refine q_asg g1.sub (en_row (K := K) (ns := ns) (i := 0) (j := 4) (k := 3) (h := hnd ns y) (by omega) (e_var rfl h1) (by simp) fun G6 v u6 => e_var rfl (.str _)).d fun w5 G2 H2 g2 r5 => ?_
    refine st (σ' := [some v1, some v2, some (V.str y), some (V.str (hnd ns y)), none, some w5, none, none, none]) rfl ?_
    have ry : y ∈ row ns (hnd ns y) := (mem_row t.nodup).mpr ⟨hy, rfl⟩
    refine q_asg g2.sub ((en_sl (K := K) ((en_sl (K := K) (e_var (i := 5) rfl r5) eo_none (eo_some (K := K) (ed_index ry (e_var (i := 5) rfl r5) (e_var (i := 2) rfl (.str y))))).d.to (d' := .list (sds ((row ns (hnd ns y)).take ((row ns (hnd ns y)).idxOf y)))) (by rw [cut_to, ← List.map_take])) (eo_some (K := K) (ed_neg ed_int)) eo_none).d.to (d' := .list (sds (prv ns y))) (by rw [cut_last]; rfl)) fun w6 G3 H3 g3 r6 => ?_
    refine st (σ' := [some v1, some v2, some (V.str y), some (V.str (hnd ns y)), none, some w5, some w6, none, none]) rfl ?_
    have up3 := (g1.up.trans g2.up).trans g3.up
    have ub : ∀ x, x ∈ (L y).filter (fun z => !decide (z = y)) ↔ x ∈ below ns y := fun x => by
      rw [List.mem_filter, mem_below t, (ul_at hUL y hy).2 x]
      simp
    have ll := ul_len t hUL hy
    have lf : ((L y).filter fun z => !decide (z = y)).length ≤ 40 := by have := List.length_filter_le (fun z => !decide (z = y)) (L y); omega
    have evl : EvS (tLc (iSeq K (tDGet (tVar 1) (tVar 2))) (gName 8) (tTest (tOp rNe (tVar 8) (tVar 2))) (tVar 8) [8]) [some v1, some v2, some (.str y), some (.str (hnd ns y)), none, some w5, some w6, none, none] G3 (D K (.list (sds ((L y).filter fun z => !decide (z = y))))) :=
      (en_filt (xs := L y) (fun z => !decide (z = y)) (.l _) (ed_below hy (e_var rfl (stb (R := DT K (ulF ns L)) up3 h2)) (e_var rfl (.str y))) (by omega) (by simp) fun z G6 hz u6 => et_T (ed_neS (K := K) (e_var rfl (.str z)) (e_var rfl (.str y)))).d
    have evu : EvS (tCall (sp__law_upper K) [] E0 (tCons (tVar 1) (tCons (tLc (iSeq K (tDGet (tVar 1) (tVar 2))) (gName 8) (tTest (tOp rNe (tVar 8) (tVar 2))) (tVar 8) [8]) tNil))) [some v1, some v2, some (.str y), some (.str (hnd ns y)), none, some w5, some w6, none, none] G3 (D K (.tuple (sds (upper ns (below ns y))))) := by
      have c := e_call (E := E0) (Γ := List Note × PyData × List Str) (args := fun x => [UndD K x.1, D K x.2.1]) (pre := fun x => UPre x.1 x.2.1 x.2.2 ∧ x.2.2.Nodup) (res := fun x => D K (.tuple (sds (upper x.1 x.2.2)))) (ns, .list (sds ((L y).filter fun z => !decide (z = y))), (L y).filter fun z => !decide (z = y))
        (ea_cons (R := UndD K ns) (e_var (i := 1) (σ := [some v1, some v2, some (.str y), some (.str (hnd ns y)), none, some w5, some w6, none, none]) rfl (stb up3 hu2)) (ea_cons (R := D K (.list (sds ((L y).filter fun z => !decide (z = y))))) evl ea_nil))
        ⟨⟨t, ok, l40, .l _, fun x hx => (((mem_below t).mp ((ub x).mp hx)).1.mem t).1, by show ((L y).filter fun z => !decide (z = y)).length ≤ 50; omega⟩, (ul_at hUL y hy).1.filter _⟩
      exact c.to (by rw [upper_congr ub])
    have lu : (upper ns (below ns y)).length ≤ 40 := by
      have := nodup_sub_len (asc_nodup (asc_upper ns (below ns y))) (ys := nms ns) fun x hx => (((mem_below t).mp (upper_sub hx)).1.mem t).1
      rw [List.length_map] at this
      omega
    exact s_ret g3.sub (ed_tupOf (.l _) (en_filt (K := K) (xs := upper ns (below ns y)) (fun z => !decide (z ∈ prv ns y)) (.t _) evu (by omega) (by simp) fun z G6 hz u6 => et_T (ed_niIn (.l (sds (prv ns y))) (e_var rfl (.str z)) (e_var rfl (Dp.up u6 _ _ r6)))).d) fun v G4 H4 g4 => k v G4 H4 (((g1.trans g2).trans g3).trans g4)
def sp__law_whole (K : PySem.W.Frag) : Sp := SpG (Γ := List Note × PyData × List Str) (fun x => [UndD K x.1, D K x.2.1]) (fun x => UPre x.1 x.2.1 x.2.2) fun x => D K (.tuple (sds (whole x.1 x.2.2)))
abbrev s__law_whole : Stmt := top 55
abbrev N__law_whole : List Str := ["_law_below", "_law_paper", "_law_name", "_law_one"]
theorem sc__law_whole : FnScope N__law_whole ["_law_below", "_law_paper"] (defScope s__law_whole) := ⟨rfl, rfl, rfl, by decide +kernel, rfl, by decide +kernel, by decide +kernel⟩
theorem ok__law_whole {f : Addr} {fd : FuncData} (F : Fun K "_law_whole" "_law_whole" s__law_whole f fd) (T : Txt mg)  : FnOk P w K mg base CX0 1 f fd ["_law_below", "_law_paper"] (sp__law_whole K) := by
  refine F.ok sc__law_whole (fun vs H Q E h => ?_) (fun cdv A outer s H vs Q E hr h => ?_)
  · obtain ⟨x, G, hs, ⟨v1, _, rfl, h1, v2, _, rfl, h2, rfl⟩, hp, k⟩ := h; rfl
  · obtain ⟨⟨ns, d, xs⟩, G, hs, ⟨v1, _, rfl, h1, v2, _, rfl, h2, rfl⟩, hp, k⟩ := h
    replace h2 : Dp K G v2 d := h2
    obtain ⟨t, ok, l40, hd, hsub, hlen⟩ : UPre ns d xs := hp
    obtain ⟨L, hUL, a, kvs, ea, h1, hk⟩ : UndD K ns v1 G := h1
    subst ea
    have nd := sc__law_whole.nd
    have hu := hu_of hr
    have hrU := hrU_of hr
    refine ⟨_, pss_one (ps_ret (pe_callTy (kTup K) (by rfl) T.m_tuple (by decide +kernel) (pa_cons (pe_callB (kSrt K) (by rfl) T.m_sorted (by decide +kernel) (pa_cons (pe_lock (pe_lc (own := [("_law_name", 2)]) (by rfl) nd (pi_keys (pv 0)) (blkOk_by (by kernel_rfl)) (fun _ _ _ _ _ => (pg_n 2 nd)) (fun _ _ _ _ _ => (pts_one (pt_cmpR (kNe K hrU) (pe_lc (own := [("_law_one", 3)]) (by rfl) nd (kSeq K (pv 1)) (blkOk_by (by kernel_rfl)) (fun _ _ _ _ _ => (pg_n 3 nd)) (fun _ _ _ _ _ => (pts_one (pt_cmpR (kIn K) (pv 2) (pe_dget hu (pv 0) (pv 3) (fun _ _ => rfl)) (by rfl)))) (fun _ _ _ _ _ => (pv 3))) (pe_lst pa_nil) (nomark _)))) (fun _ _ _ _ _ => (pv 2)))) pa_nil)) pa_nil))), ?_⟩
    refine st (σ' := [some (V.ref a), some v2, none, none]) rfl ?_
    have hnl : (nms ns).length = ns.length := List.length_map _
    have hkk : kvs.map (·.1) = (nms ns).map Sum.inr := by
      rw [hk.1]; unfold ulF; rw [List.map_map, List.map_map]; rfl
    have key : (nms ns).filter (fun x => !(xs.filter fun z => decide (x ∈ L z)).isEmpty) = (nms ns).filter (fun x => bP (∃ z ∈ xs, Und ns x z)) := by
      apply List.filter_congr
      intro o ho
      apply bP_of
      constructor
      · intro h
        cases ef : xs.filter (fun z => decide (o ∈ L z)) with
        | nil => rw [ef] at h; simp at h
        | cons z r =>
          have hz : z ∈ xs.filter (fun z => decide (o ∈ L z)) := by rw [ef]; exact List.mem_cons_self
          obtain ⟨z1, z2⟩ := List.mem_filter.mp hz
          exact ⟨z, z1, ((ul_at hUL z (hsub z z1)).2 o).mp (of_decide_eq_true z2)⟩
      · rintro ⟨z, hz, hu⟩
        have hm : z ∈ xs.filter (fun z => decide (o ∈ L z)) := List.mem_filter.mpr ⟨hz, decide_eq_true (((ul_at hUL z (hsub z hz)).2 o).mpr hu)⟩
        cases ef : xs.filter (fun z => decide (o ∈ L z)) with
        | nil => rw [ef] at hm; simp at hm
        | cons z r => rfl
    refine s_ret hs ((ed_tupOf (K := K) (.l _) (en_srt (xs := (nms ns).filter (fun x => !(xs.filter fun z => decide (x ∈ L z)).isEmpty)) (t.nodup.filter _) (by have := List.length_filter_le (fun x => !(xs.filter fun z => decide (x ∈ L z)).isEmpty) (nms ns); omega) (en_lock h1 fun od => ?_).d).d).to (by unfold whole; rw [key])) k
    have sd := sameD_frz (o := .frz od (.dK kvs)) h1
    have hk' : KvD K (upd G a (.frz od (.dK kvs))) kvs (ulF ns L) := ⟨hk.1, DpAll.nd sd _ _ hk.2⟩
    have hdt : DT K (ulF ns L) (.ref a) (upd G a (.frz od (.dK kvs))) := ⟨a, kvs, rfl, .inr ⟨od, upd_same⟩, hk'⟩
    have h2' := Dp.nd sd _ _ h2
    refine en_filtS (fun x => !(xs.filter fun z => decide (x ∈ L z)).isEmpty) (src_keys rfl upd_same hkk) (by omega) (by simp) fun x G1 hx u1 => ?_
    exact et_T (ed_neE (en_filt (K := K) (xs := xs) (fun z => decide (x ∈ L z)) hd (e_var rfl (Dp.up u1 _ _ h2')) (by omega) (by simp) fun z G2 hz u2 => et_T (ed_isIn (.l (sds (L z))) (e_var rfl (.str x)) (ed_below (hsub z hz) (e_var rfl (stb (R := DT K (ulF ns L)) (u1.trans u2) hdt)) (e_var rfl (.str z))))).d fun z hz => nms_ok ok z (hsub z (List.mem_filter.mp hz).1))
end
end KB

set_option Elab.async false
set_option linter.all false
set_option maxRecDepth 100000
set_option maxHeartbeats 4000000
/-! sorted(..) of notes with names of their own. -/
namespace KB
open PySem PySem.Spec PyProof.Rows L2
open PySem.W (EachIs AllAlike Sortable sorted_data dataLe dataLt_tuple dataLt_cons dataLt_str alike alikeAll sort_pairwise sortLe_total)
/-- sorted(..) of notes with names of their own -/
def rSortedN (K : PySem.W.Frag) : List V → Hp → VK → Prop := fun vs H Q => ∃ (a : Addr) (ps : List (V × Note)), vs = [.ref a] ∧ SqL K H a (ps.map (·.1)) ∧ (∀ q ∈ ps, Dp K H q.1 (dNote q.2)) ∧ (nms (ps.map (·.2))).Nodup ∧ ps.length < 64 ∧
  ∀ (qs : List (V × Note)) (p : Addr), qs.Perm ps → Asc (nms (qs.map (·.2))) → H p = none → Q (.ref p) (upd H p (.lst (qs.map (·.1))))
theorem each_vals : ∀ {ps : List (V × Note)} {us : List Value}, Vals (ps.map (·.1)) us → EachIs (fun v (q : V × Note) => RelV q.1 v) us ps
  | [], _, .nil => .nil
  | q :: ps, _, .cons r t => .cons r (each_vals t)
theorem vals_each : ∀ {ps : List (V × Note)} {us : List Value}, EachIs (fun v (q : V × Note) => RelV q.1 v) us ps → Vals (ps.map (·.1)) us
  | [], _, .nil => .nil
  | q :: ps, _, .cons r t => .cons r (vals_each t)
theorem alike_strs : ∀ xs ys : List Str, alikeAll (sds xs) (sds ys) = true
  | [], _ => by simp [alikeAll]
  | _ :: _, [] => by simp [alikeAll]
  | x :: xs, y :: ys => by
    show alikeAll (.str x :: sds xs) (.str y :: sds ys) = true
    rw [alikeAll, alike_strs xs ys]
    simp [alike]
theorem alike_notes (m n : Note) : alike (dNote m) (dNote n) = true := by
  simp only [dNote, alike, alikeAll, alike_strs, Bool.and_true]
theorem depth_sds : ∀ xs : List Str, PyData.depthAll (sds xs) = 0
  | [] => by simp [PyData.depthAll]
  | x :: xs => by
    show PyData.depthAll (.str x :: sds xs) = 0
    simp only [PyData.depthAll, PyData.depth, depth_sds xs, Nat.max_self]
theorem depth_note (n : Note) : (dNote n).depth ≤ 3 := by
  simp only [dNote, PyData.depth, PyData.depthAll, depth_sds]
  omega
theorem less_note {m n : Note} (h : m.1 ≠ n.1) (e : PySem.W.dataLt (dNote m) (dNote n) = false) : ¬ SLt m.1 n.1 := fun l => by
  have q : PySem.W.dataLt (dNote m) (dNote n) = PySem.W.dataLt (.str m.1) (.str n.1) := by
    show PySem.W.dataLt (.tuple [.str m.1, .str m.2.1, .tuple (sds m.2.2)]) (.tuple [.str n.1, .str n.2.1, .tuple (sds n.2.2)]) = _
    rw [dataLt_tuple, dataLt_cons (by simp [alike])]
    have ne : PyData.eqv (.str m.1) (.str n.1) = false := by simpa [PyData.eqv] using h
    rw [ne, if_neg Bool.false_ne_true]
  rw [q, dataLt_str, decide_eq_false_iff_not] at e
  exact e l
theorem kSrtN (K : PySem.W.Frag) {X : Cx} (hu : X.A.units + 64 < cLine) (h : X.K = K := by rfl) : CallR X (.builtin "sorted") (rSortedN K) := by
  subst h
  intro pins s σ H vs us Q I r h
  obtain ⟨a, ps, rfl, hs, hd, hn, hl, q⟩ := h
  obtain ⟨its, rv, pl, _⟩ := I.list hs
  rw [Vals.ref1 r]
  have e := each_vals rv
  have er : EachIs (fun v (q : V × Note) => ∃ as, Reads s.heap v (dNote q.2) as) its ps := by
    have key : ∀ {ps : List (V × Note)} {us : List Value}, (∀ q ∈ ps, Dp X.K H q.1 (dNote q.2)) → EachIs (fun v (q : V × Note) => RelV q.1 v) us ps → EachIs (fun v (q : V × Note) => ∃ as, Reads s.heap v (dNote q.2) as) us ps := fun {ps us} hd e => by
      induction e with
      | nil => exact .nil
      | cons r t ih => exact .cons (Dp.reads I _ _ _ (hd _ List.mem_cons_self) r) (ih fun q hq => hd q (List.mem_cons_of_mem _ hq))
    exact key hd e
  have hlt : ps.length = its.length := by rw [← rv.length, List.length_map]
  refine sorted_data (enc := fun q : V × Note => dNote q.2) pl.isList e er (AllAlike.of fun b b' => alike_notes _ _) (Sortable.tuples fun b => ⟨_, _, rfl⟩) (by rw [sizeLine_eq]; omega) (fun b _ => by have := depth_note b.2; omega) fun out hz eo => ?_
  have pm : (ps.mergeSort (dataLe false fun q : V × Note => dNote q.2)).Perm ps := List.mergeSort_perm _ _
  have pw := sort_pairwise (sortLe_total (PyProof.Rows.listOrd PyProof.Rows.itemOrd) false fun q : V × Note => PySem.W.keyToks (dNote q.2)) ps
  have pw2 : (ps.mergeSort (dataLe false fun q : V × Note => dNote q.2)).Pairwise (fun a b => PySem.W.dataLt (dNote b.2) (dNote a.2) = false) := pw.imp fun {a b} z => by
    have z' : (!PySem.W.dataLt (dNote b.2) (dNote a.2)) = true := z
    simpa using z'
  generalize ps.mergeSort (dataLe false fun q : V × Note => dNote q.2) = qs at *
  have ha : Asc (nms (qs.map (·.2))) := by
    have nd : (nms (qs.map (·.2))).Nodup := ((pm.map (·.2)).map (·.1)).nodup_iff.mpr hn
    unfold nms at nd ⊢
    rw [List.map_map] at nd ⊢
    have nd2 : qs.Pairwise (fun a b => a.2.1 ≠ b.2.1) := List.pairwise_map.mp nd
    refine List.pairwise_map.mpr ((pw2.and nd2).imp fun {a b} ⟨z1, z2⟩ => ?_)
    rcases slt_tri a.2.1 b.2.1 with t | t | t
    · exact t
    · exact absurd t z2
    · exact absurd t (less_note (Ne.symm z2) z1)
  have hv := vals_each eo
  obtain ⟨ep, he'⟩ := PyProof.Rows.sortedAll_at s.heap its (List.toArray out)
  have hlen : (qs.map (·.1)).length ≤ sizeLine := by rw [List.length_map, pm.length_eq, sizeLine_eq]; omega
  exact ⟨.ref _, upd H (s.heap.objs.size + 1) (.lst (qs.map (·.1))), I.laid (t' := s.toks) (fun _ _ => PyProof.Rows.sortedAll_old) (Nat.le_succ _) ⟨hlen, out, ep, hv, he'⟩, rfl, q qs _ pm ha (I.hok.fresh (Nat.le_succ _))⟩
end KB

set_option Elab.async false
set_option linter.all false
set_option maxRecDepth 100000
set_option maxHeartbeats 4000000
/-! The law's defs: webs, drawn orders, drawn lots. -/
namespace KB
open PySem PySem.Spec PyProof.Rows L2
noncomputable abbrev webD (p : Pac) : PyData := .tuple [.tuple (sds p.hands), .list (dNotes (webOf p)), .tuple (sds p.ready), .tuple (sds (whole p.notes p.paper))]
theorem dp_zip {K : PySem.W.Frag} {H : Hp} : ∀ {vs : List V} {ns : List Note}, DpAll K H vs (dNotes ns) → ∃ ps : List (V × Note), ps.map (·.1) = vs ∧ ps.map (·.2) = ns ∧ ∀ q ∈ ps, Dp K H q.1 (dNote q.2)
  | _, [], h => by cases h; exact ⟨[], rfl, rfl, by simp⟩
  | _, n :: ns, h => by
    cases h with
    | @cons v _ vs _ a b =>
      obtain ⟨ps, e1, e2, e3⟩ := dp_zip (ns := ns) b
      refine ⟨(v, n) :: ps, by rw [List.map_cons, e1], by rw [List.map_cons, e2], fun q hq => ?_⟩
      rcases List.mem_cons.mp hq with r | r
      · rw [r]; exact a
      · exact e3 q r
theorem zip_dp {K : PySem.W.Frag} {H : Hp} : ∀ {ps : List (V × Note)}, (∀ q ∈ ps, Dp K H q.1 (dNote q.2)) → DpAll K H (ps.map (·.1)) (dNotes (ps.map (·.2)))
  | [], _ => .nil
  | q :: ps, h => .cons (h q List.mem_cons_self) (zip_dp fun r hr => h r (List.mem_cons_of_mem _ hr))
theorem e_srtN {K : PySem.W.Frag} {σ : L2.St} {G : Hp} {te : TE} {ns es : List Note} (hn : (nms ns).Nodup) (hl : ns.length < 64) (he : ∀ ns', ns'.Perm ns → Asc (nms ns') → ns' = es) (h : EvS te σ G (D K (.list (dNotes ns)))) :
    EvS (tCB (rSortedN K) (tCons te tNil)) σ G (D K (.list (dNotes es))) := by
  have h2 : EvN K (tCB (rSortedN K) (tCons te tNil)) σ G (fun ds => ds = dNotes es) := fun G0 H u s Q k => h G0 H u s _ fun v G1 H1 g1 r => by
    obtain ⟨a, vs, rfl, hq, hd⟩ := d_list r
    obtain ⟨ps, e1, e2, e3⟩ := dp_zip hd
    refine ⟨a, ps, rfl, by rw [e1]; exact g1.sub.seq hq, fun q hq => Dp.up g1.sub _ _ (e3 q hq), by rw [e2]; exact hn, by rw [← List.length_map (f := (·.2)), e2]; exact hl, fun qs p hp ha hP => ?_⟩
    have e : qs.map (·.2) = es := he _ (by rw [← e2]; exact hp.map _) ha
    have hd2 := zip_dp (K := K) (H := G1) (ps := qs) fun q hq => e3 q (hp.mem_iff.mp hq)
    rw [e] at hd2
    exact k p _ _ G1 _ (g1.trans (Grow.cell g1.sub hP)) (g1.keep.free hP) (g1.sub.free hP) upd_same hd2 rfl
  exact h2.d
/-- the least of some -/
theorem min_of {xs : List Str} (h : xs ≠ []) : ∃ x ∈ xs, ∀ y ∈ xs, ¬ SLt y x := by
  cases e : lotOf xs with
  | nil =>
    cases xs with
    | nil => exact absurd rfl h
    | cons x r =>
      have : x ∈ lotOf (x :: r) := mem_lotOf.mpr List.mem_cons_self
      rw [e] at this; simp at this
  | cons x r =>
    have ha := asc_lotOf xs
    rw [e] at ha
    obtain ⟨h1, _⟩ := List.pairwise_cons.mp ha
    refine ⟨x, mem_lotOf.mp (by rw [e]; exact List.mem_cons_self), fun y hy l => ?_⟩
    have := mem_lotOf.mpr hy
    rw [e] at this
    rcases List.mem_cons.mp this with q | q
    · subst q; exact slt_irrefl _ l
    · exact slt_asymm l (h1 y q)
/-- told so far, in an order in which what lies under comes first -/
structure LinP (ns : List Note) (cs : List Str) : Prop where
  nd : cs.Nodup
  sub : ∀ x ∈ cs, x ∈ nms ns
  lin : ∀ x y, y ∈ cs → Und ns x y → x ≠ y → x ∈ cs ∧ cs.idxOf x < cs.idxOf y
theorem LinP.nil {ns : List Note} : LinP ns [] := ⟨List.nodup_nil, by simp, by simp⟩
theorem LinP.snoc {ns : List Note} {cs : List Str} {x : Str} (h : LinP ns cs) (h1 : x ∈ nms ns) (h2 : x ∉ cs) (h3 : ∀ z, Und ns z x → z ≠ x → z ∈ cs) : LinP ns (cs ++ [x]) := by
  refine ⟨?_, fun y hy => ?_, fun z y hy hu hne => ?_⟩
  · refine List.nodup_append.mpr ⟨h.nd, by simp, fun a ha b hb => ?_⟩
    have : b = x := by simpa using hb
    subst this
    exact fun e => h2 (e ▸ ha)
  · rcases List.mem_append.mp hy with q | q
    · exact h.sub y q
    · have : y = x := by simpa using q
      rw [this]; exact h1
  · rcases List.mem_append.mp hy with q | q
    · obtain ⟨a, b⟩ := h.lin z y q hu hne
      rw [idx_app_l a, idx_app_l q]
      exact ⟨List.mem_append_left _ a, b⟩
    · have e : y = x := by simpa using q
      subst e
      have a := h3 z hu hne
      rw [idx_app_l a, idx_app_r h2]
      have := idx_lt a
      exact ⟨List.mem_append_left _ a, by omega⟩
/-- all of them -/
structure Lin (ns : List Note) (cs : List Str) : Prop where
  nd : cs.Nodup
  mem : ∀ x, x ∈ cs ↔ x ∈ nms ns
  lin : ∀ x y, Und ns x y → x ≠ y → cs.idxOf x < cs.idxOf y
theorem sub_all {xs ys : List Str} (h1 : xs.Nodup) (h2 : ∀ x ∈ xs, x ∈ ys) (h3 : ys.length ≤ xs.length) (h4 : ys.Nodup) : ∀ y ∈ ys, y ∈ xs := fun y hy => by
  by_cases q : y ∈ xs
  · exact q
  · have := nodup_sub_len (xs := y :: xs) (ys := ys) (List.nodup_cons.mpr ⟨q, h1⟩) fun z hz => by
      rcases List.mem_cons.mp hz with e | e
      · rw [e]; exact hy
      · exact h2 z e
    simp at this
    omega
theorem LinP.full {ns : List Note} {cs : List Str} (t : Told ns) (h : LinP ns cs) (hl : cs.length = ns.length) : Lin ns cs := by
  have all := sub_all h.nd h.sub (by rw [List.length_map]; omega) t.nodup
  exact ⟨h.nd, fun x => ⟨h.sub x, all x⟩, fun x y u ne => (h.lin x y (all y (u.mem t).2) u ne).2⟩
/-- which may come next -/
def Nxt (ns : List Note) (cs : List Str) (o : Str) : Prop := o ∈ nms ns ∧ o ∉ cs ∧ ∀ z, Und ns z o → z ≠ o → z ∈ cs
theorem nxt_free {ns : List Note} (t : Told ns) {cs : List Str} {o : Str} : o ∈ free ns ((lotOf (nms ns)).filter fun x => !decide (x ∈ cs)) ↔ Nxt ns cs o := by
  unfold free
  rw [List.mem_filter, List.mem_filter, mem_lotOf, bP_iff]
  simp only [Bool.not_eq_true', decide_eq_false_iff_not]
  constructor
  · rintro ⟨⟨a, b⟩, c⟩
    refine ⟨a, b, fun z u ne => ?_⟩
    by_cases q : z ∈ cs
    · exact q
    · exact absurd u (c z (List.mem_filter.mpr ⟨mem_lotOf.mpr (u.mem t).1, by simpa using q⟩) ne)
  · rintro ⟨a, b, c⟩
    refine ⟨⟨a, b⟩, fun z hz ne u => ?_⟩
    have := (List.mem_filter.mp hz).2
    simp only [Bool.not_eq_true', decide_eq_false_iff_not] at this
    exact this (c z u ne)
theorem nxt_some {ns : List Note} (t : Told ns) {cs : List Str} (h : LinP ns cs) (hl : cs.length < ns.length) : ∃ o, Nxt ns cs o := by
  have hne : ((lotOf (nms ns)).filter fun x => !decide (x ∈ cs)) ≠ [] := by
    intro e
    rw [List.filter_eq_nil_iff] at e
    have := nodup_sub_len (xs := nms ns) (ys := cs) t.nodup fun x hx => by
      have := e x (mem_lotOf.mpr hx)
      simpa using this
    rw [List.length_map] at this
    omega
  have := free_ne t (rest := (lotOf (nms ns)).filter fun x => !decide (x ∈ cs)) (fun x hx => mem_lotOf.mp (List.mem_filter.mp hx).1) hne
  cases e : free ns ((lotOf (nms ns)).filter fun x => !decide (x ∈ cs)) with
  | nil => exact absurd e this
  | cons o r => exact ⟨o, (nxt_free t).mp (by rw [e]; exact List.mem_cons_self)⟩
theorem ord_step {ns : List Note} (t : Told ns) {cs : List Str} {x : Str} {k : Nat} (hx : Nxt ns cs x) (hm : ∀ y, Nxt ns cs y → ¬ SLt y x) :
    ordGo ns (k + 1) ((lotOf (nms ns)).filter fun z => !decide (z ∈ cs)) = x :: ordGo ns k ((lotOf (nms ns)).filter fun z => !decide (z ∈ cs ++ [x])) := by
  show (match free ns ((lotOf (nms ns)).filter fun z => !decide (z ∈ cs)) with | [] => [] | f :: _ => f :: ordGo ns k (((lotOf (nms ns)).filter fun z => !decide (z ∈ cs)).filter fun z => !decide (z = f))) = _
  cases e : free ns ((lotOf (nms ns)).filter fun z => !decide (z ∈ cs)) with
  | nil =>
    have := (nxt_free t).mpr hx
    rw [e] at this; simp at this
  | cons f r =>
    have hf : Nxt ns cs f := (nxt_free t).mp (by rw [e]; exact List.mem_cons_self)
    have ha : Asc (f :: r) := by rw [← e]; exact ((asc_lotOf _).filter _).filter _
    have efx : f = x := by
      have hx2 := (nxt_free t).mpr hx
      rw [e] at hx2
      rcases List.mem_cons.mp hx2 with q | q
      · exact q.symm
      · exact absurd ((List.pairwise_cons.mp ha).1 x q) (hm f hf)
    subst efx
    dsimp only
    congr 2
    rw [List.filter_filter]
    apply List.filter_congr
    intro z _
    by_cases q1 : z = f <;> by_cases q2 : z ∈ cs <;> simp [q1, q2]
section
variable {P : Program} {w : World} {K : PySem.W.Frag} {mg : Str → Option Value} {base : Heap}
def sp__law_web (K : PySem.W.Frag) : Sp := SpG (Γ := Pac) (fun p => [D K (dParts p)]) (fun p => Val p) fun p => D K (webD p)
theorem wts_len {p : Pac} (v : Val p) : ∀ n ∈ p.notes, n.2.2.length ≤ 1000 := fun n hn => by
  obtain ⟨i, hi⟩ := List.mem_iff_getElem?.mp hn
  exact (told_at v hi).lot.len
theorem pap_len {p : Pac} (v : Val p) : p.paper.length ≤ 40 := len_le_nms v (asc_nodup v.pasc) v.pin
theorem upre {p : Pac} (v : Val p) : UPre p.notes (.tuple (sds p.paper)) p.paper := ⟨v.told, notes_ok v, v.n40, .t _, v.pin, Nat.le_trans (pap_len v) (by decide)⟩
theorem e_lwhole {σ : L2.St} {G : Hp} {ta tb : TE} {ns : List Note} {d : PyData} {xs : List Str} (h1 : EvS ta σ G (UndD K ns)) (h2 : EvS tb σ G (D K d)) (hp : UPre ns d xs) : EvS (tCall (sp__law_whole K) [] E0 (tCons ta (tCons tb tNil))) σ G (D K (.tuple (sds (whole ns xs)))) :=
  e_call (Γ := List Note × PyData × List Str) (args := fun x => [UndD K x.1, D K x.2.1]) (ns, d, xs) (ea_cons h1 (ea_cons h2 ea_nil)) hp
theorem e_lupper {σ : L2.St} {G : Hp} {ta tb : TE} {ns : List Note} {d : PyData} {xs : List Str} (h1 : EvS ta σ G (UndD K ns)) (h2 : EvS tb σ G (D K d)) (hp : UPre ns d xs) (hn : xs.Nodup) : EvS (tCall (sp__law_upper K) [] E0 (tCons ta (tCons tb tNil))) σ G (D K (.tuple (sds (upper ns xs)))) :=
  e_call (Γ := List Note × PyData × List Str) (args := fun x => [UndD K x.1, D K x.2.1]) (ns, d, xs) (ea_cons h1 (ea_cons h2 ea_nil)) ⟨hp, hn⟩
theorem e_lbare {σ : L2.St} {G : Hp} {ta tb tc : TE} {p : Pac} {y : Str} (v : Val p) (h1 : EvS ta σ G (D K (.list (dNotes p.notes)))) (h2 : EvS tb σ G (UndD K p.notes)) (h3 : EvS tc σ G (D K (.str y))) (hy : y ∈ nms p.notes) :
    EvS (tCall (sp__law_bare K) [] E0 (tCons ta (tCons tb (tCons tc tNil)))) σ G (D K (.tuple (sds (bare p.notes y)))) :=
  e_call (Γ := List Note × Str) (args := fun x => [D K (.list (dNotes x.1)), UndD K x.1, D K (.str x.2)]) (p.notes, y) (ea_cons h1 (ea_cons h2 (ea_cons h3 ea_nil))) ⟨v.told, notes_ok v, v.n40, hy⟩
theorem web_sorted {p : Pac} (v : Val p) {L : Str → List Str} (hL : ∀ y ∈ nms p.notes, lotOf (L y) = under p.notes y) {ns' : List Note} (hp : ns'.Perm (p.notes.map fun n => (n.1, n.2.1, lotOf (L n.1)))) (ha : Asc (nms ns')) : ns' = webOf p := by
  have hm : ∀ m ∈ ns', m = (m.1, hnd p.notes m.1, under p.notes m.1) := fun m hm => by
    obtain ⟨n, hn, e⟩ := List.mem_map.mp (hp.mem_iff.mp hm)
    obtain ⟨i, hi⟩ := List.mem_iff_getElem?.mp hn
    rw [← e]
    show (n.1, n.2.1, lotOf (L n.1)) = (n.1, hnd p.notes n.1, under p.notes n.1)
    rw [hnd_at v.told.nodup hi, hL n.1 (List.mem_map.mpr ⟨n, hn, rfl⟩)]
  have e1 : nms ns' = lotOf (nms p.notes) := lot_is ha fun z => by
    have h2 : (nms ns').Perm (nms (p.notes.map fun n => (n.1, n.2.1, lotOf (L n.1)))) := hp.map _
    have h3 : nms (p.notes.map fun n => (n.1, n.2.1, lotOf (L n.1))) = nms p.notes := by unfold nms; rw [List.map_map]; rfl
    rw [← h3]
    exact h2.mem_iff
  have e2 : ns' = (nms ns').map fun y => (y, hnd p.notes y, under p.notes y) := by
    unfold nms
    rw [List.map_map]
    conv => lhs; rw [← List.map_id ns']
    exact List.map_congr_left hm
  rw [e2, e1]; rfl
abbrev s__law_web : Stmt := top 56
abbrev N__law_web : List Str := ["_law_parts", "_law_hands", "_law_notes_here", "_law_ready", "_law_paper", "_law_below", "_law_web_here", "_law_name", "_law_owner", "_law_waits"]
theorem sc__law_web : FnScope N__law_web ["_law_parts"] (defScope s__law_web) := ⟨rfl, rfl, rfl, by decide +kernel, rfl, by decide +kernel, by decide +kernel⟩
theorem ok__law_web {f : Addr} {fd : FuncData} (F : Fun K "_law_web" "_law_web" s__law_web f fd) (T : Txt mg) (c__law_unders : Cal P w K mg base CX0 1 "_law_unders" ["_law_notes_here"] (sp__law_unders K)) (c__law_whole : Cal P w K mg base CX0 1 "_law_whole" ["_law_below", "_law_paper"] (sp__law_whole K)) : FnOk P w K mg base CX0 2 f fd ["_law_parts"] (sp__law_web K) := by
  refine F.ok sc__law_web (fun vs H Q E h => ?_) (fun cdv A outer s H vs Q E hr h => ?_)
  · obtain ⟨x, G, hs, ⟨v1, _, rfl, h1, rfl⟩, hp, k⟩ := h; rfl
  · obtain ⟨p, G, hs, ⟨v1, _, rfl, h1, rfl⟩, hv, k⟩ := h
    replace h1 : Dp K G v1 (dParts p) := h1
    replace hv : Val p := hv
    have nd := sc__law_web.nd
    have hu := hu_of hr
    have hrU := hrU_of hr
    refine ⟨_, pss_cons (ps_asg (pv 0) (kTg K 4 rfl (pgs_cons (pg_n 1 nd) (pgs_cons (pg_n 2 nd) (pgs_cons (pg_n 3 nd) (pgs_cons (pg_n 4 nd) pgs_nil))))))
    (pss_cons (ps_n 5 nd (pe_cal c__law_unders (hr.mono (by decide)) (by rfl) pass0 (pa_cons (pv 2) pa_nil)))
    (pss_cons (ps_n 6 nd (pe_callB (kSrtN K hrU) (by rfl) T.m_sorted (by decide +kernel) (pa_cons (pe_lc (own := [("_law_name", 7), ("_law_owner", 8), ("_law_waits", 9)]) (by rfl) nd (kSeq K (pv 2)) (blkOk_by (by kernel_rfl)) (fun _ _ _ _ _ => (kTg K 3 rfl (pgs_cons (pg_n 7 nd) (pgs_cons (pg_n 8 nd) (pgs_cons (pg_n 9 nd) pgs_nil))))) (fun _ _ _ _ _ => pts_nil) (fun _ _ _ _ _ => (pe_tup (pa_cons (pv 7) (pa_cons (pv 8) (pa_cons (pe_callTy (kTup K) (by rfl) T.m_tuple (by decide +kernel) (pa_cons (pe_callB (kSrt K) (by rfl) T.m_sorted (by decide +kernel) (pa_cons (pe_dget hu (pv 5) (pv 7) (fun _ _ => rfl)) pa_nil)) pa_nil)) pa_nil)))))) pa_nil)))
    (pss_one (ps_ret (pe_tup (pa_cons (pe_callTy (kTup K) (by rfl) T.m_tuple (by decide +kernel) (pa_cons (pv 1) pa_nil)) (pa_cons (pv 6) (pa_cons (pe_callTy (kTup K) (by rfl) T.m_tuple (by decide +kernel) (pa_cons (pv 3) pa_nil)) (pa_cons (pe_cal c__law_whole (hr.mono (by decide)) (by rfl) pass0 (pa_cons (pv 5) (pa_cons (pv 4) pa_nil))) pa_nil))))))))), ?_⟩
    refine st (σ' := [some v1, none, none, none, none, none, none, none, none, none]) rfl ?_
    have hn := hv.n40
    have hl : (dNotes p.notes).length = p.notes.length := List.length_map _
    refine q_asgT hs (e_var (R := D K (dParts p)) rfl h1) fun v G1 H1 g1 rv => ?_
    obtain ⟨w1, w2, w3, w4, r1, r2, r3, r4, htg⟩ := tg_4 rv
    refine ⟨_, htg _ _ _ _ _ tg_name tg_name tg_name tg_name, ?_⟩
    refine st (σ' := [some v1, some w1, some w2, some w3, some w4, none, none, none, none, none]) rfl ?_
    refine q_asg g1.sub (e_lunders (e_var rfl r2) hv.told hn (wts_len hv)) fun w5 G2 H2 g2 hu5 => ?_
    refine st (σ' := [some v1, some w1, some w2, some w3, some w4, some w5, none, none, none, none]) rfl ?_
    replace r1 := Dp.up g2.up _ _ r1
    replace r2 := Dp.up g2.up _ _ r2
    replace r3 := Dp.up g2.up _ _ r3
    replace r4 := Dp.up g2.up _ _ r4
    obtain ⟨L, hUL, hdm⟩ := id hu5
    have hdt := hdm.dt
    have hL : ∀ y ∈ nms p.notes, lotOf (L y) = under p.notes y := fun y hy => asc_uniq (asc_lotOf _) (asc_under _ _) fun z => by rw [mem_lotOf, mem_under hv.told]; exact (ul_at hUL y hy).2 z
    have evl := en_lcD (K := K) (σ := [some v1, some w1, some w2, some w3, some w4, some w5, none, none, none, none]) (G := G2) (tt := tYes) (te := tTup (tCons (tVar 7) (tCons (tVar 8) (tCons (tCB (rTupOf K) (tCons (tCB (rSortedS K) (tCons (tDGet (tVar 5) (tVar 7)) tNil)) tNil)) tNil)))) (g := gTup K 3 (gCons (gName 7) (gCons (gName 8) (gCons (gName 9) gNil)))) (vs := [7, 8, 9])
      (fun _ => true) (fun i => dNote ((p.notes.map fun n => (n.1, n.2.1, lotOf (L n.1))).getD i (⟨#[]⟩, ⟨#[]⟩, []))) (src_seq (.l (dNotes p.notes)) (e_var (i := 2) rfl r2)) (by omega) fun i G3 x hi u ⟨e, he, hx⟩ => by
        obtain ⟨n, hn', rfl⟩ := dN_get he
        obtain ⟨u1, u2, u3, q1, q2, q3, htg⟩ := tg_3 hx
        have e1 : (p.notes.map fun n => (n.1, n.2.1, lotOf (L n.1))).getD i (⟨#[]⟩, ⟨#[]⟩, []) = (n.1, n.2.1, lotOf (L n.1)) := by rw [List.getD_eq_getElem?_getD, List.getElem?_map, hn']; rfl
        have hy : n.1 ∈ nms p.notes := List.mem_map.mpr ⟨n, mem_of_get hn', rfl⟩
        have ll := ul_len hv.told hUL hy
        refine ⟨_, htg _ _ _ _ tg_name tg_name tg_name, rfl, et_yes, fun _ => ?_⟩
        rw [e1]
        refine ⟨by simp [dNote, flatD, flatDs, flatDs_sds], ed_tup (dd_cons (e_var rfl q1) (dd_cons (e_var rfl q2) (dd_cons (ed_tupOf (.l _) (en_srt (xs := L n.1) (ul_at hUL n.1 hy).1 (by omega) (ed_below hy (e_var rfl (stb (R := DT K (ulF p.notes L)) u hdt)) (e_var rfl q1))).d) dd_nil))) (by simp)⟩
    have eql : ((List.range (dNotes p.notes).length).filter fun _ => true).map (fun i => dNote ((p.notes.map fun n => (n.1, n.2.1, lotOf (L n.1))).getD i (⟨#[]⟩, ⟨#[]⟩, []))) = dNotes (p.notes.map fun n => (n.1, n.2.1, lotOf (L n.1))) := by
      rw [List.filter_eq_self.mpr (fun _ _ => rfl), hl]
      refine List.ext_getElem (by simp) fun i a1 a2 => ?_
      have a3 : i < p.notes.length := by simpa using a1
      simp [a3]
    rw [eql] at evl
    have nm3 : nms (p.notes.map fun n => (n.1, n.2.1, lotOf (L n.1))) = nms p.notes := by unfold nms; rw [List.map_map]; rfl
    refine q_asg g2.sub (e_srtN (K := K) (es := webOf p) (by rw [nm3]; exact hv.told.nodup) (by rw [List.length_map]; omega) (fun ns' hp ha => web_sorted hv hL hp ha) evl.d) fun w6 G5 H5 g5 r6 => ?_
    refine st (σ' := [some v1, some w1, some w2, some w3, some w4, some w5, some w6, none, none, none]) rfl ?_
    replace hu5 := stb (R := UndD K p.notes) g5.up hu5
    exact s_ret g5.sub (ed_tup (dd_cons (ed_tupOf (.l _) (e_var rfl (Dp.up g5.up _ _ r1))) (dd_cons (e_var rfl r6) (dd_cons (ed_tupOf (.l _) (e_var rfl (Dp.up g5.up _ _ r3))) (dd_cons (e_lwhole (e_var rfl hu5) (e_var rfl (Dp.up g5.up _ _ r4)) (upre hv)) dd_nil)))) (by simp)) fun v G6 H6 g6 => k v G6 H6 (((g1.trans g2).trans g5).trans g6)
end
end KB

set_option Elab.async false
set_option linter.all false
set_option maxRecDepth 100000
set_option maxHeartbeats 4000000
/-! The law's defs: drawn orders, lots, covers. -/
namespace KB
open PySem PySem.Spec PyProof.Rows L2
section
variable {P : Program} {w : World} {K : PySem.W.Frag} {mg : Str → Option Value} {base : Heap}
abbrev LinR (K : PySem.W.Frag) (ns : List Note) (b : Bool) : RP := fun v H => ∃ ys, Lin ns ys ∧ (b = true → ys = order ns) ∧ Dp K H v (.list (sds ys))
instance {ns : List Note} {b : Bool} : Stb (LinR K ns b) := ⟨fun u ⟨ys, h, e, r⟩ => ⟨ys, h, e, Dp.up u _ _ r⟩⟩
def sp__law_free (K : PySem.W.Frag) : Sp := SpG (Γ := List Note × Bool) (fun x => [HeapAt, D K (.list (sds (nms x.1))), UndD K x.1, D K (.bool x.2)]) (fun x => Told x.1 ∧ NotesOk x.1 ∧ x.1.length ≤ 40) fun x => LinR K x.1 x.2
abbrev s__law_free : Stmt := top 57
abbrev N__law_free : List Str := ["_law_heap_here", "_law_names_here", "_law_below", "_law_least", "_law_come", "_law_turn", "_law_free_here", "_law_name", "_law_one"]
theorem sc__law_free : FnScope N__law_free ["_law_heap_here", "_law_names_here", "_law_below", "_law_least"] (defScope s__law_free) := ⟨rfl, rfl, rfl, by decide +kernel, rfl, by decide +kernel, by decide +kernel⟩
theorem ok__law_free {f : Addr} {fd : FuncData} (F : Fun K "_law_free" "_law_free" s__law_free f fd) (T : Txt mg) (c__law_pick : Cal P w K mg base CX0 2 "_law_pick" ["_law_heap_here", "_law_some_here"] (sp__law_pick K)) : FnOk P w K mg base CX0 3 f fd ["_law_heap_here", "_law_names_here", "_law_below", "_law_least"] (sp__law_free K) := by
  refine F.ok sc__law_free (fun vs H Q E h => ?_) (fun cdv A outer s H vs Q E hr h => ?_)
  · obtain ⟨x, G, hs, ⟨v1, _, rfl, h1, v2, _, rfl, h2, v3, _, rfl, h3, v4, _, rfl, h4, rfl⟩, hp, k⟩ := h; rfl
  · obtain ⟨⟨ns, b⟩, G, hs, ⟨v1, _, rfl, h1, v2, _, rfl, h2, v3, _, rfl, h3, v4, _, rfl, h4, rfl⟩, ⟨t, ok, l40⟩, k⟩ := h
    replace h1 : HeapAt v1 G := h1
    replace h2 : Dp K G v2 (.list (sds (nms ns))) := h2
    obtain ⟨L, hUL, h3⟩ : UndD K ns v3 G := h3
    replace h3 := h3.dt
    replace t : Told ns := t
    replace ok : NotesOk ns := ok
    replace l40 : ns.length ≤ 40 := l40
    cases d_bl h4
    have nd := sc__law_free.nd
    have hu := hu_of hr
    have hrU := hrU_of hr
    refine ⟨_, pss_cons (ps_n 4 nd (pe_lst pa_nil))
    (pss_cons (ps_for PassesOwn.never rfl (pi_range1 (by rfl) T.m_range (pa_cons (pe_callB (kLen K) (by rfl) T.m_len (by decide +kernel) (pa_cons (pv 1) pa_nil)) pa_nil)) (pg_n 5 nd)
      (pss_cons (ps_setLc (i := 6) (own := [("_law_name", 7)]) (by rfl) nd rfl rfl (sw_true rfl rfl rfl (by decide +kernel)) (kSeq K (pv 1)) (blkOk_by (by kernel_rfl)) (fun _ _ _ _ _ => (pg_n 7 nd)) (fun _ _ _ _ _ => (pts_one (PW.pt (pw_and (pt_cmpR (kNi K) (pv 7) (pv 4) (by rfl)) (pw_and1 (pt_cmpR (kEq K hrU) (pe_lc (own := [("_law_one", 8)]) (by rfl) nd (kSeq K (pe_dget hu (pv 2) (pv 7) (fun _ _ => rfl))) (blkOk_by (by kernel_rfl)) (fun _ _ _ _ _ => (pg_n 8 nd)) (fun _ _ _ _ _ => (pts_one (PW.pt (pw_and (pt_cmpR op_ne (pv 8) (pv 7) (nomark _)) (pw_and1 (pt_cmpR (kNi K) (pv 8) (pv 4) (by rfl))))))) (fun _ _ _ _ _ => (pv 8))) (pe_lst pa_nil) (nomark _))))))) (fun _ _ _ _ _ => (pv 7)))
        (pss_one (ps_expr (pe_bm PySem.F.plainAttrs_list PySem.F.slot_list_append PySem.F.type_list_append mt_append (pv 4) (pa_cons (pe_ifExp (pt_val (pv 3)) (pe_callB (kMin K rfl) (by rfl) T.m_min (by decide +kernel) (pa_cons (pv 6) pa_nil)) (pe_cal c__law_pick (hr.mono (by decide)) (by rfl) pass0 (pa_cons (pv 0) (pa_cons (pv 6) pa_nil)))) pa_nil))))))
    (pss_one (ps_ret (pv 4)))), ?_⟩
    refine st (σ' := [some v1, some v2, some v3, some (V.bl b), none, none, none, none, none]) rfl ?_
    have nz : ∀ {o : HO}, some o ≠ none := fun z => nomatch z
    have hl : (nms ns).length = ns.length := List.length_map _
    have hl2 : (sds (nms ns)).length = ns.length := by rw [List.length_map, hl]
    refine q_asgN hs (en_lst (K := K) dd_nil (by decide)) fun co vs ds G1 H1 g1 hc0 gc1 cc1 hds eds => ?_
    subst eds
    cases hds
    refine st (σ' := [some v1, some v2, some v3, some (V.bl b), some (V.ref co), none, none, none, none]) rfl ?_
    have h2' := Dp.up g1.up _ _ h2
    refine q_for g1.sub (src_range (K := K) (n := ns.length) (by omega) ((ed_len (.l (sds (nms ns))) (e_var rfl h2')).to (by rw [hl2]))) (fun i σ G' H' => Grow G H G' H' ∧ G' co = none ∧ ∃ (cs : List Str) (a5 a6 : Option V), cs.length = i ∧ LinP ns cs ∧ (b = true → cs ++ ordGo ns (ns.length - i) ((lotOf (nms ns)).filter fun z => !decide (z ∈ cs)) = order ns) ∧ H' co = some (.lst (cs.map V.str)) ∧
        σ = [some v1, some v2, some v3, some (.bl b), some (.ref co), a5, a6, none, none])
      (fun G2 H2 g2 => ⟨g1.trans g2, g2.off co (by rw [cc1]; exact nz) gc1, [], _, _, rfl, LinP.nil, fun _ => by
        unfold order
        rw [hl, Nat.sub_zero, List.nil_append, List.filter_eq_self.mpr (fun x _ => by simp)], g2.keep _ _ cc1, rfl⟩) ?_ ?_
    · rintro i σ' G' H' y G5 H5 hi sg sh ⟨gr, gc, cs, a5, a6, hcl, hlp, hord, cc, rfl⟩ g5 hy
      cases d_int hy
      refine ⟨_, tg_name, ?_⟩
      refine st (σ' := [some v1, some v2, some v3, some (V.bl b), some (V.ref co), some (V.int (i:Nat)), a6, none, none]) rfl ?_
      have up5 := gr.up.trans g5.up
      have cc5 := g5.keep _ _ cc
      have gc5 := g5.off co (by rw [cc]; exact nz) gc
      have upc : Same G5 (upd G5 co (.lst (cs.map V.str))) := Same.new gc5
      have sc5 := same_with g5.sub cc5
      have upx := up5.trans upc
      have hco : Dp K (upd G5 co (.lst (cs.map V.str))) (.ref co) (.list (sds cs)) := .lst (SqL.of upd_same) (sds_dp cs)
      generalize hGx : upd G5 co (.lst (cs.map V.str)) = Gx at *
      have hfl : ∀ o, o ∈ (nms ns).filter (fun o => !decide (o ∈ cs) && ((L o).filter fun z => !decide (z = o) && !decide (z ∈ cs)).isEmpty) ↔ Nxt ns cs o := fun o => by
        rw [List.mem_filter]
        simp only [Bool.and_eq_true, Bool.not_eq_true', decide_eq_false_iff_not]
        unfold Nxt
        refine and_congr_right fun ho => and_congr_right fun _ => ?_
        rw [List.isEmpty_iff, List.filter_eq_nil_iff]
        constructor
        · intro h z u ne
          by_cases q : z ∈ cs
          · exact q
          · exact absurd (by simp [ne, q]) (h z (((ul_at hUL o ho).2 z).mpr u))
        · intro h z hz q
          simp only [Bool.and_eq_true, Bool.not_eq_true', decide_eq_false_iff_not] at q
          exact q.2 (h z (((ul_at hUL o ho).2 z).mp hz) q.1)
      refine q_asgN sc5 (en_filt (K := K) (xs := nms ns) (fun o => !decide (o ∈ cs) && ((L o).filter fun z => !decide (z = o) && !decide (z ∈ cs)).isEmpty) (.l _) (e_var rfl (Dp.up upx _ _ h2)) (by omega) (by simp) fun o G6 ho u6 => ?_) fun p6 vs6 ds6 G6 H6 g6 hp6 gp6 cp6 hd6 eds6 => ?_
      · refine et_and (et_T (ed_niIn (.l (sds cs)) (e_var rfl (.str o)) (e_var rfl (Dp.up u6 _ _ hco)))) fun _ => et_T (ed_eqE (en_filt (K := K) (xs := L o) (fun z => !decide (z = o) && !decide (z ∈ cs)) (.l _) (ed_below ho (e_var rfl (stb (R := DT K (ulF ns L)) (upx.trans u6) h3)) (e_var rfl (.str o))) (by have := ul_len t hUL ho; omega) (by simp) fun z G7 hz u7 => ?_).d fun z hz => nms_ok ok z ((((ul_at hUL o ho).2 z).mp (List.mem_filter.mp hz).1).mem t).1)
        exact et_and (et_T (ed_neS (K := K) (e_var rfl (.str z)) (e_var rfl (.str o)))) fun _ => et_T (ed_niIn (.l (sds cs)) (e_var rfl (.str z)) (e_var rfl (Dp.up (u6.trans u7) _ _ hco)))
      refine st (σ' := [some v1, some v2, some v3, some (V.bl b), some (V.ref co), some (V.int (i:Nat)), some (V.ref p6), none, none]) rfl ?_
      subst eds6
      have e6 := dp_sds hd6
      subst e6
      obtain ⟨o0, ho0⟩ := nxt_some t hlp (by rw [hcl]; exact hi)
      have ff : (nms ns).filter (fun o => !decide (o ∈ cs) && ((L o).filter fun z => !decide (z = o) && !decide (z ∈ cs)).isEmpty) ≠ [] := fun e => by
        have := (hfl o0).mpr ho0
        rw [e] at this; simp at this
      have lfl : ((nms ns).filter (fun o => !decide (o ∈ cs) && ((L o).filter fun z => !decide (z = o) && !decide (z ∈ cs)).isEmpty)).length ≤ 40 := by
        have := List.length_filter_le (fun o => !decide (o ∈ cs) && ((L o).filter fun z => !decide (z = o) && !decide (z ∈ cs)).isEmpty) (nms ns)
        omega
      generalize (nms ns).filter (fun o => !decide (o ∈ cs) && ((L o).filter fun z => !decide (z = o) && !decide (z ∈ cs)).isEmpty) = fl at *
      have flne : 1 ≤ fl.length := by
        rcases Nat.eq_zero_or_pos fl.length with q | q
        · exact absurd (List.length_eq_zero_iff.mp q) ff
        · exact q
      -- back to what stays frozen without the list, the new list frozen
      have gy : Grow G5 H5 (hid co G6) H6 := by subst hGx; exact g6.thaw gc5 cc5
      have np6 : p6 ≠ co := fun e => by subst e; rw [cc5] at hp6; cases hp6
      have gz := gy.addcell hp6 (by rw [hid_ne np6]; exact gp6) cp6
      have rz : Dp K (upd (hid co G6) p6 (.lst (fl.map V.str))) (.ref p6) (.list (sds fl)) := .lst (SqL.of upd_same) (sds_dp fl)
      have gcz : upd (hid co G6) p6 (.lst (fl.map V.str)) co = none := by rw [upd_ne np6.symm]; exact hid_self
      have ccz := gz.keep _ _ cc5
      generalize upd (hid co G6) p6 (.lst (fl.map V.str)) = Gz at *
      have h1' := stb (up5.trans gz.up) h1
      refine s_app (K := K) (R := StrP (fun x => x ∈ fl ∧ (b = true → ∀ y ∈ fl, ¬ SLt y x))) gz.sub rfl ccz gcz (by rw [List.length_map]; omega) (e_if (b := b) (et_B (K := K) (e_var rfl (.bl b))) (fun hb => ?_) (fun hb => ?_)) fun v G7 H7 w7 ⟨x, ⟨x1, x2⟩, ev⟩ => ?_
      · obtain ⟨x, hx, hm⟩ := min_of ff
        exact (ed_minS (K := K) hx hm (e_var rfl rz)).imp fun v H r => ⟨x, ⟨hx, fun _ => hm⟩, d_str r⟩
      · exact (e_pickS (K := K) (xs := fl) (.l _) (e_var (i := 0) rfl h1') (e_var rfl rz) flne (by omega)).imp fun v H ⟨x, hx, e⟩ => ⟨x, ⟨hx, fun h => by rw [hb] at h; cases h⟩, e⟩
      · subst ev
        have hn := (hfl x).mp x1
        refine ⟨G7, (g5.trans gz).up.trans w7.up, w7.sub, ((gr.trans g5).trans gz).cellwr hc0 w7, w7.cell, cs ++ [x], _, _, by simp [hcl], hlp.snoc hn.1 hn.2.1 hn.2.2, fun hb => ?_, by rw [w7.at, List.map_append]; rfl, rfl⟩
        rw [← hord hb]
        have en : ns.length - i = (ns.length - (i + 1)) + 1 := by omega
        rw [en, ord_step t hn fun y hy => x2 hb y ((hfl y).mpr hy), List.append_assoc]; rfl
    · rintro σ' G' H' sg sh ⟨gr, gc, cs, a5, a6, hcl, hlp, hord, cc, rfl⟩
      have g9 := gr.addcell hc0 gc cc
      refine s_ret g9.sub (R := LinR K ns b) (e_var rfl ⟨cs, hlp.full t hcl, fun hb => ?_, .lst (SqL.of upd_same) (sds_dp cs)⟩) fun v G2 H2 g2 => k v G2 H2 (g9.trans g2)
      have := hord hb
      rw [Nat.sub_self] at this
      simpa [ordGo] using this
theorem e_lfree {σ : L2.St} {G : Hp} {ta tb tc td : TE} {ns : List Note} {b : Bool} (t : Told ns) (ok : NotesOk ns) (l : ns.length ≤ 40) (h1 : EvS ta σ G HeapAt) (h2 : EvS tb σ G (D K (.list (sds (nms ns))))) (h3 : EvS tc σ G (UndD K ns)) (h4 : EvS td σ G (D K (.bool b))) :
    EvS (tCall (sp__law_free K) [] E0 (tCons ta (tCons tb (tCons tc (tCons td tNil))))) σ G (LinR K ns b) :=
  e_call (Γ := List Note × Bool) (args := fun x => [HeapAt, D K (.list (sds (nms x.1))), UndD K x.1, D K (.bool x.2)]) (ns, b) (ea_cons h1 (ea_cons h2 (ea_cons h3 (ea_cons h4 ea_nil)))) ⟨t, ok, l⟩
/-- a lot that has all of a few, and some of many -/
abbrev SomeP (few many : List Str) : List PyData → Prop := fun ds => ∃ ws : List Str, ds = sds ws ∧ (∀ x ∈ few, x ∈ ws) ∧ (∀ x ∈ ws, x ∈ few ∨ x ∈ many) ∧ ws.length ≤ few.length + many.length
/-- a promise of a new list -/
def SpN (K : PySem.W.Frag) {Γ : Type} (args : Γ → List RP) (pre : Γ → Prop) (res : Γ → List PyData → Prop) : Sp := fun vs H Q _ => ∃ (g : Γ) (G : Hp), Same G H ∧ Alls (args g) vs G ∧ pre g ∧
  ∀ p zs ds G2 H2, Grow G H G2 H2 → H p = none → G2 p = none → H2 p = some (.lst zs) → DpAll K G2 zs ds → res g ds → Q (.ref p) H2
theorem en_call {σ : L2.St} {G : Hp} {t : TA} {Γ : Type} {args : Γ → List RP} {pre : Γ → Prop} {res : Γ → List PyData → Prop} {E : XK} (g : Γ) (ha : EvA t σ G (args g)) (hp : pre g) : EvN K (tCall (SpN K args pre res) [] E t) σ G (res g) := fun G0 H u s Q k =>
  ha G0 H u s _ fun vs G1 H1 g1 rs => ⟨g, G1, g1.sub, by rw [List.append_nil]; exact rs, hp, fun p zs ds G2 H2 g2 hp gp h2 hd r => k p zs ds G2 H2 (g1.trans g2) (g1.keep.free hp) gp h2 hd r⟩
theorem s_retN {σ : L2.St} {G H : Hp} {te : TE} {En : Ends} {R : List PyData → Prop} (s : Same G H) (h : EvN K te σ G R) (k : ∀ p vs ds G2 H2, Grow G H G2 H2 → H p = none → G2 p = none → H2 p = some (.lst vs) → DpAll K G2 vs ds → R ds → En.rt (.ref p) H2) : tRet te En σ H := h G H (Same.refl G) s _ k
theorem en_catR {σ : L2.St} {G : Hp} {ta tb : TE} {xs : List Str} {Pp : List Str → Prop} (ha : EvS ta σ G (D K (.list (sds xs)))) (hb : EvS tb σ G (fun v H => ∃ ps : List Str, Pp ps ∧ Dp K H v (.list (sds ps)))) (hl : ∀ ps, Pp ps → xs.length + ps.length ≤ 1000000) :
    EvN K (tOp (rCatL K) ta tb) σ G (fun ds => ∃ ps : List Str, Pp ps ∧ ds = sds (xs ++ ps)) := fun G0 H u s Q k =>
  ha G0 H u s _ fun x G1 H1 g1 rx => hb G1 H1 (u.trans g1.up) g1.sub _ fun y G2 H2 g2 ⟨ps, hp, ry⟩ => by
    have c := en_cat (K := K) (σ := []) (ta := tC x) (tb := tC y) (e_c (Dp.up g2.up _ _ rx)) (e_c ry) (by rw [List.length_map, List.length_map]; exact hl ps hp)
    exact c G2 H2 (.refl _) g2.sub _ fun p vs ds G3 H3 g3 a b c' d e => k p vs ds G3 H3 ((g1.trans g2).trans g3) ((g1.trans g2).keep.free a) b c' d ⟨ps, hp, by rw [e]; unfold sds; rw [List.map_append]⟩
structure SmPre (d1 : PyData) (few : List Str) (d2 : PyData) (many : List Str) : Prop where
  q1 : SqD d1 (sds few)
  q2 : SqD d2 (sds many)
  l1 : few.length ≤ 100
  l2 : many.length ≤ 100
def sp__law_some (K : PySem.W.Frag) : Sp := SpN K (Γ := (PyData × List Str) × PyData × List Str) (fun x => [HeapAt, D K x.1.1, D K x.2.1]) (fun x => SmPre x.1.1 x.1.2 x.2.1 x.2.2) fun x => SomeP x.1.2 x.2.2
abbrev s__law_some : Stmt := top 58
abbrev N__law_some : List Str := ["_law_heap_here", "_law_few", "_law_many", "_law_one"]
theorem sc__law_some : FnScope N__law_some ["_law_heap_here", "_law_few", "_law_many"] (defScope s__law_some) := ⟨rfl, rfl, rfl, by decide +kernel, rfl, by decide +kernel, by decide +kernel⟩
theorem ok__law_some {f : Addr} {fd : FuncData} (F : Fun K "_law_some" "_law_some" s__law_some f fd) (T : Txt mg) (c__law_draw : Cal P w K mg base CX0 1 "_law_draw" ["_law_heap_here", "_law_many"] (sp__law_draw K)) : FnOk P w K mg base CX0 2 f fd ["_law_heap_here", "_law_few", "_law_many"] (sp__law_some K) := by
  refine F.ok sc__law_some (fun vs H Q E h => ?_) (fun cdv A outer s H vs Q E hr h => ?_)
  · obtain ⟨x, G, hs, ⟨v1, _, rfl, h1, v2, _, rfl, h2, v3, _, rfl, h3, rfl⟩, hp, k⟩ := h; rfl
  · obtain ⟨⟨⟨d1, few⟩, d2, many⟩, G, hs, ⟨v1, _, rfl, h1, v2, _, rfl, h2, v3, _, rfl, h3, rfl⟩, hp, k⟩ := h
    replace h1 : HeapAt v1 G := h1
    replace h2 : Dp K G v2 d1 := h2
    replace h3 : Dp K G v3 d2 := h3
    obtain ⟨q1, q2, l1, l2⟩ : SmPre d1 few d2 many := hp
    have nd := sc__law_some.nd
    have hu := hu_of hr
    have hrU := hrU_of hr
    refine ⟨_, pss_one (ps_ret (pe_op (kCat K) (pe_callTy (kLst K) (by rfl) T.m_list (by decide +kernel) (pa_cons (pv 1) pa_nil)) (pe_lc (own := [("_law_one", 3)]) (by rfl) nd (kSeq K (pv 2)) (blkOk_by (by kernel_rfl)) (fun _ _ _ _ _ => (pg_n 3 nd)) (fun _ _ _ _ _ => (pts_one (PW.pt (pw_and (pt_cmpR (kNi K) (pv 3) (pv 1) (by rfl)) (pw_and1 (pt_cmpR op_eq (pe_cal c__law_draw (hr.mono (by decide)) (by rfl) pass0 (pa_cons (pv 0) (pa_cons (pe_int) pa_nil))) (pe_int) (nomark _))))))) (fun _ _ _ _ _ => (pv 3))))), ?_⟩
    refine st (σ' := [some v1, some v2, some v3, none]) rfl ?_
    have evl := en_lc (K := K) (σ := [some v1, some v2, some v3, none]) (G := G) (tt := tAnd (tTest (tOp (rIn K true) (tVar 3) (tVar 1))) (tTest (tOp rEq (tCall (sp__law_draw K) [] E0 (tCons (tVar 0) (tCons (tC (.int 2)) tNil))) (tC (.int 0))))) (te := tVar 3) (g := gName 3) (vs := [3])
      (fun i acc => ∃ ws : List Str, acc = sds ws ∧ ws.length ≤ i ∧ ∀ x ∈ ws, x ∈ many) (src_seq q2 (e_var (i := 2) rfl h3)) (by rw [List.length_map]; omega) ⟨[], rfl, Nat.le_refl _, by simp⟩ (fun i acc ⟨ws, e, h, _⟩ => by rw [e, List.length_map]; exact h) fun i acc G1 x hi hI u ⟨e, he, hx⟩ => by
        obtain ⟨z, hz, rfl⟩ := sds_get he
        cases hx
        obtain ⟨ws, rfl, wl, wm⟩ := hI
        refine ⟨_, tg_name, rfl, fun _ => True, (etP_and (p := fun c => c = !decide (z ∈ few)) (q := fun _ => True) (et_T (ed_niIn q1 (e_var rfl (.str z)) (e_var rfl (Dp.up u _ _ h2)))) fun _ => etP_any (e_ltEq (e_draw (n := 2) (e_var rfl (stb u h1)) ed_int (by omega) (by omega)))).imp fun _ _ => trivial, fun _ => ⟨ws, rfl, by omega, wm⟩, fun _ => ?_⟩
        · refine (e_var (R := D K (.str z)) rfl (.str z)).imp fun v H r => ⟨.str z, rfl, r, ws ++ [z], by simp, by simp; omega, fun y hy => ?_⟩
          rcases List.mem_append.mp hy with q | q
          · exact wm y q
          · have : y = z := by simpa using q
            rw [this]; exact mem_of_get hz
    refine s_retN hs (R := SomeP few many) ((en_catR (K := K) (xs := few) (Pp := fun ps => ps.length ≤ many.length ∧ ∀ x ∈ ps, x ∈ many) (en_lstOf q1 (e_var rfl h2)).d (evl.s.imp fun v H ⟨ds, ⟨ws, e, a, b⟩, r⟩ => ⟨ws, ⟨by rw [List.length_map] at a; exact a, b⟩, e ▸ r⟩) fun ps hp => by omega).imp fun ds ⟨ps, ⟨a, b⟩, r⟩ => ⟨few ++ ps, r, fun x hx => List.mem_append_left _ hx, fun x hx => ?_, by rw [List.length_append]; omega⟩) k
    rcases List.mem_append.mp hx with q | q
    · exact .inl q
    · exact .inr (b x q)
theorem e_lsome {σ : L2.St} {G : Hp} {ta tb tc : TE} {d1 d2 : PyData} {few many : List Str} (h1 : EvS ta σ G HeapAt) (h2 : EvS tb σ G (D K d1)) (h3 : EvS tc σ G (D K d2)) (hp : SmPre d1 few d2 many) : EvN K (tCall (sp__law_some K) [] E0 (tCons ta (tCons tb (tCons tc tNil)))) σ G (SomeP few many) :=
  en_call (Γ := (PyData × List Str) × PyData × List Str) (args := fun x => [HeapAt, D K x.1.1, D K x.2.1]) ((d1, few), d2, many) (ea_cons h1 (ea_cons h2 (ea_cons h3 ea_nil))) hp
/-- each hand has a note in all of a lot -/
def Covers (hands : List Str) (ns : List Note) (pp : List Str) : Prop := ∀ h ∈ hands, ∃ y ∈ nms ns, hnd ns y = h ∧ ∃ z ∈ pp, Und ns y z
def sp__law_covers (K : PySem.W.Frag) : Sp := SpG (Γ := List Str × List Note × List Str) (fun x => [D K (.list (sds x.1)), D K (.list (dNotes x.2.1)), D K (.tuple (sds x.2.2))]) (fun x => (∀ h ∈ x.1, NameOk h) ∧ x.1.length ≤ 100 ∧ UPre x.2.1 (.tuple (sds x.2.2)) x.2.2 ∧ ∀ n ∈ x.2.1, n.2.2.length ≤ 1000) fun x => D K (.bool (bP (Covers x.1 x.2.1 x.2.2)))
abbrev s__law_covers : Stmt := top 59
abbrev N__law_covers : List Str := ["_law_hands", "_law_notes_here", "_law_paper", "_law_whole_here", "_law_hand", "_law_note"]
theorem sc__law_covers : FnScope N__law_covers ["_law_hands", "_law_notes_here", "_law_paper"] (defScope s__law_covers) := ⟨rfl, rfl, rfl, by decide +kernel, rfl, by decide +kernel, by decide +kernel⟩
theorem ok__law_covers {f : Addr} {fd : FuncData} (F : Fun K "_law_covers" "_law_covers" s__law_covers f fd) (T : Txt mg) (c__law_whole : Cal P w K mg base CX0 1 "_law_whole" ["_law_below", "_law_paper"] (sp__law_whole K)) (c__law_unders : Cal P w K mg base CX0 1 "_law_unders" ["_law_notes_here"] (sp__law_unders K)) : FnOk P w K mg base CX0 2 f fd ["_law_hands", "_law_notes_here", "_law_paper"] (sp__law_covers K) := by
  refine F.ok sc__law_covers (fun vs H Q E h => ?_) (fun cdv A outer s H vs Q E hr h => ?_)
  · obtain ⟨x, G, hs, ⟨v1, _, rfl, h1, v2, _, rfl, h2, v3, _, rfl, h3, rfl⟩, hp, k⟩ := h; rfl
  · obtain ⟨⟨hands, ns, pp⟩, G, hs, ⟨v1, _, rfl, h1, v2, _, rfl, h2, v3, _, rfl, h3, rfl⟩, ⟨hok, hl100, hp, hwl⟩, k⟩ := h
    replace h1 : Dp K G v1 (.list (sds hands)) := h1
    replace h2 : Dp K G v2 (.list (dNotes ns)) := h2
    replace h3 : Dp K G v3 (.tuple (sds pp)) := h3
    replace hp : UPre ns (.tuple (sds pp)) pp := hp
    replace hwl : ∀ n ∈ ns, n.2.2.length ≤ 1000 := hwl
    replace hok : ∀ h ∈ hands, NameOk h := hok
    replace hl100 : hands.length ≤ 100 := hl100
    have nd := sc__law_covers.nd
    have hu := hu_of hr
    have hrU := hrU_of hr
    refine ⟨_, pss_cons (ps_n 3 nd (pe_cal c__law_whole (hr.mono (by decide)) (by rfl) pass0 (pa_cons (pe_cal c__law_unders (hr.mono (by decide)) (by rfl) pass0 (pa_cons (pv 1) pa_nil)) (pa_cons (pv 2) pa_nil))))
    (pss_one (ps_ret (pe_cmpR (kEq K hrU) (pe_lc (own := [("_law_hand", 4)]) (by rfl) nd (kSeq K (pv 0)) (blkOk_by (by kernel_rfl)) (fun _ _ _ _ _ => (pg_n 4 nd)) (fun _ _ _ _ _ => (pts_one (pt_cmpR (kEq K hrU) (pe_lc (own := [("_law_note", 5)]) (by rfl) nd (kSeq K (pv 1)) (blkOk_by (by kernel_rfl)) (fun _ _ _ _ _ => (pg_n 5 nd)) (fun _ _ _ _ _ => (pts_one (PW.pt (pw_and (pt_cmpR op_eq (pe_ix (kIx K) (pv 5) (pe_int) (fun _ _ => rfl)) (pv 4) (nomark _)) (pw_and1 (pt_cmpR (kIn K) (pe_ix (kIx K) (pv 5) (pe_int) (fun _ _ => rfl)) (pv 3) (by rfl))))))) (fun _ _ _ _ _ => (pv 5))) (pe_lst pa_nil) (nomark _)))) (fun _ _ _ _ _ => (pv 4))) (pe_lst pa_nil) (nomark _)))), ?_⟩
    refine st (σ' := [some v1, some v2, some v3, none, none, none]) rfl ?_
    have t := hp.t
    have l40 := hp.l
    have hl : (dNotes ns).length = ns.length := List.length_map _
    refine q_asg hs (e_lwhole (e_lunders (e_var rfl h2) t l40 hwl) (e_var rfl h3) hp) fun w4 G1 H1 g1 r4 => ?_
    refine st (σ' := [some v1, some v2, some v3, some w4, none, none]) rfl ?_
    replace h1 := Dp.up g1.up _ _ h1
    replace h2 := Dp.up g1.up _ _ h2
    have ev := en_filt (K := K) (σ := [some v1, some v2, some v3, some w4, none, none]) (G := G1) (te := tVar 0) (j := 4) (tt := tTest (tOp (rEqD K) (tLc (iSeq K (tVar 1)) (gName 5) (tAnd (tTest (tOp rEq (tOp (rIx K) (tVar 5) (tC (.int 1))) (tVar 4))) (tTest (tOp (rIn K false) (tOp (rIx K) (tVar 5) (tC (.int 0))) (tVar 3)))) (tVar 5) [5]) (tLst tNil)))
      (xs := hands) (fun h => (ns.filter fun n => decide (n.2.1 = h) && decide (n.1 ∈ whole ns pp)).isEmpty) (.l _) (e_var rfl h1) (by omega) (by simp) fun h G2 hh u2 => by
        have evn := en_lcD (K := K) (σ := ([some v1, some v2, some v3, some w4, none, none].set 4 none).set 4 (some (.str h))) (G := G2) (tt := tAnd (tTest (tOp rEq (tOp (rIx K) (tVar 5) (tC (.int 1))) (tVar 4))) (tTest (tOp (rIn K false) (tOp (rIx K) (tVar 5) (tC (.int 0))) (tVar 3)))) (te := tVar 5) (g := gName 5) (vs := [5])
          (fun i => decide ((ns.map (·.2.1)).getD i ⟨#[]⟩ = h) && decide ((nms ns).getD i ⟨#[]⟩ ∈ whole ns pp)) (fun i => dNote (ns.getD i (⟨#[]⟩, ⟨#[]⟩, []))) (src_seq (.l (dNotes ns)) (e_var (i := 1) rfl (Dp.up u2 _ _ h2))) (by omega) fun i G3 x hi u ⟨e, he, hx⟩ => by
            obtain ⟨n, hn', rfl⟩ := dN_get he
            have e1 : (ns.map (·.2.1)).getD i ⟨#[]⟩ = n.2.1 := by rw [List.getD_eq_getElem?_getD, List.getElem?_map, hn']; rfl
            have e2 : (nms ns).getD i ⟨#[]⟩ = n.1 := by rw [List.getD_eq_getElem?_getD, nms_get hn']; rfl
            have e3 : ns.getD i (⟨#[]⟩, ⟨#[]⟩, []) = n := by rw [List.getD_eq_getElem?_getD, hn']; rfl
            rw [e1, e2, e3]
            refine ⟨_, tg_name, rfl, et_and (et_T (ed_eqS (K := K) (ed_ix 1 (.t _) (e_var rfl hx) ed_int (.inl ⟨rfl, by simp⟩) rfl) (e_var rfl (.str h)))) fun _ => et_T (ed_isIn (.t (sds (whole ns pp))) (ed_ix 0 (.t _) (e_var rfl hx) ed_int (.inl ⟨rfl, by simp⟩) rfl) (e_var rfl (Dp.up (u2.trans u) _ _ r4))), fun _ => ⟨by simp [dNote, flatD, flatDs, flatDs_sds], e_var rfl hx⟩⟩
        have eqn : ((List.range (dNotes ns).length).filter fun i => decide ((ns.map (·.2.1)).getD i ⟨#[]⟩ = h) && decide ((nms ns).getD i ⟨#[]⟩ ∈ whole ns pp)).map (fun i => dNote (ns.getD i (⟨#[]⟩, ⟨#[]⟩, []))) = dNotes (ns.filter fun n => decide (n.2.1 = h) && decide (n.1 ∈ whole ns pp)) := by
          rw [hl]
          exact range_map ns (fun n => decide (n.2.1 = h) && decide (n.1 ∈ whole ns pp)) dNote _ _ (fun i n h => by rw [List.getD_eq_getElem?_getD, List.getElem?_map, h, List.getD_eq_getElem?_getD, nms_get h]; rfl) (fun i n h => by rw [List.getD_eq_getElem?_getD, h]; rfl)
        rw [eqn] at evn
        refine et_T ((ed_eqD evn.d ed_nil (sh_lst (n := 2) fun d hd => ?_).shaped (sh_lst (n := 0) (by simp)).shaped).to ?_)
        · obtain ⟨n, hn, rfl⟩ := List.mem_map.mp hd
          exact sh_note (hp.ok n (List.mem_filter.mp hn).1)
        · cases (ns.filter fun n => decide (n.2.1 = h) && decide (n.1 ∈ whole ns pp)) <;> simp [PyData.eqv, PyData.eqvAll]
    refine s_ret g1.sub ((ed_eqE ev.d fun x hx => hok x (List.mem_filter.mp hx).1).to ?_) fun v G2 H2 g2 => k v G2 H2 (g1.trans g2)
    congr 1
    apply bP_of
    rw [List.isEmpty_iff, List.filter_eq_nil_iff]
    have hm : ∀ n ∈ ns, hnd ns n.1 = n.2.1 := fun n hn => by
      obtain ⟨i, hi⟩ := List.mem_iff_getElem?.mp hn
      exact hnd_at t.nodup hi
    constructor
    · intro h hd hhd
      have := h hd hhd
      cases ef : ns.filter (fun n => decide (n.2.1 = hd) && decide (n.1 ∈ whole ns pp)) with
      | nil => rw [ef] at this; simp at this
      | cons n r =>
        have hn : n ∈ ns.filter (fun n => decide (n.2.1 = hd) && decide (n.1 ∈ whole ns pp)) := by rw [ef]; exact List.mem_cons_self
        obtain ⟨n1, n2⟩ := List.mem_filter.mp hn
        simp only [Bool.and_eq_true, decide_eq_true_eq] at n2
        exact ⟨n.1, List.mem_map.mpr ⟨n, n1, rfl⟩, (hm n n1).trans n2.1, (mem_whole t).mp n2.2⟩
    · intro h hd hhd
      obtain ⟨y, hy, e1, e2⟩ := h hd hhd
      obtain ⟨n, hn, rfl⟩ := List.mem_map.mp hy
      have : n ∈ ns.filter (fun n => decide (n.2.1 = hd) && decide (n.1 ∈ whole ns pp)) := List.mem_filter.mpr ⟨hn, by simp [← hm n hn, e1, (mem_whole t).mpr e2]⟩
      cases ef : ns.filter (fun n => decide (n.2.1 = hd) && decide (n.1 ∈ whole ns pp)) with
      | nil => rw [ef] at this; simp at this
      | cons n r => simp
theorem e_lcovers {σ : L2.St} {G : Hp} {ta tb tc : TE} {hands pp : List Str} {ns : List Note} (h1 : EvS ta σ G (D K (.list (sds hands)))) (h2 : EvS tb σ G (D K (.list (dNotes ns)))) (h3 : EvS tc σ G (D K (.tuple (sds pp)))) (hok : ∀ h ∈ hands, NameOk h) (hl : hands.length ≤ 100) (hp : UPre ns (.tuple (sds pp)) pp) (hw : ∀ n ∈ ns, n.2.2.length ≤ 1000) :
    EvS (tCall (sp__law_covers K) [] E0 (tCons ta (tCons tb (tCons tc tNil)))) σ G (D K (.bool (bP (Covers hands ns pp)))) :=
  e_call (Γ := List Str × List Note × List Str) (args := fun x => [D K (.list (sds x.1)), D K (.list (dNotes x.2.1)), D K (.tuple (sds x.2.2))]) (hands, ns, pp) (ea_cons h1 (ea_cons h2 (ea_cons h3 ea_nil))) ⟨hok, hl, hp, hw⟩
end
end KB

set_option Elab.async false
set_option linter.all false
set_option maxRecDepth 100000
/-! The mathematics, fourth part: pacts with one note moved, renamed, or more. -/
namespace KB
open PySem PySem.Spec PyProof.Rows
theorem nodup_get' {xs : List Str} (nd : xs.Nodup) {i j : Nat} {x : Str} (h1 : xs[i]? = some x) (h2 : xs[j]? = some x) : i = j := by
  obtain ⟨a1, a2⟩ := List.getElem?_eq_some_iff.mp h1
  obtain ⟨b1, b2⟩ := List.getElem?_eq_some_iff.mp h2
  have key := List.pairwise_iff_getElem.mp nd
  rcases Nat.lt_trichotomy i j with r | r | r
  · exact absurd (a2.trans b2.symm) (key i j a1 b1 r)
  · exact r
  · exact absurd (b2.trans a2.symm) (key j i b1 a1 r)
theorem hnd_mem {ns : List Note} (nd : (nms ns).Nodup) {n : Note} (h : n ∈ ns) : hnd ns n.1 = n.2.1 := by
  obtain ⟨pre, post, e⟩ := List.append_of_mem h
  subst e
  refine hnd_r fun q => ?_
  rw [nms_app] at nd
  exact (List.nodup_append.mp nd).2.2 _ q n.1 (by simp) rfl
/-- one note of another hand -/
abbrev mvN (ns : List Note) (x h : Str) : List Note := ns.map fun n => (n.1, if n.1 = x then h else n.2.1, n.2.2)
theorem nms_map {ns : List Note} {f : Note → Str} {g : Note → List Str} : nms (ns.map fun n => (n.1, f n, g n)) = nms ns := by
  unfold nms
  rw [List.map_map]; rfl
theorem told_map {ns : List Note} (t : Told ns) (f : Note → Str) : Told (ns.map fun n => (n.1, f n, n.2.2)) := by
  induction t with
  | nil => exact .nil
  | @snoc pre n h new w ih =>
    rw [List.map_append]
    exact .snoc ih (by rw [nms_map]; exact new) fun z hz => by rw [nms_map]; exact w z hz
theorem val_moved {p : Pac} (v : Val p) {x h : Str} (hh : h ∈ p.hands) (hr : x ∉ p.ready) (hc : ∀ k ∈ p.hands, ∃ y ∈ nms (mvN p.notes x h), hnd (mvN p.notes x h) y = k ∧ ∃ z ∈ p.paper, Und (mvN p.notes x h) y z) :
    Val ⟨p.hands, mvN p.notes x h, p.ready, p.paper⟩ := by
  have t2 := told_map v.told (fun n => if n.1 = x then h else n.2.1)
  have nm := nms_map (ns := p.notes) (f := fun n => if n.1 = x then h else n.2.1) (g := fun n => n.2.2)
  refine ⟨t2, v.h2, v.h6, v.hnd, v.hok, by show 2 ≤ (mvN p.notes x h).length; rw [List.length_map]; exact v.n2, by show (mvN p.notes x h).length ≤ 40; rw [List.length_map]; exact v.n40, fun m hm => ?_, v.rlen, fun i r k hr' hk => ?_, v.pasc, fun z hz => by show z ∈ nms (mvN p.notes x h); rw [nm]; exact v.pin z hz, hc⟩
  · obtain ⟨n, hn, rfl⟩ := List.mem_map.mp hm
    obtain ⟨a, b, c⟩ := v.nok n hn
    refine ⟨a, ?_, c⟩
    show (if n.1 = x then h else n.2.1) ∈ p.hands
    split
    · exact hh
    · exact b
  · obtain ⟨a, b⟩ := v.rok i r k hr' hk
    refine ⟨by show r ∈ nms (mvN p.notes x h); rw [nm]; exact a, ?_⟩
    obtain ⟨n, hn, rfl⟩ := List.mem_map.mp a
    have ne : n.1 ≠ x := fun e => hr (e ▸ List.mem_of_getElem? hr')
    have := hnd_mem (ns := mvN p.notes x h) t2.nodup (n := (n.1, if n.1 = x then h else n.2.1, n.2.2)) (List.mem_map.mpr ⟨n, hn, rfl⟩)
    show hnd (mvN p.notes x h) n.1 = k
    rw [this, if_neg ne, ← b, hnd_mem v.told.nodup hn]
/-- names changed -/
abbrev rnN (ns : List Note) (r : Str → Str) : List Note := ns.map fun n => (r n.1, n.2.1, lotOf (n.2.2.map r))
theorem nms_rn (ns : List Note) (r : Str → Str) : nms (rnN ns r) = (nms ns).map r := by
  unfold nms
  rw [List.map_map, List.map_map]; rfl
theorem row_rn (ns : List Note) (r : Str → Str) (h : Str) : row (rnN ns r) h = (row ns h).map r := by
  unfold row
  rw [List.filter_map, List.map_map, List.map_map]; rfl
theorem lastL_map (xs : List Str) (r : Str → Str) : lastL (xs.map r) = (lastL xs).map r := by
  unfold lastL
  rw [List.getLast?_map]
  cases xs.getLast? <;> rfl
theorem told_rn {ns : List Note} (t : Told ns) {r : Str → Str} (inj : ∀ a ∈ nms ns, ∀ b ∈ nms ns, r a = r b → a = b) : Told (rnN ns r) := by
  induction t with
  | nil => exact .nil
  | @snoc pre n h new w ih =>
    have sub : ∀ a ∈ nms pre, a ∈ nms (pre ++ [n]) := fun a ha => by rw [nms_app]; exact List.mem_append_left _ ha
    have e : rnN (pre ++ [n]) r = rnN pre r ++ [(r n.1, n.2.1, lotOf (n.2.2.map r))] := List.map_append
    rw [e]
    refine .snoc (ih fun a ha b hb => inj a (sub a ha) b (sub b hb)) (fun q => ?_) fun z hz => ?_
    · rw [nms_rn] at q
      obtain ⟨a, ha, e⟩ := List.mem_map.mp q
      have : a = n.1 := inj a (sub a ha) n.1 (by rw [nms_app]; simp) e
      exact new (this ▸ ha)
    · obtain ⟨y, hy, rfl⟩ := List.mem_map.mp (mem_lotOf.mp hz)
      rw [nms_rn]
      exact List.mem_map.mpr ⟨y, w y hy, rfl⟩
theorem und_rn {ns : List Note} (t : Told ns) {r : Str → Str} (inj : ∀ a ∈ nms ns, ∀ b ∈ nms ns, r a = r b → a = b) : ∀ {x y : Str}, Und ns x y → Und (rnN ns r) (r x) (r y) := by
  induction t with
  | nil => intro x y u; exact (und_nil u).elim
  | @snoc pre n h new w ih =>
    intro x y u
    have sub : ∀ a ∈ nms pre, a ∈ nms (pre ++ [n]) := fun a ha => by rw [nms_app]; exact List.mem_append_left _ ha
    have ih' : ∀ {x y : Str}, Und pre x y → Und (rnN pre r) (r x) (r y) := ih fun a ha b hb => inj a (sub a ha) b (sub b hb)
    have e : rnN (pre ++ [n]) r = rnN pre r ++ [(r n.1, n.2.1, lotOf (n.2.2.map r))] := List.map_append
    rw [und_snoc] at u
    rw [e, und_snoc]
    by_cases q : y = n.1
    · rw [if_pos q] at u
      rw [if_pos (by rw [q])]
      rcases u with u | ⟨z, hz, u⟩
      · exact .inl (by rw [u])
      · refine .inr ⟨r z, ?_, ih' u⟩
        rcases hz with hz | hz
        · exact .inl (mem_lotOf.mpr (List.mem_map.mpr ⟨z, hz, rfl⟩))
        · refine .inr ?_
          show r z ∈ lastL (row (rnN pre r) n.2.1)
          rw [row_rn, lastL_map]
          exact List.mem_map.mpr ⟨z, hz, rfl⟩
    · rw [if_neg q] at u
      have hy := (u.mem h).2
      have ne : r y ≠ r n.1 := fun e => q (inj y (sub y hy) n.1 (by rw [nms_app]; simp) e)
      rw [if_neg ne]
      exact ih' u
theorem asc_sub_len {xs ys : List Str} (h : Asc xs) : xs = lotOf xs := (lot_self h).symm
theorem val_renamed {p : Pac} (v : Val p) {r : Str → Str} (inj : ∀ a ∈ nms p.notes, ∀ b ∈ nms p.notes, r a = r b → a = b) (ok : ∀ x ∈ nms p.notes, NameOk (r x)) :
    Val ⟨p.hands, rnN p.notes r, p.ready.map r, lotOf (p.paper.map r)⟩ := by
  have t2 := told_rn v.told inj
  have hd : ∀ {n : Note}, n ∈ p.notes → hnd (rnN p.notes r) (r n.1) = n.2.1 := fun {n} hn => hnd_mem (ns := rnN p.notes r) t2.nodup (n := (r n.1, n.2.1, lotOf (n.2.2.map r))) (List.mem_map.mpr ⟨n, hn, rfl⟩)
  refine ⟨t2, v.h2, v.h6, v.hnd, v.hok, by show 2 ≤ (rnN p.notes r).length; rw [List.length_map]; exact v.n2, by show (rnN p.notes r).length ≤ 40; rw [List.length_map]; exact v.n40, fun m hm => ?_, by show (p.ready.map r).length = p.hands.length; rw [List.length_map]; exact v.rlen, fun i s k hr' hk => ?_, asc_lotOf _, fun z hz => ?_, fun h hh => ?_⟩
  · obtain ⟨n, hn, rfl⟩ := List.mem_map.mp hm
    exact ⟨ok n.1 (List.mem_map.mpr ⟨n, hn, rfl⟩), (v.nok n hn).2.1, asc_lotOf _⟩
  · have hr2 : (p.ready.map r)[i]? = some s := hr'
    rw [List.getElem?_map] at hr2
    cases q : p.ready[i]? with
    | none => rw [q] at hr2; simp at hr2
    | some y =>
      rw [q] at hr2
      have : s = r y := by simpa using hr2.symm
      subst this
      obtain ⟨a, b⟩ := v.rok i y k q hk
      obtain ⟨n, hn, rfl⟩ := List.mem_map.mp a
      refine ⟨by show r n.1 ∈ nms (rnN p.notes r); rw [nms_rn]; exact List.mem_map.mpr ⟨n.1, a, rfl⟩, ?_⟩
      show hnd (rnN p.notes r) (r n.1) = k
      rw [hd hn, ← b, hnd_mem v.told.nodup hn]
  · obtain ⟨y, hy, rfl⟩ := List.mem_map.mp (mem_lotOf.mp hz)
    show r y ∈ nms (rnN p.notes r)
    rw [nms_rn]
    exact List.mem_map.mpr ⟨y, v.pin y hy, rfl⟩
  · obtain ⟨y, hy, e, z, hz, u⟩ := v.cov h hh
    obtain ⟨n, hn, rfl⟩ := List.mem_map.mp hy
    refine ⟨r n.1, by show r n.1 ∈ nms (rnN p.notes r); rw [nms_rn]; exact List.mem_map.mpr ⟨n.1, hy, rfl⟩, ?_, r z, mem_lotOf.mpr (List.mem_map.mpr ⟨z, hz, rfl⟩), und_rn v.told inj u⟩
    show hnd (rnN p.notes r) (r n.1) = h
    rw [hd hn, ← e, hnd_mem v.told.nodup hn]
/-- one note more -/
theorem val_more {p : Pac} (v : Val p) {f o z : Str} (hf : f ∉ nms p.notes) (ok : NameOk f) (ho : o ∈ p.hands) (hz : z ∈ nms p.notes) (hl : p.notes.length ≤ 39) : Val ⟨p.hands, p.notes ++ [(f, o, [z])], p.ready, p.paper⟩ := by
  have t2 : Told (p.notes ++ [(f, o, [z])]) := .snoc v.told hf fun y hy => by
    have e : y = z := by simpa using hy
    rw [e]
    exact hz
  have sub : ∀ y, y ∈ nms p.notes → y ∈ nms (p.notes ++ [(f, o, [z])]) := fun y hy => by rw [nms_app]; exact List.mem_append_left _ hy
  refine ⟨t2, v.h2, v.h6, v.hnd, v.hok, ?_, ?_, fun m hm => ?_, v.rlen, fun i r k hr' hk => ?_, v.pasc, fun y hy => sub y (v.pin y hy), fun h hh => ?_⟩
  · show 2 ≤ (p.notes ++ [(f, o, [z])]).length
    rw [List.length_append]
    have := v.n2
    omega
  · show (p.notes ++ [(f, o, [z])]).length ≤ 40
    rw [List.length_append, List.length_singleton]
    omega
  · rcases List.mem_append.mp hm with q | q
    · exact v.nok m q
    · have : m = (f, o, [z]) := by simpa using q
      rw [this]
      exact ⟨ok, ho, by simp⟩
  · obtain ⟨a, b⟩ := v.rok i r k hr' hk
    exact ⟨sub r a, (hnd_l a).trans b⟩
  · obtain ⟨y, hy, e, z', hz', u⟩ := v.cov h hh
    refine ⟨y, sub y hy, (hnd_l hy).trans e, z', hz', ?_⟩
    show Und (p.notes ++ [(f, o, [z])]) y z'
    have ne : z' ≠ f := fun q => hf (q ▸ v.pin z' hz')
    rw [und_snoc, if_neg ne]
    exact u
/-- hands in another order -/
theorem val_rev {p : Pac} (v : Val p) : Val ⟨p.hands.reverse, p.notes, p.ready.reverse, p.paper⟩ := by
  refine ⟨v.told, by show 2 ≤ p.hands.reverse.length; rw [List.length_reverse]; exact v.h2, by show p.hands.reverse.length ≤ 6; rw [List.length_reverse]; exact v.h6, (List.reverse_perm p.hands).symm.nodup v.hnd, fun h hh => v.hok h (List.mem_reverse.mp hh), v.n2, v.n40, fun n hn => ?_, by show p.ready.reverse.length = p.hands.reverse.length; rw [List.length_reverse, List.length_reverse]; exact v.rlen, fun i r k hr' hk => ?_, v.pasc, v.pin, fun h hh => v.cov h (List.mem_reverse.mp hh)⟩
  · obtain ⟨a, b, c⟩ := v.nok n hn
    exact ⟨a, List.mem_reverse.mpr b, c⟩
  · have h1 : p.ready.reverse[i]? = some r := hr'
    have h2 : p.hands.reverse[i]? = some k := hk
    have l1 := (List.getElem?_eq_some_iff.mp h1).1
    have l2 := (List.getElem?_eq_some_iff.mp h2).1
    rw [List.length_reverse] at l1 l2
    rw [List.getElem?_reverse l1] at h1
    rw [List.getElem?_reverse l2] at h2
    rw [v.rlen] at h1
    exact v.rok _ r k h1 h2
/-- another ready note -/
theorem val_ready {p : Pac} (v : Val p) {rs : List Str} (hl : rs.length = p.hands.length) (h : ∀ (i : Nat) (r k : Str), rs[i]? = some r → p.hands[i]? = some k → r ∈ nms p.notes ∧ hnd p.notes r = k) : Val ⟨p.hands, p.notes, rs, p.paper⟩ :=
  ⟨v.told, v.h2, v.h6, v.hnd, v.hok, v.n2, v.n40, v.nok, hl, h, v.pasc, v.pin, v.cov⟩
end KB

set_option Elab.async false
set_option linter.all false
set_option maxRecDepth 100000
set_option maxHeartbeats 4000000
/-! The law's defs: one note of another hand, called otherwise, or more. -/
namespace KB
open PySem PySem.Spec PyProof.Rows L2
class StbL (Rs : List RP) : Prop where
  up : ∀ {vs : List V} {H H' : Hp}, Same H H' → Alls Rs vs H → Alls Rs vs H'
instance : StbL [] := ⟨fun _ h => h⟩
instance {R : RP} {Rs : List RP} [Stb R] [S : StbL Rs] : StbL (R :: Rs) := ⟨fun u ⟨v, r, e, h, t⟩ => ⟨v, r, e, stb u h, S.up u t⟩⟩
def TupR (K : PySem.W.Frag) (Rs : List RP) : RP := fun v H => ∃ a xs, v = .ref a ∧ SqT K H a xs ∧ Alls Rs xs H
instance {K : PySem.W.Frag} {Rs : List RP} [S : StbL Rs] : Stb (TupR K Rs) := ⟨fun u ⟨a, xs, e, q, h⟩ => ⟨a, xs, e, same_t u q, S.up u h⟩⟩
section
variable {K : PySem.W.Frag} {σ : L2.St} {G G2 H : Hp} {te ta tb tc : TE} {t : TA} {Rs : List RP} {R1 R2 R3 : RP}
theorem alls_len : ∀ {Rs : List RP} {vs : List V} {H : Hp}, Alls Rs vs H → vs.length = Rs.length
  | [], _, _, h => by rw [show _ = [] from h]; rfl
  | _ :: Rs, _, _, ⟨v, r, e, _, t⟩ => by rw [e, List.length_cons, List.length_cons, alls_len t]
theorem e_tupA [S : StbL Rs] (h : EvA t σ G Rs) (hl : Rs.length ≤ 1000000) : EvS (tTup t) σ G (TupR K Rs) := fun G0 H u s Q k =>
  h G0 H u s _ fun vs G1 H1 g1 rs => ⟨by rw [alls_len rs]; exact small9 hl, fun p hp => k _ _ _ (g1.trans (Grow.new g1.sub hp)) ⟨p, vs, rfl, .inl (.inl upd_same), S.up (Same.new (g1.sub.free hp)) rs⟩⟩
theorem tr_2 {g1 g2 : TG} {x : V} (h : TupR K [R1, R2] x G) : ∃ v1 v2, R1 v1 G ∧ R2 v2 G ∧ ∀ σ σ2 σ3, Tg g1 v1 σ G σ2 → Tg g2 v2 σ2 G σ3 → Tg (gTup K 2 (gCons g1 (gCons g2 gNil))) x σ G σ3 := by
  obtain ⟨a, xs, e, hq, v1, _, rfl, h1, v2, _, rfl, h2, rfl⟩ := h
  exact ⟨v1, v2, h1, h2, fun σ σ2 σ3 k1 k2 => tg_tup e hq rfl (tgs_cons k1 (tgs_cons k2 tgs_nil))⟩
theorem tr_3 {g1 g2 g3 : TG} {x : V} (h : TupR K [R1, R2, R3] x G) : ∃ v1 v2 v3, R1 v1 G ∧ R2 v2 G ∧ R3 v3 G ∧ ∀ σ σ2 σ3 σ4, Tg g1 v1 σ G σ2 → Tg g2 v2 σ2 G σ3 → Tg g3 v3 σ3 G σ4 → Tg (gTup K 3 (gCons g1 (gCons g2 (gCons g3 gNil)))) x σ G σ4 := by
  obtain ⟨a, xs, e, hq, v1, _, rfl, h1, v2, _, rfl, h2, v3, _, rfl, h3, rfl⟩ := h
  exact ⟨v1, v2, v3, h1, h2, h3, fun σ σ2 σ3 σ4 k1 k2 k3 => tg_tup e hq rfl (tgs_cons k1 (tgs_cons k2 (tgs_cons k3 tgs_nil)))⟩
/-- [note[0] for note in notes] -/
theorem en_names {ns : List Note} {i j : Nat} (hn : ns.length ≤ 1000000) (hr : EvS (tVar i) σ G (D K (.list (dNotes ns)))) (hj : j < σ.length) :
    EvN K (tLc (iSeq K (tVar i)) (gName j) tYes (tOp (rIx K) (tVar j) (tC (.int 0))) [j]) σ G (fun ds => ds = sds (nms ns)) := by
  have ev := en_lcD (K := K) (tt := tYes) (te := tOp (rIx K) (tVar j) (tC (.int 0))) (g := gName j) (vs := [j]) (fun _ => true) (fun i => .str ((nms ns).getD i ⟨#[]⟩)) (src_seq (.l _) hr) (by rw [List.length_map]; exact hn) fun i G1 x hi u ⟨e, he, hx⟩ => by
    obtain ⟨n, hn', rfl⟩ := dN_get he
    have e2 : (nms ns).getD i ⟨#[]⟩ = n.1 := by rw [List.getD_eq_getElem?_getD, nms_get hn']; rfl
    have hs : ((σ.set j none).set j (some x))[j]? = some (some x) := by rw [List.getElem?_set_self (by rw [List.length_set]; exact hj)]
    refine ⟨_, tg_name, ?_, et_yes, fun _ => ⟨rfl, ?_⟩⟩
    · show ((σ.set j none).set j _).set j none = σ.set j none
      rw [List.set_set, List.set_set]
    · rw [e2]
      exact ed_ix 0 (.t _) (e_var hs hx) ed_int (.inl ⟨rfl, by simp⟩) rfl
  refine ev.imp fun ds e => ?_
  rw [e, List.filter_eq_self.mpr (fun _ _ => rfl), List.length_map]
  refine List.ext_getElem (by simp) fun i a1 a2 => ?_
  have a3 : i < ns.length := by simpa using a1
  simp [a3]
/-- [f(x) for x in xs] -/
theorem en_mapS {d : PyData} {xs : List Str} {j : Nat} {te0 : TE} (f : Str → Str) (hd : SqD d (sds xs)) (h : EvS te0 σ G (D K d)) (hn : xs.length ≤ 1000000) 
    (turn : ∀ x G1, x ∈ xs → Same G G1 → EvS te ((σ.set j none).set j (some (.str x))) G1 (D K (.str (f x)))) : EvN K (tLc (iSeq K te0) (gName j) tYes te [j]) σ G (fun ds => ds = sds (xs.map f)) := by
  have ev := en_lcD (K := K) (tt := tYes) (te := te) (g := gName j) (vs := [j]) (fun _ => true) (fun i => .str (f (xs.getD i ⟨#[]⟩))) (src_seq hd h) (by rw [List.length_map]; exact hn) fun i G1 x hi u ⟨e, he, hx⟩ => by
    obtain ⟨z, hz, rfl⟩ := sds_get he
    cases hx
    have e1 : xs.getD i ⟨#[]⟩ = z := by rw [List.getD_eq_getElem?_getD, hz]; rfl
    refine ⟨_, tg_name, ?_, et_yes, fun _ => ⟨rfl, ?_⟩⟩
    · show ((σ.set j none).set j _).set j none = σ.set j none
      rw [List.set_set, List.set_set]
    · rw [e1]; exact turn z G1 (mem_of_get hz) u
  refine ev.imp fun ds e => ?_
  rw [e, List.filter_eq_self.mpr (fun _ _ => rfl), List.length_map]
  refine List.ext_getElem (by simp) fun i a1 a2 => ?_
  have a3 : i < xs.length := by simpa using a1
  simp [a3]
end
section
variable {K : PySem.W.Frag} {σ : L2.St} {G G2 H : Hp} {te ta tb tc : TE}
/-- data, told by what it is -/
abbrev DX (K : PySem.W.Frag) (P : PyData → Prop) : RP := fun v H => ∃ d, P d ∧ Dp K H v d
instance {P : PyData → Prop} : Stb (DX K P) := ⟨fun u ⟨d, a, r⟩ => ⟨d, a, Dp.up u _ _ r⟩⟩
abbrev LX (K : PySem.W.Frag) (P : List PyData → Prop) : RP := fun v H => ∃ ds, P ds ∧ Dp K H v (.list ds)
instance {P : List PyData → Prop} : Stb (LX K P) := ⟨fun u ⟨d, a, r⟩ => ⟨d, a, Dp.up u _ _ r⟩⟩
theorem e_catX {Pa Pb : List PyData → Prop} (ha : EvS ta σ G (LX K Pa)) (hb : EvS tb σ G (LX K Pb)) (hl : ∀ a b, Pa a → Pb b → a.length + b.length ≤ 1000000) : EvS (tOp (rCatL K) ta tb) σ G (LX K fun x => ∃ a b, Pa a ∧ Pb b ∧ x = a ++ b) := fun G0 H u s Q k =>
  ha G0 H u s _ fun x G1 H1 g1 ⟨a, pa, rx⟩ => hb G1 H1 (u.trans g1.up) g1.sub _ fun y G2 H2 g2 ⟨b, pb, ry⟩ => by
    have c := (en_cat (K := K) (σ := []) (ta := tC x) (tb := tC y) (e_c (Dp.up g2.up _ _ rx)) (e_c ry) (hl a b pa pb)).d
    exact c G2 H2 (.refl _) g2.sub _ fun v G3 H3 g3 r => k v G3 H3 ((g1.trans g2).trans g3) ⟨a ++ b, ⟨a, b, pa, pb, rfl⟩, r⟩
theorem e_lst1X {P : PyData → Prop} (h : EvS te σ G (DX K P)) : EvS (tLst (tCons te tNil)) σ G (LX K fun x => ∃ d, P d ∧ x = [d]) := fun G0 H u s Q k =>
  h G0 H u s _ fun x G1 H1 g1 ⟨d, pd, rx⟩ => by
    have c := (en_lst (K := K) (σ := []) (dd_cons (te := tC x) (e_c rx) dd_nil) (by simp)).d
    exact c G1 H1 (.refl _) g1.sub _ fun v G3 H3 g3 r => k v G3 H3 (g1.trans g3) ⟨[d], ⟨d, pd, rfl⟩, r⟩
theorem e_note {x : Str} {ws : List Str} {P : Str → Prop} (h1 : EvS ta σ G (D K (.str x))) (h2 : EvS tb σ G (StrP P)) (h3 : EvS tc σ G (D K (.tuple (sds ws)))) : EvS (tTup (tCons ta (tCons tb (tCons tc tNil)))) σ G (DX K fun d => ∃ h, P h ∧ d = dNote (x, h, ws)) :=
  (e_tupA (K := K) (Rs := [D K (.str x), StrP P, D K (.tuple (sds ws))]) (ea_cons h1 (ea_cons h2 (ea_cons h3 ea_nil))) (by simp)).imp fun v H ⟨a, xs, e, q, v1, _, e1, r1, v2, _, e2, ⟨h, ph, e3⟩, v3, _, e4, r3, e5⟩ => by
    subst e; subst e1; subst e2; subst e3; subst e4; subst e5
    exact ⟨_, ⟨h, ph, rfl⟩, .tup q (.cons r1 (.cons (.str h) (.cons r3 .nil)))⟩
theorem LX.of {es : List PyData} (h : EvS te σ G (D K (.list es))) : EvS te σ G (LX K fun x => x = es) := h.imp fun v H r => ⟨es, rfl, r⟩
end
theorem e_ren {K : PySem.W.Frag} {σ : L2.St} {G : Hp} {ti tj tk : TE} {x a b : Str} (h1 : EvS ti σ G (D K (.str x))) (h2 : EvS tj σ G (D K (.str a))) (h3 : EvS tk σ G (D K (.str b))) : EvS (tIf (tTest (tOp rEq ti tj)) tk ti) σ G (D K (.str (if x = a then b else x))) :=
  e_if (et_T (ed_eqS (K := K) h1 h2)) (fun e => h3.to (by rw [if_pos (of_decide_eq_true e)])) (fun e => h1.to (by rw [if_neg (of_decide_eq_false e)]))
theorem nodup_map_on {f : Str → Str} : ∀ {xs : List Str}, xs.Nodup → (∀ a ∈ xs, ∀ b ∈ xs, f a = f b → a = b) → (xs.map f).Nodup
  | [], _, _ => List.nodup_nil
  | x :: xs, nd, inj => by
    rw [List.map_cons, List.nodup_cons]
    obtain ⟨h1, h2⟩ := List.nodup_cons.mp nd
    refine ⟨fun q => ?_, nodup_map_on h2 fun a ha b hb => inj a (List.mem_cons_of_mem _ ha) b (List.mem_cons_of_mem _ hb)⟩
    obtain ⟨y, hy, e⟩ := List.mem_map.mp q
    exact h1 (inj y (List.mem_cons_of_mem _ hy) x List.mem_cons_self e ▸ hy)
theorem told_wts {ns : List Note} (t : Told ns) : ∀ n ∈ ns, ∀ z ∈ n.2.2, z ∈ nms ns := by
  induction t with
  | nil => intro n h; cases h
  | @snoc pre n h new w ih =>
    intro m hm z hz
    rw [nms_app]
    refine List.mem_append_left _ ?_
    rcases List.mem_append.mp hm with q | q
    · exact ih m q z hz
    · have e : m = n := by simpa using q
      exact w z (e ▸ hz)
theorem dNotes_app (a b : List Note) : dNotes (a ++ b) = dNotes a ++ dNotes b := List.map_append
section
variable {P : Program} {w : World} {K : PySem.W.Frag} {mg : Str → Option Value} {base : Heap}
abbrev PartsV (K : PySem.W.Frag) : RP := fun v H => ∃ p, Val p ∧ Dp K H v (dParts p)
instance : Stb (PartsV K) := ⟨fun u ⟨p, a, r⟩ => ⟨p, a, Dp.up u _ _ r⟩⟩
def sp__law_other (K : PySem.W.Frag) : Sp := SpG (Γ := Pac × Nat) (fun x => [HeapAt, D K (dParts x.1), D K (.int (x.2 : Nat))]) (fun x => Val x.1 ∧ (∀ y ∈ nms x.1.notes, y.cps.size ≤ 7) ∧ x.1.notes.length ≤ 20 ∧ 6 ≤ x.2 ∧ x.2 ≤ 8) fun _ => PartsV K
theorem fresh_ok : NameOk "qzqzqzqz" ∧ ("qzqzqzqz" : Str).cps.size = 8 ∧ ("zqzqzqzq" : Str).cps.size = 8 := by
  refine ⟨⟨by decide +kernel, by decide +kernel, ?_⟩, by decide +kernel, by decide +kernel⟩
  decide +kernel
theorem mv_eq {ns : List Note} (nd : (nms ns).Nodup) {i : Nat} {n : Note} {h : Str} (hi : ns[i]? = some n) : ns.take i ++ [(n.1, h, n.2.2)] ++ ns.drop (i + 1) = mvN ns n.1 h := by
  have hne : ∀ j m, ns[j]? = some m → j ≠ i → m.1 ≠ n.1 := fun j m hj hne e => hne (nodup_get nd (nms_get hj) (e ▸ nms_get hi))
  conv => rhs; rw [split_at hi]
  show _ = (ns.take i ++ n :: ns.drop (i + 1)).map _
  rw [List.map_append, List.map_cons, if_pos rfl, List.append_assoc]
  congr 1
  · conv => lhs; rw [← List.map_id (ns.take i)]
    refine List.map_congr_left fun m hm => ?_
    obtain ⟨j, hj⟩ := List.mem_iff_getElem?.mp hm
    rw [List.getElem?_take] at hj
    split at hj
    · rw [if_neg (hne j m hj (by omega))]; rfl
    · cases hj
  · show (n.1, h, n.2.2) :: _ = (n.1, h, n.2.2) :: _
    congr 1
    conv => lhs; rw [← List.map_id (ns.drop (i + 1))]
    refine List.map_congr_left fun m hm => ?_
    obtain ⟨j, hj⟩ := List.mem_iff_getElem?.mp hm
    rw [List.getElem?_drop] at hj
    rw [if_neg (hne _ m hj (by omega))]; rfl
abbrev s__law_other : Stmt := top 60
abbrev N__law_other : List Str := ["_law_heap_here", "_law_parts", "_law_bent", "_law_hands", "_law_notes_here", "_law_ready", "_law_paper", "_law_at", "_law_fresh", "_law_word", "_law_note", "_law_name", "_law_owner", "_law_waits", "_law_moved", "_law_called", "_law_lot", "_law_one", "_law_hand", "_law_more"]
theorem sc__law_other : FnScope N__law_other ["_law_heap_here", "_law_parts", "_law_bent"] (defScope s__law_other) := ⟨rfl, rfl, rfl, by decide +kernel, rfl, by decide +kernel, by decide +kernel⟩
theorem ok__law_other {f : Addr} {fd : FuncData} (F : Fun K "_law_other" "_law_other" s__law_other f fd) (T : Txt mg) (c__law_draw : Cal P w K mg base CX0 1 "_law_draw" ["_law_heap_here", "_law_many"] (sp__law_draw K)) (c__law_pick : Cal P w K mg base CX0 2 "_law_pick" ["_law_heap_here", "_law_some_here"] (sp__law_pick K)) (c__law_covers : Cal P w K mg base CX0 2 "_law_covers" ["_law_hands", "_law_notes_here", "_law_paper"] (sp__law_covers K)) : FnOk P w K mg base CX0 3 f fd ["_law_heap_here", "_law_parts", "_law_bent"] (sp__law_other K) := by
  refine F.ok sc__law_other (fun vs H Q E h => ?_) (fun cdv A outer s H vs Q E hr h => ?_)
  · obtain ⟨x, G, hs, ⟨v1, _, rfl, h1, v2, _, rfl, h2, v3, _, rfl, h3, rfl⟩, hp, k⟩ := h; rfl
  · obtain ⟨⟨p, bt⟩, G, hs, ⟨v1, _, rfl, h1, v2, _, rfl, h2, v3, _, rfl, h3, rfl⟩, ⟨hv, h7, l20, b6, b8⟩, k⟩ := h
    replace h1 : HeapAt v1 G := h1
    replace h2 : Dp K G v2 (dParts p) := h2
    replace hv : Val p := hv
    replace h7 : ∀ y ∈ nms p.notes, y.cps.size ≤ 7 := h7
    replace l20 : p.notes.length ≤ 20 := l20
    replace b6 : 6 ≤ bt := b6
    replace b8 : bt ≤ 8 := b8
    cases d_int h3
    have nd := sc__law_other.nd
    have hu := hu_of hr
    have hrU := hrU_of hr
    refine ⟨_, pss_cons (ps_asg (pv 1) (kTg K 4 rfl (pgs_cons (pg_n 3 nd) (pgs_cons (pg_n 4 nd) (pgs_cons (pg_n 5 nd) (pgs_cons (pg_n 6 nd) pgs_nil))))))
    (pss_cons (ps_asg (pe_tup (pa_cons (pe_cal c__law_draw (hr.mono (by decide)) (by rfl) pass0 (pa_cons (pv 0) (pa_cons (pe_callB (kLen K) (by rfl) T.m_len (by decide +kernel) (pa_cons (pv 4) pa_nil)) pa_nil))) (pa_cons (pe_ix (kIx K) (pe_lc (own := [("_law_word", 9)]) (by rfl) nd (kSeq K (pe_lst (pa_cons (pe_str) (pa_cons (pe_str) pa_nil)))) (blkOk_by (by kernel_rfl)) (fun _ _ _ _ _ => (pg_n 9 nd)) (fun _ _ _ _ _ => (pts_one (pt_cmpR (kNi K) (pv 9) (pe_lc (own := [("_law_note", 10)]) (by rfl) nd (kSeq K (pv 4)) (blkOk_by (by kernel_rfl)) (fun _ _ _ _ _ => (pg_n 10 nd)) (fun _ _ _ _ _ => pts_nil) (fun _ _ _ _ _ => (pe_ix (kIx K) (pv 10) (pe_int) (fun _ _ => rfl)))) (by rfl)))) (fun _ _ _ _ _ => (pv 9))) (pe_int) (fun _ _ => rfl)) pa_nil))) (kTg K 2 rfl (pgs_cons (pg_n 7 nd) (pgs_cons (pg_n 8 nd) pgs_nil))))
    (pss_cons (ps_asg (pe_ix (kIx K) (pv 4) (pv 7) (fun _ _ => rfl)) (kTg K 3 rfl (pgs_cons (pg_n 11 nd) (pgs_cons (pg_n 12 nd) (pgs_cons (pg_n 13 nd) pgs_nil)))))
    (pss_cons (ps_if (PW.pt (pw_and (pt_cmpR op_eq (pv 2) (pe_int) (nomark _)) (pw_and1 (pt_cmpR (kNi K) (pv 11) (pv 5) (by rfl)))))
      (pss_cons (ps_n 14 nd (pe_op (kCat K) (pe_op (kCat K) (pe_slice (kSl K) (pv 4) po_none (po_some (pv 7))) (pe_lst (pa_cons (pe_tup (pa_cons (pv 11) (pa_cons (pe_cal c__law_pick (hr.mono (by decide)) (by rfl) pass0 (pa_cons (pv 0) (pa_cons (pv 3) pa_nil))) (pa_cons (pv 13) pa_nil)))) pa_nil))) (pe_slice (kSl K) (pv 4) (po_some (pe_op op_add (pv 7) (pe_int))) po_none)))
        (pss_one (ps_ret (pe_ifExp (pt_val (pe_cal c__law_covers (hr.mono (by decide)) (by rfl) pass0 (pa_cons (pv 3) (pa_cons (pv 14) (pa_cons (pv 6) pa_nil))))) (pe_tup (pa_cons (pv 3) (pa_cons (pv 14) (pa_cons (pv 5) (pa_cons (pv 6) pa_nil))))) (pv 1)))))
      (pss_nil))
    (pss_cons (ps_if (pt_cmpR op_eq (pv 2) (pe_int) (nomark _))
      (pss_cons (ps_n 15 nd (pe_lst pa_nil))
        (pss_cons (ps_for PassesOwn.never rfl (kSeq K (pv 4)) (kTg K 3 rfl (pgs_cons (pg_n 17 nd) (pgs_cons (pg_n 18 nd) (pgs_cons (pg_n 16 nd) pgs_nil))))
          (pss_one (ps_expr (pe_bm PySem.F.plainAttrs_list PySem.F.slot_list_append PySem.F.type_list_append mt_append (pv 15) (pa_cons (pe_tup (pa_cons (pe_ifExp (pt_cmpR op_eq (pv 17) (pv 11) (nomark _)) (pv 8) (pv 17)) (pa_cons (pv 18) (pa_cons (pe_callTy (kTup K) (by rfl) T.m_tuple (by decide +kernel) (pa_cons (pe_callB (kSrt K) (by rfl) T.m_sorted (by decide +kernel) (pa_cons (pe_lc (own := [("_law_more", 19)]) (by rfl) nd (kSeq K (pv 16)) (blkOk_by (by kernel_rfl)) (fun _ _ _ _ _ => (pg_n 19 nd)) (fun _ _ _ _ _ => pts_nil) (fun _ _ _ _ _ => (pe_ifExp (pt_cmpR op_eq (pv 19) (pv 11) (nomark _)) (pv 8) (pv 19)))) pa_nil)) pa_nil)) pa_nil)))) pa_nil)))))
        (pss_cons (ps_n 16 nd (pe_callTy (kTup K) (by rfl) T.m_tuple (by decide +kernel) (pa_cons (pe_callB (kSrt K) (by rfl) T.m_sorted (by decide +kernel) (pa_cons (pe_lc (own := [("_law_one", 17)]) (by rfl) nd (kSeq K (pv 6)) (blkOk_by (by kernel_rfl)) (fun _ _ _ _ _ => (pg_n 17 nd)) (fun _ _ _ _ _ => pts_nil) (fun _ _ _ _ _ => (pe_ifExp (pt_cmpR op_eq (pv 17) (pv 11) (nomark _)) (pv 8) (pv 17)))) pa_nil)) pa_nil)))
        (pss_one (ps_ret (pe_tup (pa_cons (pv 3) (pa_cons (pv 15) (pa_cons (pe_lc (own := [("_law_one", 17)]) (by rfl) nd (kSeq K (pv 5)) (blkOk_by (by kernel_rfl)) (fun _ _ _ _ _ => (pg_n 17 nd)) (fun _ _ _ _ _ => pts_nil) (fun _ _ _ _ _ => (pe_ifExp (pt_cmpR op_eq (pv 17) (pv 11) (nomark _)) (pv 8) (pv 17)))) (pa_cons (pv 16) pa_nil))))))))))
      (pss_nil))
    (pss_one (ps_ret (pe_ifExp (pt_cmpR op_eq (pv 2) (pe_int) (nomark _)) (pe_tup (pa_cons (pv 3) (pa_cons (pe_op (kCat K) (pv 4) (pe_lst (pa_cons (pe_tup (pa_cons (pv 8) (pa_cons (pv 12) (pa_cons (pe_tup (pa_cons (pe_ix (kIx K) (pe_ix (kIx K) (pv 4) (pe_un un_neg (pe_int)) (fun _ _ => rfl)) (pe_int) (fun _ _ => rfl)) pa_nil)) pa_nil)))) pa_nil))) (pa_cons (pv 5) (pa_cons (pv 6) pa_nil))))) (pv 1)))))))), ?_⟩
    refine st (σ' := [some v1, some v2, some (V.int (bt:Nat)), none, none, none, none, none, none, none, none, none, none, none, none, none, none, none, none, none]) rfl ?_
    have nz : ∀ {o : HO}, some o ≠ none := fun z => nomatch z
    have hn2 := hv.n2
    have nd2 := hv.told.nodup
    have hl : (dNotes p.notes).length = p.notes.length := List.length_map _
    refine q_asgT hs (e_var (R := D K (dParts p)) rfl h2) fun v G1 H1 g1 rv => ?_
    obtain ⟨w3, w4, w5, w6, r3, r4, r5, r6, htg⟩ := tg_4 rv
    refine ⟨_, htg _ _ _ _ _ tg_name tg_name tg_name tg_name, ?_⟩
    refine st (σ' := [some v1, some v2, some (V.int (bt:Nat)), some w3, some w4, some w5, some w6, none, none, none, none, none, none, none, none, none, none, none, none, none]) rfl ?_
    replace h1 := stb g1.up h1
    replace h2 := Dp.up g1.up _ _ h2
    have hw1 : ("qzqzqzqz" : Str) ∉ nms p.notes := fun q => by have := h7 _ q; rw [fresh_ok.2.1] at this; omega
    have hw2 : ("zqzqzqzq" : Str) ∉ nms p.notes := fun q => by have := h7 _ q; rw [fresh_ok.2.2] at this; omega
    have evf : EvS (tOp (rIx K) (tLc (iSeq K (tLst (tCons (tC (.str "qzqzqzqz")) (tCons (tC (.str "zqzqzqzq")) tNil)))) (gName 9) (tTest (tOp (rIn K true) (tVar 9) (tLc (iSeq K (tVar 4)) (gName 10) tYes (tOp (rIx K) (tVar 10) (tC (.int 0))) [10]))) (tVar 9) [9]) (tC (.int 0)))
        [some v1, some v2, some (.int (bt : Nat)), some w3, some w4, some w5, some w6, none, none, none, none, none, none, none, none, none, none, none, none, none] G1 (D K (.str "qzqzqzqz")) :=
      ed_ix (e := .str "qzqzqzqz") 0 (.l (sds ["qzqzqzqz", "zqzqzqzq"])) ((en_filt (K := K) (xs := ["qzqzqzqz", "zqzqzqzq"]) (fun x => !decide (x ∈ nms p.notes)) (.l _) (en_lst (dd_cons ed_str (dd_cons ed_str dd_nil)) (by decide)).d (by decide) (by simp) fun x G2 hx u2 => et_T (ed_niIn (.l (sds (nms p.notes))) (e_var rfl (.str x)) (en_names (ns := p.notes) (by omega) (e_var rfl (Dp.up u2 _ _ r4)) (by simp)).d)).d.to (by
        have a1 : decide (("qzqzqzqz" : Str) ∈ nms p.notes) = false := decide_eq_false hw1
        have a2 : decide (("zqzqzqzq" : Str) ∈ nms p.notes) = false := decide_eq_false hw2
        rw [List.filter_cons, List.filter_cons, a1, a2]; rfl)) ed_int (.inl ⟨rfl, by decide⟩) rfl
    refine q_asgT g1.sub (e_tupA (K := K) (Rs := [LtR p.notes.length, D K (.str "qzqzqzqz")]) (ea_cons (e_draw (e_var rfl h1) ((ed_len (.l _) (e_var rfl r4)).to (by rw [hl])) (by omega) (by omega)) (ea_cons evf ea_nil)) (by simp)) fun v G2 H2 g2 rt => ?_
    obtain ⟨w7, w8, ⟨i, hi, e7⟩, e8, htg⟩ := tr_2 rt
    subst e7
    cases d_str e8
    refine ⟨_, htg _ _ _ tg_name tg_name, ?_⟩
    refine st (σ' := [some v1, some v2, some (V.int (bt:Nat)), some w3, some w4, some w5, some w6, some (V.int (i:Nat)), some (V.str "qzqzqzqz"), none, none, none, none, none, none, none, none, none, none, none]) rfl ?_
    replace h1 := stb g2.up h1
    replace h2 := Dp.up g2.up _ _ h2
    replace r3 := Dp.up g2.up _ _ r3
    replace r4 := Dp.up g2.up _ _ r4
    replace r5 := Dp.up g2.up _ _ r5
    replace r6 := Dp.up g2.up _ _ r6
    have hget : p.notes[i]? = some p.notes[i] := List.getElem?_eq_getElem _
    obtain ⟨n, hn⟩ : ∃ n, p.notes[i]? = some n := ⟨_, hget⟩
    refine q_asgT g2.sub (ed_ix (K := K) (e := dNote n) i (.l (dNotes p.notes)) (e_var rfl r4) (e_var rfl (.int (i : Nat))) (.inl ⟨rfl, by rw [hl]; exact hi⟩) (by rw [List.getElem?_map, hn]; rfl)) fun v G3 H3 g3 rv => ?_
    obtain ⟨u1, u2, u3, q1, q2, q3, htg⟩ := tg_3 rv
    cases q1
    cases q2
    refine ⟨_, htg _ _ _ _ tg_name tg_name tg_name, ?_⟩
    refine st (σ' := [some v1, some v2, some (V.int (bt:Nat)), some w3, some w4, some w5, some w6, some (V.int (i:Nat)), some (V.str "qzqzqzqz"), none, none, some (V.str n.1), some (V.str n.2.1), some u3, none, none, none, none, none, none]) rfl ?_
    replace h1 := stb g3.up h1
    replace h2 := Dp.up g3.up _ _ h2
    replace r3 := Dp.up g3.up _ _ r3
    replace r4 := Dp.up g3.up _ _ r4
    replace r5 := Dp.up g3.up _ _ r5
    replace r6 := Dp.up g3.up _ _ r6
    have g03 := (g1.trans g2).trans g3
    have hnm : n.1 ∈ nms p.notes := List.mem_map.mpr ⟨n, mem_of_get hn, rfl⟩
    have nk := hv.nok n (mem_of_get hn)
    clear g1 g2 g3
    -- of another hand
    refine q_if g03.sub (et_and (et_T (ed_eqI (K := K) (e_var rfl (.int (bt : Nat))) ed_int)) fun _ => et_T (ed_niIn (.l (sds p.ready)) (e_var rfl (.str n.1)) (e_var rfl r5))) (fun hb G4 H4 g4 => ?_) (fun hb G4 H4 g4 => ?_)
    · have hnr : n.1 ∉ p.ready := by
        simp only [Bool.and_eq_true, Bool.not_eq_true', decide_eq_false_iff_not] at hb
        exact hb.2
      have u4 := g4.up
      have hh6 := hv.h6
      have hh2 := hv.h2
      have lt1 : (cutD (dNotes p.notes) none (some (i : Nat))).length ≤ 40 := by have := cut_len (ds := dNotes p.notes) (lo := none) (hi := some (i : Nat)); omega
      have ed : cutD (dNotes p.notes) (some ((i : Int) + 1)) none = (dNotes p.notes).drop (i + 1) := cut_from (ds := dNotes p.notes) (k := i + 1) (by omega)
      have lt2 : (cutD (dNotes p.notes) (some ((i : Int) + 1)) none).length ≤ 40 := by have := cut_len (ds := dNotes p.notes) (lo := some ((i : Int) + 1)) (hi := none); omega
      refine q_asg g4.sub (R := fun v H => ∃ h ∈ p.hands, Dp K H v (.list (dNotes (mvN p.notes n.1 h)))) ((e_catX (K := K) (e_catX (LX.of (en_sl (e_var (i := 4) rfl (Dp.up u4 _ _ r4)) eo_none (eo_some (K := K) (e_var (i := 7) rfl (.int (i : Nat))))).d) (e_lst1X (e_note (K := K) (e_var rfl (.str n.1)) ((e_pickS (xs := p.hands) (.l _) (e_var rfl (stb u4 h1)) (e_var rfl (Dp.up u4 _ _ r3)) (by omega) (by omega)).imp (R' := StrP fun x => x ∈ p.hands) fun v H ⟨x, a, b⟩ => ⟨x, a, b⟩) (e_var rfl (Dp.up u4 _ _ q3)))) fun a b ha ⟨d, _, e⟩ => by rw [ha, e]; simp; omega) (LX.of (en_sl (e_var (i := 4) rfl (Dp.up u4 _ _ r4)) (eo_some (K := K) (ed_I (K := K) (f := fun i j => i + j) (e_var (i := 7) rfl (.int (i : Nat))) ed_int)) eo_none).d) fun a b ⟨x, y, hx, ⟨d, _, hy⟩, e⟩ hb => by rw [e, hx, hy, hb]; simp; omega).imp fun v H ⟨ds, ⟨a, b, ⟨x, y, hx, ⟨d, ⟨h, hh, hd⟩, hy⟩, ea⟩, hb, e⟩, r⟩ => ⟨h, hh, ?_⟩) fun w14 G5 H5 g5 ⟨h, hh, r14⟩ => ?_
      · rw [← mv_eq nd2 hn, dNotes_app, dNotes_app]
        rw [e, ea, hx, hy, hb, hd, cut_to, ed, ← List.map_take, ← List.map_drop] at r
        exact r
      · refine st (σ' := [some v1, some v2, some (V.int (bt:Nat)), some w3, some w4, some w5, some w6, some (V.int (i:Nat)), some (V.str "qzqzqzqz"), none, none, some (V.str n.1), some (V.str n.2.1), some u3, some w14, none, none, none, none, none]) rfl ?_
        have u5 := g4.up.trans g5.up
        have t2 := told_map hv.told (fun m => if m.1 = n.1 then h else m.2.1)
        have nm : nms (mvN p.notes n.1 h) = nms p.notes := nms_map
        have hpu : UPre (mvN p.notes n.1 h) (.tuple (sds p.paper)) p.paper := ⟨t2, fun m hm => by
          obtain ⟨m', hm', rfl⟩ := List.mem_map.mp hm
          have := notes_ok hv m' hm'
          refine ⟨this.1, ?_, this.2.2⟩
          show NameOk (if m'.1 = n.1 then h else m'.2.1)
          split
          · exact hv.hok h hh
          · exact this.2.1, by rw [List.length_map]; omega, .t _, fun x hx => by rw [nm]; exact hv.pin x hx, Nat.le_trans (pap_len hv) (by decide)⟩
        refine s_ret g5.sub (R := PartsV K) (e_if (et_B (e_lcovers (e_var rfl (Dp.up u5 _ _ r3)) (e_var rfl r14) (e_var rfl (Dp.up u5 _ _ r6)) hv.hok (by omega) hpu fun m hm => ?_)) (fun hb => ?_) (fun _ => (e_var (R := D K (dParts p)) rfl (Dp.up u5 _ _ h2)).imp fun v H r => ⟨p, hv, r⟩)) fun v G6 H6 g6 => k v G6 H6 ((g03.trans (g4.trans g5)).trans g6)
        · obtain ⟨m', hm', rfl⟩ := List.mem_map.mp hm
          exact wts_len hv m' hm'
        · exact (ed_tup (dd_cons (e_var rfl (Dp.up u5 _ _ r3)) (dd_cons (e_var rfl r14) (dd_cons (e_var rfl (Dp.up u5 _ _ r5)) (dd_cons (e_var rfl (Dp.up u5 _ _ r6)) dd_nil)))) (by simp)).imp fun v H r => ⟨⟨p.hands, mvN p.notes n.1 h, p.ready, p.paper⟩, val_moved hv hh hnr (bP_iff.mp hb), r⟩
    -- called otherwise
    refine q_if g4.sub (et_T (ed_eqI (K := K) (e_var rfl (.int (bt : Nat))) ed_int)) (fun hb7 G5 H5 g5 => ?_) (fun hb7 G5 H5 g5 => ?_)
    · have g05 := g03.trans (g4.trans g5)
      have u5 := g4.up.trans g5.up
      replace h1 := stb u5 h1
      replace r3 := Dp.up u5 _ _ r3
      replace r4 := Dp.up u5 _ _ r4
      replace r5 := Dp.up u5 _ _ r5
      replace r6 := Dp.up u5 _ _ r6
      have s5 := g5.sub
      clear g4 g5 u5 g03
      obtain ⟨ρ, hρ⟩ : ∃ ρ : Str → Str, ρ = fun x => if x = n.1 then ("qzqzqzqz" : Str) else x := ⟨_, rfl⟩
      have eρ : ∀ x : Str, (if x = n.1 then ("qzqzqzqz" : Str) else x) = ρ x := fun x => by rw [hρ]
      have inj : ∀ a ∈ nms p.notes, ∀ b ∈ nms p.notes, ρ a = ρ b → a = b := fun a ha b hb e => by
        rw [← eρ, ← eρ] at e
        split at e <;> split at e
        · rename_i q1 q2; rw [q1, q2]
        · exact absurd (e ▸ hb) hw1
        · exact absurd (e ▸ ha) hw1
        · exact e
      have okρ : ∀ x ∈ nms p.notes, NameOk (ρ x) := fun x hx => by
        rw [← eρ]
        split
        · exact fresh_ok.1
        · exact names_of_pac hv x hx
      refine q_asgN s5 (en_lst (K := K) dd_nil (by decide)) fun fo vs ds G6 H6 g6 hf0 gf6 cf6 hds eds => ?_
      subst eds
      cases hds
      refine st (σ' := [some v1, some v2, some (V.int (bt:Nat)), some w3, some w4, some w5, some w6, some (V.int (i:Nat)), some (V.str "qzqzqzqz"), none, none, some (V.str n.1), some (V.str n.2.1), some u3, none, some (V.ref fo), none, none, none, none]) rfl ?_
      refine q_for g6.sub (src_seq (d := .list (dNotes p.notes)) (.l _) (e_var rfl (Dp.up g6.up _ _ r4))) (fun j σ G' H' => Grow G5 H5 G' H' ∧ G' fo = none ∧ ∃ (vs : List V) (a16 a17 a18 : Option V), H' fo = some (.lst vs) ∧ DpAll K G' vs (dNotes (rnN (p.notes.take j) ρ)) ∧
          σ = [some v1, some v2, some (V.int (bt:Nat)), some w3, some w4, some w5, some w6, some (V.int (i:Nat)), some (V.str "qzqzqzqz"), none, none, some (V.str n.1), some (V.str n.2.1), some u3, none, some (V.ref fo), a16, a17, a18, none])
        (fun G2 H2 g2 => ⟨g6.trans g2, g2.off fo (by rw [cf6]; exact nz) gf6, [], _, _, _, g2.keep _ _ cf6, .nil, rfl⟩) ?_ ?_
      · rintro j σ' G' H' y G7 H7 hj sg sh ⟨gr, gf, vs, a16, a17, a18, cf, hvs, rfl⟩ g7 ⟨e, he, hy⟩
        obtain ⟨m, hm, rfl⟩ := dN_get he
        obtain ⟨x1, x2, x3, z1, z2, z3, htg⟩ := tg_3 hy
        cases z1
        cases z2
        refine ⟨_, htg _ _ _ _ tg_name tg_name tg_name, ?_⟩
        refine st (σ' := [some v1, some v2, some (V.int (bt:Nat)), some w3, some w4, some w5, some w6, some (V.int (i:Nat)), some (V.str "qzqzqzqz"), none, none, some (V.str n.1), some (V.str n.2.1), some u3, none, some (V.ref fo), some x3, some (V.str m.1), some (V.str m.2.1), none]) rfl ?_
        have u7 := gr.up.trans g7.up
        have cf7 := g7.keep _ _ cf
        have gf7 := g7.off fo (by rw [cf]; exact nz) gf
        have mk := hv.nok m (mem_of_get hm)
        have win : ∀ x ∈ m.2.2, x ∈ nms p.notes := told_wts hv.told m (mem_of_get hm)
        have wl := wts_len hv m (mem_of_get hm)
        have wnd : (m.2.2.map ρ).Nodup := nodup_map_on (asc_nodup mk.2.2) fun a ha b hb => inj a (win a ha) b (win b hb)
        have wl2 : (m.2.2.map ρ).length < 64 := by
          rw [List.length_map]
          exact Nat.lt_of_le_of_lt (len_le_nms hv (asc_nodup mk.2.2) win) (by decide)
        have hlv : vs.length ≤ 1000000 := by
          rw [dp_len hvs, List.length_map, List.length_map, List.length_take]
          have := hv.n40
          omega
        refine s_app (K := K) g7.sub rfl cf7 gf7 hlv (ed_tup (dd_cons ((e_ren (K := K) (e_var rfl (.str m.1)) (e_var rfl (.str n.1)) (e_var rfl (.str "qzqzqzqz"))).to (d' := .str (ρ m.1)) (by rw [eρ])) (dd_cons (e_var rfl (.str m.2.1)) (dd_cons (ed_tupOf (.l (sds (lotOf (m.2.2.map ρ)))) (en_srt wnd wl2 (en_mapS (K := K) ρ (.t (sds m.2.2)) (e_var rfl z3) (by omega) fun x G8 hx u8 => (e_ren (K := K) (e_var rfl (.str x)) (e_var rfl (.str n.1)) (e_var rfl (.str "qzqzqzqz"))).to (by rw [eρ])).d).d) dd_nil))) (by simp)) fun v G8 H8 w8 rv => ?_
        refine ⟨G8, g7.up.trans w8.up, w8.sub, (gr.trans g7).cellwr hf0 w8, w8.cell, vs ++ [v], _, _, _, w8.at, ?_, rfl⟩
        have e : dNotes (rnN (p.notes.take (j + 1)) ρ) = dNotes (rnN (p.notes.take j) ρ) ++ [dNote (ρ m.1, m.2.1, lotOf (m.2.2.map ρ))] := by
          rw [take_snoc hm]
          show dNotes ((p.notes.take j ++ [m]).map _) = _
          rw [List.map_append, dNotes_app]; rfl
        rw [e]
        exact dp_app (DpAll.up (g7.up.trans w8.up) _ _ hvs) (.cons rv .nil)
      · rintro σ' G' H' sg sh ⟨gr, gf, vs, a16, a17, a18, cf, hvs, rfl⟩
        rw [List.length_map, List.take_length] at hvs
        have g9 := gr.addcell hf0 gf cf
        have rc : Dp K (upd G' fo (.lst vs)) (.ref fo) (.list (dNotes (rnN p.notes ρ))) := .lst (SqL.of upd_same) (DpAll.up (Same.new gf) _ _ hvs)
        have pnd : (p.paper.map ρ).Nodup := nodup_map_on (asc_nodup hv.pasc) fun a ha b hb => inj a (hv.pin a ha) b (hv.pin b hb)
        have pl := pap_len hv
        refine q_asg g9.sub (ed_tupOf (.l (sds (lotOf (p.paper.map ρ)))) (en_srt pnd (by rw [List.length_map]; omega) (en_mapS (K := K) (j := 17) ρ (.t (sds p.paper)) (e_var rfl (Dp.up g9.up _ _ r6)) (by omega) fun x G8 hx u8 => (e_ren (K := K) (e_var rfl (.str x)) (e_var rfl (.str n.1)) (e_var rfl (.str "qzqzqzqz"))).to (by rw [eρ])).d).d) fun w16 Ga Ha ga ra => ?_
        refine st (σ' := [some v1, some v2, some (V.int (bt:Nat)), some w3, some w4, some w5, some w6, some (V.int (i:Nat)), some (V.str "qzqzqzqz"), none, none, some (V.str n.1), some (V.str n.2.1), some u3, none, some (V.ref fo), some w16, a17, a18, none]) rfl ?_
        have ua := g9.up.trans ga.up
        have hr6 := hv.rlen
        have hh6 := hv.h6
        refine s_ret ga.sub (R := PartsV K) ((ed_tup (dd_cons (e_var rfl (Dp.up ua _ _ r3)) (dd_cons (e_var rfl (Dp.up ga.up _ _ rc)) (dd_cons (en_mapS (K := K) (j := 17) ρ (.l (sds p.ready)) (e_var rfl (Dp.up ua _ _ r5)) (by omega) fun x G8 hx u8 => (e_ren (K := K) (e_var rfl (.str x)) (e_var rfl (.str n.1)) (e_var rfl (.str "qzqzqzqz"))).to (by rw [eρ])).d (dd_cons (e_var rfl ra) dd_nil)))) (by simp)).imp fun v H r => ⟨⟨p.hands, rnN p.notes ρ, p.ready.map ρ, lotOf (p.paper.map ρ)⟩, val_renamed hv inj okρ, r⟩) fun v G2 H2 g2 => k v G2 H2 ((g05.trans (g9.trans ga)).trans g2)
    · have g05 := g03.trans (g4.trans g5)
      have u5 := g4.up.trans g5.up
      replace h2 := Dp.up u5 _ _ h2
      replace r3 := Dp.up u5 _ _ r3
      replace r4 := Dp.up u5 _ _ r4
      replace r5 := Dp.up u5 _ _ r5
      replace r6 := Dp.up u5 _ _ r6
      have nl : p.notes.length - 1 < p.notes.length := by omega
      obtain ⟨m, hm⟩ : ∃ m, p.notes[p.notes.length - 1]? = some m := ⟨_, List.getElem?_eq_getElem nl⟩
      refine s_ret g5.sub (R := PartsV K) (e_if (et_T (ed_eqI (K := K) (e_var rfl (.int (bt : Nat))) ed_int)) (fun _ => ?_) (fun _ => (e_var (R := D K (dParts p)) rfl h2).imp fun v H r => ⟨p, hv, r⟩)) fun v G2 H2 g2 => k v G2 H2 (g05.trans g2)
      refine (ed_tup (K := K) (dd_cons (e_var rfl r3) (dd_cons ((en_cat (K := K) (e_var rfl r4) (en_lst (dd_cons (ed_tup (dd_cons (e_var (R := D K (.str "qzqzqzqz")) rfl (.str _)) (dd_cons (e_var (R := D K (.str n.2.1)) rfl (.str _)) (dd_cons (ed_tup (dd_cons (ed_ix (e := .str m.1) 0 (.t [.str m.1, .str m.2.1, .tuple (sds m.2.2)]) (ed_ix (e := dNote m) (p.notes.length - 1) (.l (dNotes p.notes)) (e_var rfl r4) (ed_neg (K := K) ed_int) (.inr ⟨by rw [hl]; omega, by rw [hl]; omega⟩) (by rw [List.getElem?_map, hm]; rfl)) ed_int (.inl ⟨rfl, by simp⟩) rfl) dd_nil) (by simp)) dd_nil))) (by simp)) dd_nil) (by simp)).d (by rw [hl]; simp; omega)).d) (dd_cons (e_var rfl r5) (dd_cons (e_var rfl r6) dd_nil)))) (by simp)).imp fun v H r => ⟨⟨p.hands, p.notes ++ [(("qzqzqzqz" : Str), n.2.1, [m.1])], p.ready, p.paper⟩, val_more hv hw1 fresh_ok.1 nk.2.1 (List.mem_map.mpr ⟨m, mem_of_get hm, rfl⟩) (by omega), ?_⟩
      unfold dParts
      rw [dNotes_app]
      exact r
end
end KB

set_option Elab.async false
set_option linter.all false
set_option maxRecDepth 100000
set_option maxHeartbeats 4000000
/-! The law's defs: a pact told anew. -/
namespace KB
open PySem PySem.Spec PyProof.Rows L2
theorem told_self {fs : List Note} (t : Told fs) {h : Str → Str} (hh : ∀ n ∈ fs, n.2.1 = h n.1) : fs = mkN (nms fs) h (wts fs) := by
  unfold mkN nms
  rw [List.map_map]
  conv => lhs; rw [← List.map_id fs]
  refine List.map_congr_left fun n hn => ?_
  obtain ⟨i, hi⟩ := List.mem_iff_getElem?.mp hn
  show n = (n.1, h n.1, wts fs n.1)
  rw [← hh n hn, wts_at t.nodup hi]
theorem lin_len {ns : List Note} {cs : List Str} (t : Told ns) (l : Lin ns cs) : cs.length = ns.length := by
  have h1 := nodup_sub_len l.nd (ys := nms ns) fun x hx => (l.mem x).mp hx
  have h2 := nodup_sub_len t.nodup (ys := cs) fun x hx => (l.mem x).mpr hx
  have h3 : (nms ns).length = ns.length := List.length_map _
  omega
theorem val_anew {p : Pac} (v : Val p) {cs : List Str} {fs : List Note} {pp : List Str} (l : Lin p.notes cs) (nm : nms fs = cs) (t : Told fs) (hh : ∀ n ∈ fs, n.2.1 = hnd p.notes n.1 ∧ Asc n.2.2) (pa : Asc pp) (pin : ∀ z ∈ pp, z ∈ nms p.notes) (cov : Covers p.hands fs pp) : Val ⟨p.hands, fs, p.ready, pp⟩ := by
  have ll := lin_len v.told l
  have fl : fs.length = p.notes.length := by rw [← ll, ← nm, List.length_map]
  have mem : ∀ x, x ∈ nms fs ↔ x ∈ nms p.notes := fun x => by rw [nm]; exact l.mem x
  have hd : ∀ x ∈ nms p.notes, hnd fs x = hnd p.notes x := fun x hx => by
    obtain ⟨n, hn, rfl⟩ := List.mem_map.mp ((mem x).mpr hx)
    rw [hnd_mem t.nodup hn]; exact (hh n hn).1
  refine ⟨t, v.h2, v.h6, v.hnd, v.hok, by show 2 ≤ fs.length; rw [fl]; exact v.n2, by show fs.length ≤ 40; rw [fl]; exact v.n40, fun n hn => ?_, v.rlen, fun i r k hr hk => ?_, pa, fun z hz => (mem z).mpr (pin z hz), cov⟩
  · have hx : n.1 ∈ nms p.notes := (mem n.1).mp (List.mem_map.mpr ⟨n, hn, rfl⟩)
    obtain ⟨m, hm, e⟩ := List.mem_map.mp hx
    refine ⟨names_of_pac v _ hx, ?_, (hh n hn).2⟩
    show n.2.1 ∈ p.hands
    rw [(hh n hn).1, ← e, hnd_mem v.told.nodup hm]
    exact (v.nok m hm).2.1
  · obtain ⟨a, b⟩ := v.rok i r k hr hk
    exact ⟨(mem r).mpr a, (hd r a).trans b⟩
theorem cov_all {p : Pac} (v : Val p) {cs : List Str} {fs : List Note} {pp : List Str} (l : Lin p.notes cs) (nm : nms fs = cs) (t : Told fs) (hh : ∀ n ∈ fs, n.2.1 = hnd p.notes n.1 ∧ Asc n.2.2) (h : ∀ z ∈ nms p.notes, z ∈ pp) : Covers p.hands fs pp := fun hd hhd => by
  obtain ⟨y, hy, e, _⟩ := v.cov hd hhd
  have hy2 : y ∈ nms fs := by rw [nm]; exact (l.mem y).mpr hy
  refine ⟨y, hy2, ?_, y, h y hy, Und.rfl t hy2⟩
  obtain ⟨n, hn, e2⟩ := List.mem_map.mp hy2
  rw [← e, ← e2, hnd_mem t.nodup hn]; exact (hh n hn).1
theorem same_anew {p : Pac} (v : Val p) {cs : List Str} {fs : List Note} {pp : List Str} (l : Lin p.notes cs) (nm : nms fs = cs) (t : Told fs) (hh : ∀ n ∈ fs, n.2.1 = hnd p.notes n.1 ∧ Asc n.2.2) (hw : ∀ n ∈ fs, (∀ z ∈ n.2.2, z ∈ below p.notes n.1) ∧ ∀ z ∈ bare p.notes n.1, z ∈ n.2.2)
    (pa : Asc pp) (p1 : ∀ z ∈ pp, z ∈ whole p.notes p.paper) (p2 : ∀ z ∈ upper p.notes (whole p.notes p.paper), z ∈ pp) : Val ⟨p.hands, fs, p.ready, pp⟩ ∧ SameW p ⟨p.hands, fs, p.ready, pp⟩ := by
  have e := told_self t (h := hnd p.notes) fun n hn => (hh n hn).1
  rw [nm] at e
  have at' : ∀ y ∈ nms p.notes, ∃ n ∈ fs, n.1 = y ∧ wts fs y = n.2.2 := fun y hy => by
    have hy2 : y ∈ nms fs := by rw [nm]; exact (l.mem y).mpr hy
    obtain ⟨n, hn, e2⟩ := List.mem_map.mp hy2
    obtain ⟨i, hi⟩ := List.mem_iff_getElem?.mp hn
    exact ⟨n, hn, e2, by rw [← e2]; exact wts_at t.nodup hi⟩
  have r := retold v (xs := cs) (W := wts fs) (pp := pp) l.nd l.mem l.lin (fun y hy => by obtain ⟨n, hn, _, e3⟩ := at' y hy; rw [e3]; exact (hh n hn).2)
    (fun y hy z hz => by obtain ⟨n, hn, e2, e3⟩ := at' y hy; rw [e3] at hz; rw [← e2]; exact (hw n hn).1 z hz)
    (fun y hy z hz => by obtain ⟨n, hn, e2, e3⟩ := at' y hy; rw [← e2] at hz; rw [e3]; exact (hw n hn).2 z hz) pa p1 p2
  rw [← e] at r
  exact r
theorem lin_pre {ns : List Note} {cs : List Str} (t : Told ns) (l : Lin ns cs) {i : Nat} {x z : Str} (hx : cs[i]? = some x) (hz : z ∈ below ns x) : z ∈ cs.take i := by
  obtain ⟨hu, hne⟩ := (mem_below t).mp hz
  have h := l.lin z x hu hne
  have hzm : z ∈ cs := (l.mem z).mpr (hu.mem t).1
  have gx : ∀ {y : Str}, y ∈ cs → cs[cs.idxOf y]? = some y := fun {y} hy => by
    rw [List.getElem?_eq_getElem (idx_lt hy)]; simp
  have e : cs.idxOf x = i := nodup_get l.nd (gx (mem_of_get hx)) hx
  rw [e] at h
  refine mem_of_get (i := cs.idxOf z) ?_
  rw [List.getElem?_take, if_pos h]
  exact gx hzm
section
variable {K : PySem.W.Frag} {σ : L2.St} {G G2 H : Hp} {te ta tb tc : TE}
/-- [note[1] for note in notes if note[0] == name][0] -/
theorem e_owner {ns : List Note} {i j k : Nat} {y : Str} (hn : ns.length ≤ 1000000) (hy : y ∈ nms ns) (hr : EvS (tVar i) σ G (D K (.list (dNotes ns)))) (hj : j < σ.length) (hk : ∀ G1 v, Same G G1 → EvS (tVar k) ((σ.set j none).set j (some v)) G1 (D K (.str y))) :
    EvS (tOp (rIx K) (tLc (iSeq K (tVar i)) (gName j) (tTest (tOp rEq (tOp (rIx K) (tVar j) (tC (.int 0))) (tVar k))) (tOp (rIx K) (tVar j) (tC (.int 1))) [j]) (tC (.int 0))) σ G (D K (.str (hnd ns y))) := by
  have hl : (dNotes ns).length = ns.length := List.length_map _
  have evo := en_lcD (K := K) (σ := σ) (G := G) (tt := tTest (tOp rEq (tOp (rIx K) (tVar j) (tC (.int 0))) (tVar k))) (te := tOp (rIx K) (tVar j) (tC (.int 1))) (g := gName j) (vs := [j]) (fun i => decide ((nms ns).getD i ⟨#[]⟩ = y)) (fun i => .str ((ns.map (·.2.1)).getD i ⟨#[]⟩)) (src_seq (.l (dNotes ns)) hr) (by omega) fun i G1 x hi u ⟨e, he, hx⟩ => by
    obtain ⟨n, hn', rfl⟩ := dN_get he
    have e1 : (ns.map (·.2.1)).getD i ⟨#[]⟩ = n.2.1 := by rw [List.getD_eq_getElem?_getD, List.getElem?_map, hn']; rfl
    have e2 : (nms ns).getD i ⟨#[]⟩ = n.1 := by rw [List.getD_eq_getElem?_getD, nms_get hn']; rfl
    have hs : ((σ.set j none).set j (some x))[j]? = some (some x) := by rw [List.getElem?_set_self (by rw [List.length_set]; exact hj)]
    refine ⟨_, tg_name, ?_, ?_, fun _ => ⟨rfl, ?_⟩⟩
    · show ((σ.set j none).set j _).set j none = σ.set j none
      rw [List.set_set, List.set_set]
    · rw [e2]
      exact et_T (ed_eqS (K := K) (ed_ix 0 (.t _) (e_var hs hx) ed_int (.inl ⟨rfl, by simp⟩) rfl) (hk G1 x u))
    · rw [e1]
      exact ed_ix 1 (.t _) (e_var hs hx) ed_int (.inl ⟨rfl, by simp⟩) rfl
  have eqo : ((List.range (dNotes ns).length).filter fun i => decide ((nms ns).getD i ⟨#[]⟩ = y)).map (fun i => PyData.str ((ns.map (·.2.1)).getD i ⟨#[]⟩)) = (ns.filter fun n => decide (n.1 = y)).map fun n => PyData.str n.2.1 := by
    rw [hl]
    exact range_map ns (fun n => decide (n.1 = y)) (fun n => PyData.str n.2.1) _ _ (fun i n h => by rw [List.getD_eq_getElem?_getD, nms_get h]; rfl) (fun i n h => by rw [List.getD_eq_getElem?_getD, List.getElem?_map, h]; rfl)
  rw [eqo] at evo
  have hfirst : ((ns.filter fun n => decide (n.1 = y)).map fun n => PyData.str n.2.1)[0]? = some (.str (hnd ns y)) := by
    obtain ⟨m, m1, m2, m3, _⟩ := lookup_notes (g := fun _ => .none) hy
    rw [List.getElem?_map, ← List.head?_eq_getElem?, List.head?_filter, m3]
    unfold hnd
    rw [m3]; rfl
  have hlen0 : 0 < ((ns.filter fun n => decide (n.1 = y)).map fun n => PyData.str n.2.1).length := by
    rcases Nat.eq_zero_or_pos ((ns.filter fun n => decide (n.1 = y)).map fun n => PyData.str n.2.1).length with q | q
    · rw [List.length_eq_zero_iff.mp q] at hfirst; simp at hfirst
    · exact q
  exact ed_ix (K := K) (e := .str (hnd ns y)) 0 (.l _) evo.d ed_int (.inl ⟨rfl, hlen0⟩) hfirst
/-- [one for one in below[name] if one != name] -/
theorem en_others {ns : List Note} {L : Str → List Str} {y : Str} {i j k : Nat} (t : Told ns) (l40 : ns.length ≤ 40) (hUL : UL ns ns.length L) (hy : y ∈ nms ns) (h2 : EvS (tVar i) σ G (DT K (ulF ns L))) (h3 : EvS (tVar k) σ G (D K (.str y))) (hj : j < σ.length) (hk : ∀ G1 v, Same G G1 → EvS (tVar k) ((σ.set j none).set j (some v)) G1 (D K (.str y))) :
    EvN K (tLc (iSeq K (tDGet (tVar i) (tVar k))) (gName j) (tTest (tOp rNe (tVar j) (tVar k))) (tVar j) [j]) σ G (fun ds => ds = sds ((L y).filter fun z => !decide (z = y))) :=
  en_filt (xs := L y) (fun z => !decide (z = y)) (.l _) (ed_below hy h2 h3) (by have := ul_len t hUL hy; omega) hj fun z G6 hz u6 => et_T (ed_neS (K := K) (e_var (by rw [List.getElem?_set_self (by rw [List.length_set]; exact hj)]) (.str z)) (hk G6 _ u6))
theorem others_mem {ns : List Note} {L : Str → List Str} {y : Str} (t : Told ns) (hUL : UL ns ns.length L) (hy : y ∈ nms ns) : ∀ x, x ∈ (L y).filter (fun z => !decide (z = y)) ↔ x ∈ below ns y := fun x => by
  rw [List.mem_filter, mem_below t, (ul_at hUL y hy).2 x]
  simp
end
theorem e_lst1S {K : PySem.W.Frag} {σ : L2.St} {G : Hp} {te : TE} {P : Str → Prop} (h : EvS te σ G (StrP P)) : EvS (tLst (tCons te tNil)) σ G (fun v H => ∃ ps : List Str, (∃ x, P x ∧ ps = [x]) ∧ Dp K H v (.list (sds ps))) := fun G0 H u s Q k =>
  h G0 H u s _ fun x G1 H1 g1 ⟨z, pz, e⟩ => by
    subst e
    have c := (en_lst (K := K) (σ := []) (G := G1) (dd_cons (te := tC (.str z)) ed_str dd_nil) (by simp)).d
    exact c G1 H1 (.refl _) g1.sub _ fun v G3 H3 g3 r => k v G3 H3 (g1.trans g3) ⟨[z], ⟨z, pz, rfl⟩, r⟩
section
variable {P : Program} {w : World} {K : PySem.W.Frag} {mg : Str → Option Value} {base : Heap}
abbrev AnewR (K : PySem.W.Frag) (p : Pac) (bt : Nat) : RP := fun v H => ∃ q, Val q ∧ (bt = 0 → SameW p q) ∧ Dp K H v (dParts q)
instance {p : Pac} {bt : Nat} : Stb (AnewR K p bt) := ⟨fun u ⟨q, a, b, r⟩ => ⟨q, a, b, Dp.up u _ _ r⟩⟩
def sp__law_anew (K : PySem.W.Frag) : Sp := SpG (Γ := Pac × Nat) (fun x => [HeapAt, D K (dParts x.1), D K (.int (x.2 : Nat))]) (fun x => Val x.1 ∧ ShortP x.1 ∧ x.2 ≤ 8) fun x => AnewR K x.1 x.2
abbrev s__law_anew : Stmt := top 61
abbrev N__law_anew : List Str := ["_law_heap_here", "_law_parts", "_law_bent", "_law_hands", "_law_notes_here", "_law_ready", "_law_paper", "_law_below", "_law_found", "_law_order", "_law_note", "_law_place", "_law_at", "_law_name", "_law_few", "_law_waits", "_law_gone", "_law_one", "_law_whole_here", "_law_told", "_law_hand", "_law_other_here", "_law_own"]
theorem sc__law_anew : FnScope N__law_anew ["_law_heap_here", "_law_parts", "_law_bent"] (defScope s__law_anew) := ⟨rfl, rfl, rfl, by decide +kernel, rfl, by decide +kernel, by decide +kernel⟩
theorem ok__law_anew {f : Addr} {fd : FuncData} (F : Fun K "_law_anew" "_law_anew" s__law_anew f fd) (T : Txt mg) (c__law_unders : Cal P w K mg base CX0 1 "_law_unders" ["_law_notes_here"] (sp__law_unders K)) (c__law_free : Cal P w K mg base CX0 3 "_law_free" ["_law_heap_here", "_law_names_here", "_law_below", "_law_least"] (sp__law_free K)) (c__law_draw : Cal P w K mg base CX0 1 "_law_draw" ["_law_heap_here", "_law_many"] (sp__law_draw K)) (c__law_bare : Cal P w K mg base CX0 2 "_law_bare" ["_law_notes_here", "_law_below", "_law_name"] (sp__law_bare K)) (c__law_some : Cal P w K mg base CX0 2 "_law_some" ["_law_heap_here", "_law_few", "_law_many"] (sp__law_some K)) (c__law_pick : Cal P w K mg base CX0 2 "_law_pick" ["_law_heap_here", "_law_some_here"] (sp__law_pick K)) (c__law_whole : Cal P w K mg base CX0 1 "_law_whole" ["_law_below", "_law_paper"] (sp__law_whole K)) (c__law_upper : Cal P w K mg base CX0 1 "_law_upper" ["_law_below", "_law_some_here"] (sp__law_upper K)) (c__law_covers : Cal P w K mg base CX0 2 "_law_covers" ["_law_hands", "_law_notes_here", "_law_paper"] (sp__law_covers K)) (c__law_other : Cal P w K mg base CX0 3 "_law_other" ["_law_heap_here", "_law_parts", "_law_bent"] (sp__law_other K)) : FnOk P w K mg base CX0 4 f fd ["_law_heap_here", "_law_parts", "_law_bent"] (sp__law_anew K) := by
  refine F.ok sc__law_anew (fun vs H Q E h => ?_) (fun cdv A outer s H vs Q E hr h => ?_)
  · obtain ⟨x, G, hs, ⟨v1, _, rfl, h1, v2, _, rfl, h2, v3, _, rfl, h3, rfl⟩, hp, k⟩ := h; rfl
  · obtain ⟨⟨p, bt⟩, G, hs, ⟨v1, _, rfl, h1, v2, _, rfl, h2, v3, _, rfl, h3, rfl⟩, ⟨hv, hsp, b8⟩, k⟩ := h
    replace h1 : HeapAt v1 G := h1
    replace h2 : Dp K G v2 (dParts p) := h2
    replace hv : Val p := hv
    replace hsp : ShortP p := hsp
    replace b8 : bt ≤ 8 := b8
    cases d_int h3
    have nd := sc__law_anew.nd
    have hu := hu_of hr
    have hrU := hrU_of hr
    refine ⟨_, pss_cons (ps_asg (pv 1) (kTg K 4 rfl (pgs_cons (pg_n 3 nd) (pgs_cons (pg_n 4 nd) (pgs_cons (pg_n 5 nd) (pgs_cons (pg_n 6 nd) pgs_nil))))))
    (pss_cons (ps_par (i := 7) (j := 8) (by rfl) nd rfl rfl (by decide) rfl rfl (pa_cons (pe_cal c__law_unders (hr.mono (by decide)) (by rfl) pass0 (pa_cons (pv 4) pa_nil)) (pa_cons (pe_lst pa_nil) pa_nil)) (by rfl))
    (pss_cons (ps_n 9 nd (pe_cal c__law_free (hr.mono (by decide)) (by rfl) pass0 (pa_cons (pv 0) (pa_cons (pe_lc (own := [("_law_note", 10)]) (by rfl) nd (kSeq K (pv 4)) (blkOk_by (by kernel_rfl)) (fun _ _ _ _ _ => (pg_n 10 nd)) (fun _ _ _ _ _ => pts_nil) (fun _ _ _ _ _ => (pe_ix (kIx K) (pv 10) (pe_int) (fun _ _ => rfl)))) (pa_cons (pv 7) (pa_cons (pe_bl) pa_nil))))))
    (pss_cons (ps_n 11 nd (pe_cal c__law_draw (hr.mono (by decide)) (by rfl) pass0 (pa_cons (pv 0) (pa_cons (pe_callB (kLen K) (by rfl) T.m_len (by decide +kernel) (pa_cons (pv 9) pa_nil)) pa_nil))))
    (pss_cons (ps_for PassesOwn.never rfl (kEnum K (by rfl) T.m_enumerate (pa_cons (pv 9) pa_nil)) (kTg K 2 rfl (pgs_cons (pg_n 12 nd) (pgs_cons (pg_n 13 nd) pgs_nil)))
      (pss_cons (ps_n 14 nd (pe_callTy (kLst K) (by rfl) T.m_list (by decide +kernel) (pa_cons (pe_cal c__law_bare (hr.mono (by decide)) (by rfl) pass0 (pa_cons (pv 4) (pa_cons (pv 7) (pa_cons (pv 13) pa_nil)))) pa_nil)))
        (pss_cons (ps_n 15 nd (pe_cal c__law_some (hr.mono (by decide)) (by rfl) pass0 (pa_cons (pv 0) (pa_cons (pv 14) (pa_cons (pe_lc (own := [("_law_one", 17)]) (by rfl) nd (kSeq K (pe_dget hu (pv 7) (pv 13) (fun _ _ => rfl))) (blkOk_by (by kernel_rfl)) (fun _ _ _ _ _ => (pg_n 17 nd)) (fun _ _ _ _ _ => (pts_one (pt_cmpR op_ne (pv 17) (pv 13) (nomark _)))) (fun _ _ _ _ _ => (pv 17))) pa_nil)))))
        (pss_cons (ps_if (PW.pt (pw_and (pt_cmpR op_eq (pv 2) (pe_int) (nomark _)) (pw_and (pt_cmpR op_eq (pv 12) (pv 11) (nomark _)) (pw_and1 (pt_cmpR (kNe K hrU) (pv 14) (pe_lst pa_nil) (nomark _))))))
          (pss_cons (ps_n 16 nd (pe_cal c__law_pick (hr.mono (by decide)) (by rfl) pass0 (pa_cons (pv 0) (pa_cons (pv 14) pa_nil))))
            (pss_one (ps_setLc (i := 15) (own := [("_law_one", 17)]) (by rfl) nd rfl rfl (sw_true rfl rfl rfl (by decide +kernel)) (kSeq K (pv 15)) (blkOk_by (by kernel_rfl)) (fun _ _ _ _ _ => (pg_n 17 nd)) (fun _ _ _ _ _ => (pts_one (pt_cmpR op_ne (pv 17) (pv 16) (nomark _)))) (fun _ _ _ _ _ => (pv 17)))))
          (pss_nil))
        (pss_cons (ps_if (PW.pt (pw_and (pt_cmpR op_eq (pv 2) (pe_int) (nomark _)) (pw_and (pt_cmpR op_ge (pv 12) (pv 11) (nomark _)) (pw_and (pt_cmpR op_gt (pv 12) (pe_int) (nomark _)) (pw_and1 (pt_cmpR op_eq (pe_cal c__law_draw (hr.mono (by decide)) (by rfl) pass0 (pa_cons (pv 0) (pa_cons (pe_int) pa_nil))) (pe_int) (nomark _)))))))
          (pss_one (ps_expr (pe_bm PySem.F.plainAttrs_list PySem.F.slot_list_append PySem.F.type_list_append mt_append (pv 15) (pa_cons (pe_cal c__law_pick (hr.mono (by decide)) (by rfl) pass0 (pa_cons (pv 0) (pa_cons (pe_slice (kSl K) (pv 9) po_none (po_some (pv 12))) pa_nil))) pa_nil))))
          (pss_nil))
        (pss_one (ps_expr (pe_bm PySem.F.plainAttrs_list PySem.F.slot_list_append PySem.F.type_list_append mt_append (pv 8) (pa_cons (pe_tup (pa_cons (pv 13) (pa_cons (pe_ix (kIx K) (pe_lc (own := [("_law_note", 10)]) (by rfl) nd (kSeq K (pv 4)) (blkOk_by (by kernel_rfl)) (fun _ _ _ _ _ => (pg_n 10 nd)) (fun _ _ _ _ _ => (pts_one (pt_cmpR op_eq (pe_ix (kIx K) (pv 10) (pe_int) (fun _ _ => rfl)) (pv 13) (nomark _)))) (fun _ _ _ _ _ => (pe_ix (kIx K) (pv 10) (pe_int) (fun _ _ => rfl)))) (pe_int) (fun _ _ => rfl)) (pa_cons (pe_callTy (kTup K) (by rfl) T.m_tuple (by decide +kernel) (pa_cons (pe_callB (kSrtSet w rfl) (by rfl) T.m_sorted (by decide +kernel) (pa_cons (pe_callTy (kSet K w rfl) (by rfl) T.m_set (by decide +kernel) (pa_cons (pv 15) pa_nil)) pa_nil)) pa_nil)) pa_nil)))) pa_nil)))))))))
    (pss_cons (ps_n 18 nd (pe_cal c__law_whole (hr.mono (by decide)) (by rfl) pass0 (pa_cons (pv 7) (pa_cons (pv 6) pa_nil))))
    (pss_cons (ps_n 19 nd (pe_cal c__law_some (hr.mono (by decide)) (by rfl) pass0 (pa_cons (pv 0) (pa_cons (pe_cal c__law_upper (hr.mono (by decide)) (by rfl) pass0 (pa_cons (pv 7) (pa_cons (pv 18) pa_nil))) (pa_cons (pv 18) pa_nil)))))
    (pss_cons (ps_if (pt_cmpR op_eq (pv 2) (pe_int) (nomark _))
      (pss_one (ps_n 19 nd (pe_ifExp (pt_cmpR op_eq (pe_cal c__law_draw (hr.mono (by decide)) (by rfl) pass0 (pa_cons (pv 0) (pa_cons (pe_int) pa_nil))) (pe_int) (nomark _)) (pe_lc (own := [("_law_one", 17)]) (by rfl) nd (kSeq K (pv 19)) (blkOk_by (by kernel_rfl)) (fun _ _ _ _ _ => (pg_n 17 nd)) (fun _ _ _ _ _ => (pts_one (pt_cmpR op_ne (pv 17) (pe_ix (kIx K) (pv 19) (pe_int) (fun _ _ => rfl)) (nomark _)))) (fun _ _ _ _ _ => (pv 17))) (pe_op (kCat K) (pv 19) (pe_lst (pa_cons (pe_cal c__law_pick (hr.mono (by decide)) (by rfl) pass0 (pa_cons (pv 0) (pa_cons (pv 9) pa_nil))) pa_nil))))))
      (pss_nil))
    (pss_cons (ps_n 19 nd (pe_callTy (kTup K) (by rfl) T.m_tuple (by decide +kernel) (pa_cons (pe_callB (kSrtSet w rfl) (by rfl) T.m_sorted (by decide +kernel) (pa_cons (pe_callTy (kSet K w rfl) (by rfl) T.m_set (by decide +kernel) (pa_cons (pv 19) pa_nil)) pa_nil)) pa_nil)))
    (pss_cons (ps_if (pt_not (pt_val (pe_cal c__law_covers (hr.mono (by decide)) (by rfl) pass0 (pa_cons (pv 3) (pa_cons (pv 8) (pa_cons (pv 19) pa_nil))))))
      (pss_one (ps_n 19 nd (pe_callTy (kTup K) (by rfl) T.m_tuple (by decide +kernel) (pa_cons (pe_callB (kSrt K) (by rfl) T.m_sorted (by decide +kernel) (pa_cons (pv 9) pa_nil)) pa_nil))))
      (pss_nil))
    (pss_cons (ps_if (pt_cmpR op_eq (pv 2) (pe_int) (nomark _))
      (pss_cons (ps_n 20 nd (pe_cal c__law_pick (hr.mono (by decide)) (by rfl) pass0 (pa_cons (pv 0) (pa_cons (pv 3) pa_nil))))
        (pss_cons (ps_n 21 nd (pe_cal c__law_pick (hr.mono (by decide)) (by rfl) pass0 (pa_cons (pv 0) (pa_cons (pe_lc (own := [("_law_note", 10)]) (by rfl) nd (kSeq K (pv 4)) (blkOk_by (by kernel_rfl)) (fun _ _ _ _ _ => (pg_n 10 nd)) (fun _ _ _ _ _ => (pts_one (pt_cmpR op_eq (pe_ix (kIx K) (pv 10) (pe_int) (fun _ _ => rfl)) (pv 20) (nomark _)))) (fun _ _ _ _ _ => (pe_ix (kIx K) (pv 10) (pe_int) (fun _ _ => rfl)))) pa_nil))))
        (pss_one (ps_ret (pe_tup (pa_cons (pv 3) (pa_cons (pv 8) (pa_cons (pe_lc (own := [("_law_one", 17), ("_law_own", 22)]) (by rfl) nd (kZip K (by rfl) T.m_zip (pa_cons (pv 3) (pa_cons (pv 5) pa_nil))) (blkOk_by (by kernel_rfl)) (fun _ _ _ _ _ => (kTg K 2 rfl (pgs_cons (pg_n 17 nd) (pgs_cons (pg_n 22 nd) pgs_nil)))) (fun _ _ _ _ _ => pts_nil) (fun _ _ _ _ _ => (pe_ifExp (pt_cmpR op_eq (pv 20) (pv 17) (nomark _)) (pv 21) (pv 22)))) (pa_cons (pv 19) pa_nil)))))))))
      (pss_nil))
    (pss_cons (ps_if (pt_cmpR op_gt (pv 2) (pe_int) (nomark _))
      (pss_one (ps_ret (pe_cal c__law_other (hr.mono (by decide)) (by rfl) pass0 (pa_cons (pv 0) (pa_cons (pe_tup (pa_cons (pv 3) (pa_cons (pv 8) (pa_cons (pv 5) (pa_cons (pv 19) pa_nil))))) (pa_cons (pv 2) pa_nil))))))
      (pss_nil))
    (pss_one (ps_ret (pe_ifExp (pt_cmpR op_eq (pv 2) (pe_int) (nomark _)) (pe_tup (pa_cons (kRev K (pv 3)) (pa_cons (pv 8) (pa_cons (kRev K (pv 5)) (pa_cons (pv 19) pa_nil))))) (pe_tup (pa_cons (pv 3) (pa_cons (pv 8) (pa_cons (pv 5) (pa_cons (pv 19) pa_nil))))))))))))))))))), ?_⟩
    refine st (σ' := [some v1, some v2, some (V.int (bt:Nat)), none, none, none, none, none, none, none, none, none, none, none, none, none, none, none, none, none, none, none, none]) rfl ?_
    have nz : ∀ {o : HO}, some o ≠ none := fun z => nomatch z
    have hn2 := hv.n2
    have l20 := hsp.m
    have t := hv.told
    have nd2 := hv.told.nodup
    have hl : (dNotes p.notes).length = p.notes.length := List.length_map _
    have hnl : (nms p.notes).length = p.notes.length := List.length_map _
    have hh2 := hv.h2
    have hh6 := hv.h6
    have hrl := hv.rlen
    refine q_asgT hs (e_var (R := D K (dParts p)) rfl h2) fun v G1 H1 g1 rv => ?_
    obtain ⟨w3, w4, w5, w6, r3, r4, r5, r6, htg⟩ := tg_4 rv
    refine ⟨_, htg _ _ _ _ _ tg_name tg_name tg_name tg_name, ?_⟩
    refine st (σ' := [some v1, some v2, some (V.int (bt:Nat)), some w3, some w4, some w5, some w6, none, none, none, none, none, none, none, none, none, none, none, none, none, none, none, none]) rfl ?_
    replace h1 := stb g1.up h1
    refine (e_lunders (ns := p.notes) (e_var (i := 4) rfl r4) t hv.n40 (wts_len hv)) G1 H1 (.refl _) g1.sub _ fun v7 G2 H2 g2 r7 => ⟨Nat.zero_le _, fun fo hfo => ⟨_, _, rfl, ?_⟩⟩
    have g3 : Grow G2 H2 G2 (upd H2 fo (.lst [])) := Grow.cell g2.sub hfo
    have g03 := (g1.trans g2).trans g3
    have hf0 : H fo = none := (g1.trans g2).keep.free hfo
    have cf3 : upd H2 fo (.lst []) fo = some (.lst []) := upd_same
    have gf3 : G2 fo = none := g2.sub.free hfo
    replace h1 := stb g2.up h1
    replace r3 := Dp.up g2.up _ _ r3
    replace r4 := Dp.up g2.up _ _ r4
    replace r5 := Dp.up g2.up _ _ r5
    replace r6 := Dp.up g2.up _ _ r6
    generalize upd H2 fo (.lst []) = H3 at *
    have s3 := g03.sub
    clear g1 g2 g3
    refine st (σ' := [some v1, some v2, some (V.int (bt:Nat)), some w3, some w4, some w5, some w6, some v7, some (V.ref fo), none, none, none, none, none, none, none, none, none, none, none, none, none, none]) rfl ?_
    have tu := fun {Ga : Hp} (u : Same G2 Ga) => stb (R := UndD K p.notes) u r7
    refine q_asg s3 (e_lfree (b := false) t (notes_ok hv) hv.n40 (e_var (i := 0) rfl h1) (en_names (ns := p.notes) (by omega) (e_var rfl r4) (by simp)).d (e_var (R := UndD K p.notes) rfl r7) ed_bl) fun v9 G4 H4 g4 ⟨cs, lin, _, r9⟩ => ?_
    refine st (σ' := [some v1, some v2, some (V.int (bt:Nat)), some w3, some w4, some w5, some w6, some v7, some (V.ref fo), some v9, none, none, none, none, none, none, none, none, none, none, none, none, none]) rfl ?_
    have cl := lin_len t lin
    have csl : (sds cs).length = cs.length := List.length_map _
    refine q_asg g4.sub (e_draw (K := K) (n := cs.length) (e_var (i := 0) rfl (stb g4.up h1)) ((ed_len (.l (sds cs)) (e_var rfl r9)).to (by rw [csl])) (by omega) (by omega)) fun v11 G5 H5 g5 ⟨pl, hpl, e11⟩ => ?_
    subst e11
    refine st (σ' := [some v1, some v2, some (V.int (bt:Nat)), some w3, some w4, some w5, some w6, some v7, some (V.ref fo), some v9, none, some (V.int (pl:Nat)), none, none, none, none, none, none, none, none, none, none, none]) rfl ?_
    have u5 := g4.up.trans g5.up
    have g45 := g4.trans g5
    have g05 := g03.trans g45
    have cf5 := g45.keep _ _ cf3
    have gf5 := g45.off fo (by rw [cf3]; exact nz) gf3
    replace h1 := stb u5 h1
    replace r3 := Dp.up u5 _ _ r3
    replace r4 := Dp.up u5 _ _ r4
    replace r5 := Dp.up u5 _ _ r5
    replace r6 := Dp.up u5 _ _ r6
    replace r7 := stb (R := UndD K p.notes) u5 r7
    replace r9 := Dp.up g5.up _ _ r9
    have s5 := g05.sub
    clear g03 g4 g5 g45 cf3 gf3 u5 tu s3
    obtain ⟨L, hUL, r7d⟩ := r7
    have r7 : UndD K p.notes v7 G5 := ⟨L, hUL, r7d⟩
    replace r7d := r7d.dt
    refine q_for s5 (src_enum (K := K) (.l (sds cs)) (e_var rfl r9)) (fun i σ G' H' => Grow G H G' H' ∧ Same G5 G' ∧ G' fo = none ∧ ∃ (fs : List Note) (vs : List V) (a10 a12 a13 a14 a15 a16 a17 : Option V), H' fo = some (.lst vs) ∧ DpAll K G' vs (dNotes fs) ∧ nms fs = cs.take i ∧ Told fs ∧
        (∀ n ∈ fs, n.2.1 = hnd p.notes n.1 ∧ Asc n.2.2) ∧ (bt = 0 → ∀ n ∈ fs, (∀ z ∈ n.2.2, z ∈ below p.notes n.1) ∧ ∀ z ∈ bare p.notes n.1, z ∈ n.2.2) ∧
        σ = [some v1, some v2, some (V.int (bt:Nat)), some w3, some w4, some w5, some w6, some v7, some (V.ref fo), some v9, a10, some (V.int (pl:Nat)), a12, a13, a14, a15, a16, a17, none, none, none, none, none])
      (fun G6 H6 g6 => ⟨g05.trans g6, g6.up, g6.off fo (by rw [cf5]; exact nz) gf5, [], [], _, _, _, _, _, _, _, g6.keep _ _ cf5, .nil, rfl, .nil, by simp, by simp, rfl⟩) ?_ ?_
    · rintro i σ' G' H' y G7 H7 hi sg sh ⟨gr, sG, gf, fs, vs, a10, a12, a13, a14, a15, a16, a17, cf, hvs, nm, tf, hf, hw, rfl⟩ g7 ⟨da, db, hda, hdb, hy⟩
      obtain ⟨x, hx, rfl⟩ := sds_get hdb
      cases hda
      obtain ⟨y1, y2, z1, z2, htg⟩ := tg_2 hy
      cases d_int z1
      cases z2
      refine ⟨_, htg _ _ _ tg_name tg_name, ?_⟩
      refine st (σ' := [some v1, some v2, some (V.int (bt:Nat)), some w3, some w4, some w5, some w6, some v7, some (V.ref fo), some v9, a10, some (V.int (pl:Nat)), some (V.int (i:Nat)), some (V.str x), a14, a15, a16, a17, none, none, none, none, none]) rfl ?_
      have cf7 := g7.keep _ _ cf
      have gf7 := g7.off fo (by rw [cf]; exact nz) gf
      have u7 := sG.trans g7.up
      have gr7 := gr.trans g7
      have xm : x ∈ nms p.notes := (lin.mem x).mp (mem_of_get hx)
      have il : i < cs.length := by rw [csl] at hi; exact hi
      have pre : ∀ z ∈ below p.notes x, z ∈ cs.take i := fun z hz => lin_pre t lin hx hz
      have bl : (bare p.notes x).length ≤ 20 := by
        have := nodup_sub_len (asc_nodup (asc_bare p.notes x)) (ys := nms p.notes) fun z hz => (((mem_below t).mp (bare_sub hz)).1.mem t).1
        omega
      have bok : ∀ z ∈ bare p.notes x, NameOk z := fun z hz => names_of_pac hv z (((mem_below t).mp (bare_sub hz)).1.mem t).1
      refine q_asg g7.sub (en_lstOf (K := K) (.t (sds (bare p.notes x))) (e_lbare hv (e_var rfl (Dp.up u7 _ _ r4)) (e_var (R := UndD K p.notes) rfl (stb u7 r7)) (e_var rfl (.str x)) xm)).d fun v14 G8 H8 g8 r14 => ?_
      refine st (σ' := [some v1, some v2, some (V.int (bt:Nat)), some w3, some w4, some w5, some w6, some v7, some (V.ref fo), some v9, a10, some (V.int (pl:Nat)), some (V.int (i:Nat)), some (V.str x), some v14, a15, a16, a17, none, none, none, none, none]) rfl ?_
      have u8 := u7.trans g8.up
      have gr8 := gr7.trans g8
      have cf8 := g8.keep _ _ cf7
      have gf8 := g8.off fo (by rw [cf7]; exact nz) gf7
      have om := others_mem (L := L) t hUL xm
      have ol : ((L x).filter fun z => !decide (z = x)).length ≤ 20 := by
        have h1 := List.length_filter_le (fun z => !decide (z = x)) (L x)
        have h2 := ul_len t hUL xm
        omega
      have hvs8 := DpAll.up (g7.up.trans g8.up) _ _ hvs
      clear u7 gr7 cf7 gf7 gr cf gf sh sg
      refine q_asgN g8.sub (e_lsome (e_var (i := 0) rfl (stb u8 h1)) (e_var rfl r14) (en_others (K := K) (i := 7) (j := 17) (k := 13) t hv.n40 hUL xm (e_var rfl (stb (R := DT K (ulF p.notes L)) u8 r7d)) (e_var rfl (.str x)) (by simp) fun G9 v9 u9 => e_var rfl (.str x)).d ⟨.l (sds (bare p.notes x)), .l _, by omega, by omega⟩) fun wa vs15 ds G9 H9 g9 hwa gwa cwa hds ⟨ws, e, w1, w2, w3'⟩ => ?_
      subst e
      have e := dp_sds hds
      subst e
      refine st (σ' := [some v1, some v2, some (V.int (bt:Nat)), some w3, some w4, some w5, some w6, some v7, some (V.ref fo), some v9, a10, some (V.int (pl:Nat)), some (V.int (i:Nat)), some (V.str x), some v14, some (V.ref wa), a16, a17, none, none, none, none, none]) rfl ?_
      have wsub : ∀ z ∈ ws, z ∈ below p.notes x := fun z hz => by
        rcases w2 z hz with q | q
        · exact bare_sub q
        · exact (om z).mp q
      obtain ⟨WOK, hWOK⟩ : ∃ WOK : Nat → List Str → Prop, WOK = fun m ws => (∀ z ∈ ws, z ∈ cs.take i) ∧ ws.length ≤ m ∧ (bt = 0 → (∀ z ∈ ws, z ∈ below p.notes x) ∧ ∀ z ∈ bare p.notes x, z ∈ ws) := ⟨_, rfl⟩
      have wok0 : WOK 40 ws := by
        rw [hWOK]
        exact ⟨fun z hz => pre z (wsub z hz), by omega, fun _ => ⟨wsub, w1⟩⟩
      -- one wait fewer
      refine joinK (I := fun σ' H' => ∃ (Gx : Hp) (wa : Addr) (ws : List Str) (a16 a17 : Option V), Grow G8 H8 Gx H' ∧ H8 wa = none ∧ Gx wa = none ∧ H' wa = some (.lst (ws.map V.str)) ∧ WOK 40 ws ∧
        σ' = [some v1, some v2, some (V.int (bt:Nat)), some w3, some w4, some w5, some w6, some v7, some (V.ref fo), some v9, a10, some (V.int (pl:Nat)), some (V.int (i:Nat)), some (V.str x), some v14, some (V.ref wa), a16, a17, none, none, none, none, none]) ?_ fun fin => ?_
      · clear w1 w2 w3' wsub wok0 hwa gwa cwa hds g9
        rintro σ' H9 ⟨G9, wa, ws, a16, a17, g9, hwa, gwa, cwa, wok, rfl⟩
        -- one wait more
        refine joinK (I := fun σ' H' => ∃ (Gx : Hp) (ws : List Str), Grow G8 H8 Gx H' ∧ Gx wa = none ∧ H' wa = some (.lst (ws.map V.str)) ∧ WOK 41 ws ∧
          σ' = [some v1, some v2, some (V.int (bt:Nat)), some w3, some w4, some w5, some w6, some v7, some (V.ref fo), some v9, a10, some (V.int (pl:Nat)), some (V.int (i:Nat)), some (V.str x), some v14, some (V.ref wa), a16, a17, none, none, none, none, none]) ?_ fun fin => ?_
        · clear wok gwa cwa g9
          rintro σ' H10 ⟨G10, ws, g10, gwa, cwa, wok, rfl⟩
          have gz := g10.addcell hwa gwa cwa
          have rz : Dp K (upd G10 wa (.lst (ws.map V.str))) (.ref wa) (.list (sds ws)) := .lst (SqL.of upd_same) (sds_dp ws)
          have cfz := gz.keep _ _ cf8
          have gfz := gz.off fo (by rw [cf8]; exact nz) gf8
          generalize upd G10 wa (.lst (ws.map V.str)) = Gz at *
          have uz := u8.trans gz.up
          rw [hWOK] at wok
          obtain ⟨k1, k2, k3⟩ := wok
          have fl : fs.length = i := by
            have := congrArg List.length nm
            rw [List.length_map, List.length_take] at this
            omega
          have hlv : vs.length ≤ 1000000 := by
            rw [dp_len hvs8, List.length_map]; omega
          refine s_app (K := K) gz.sub rfl cfz gfz hlv (ed_tup (dd_cons (e_var rfl (.str x)) (dd_cons (e_owner (i := 4) (j := 10) (k := 13) (by omega) xm (e_var rfl (Dp.up uz _ _ r4)) (by simp) fun G1 v u => e_var rfl (.str x)) (dd_cons (ed_lot (w := w) (.l (sds ws)) (by omega) (e_var rfl rz)) dd_nil))) (by simp)) fun v G11 H11 w11 rv => ?_
          refine ⟨G11, g7.up.trans (g8.up.trans (gz.up.trans w11.up)), w11.sub, (gr8.trans gz).cellwr hf0 w11, uz.trans w11.up, w11.cell, fs ++ [(x, hnd p.notes x, lotOf ws)], vs ++ [v], _, _, _, _, _, _, _, w11.at, ?_, ?_, ?_, ?_, ?_, rfl⟩
          · rw [dNotes_app]
            exact dp_app (DpAll.up (gz.up.trans w11.up) _ _ hvs8) (.cons rv .nil)
          · rw [nms_app, nm, List.take_add_one, hx]; rfl
          · refine .snoc tf (fun q => ?_) fun z hz => ?_
            · rw [nm] at q
              obtain ⟨j, hj⟩ := List.mem_iff_getElem?.mp q
              rw [List.getElem?_take] at hj
              split at hj
              · have := nodup_get lin.nd hj hx
                omega
              · cases hj
            · rw [nm]
              exact k1 z (mem_lotOf.mp hz)
          · intro n hn
            rcases List.mem_append.mp hn with q | q
            · exact hf n q
            · have : n = (x, hnd p.notes x, lotOf ws) := by simpa using q
              rw [this]
              exact ⟨rfl, asc_lotOf _⟩
          · intro hb n hn
            rcases List.mem_append.mp hn with q | q
            · exact hw hb n q
            · have : n = (x, hnd p.notes x, lotOf ws) := by simpa using q
              rw [this]
              exact ⟨fun z hz => (k3 hb).1 z (mem_lotOf.mp hz), fun z hz => mem_lotOf.mpr ((k3 hb).2 z hz)⟩
        · rw [hWOK] at wok
          obtain ⟨k1, k2, k3⟩ := wok
          have u9 := u8.trans g9.up
          refine q_ifP g9.sub (etP_and (p := fun c => c = decide ((bt : Int) = 2)) (et_T (ed_eqI (K := K) (e_var (i := 2) rfl (.int (bt : Nat))) ed_int)) fun _ => etP_and (p := fun c => c = decide ((pl : Int) ≤ (i : Int))) (et_T (ed_IB (K := K) (f := fun i j => decide (j ≤ i)) (e_var (i := 12) rfl (.int (i : Nat))) (e_var (i := 11) rfl (.int (pl : Nat))))) fun _ => etP_and (p := fun c => c = decide ((0 : Int) < (i : Int))) (q := fun _ => True) (et_T (ed_IB (K := K) (f := fun i j => decide (j < i)) (e_var (i := 12) rfl (.int (i : Nat))) ed_int)) fun _ => etP_any (e_ltEq (e_draw (K := K) (n := 3) (e_var (i := 0) rfl (stb u9 h1)) ed_int (by omega) (by omega)))) (fun hb G10 H10 g10 => ?_) (fun _ G10 H10 g10 => fin _ _ ⟨G10, ws, g9.trans g10, g10.off wa (by rw [cwa]; exact nz) gwa, g10.keep _ _ cwa, by rw [hWOK]; exact ⟨k1, by omega, k3⟩, rfl⟩)
          have b2 : bt = 2 := by
            rcases hb with ⟨a, _⟩ | ⟨_, a⟩
            · have := of_decide_eq_true a.symm; omega
            · cases a
          have i0 : 0 < i := by
            rcases hb with ⟨_, a | ⟨_, a⟩⟩ | ⟨_, a⟩
            · rcases a.2 with ⟨c, _⟩ | ⟨_, c⟩
              · have := of_decide_eq_true c.symm; omega
              · cases c
            · cases a
            · cases a
          have u10 := u9.trans g10.up
          refine s_app (K := K) (R := StrP (fun z => z ∈ cs.take i)) g10.sub rfl (g10.keep _ _ cwa) (g10.off wa (by rw [cwa]; exact nz) gwa) (by rw [List.length_map]; omega) (e_pickS (xs := cs.take i) (.l _) (e_var (i := 0) rfl (stb u10 h1)) ((en_sl (K := K) (e_var (i := 9) rfl (Dp.up u10 _ _ r9)) eo_none (eo_some (K := K) (e_var (i := 12) rfl (.int (i : Nat))))).d.to (by rw [cut_to, ← List.map_take])) (by rw [List.length_take]; omega) (by rw [List.length_take]; omega)) fun v Gd Hd wd ⟨z, hz, e⟩ => ?_
          subst e
          refine fin _ _ ⟨Gd, ws ++ [z], (g9.trans g10).cellwr hwa wd, wd.cell, by rw [wd.at, List.map_append]; rfl, ?_, rfl⟩
          rw [hWOK]
          refine ⟨fun y hy => ?_, by rw [List.length_append, List.length_singleton]; omega, fun h => by omega⟩
          rcases List.mem_append.mp hy with q | q
          · exact k1 y q
          · have : y = z := by simpa using q
            rw [this]; exact hz
      · have u9 := u8.trans g9.up
        have r14' := Dp.up g9.up _ _ r14
        refine q_if g9.sub (et_and (et_T (ed_eqI (K := K) (e_var (i := 2) rfl (.int (bt : Nat))) ed_int)) fun _ => et_and (et_T (ed_eqI (K := K) (e_var (i := 12) rfl (.int (i : Nat))) (e_var (i := 11) rfl (.int (pl : Nat))))) fun _ => et_T (ed_neE (K := K) (e_var (i := 14) rfl r14') bok)) (fun hb G10 H10 g10 => ?_) (fun _ G10 H10 g10 => fin _ _ ⟨G10, wa, ws, _, _, g9.trans g10, hwa, g10.off wa (by rw [cwa]; exact nz) gwa, g10.keep _ _ cwa, wok0, rfl⟩)
        simp only [Bool.and_eq_true, decide_eq_true_eq, Bool.not_eq_true'] at hb
        have b1 : bt = 1 := by omega
        have ne : 1 ≤ (bare p.notes x).length := by
          rcases Nat.eq_zero_or_pos (bare p.notes x).length with q | q
          · rw [List.length_eq_zero_iff.mp q] at hb; simp at hb
          · exact q
        refine q_asg g10.sub (e_pickS (K := K) (xs := bare p.notes x) (.l _) (e_var (i := 0) rfl (stb (u9.trans g10.up) h1)) (e_var (i := 14) rfl (Dp.up g10.up _ _ r14')) ne (by omega)) fun v16 G11 H11 g11 ⟨z, hz, e⟩ => ?_
        subst e
        have gb := g10.trans g11
        have cwb := gb.keep _ _ cwa
        have gwb := gb.off wa (by rw [cwa]; exact nz) gwa
        have gz := (g9.trans gb).addcell hwa gwb cwb
        have rz : Dp K (upd G11 wa (.lst (ws.map V.str))) (.ref wa) (.list (sds ws)) := .lst (SqL.of upd_same) (sds_dp ws)
        generalize upd G11 wa (.lst (ws.map V.str)) = Gz at *
        refine st (σ' := [some v1, some v2, some (V.int (bt:Nat)), some w3, some w4, some w5, some w6, some v7, some (V.ref fo), some v9, a10, some (V.int (pl:Nat)), some (V.int (i:Nat)), some (V.str x), some v14, some (V.ref wa), some (V.str z), a17, none, none, none, none, none]) rfl ?_
        refine s_asgN gz.sub (en_filt (K := K) (xs := ws) (fun y => !decide (y = z)) (.l _) (e_var (i := 15) rfl rz) (by omega) (by simp) fun y G12 hy u12 => et_T (ed_neS (K := K) (e_var rfl (.str y)) (e_var rfl (.str z)))) fun p2 vs2 ds2 G12 H12 g12 hp2 gp2 cp2 hd2 e2 => ?_
        subst e2
        have e := dp_sds hd2
        subst e
        refine fin _ _ ⟨G12, p2, _, _, _, gz.trans g12, gz.keep.free hp2, gp2, cp2, ?_, rfl⟩
        rw [hWOK]
        refine ⟨fun y hy => pre y (wsub y (List.mem_filter.mp hy).1), Nat.le_trans (List.length_filter_le _ _) (by omega), fun h => by omega⟩
    · rintro σ' G' H' sg sh ⟨gr, sG, gf, fs, vs, a10, a12, a13, a14, a15, a16, a17, cf, hvs, nm, tf, hf, hw, rfl⟩
      rw [csl, List.take_length] at nm
      have g9 := gr.addcell hf0 gf cf
      have u9 : Same G5 (upd G' fo (.lst vs)) := sG.trans (Same.new gf)
      have rc : Dp K (upd G' fo (.lst vs)) (.ref fo) (.list (dNotes fs)) := .lst (SqL.of upd_same) (DpAll.up (Same.new gf) _ _ hvs)
      have s9 : Same (upd G' fo (.lst vs)) H' := g9.sub
      generalize upd G' fo (.lst vs) = G9 at *
      replace h1 := stb u9 h1
      replace r3 := Dp.up u9 _ _ r3
      replace r4 := Dp.up u9 _ _ r4
      replace r5 := Dp.up u9 _ _ r5
      replace r6 := Dp.up u9 _ _ r6
      replace r7 := stb u9 r7
      replace r9 := Dp.up u9 _ _ r9
      clear gr sG gf cf hvs u9 sg sh g05 s5 cf5 gf5 hf0 r7d
      have vall : Val ⟨p.hands, fs, p.ready, lotOf (nms p.notes)⟩ := val_anew hv lin nm tf hf (asc_lotOf _) (fun z hz => mem_lotOf.mp hz) (cov_all hv lin nm tf hf fun z hz => mem_lotOf.mpr hz)
      have fmem : ∀ x, x ∈ nms fs ↔ x ∈ nms p.notes := fun x => by rw [nm]; exact lin.mem x
      have fhd : ∀ x ∈ nms p.notes, hnd fs x = hnd p.notes x := fun x hx => by
        obtain ⟨n, hn, rfl⟩ := List.mem_map.mp ((fmem x).mpr hx)
        rw [hnd_mem tf.nodup hn]; exact (hf n hn).1
      have fl : fs.length = p.notes.length := by rw [← cl, ← nm, List.length_map]
      -- the paper
      have wsub : ∀ z ∈ whole p.notes p.paper, z ∈ nms p.notes := fun z hz => by
        obtain ⟨y, _, u⟩ := (mem_whole t).mp hz
        exact (u.mem t).1
      have wl : (whole p.notes p.paper).length ≤ 20 := by
        have := nodup_sub_len (asc_nodup (asc_whole p.notes p.paper)) (ys := nms p.notes) wsub
        omega
      have ul : (upper p.notes (whole p.notes p.paper)).length ≤ 20 := by
        have := nodup_sub_len (asc_nodup (asc_upper p.notes (whole p.notes p.paper))) (ys := nms p.notes) fun z hz => wsub z (upper_sub hz)
        omega
      refine q_asg s9 (e_lwhole (e_var (R := UndD K p.notes) rfl r7) (e_var rfl r6) (upre hv)) fun v18 G10 H10 g10 r18 => ?_
      refine st (σ' := [some v1, some v2, some (V.int (bt:Nat)), some w3, some w4, some w5, some w6, some v7, some (V.ref fo), some v9, a10, some (V.int (pl:Nat)), a12, a13, a14, a15, a16, a17, some v18, none, none, none, none]) rfl ?_
      refine q_asg g10.sub (e_lsome (e_var (i := 0) rfl (stb g10.up h1)) (e_lupper (e_var (R := UndD K p.notes) rfl (stb g10.up r7)) (e_var (i := 18) rfl r18) ⟨t, notes_ok hv, hv.n40, .t (sds (whole p.notes p.paper)), wsub, by omega⟩ (asc_nodup (asc_whole _ _))) (e_var (i := 18) rfl r18) ⟨.t (sds (upper p.notes (whole p.notes p.paper))), .t (sds (whole p.notes p.paper)), by omega, by omega⟩).s fun v19 G11 H11 g11 ⟨ds, ⟨ts, e, t1, t2, t3⟩, r19⟩ => ?_
      subst e
      refine st (σ' := [some v1, some v2, some (V.int (bt:Nat)), some w3, some w4, some w5, some w6, some v7, some (V.ref fo), some v9, a10, some (V.int (pl:Nat)), a12, a13, a14, a15, a16, a17, some v18, some v19, none, none, none]) rfl ?_
      have tsub : ∀ z ∈ ts, z ∈ whole p.notes p.paper := fun z hz => by
        rcases t2 z hz with q | q
        · exact upper_sub q
        · exact q
      have g12 := g10.trans g11
      have gr11 := g9.trans g12
      replace h1 := stb g12.up h1
      replace r3 := Dp.up g12.up _ _ r3
      replace r4 := Dp.up g12.up _ _ r4
      replace r5 := Dp.up g12.up _ _ r5
      replace r9 := Dp.up g12.up _ _ r9
      replace rc := Dp.up g12.up _ _ rc
      have s11 := g11.sub
      clear g10 g11 g12 g9 r6 r7 r18 s9
      obtain ⟨TOK, hTOK⟩ : ∃ TOK : List Str → Prop, TOK = fun ts => (∀ z ∈ ts, z ∈ nms p.notes) ∧ ts.length ≤ 41 ∧ (bt = 0 → (∀ z ∈ ts, z ∈ whole p.notes p.paper) ∧ ∀ z ∈ upper p.notes (whole p.notes p.paper), z ∈ ts) := ⟨_, rfl⟩
      have tok0 : TOK ts := by
        rw [hTOK]
        exact ⟨fun z hz => wsub z (tsub z hz), by omega, fun _ => ⟨tsub, t1⟩⟩
      refine joinK (I := fun σ' H' => ∃ (Gx : Hp) (v19 : V) (ts : List Str), Grow G11 H11 Gx H' ∧ Dp K Gx v19 (.list (sds ts)) ∧ TOK ts ∧
        σ' = [some v1, some v2, some (V.int (bt:Nat)), some w3, some w4, some w5, some w6, some v7, some (V.ref fo), some v9, a10, some (V.int (pl:Nat)), a12, a13, a14, a15, a16, a17, some v18, some v19, none, none, none]) ?_ fun fin => ?_
      · clear t1 t2 t3 tok0 tsub r19
        rintro σ' H12 ⟨G12, v19, ts, g12, r19, tok, rfl⟩
        rw [hTOK] at tok
        obtain ⟨k1, k2, k3⟩ := tok
        refine q_asg g12.sub (ed_lot (K := K) (w := w) (.l (sds ts)) (by omega) (e_var rfl r19)) fun v19 G13 H13 g13 r19 => ?_
        refine st (σ' := [some v1, some v2, some (V.int (bt:Nat)), some w3, some w4, some w5, some w6, some v7, some (V.ref fo), some v9, a10, some (V.int (pl:Nat)), a12, a13, a14, a15, a16, a17, some v18, some v19, none, none, none]) rfl ?_
        have g13' := g12.trans g13
        refine joinK (I := fun σ' H' => ∃ (Gx : Hp) (v19 : V) (pp : List Str), Grow G11 H11 Gx H' ∧ Dp K Gx v19 (.tuple (sds pp)) ∧ Val ⟨p.hands, fs, p.ready, pp⟩ ∧ (bt = 0 → SameW p ⟨p.hands, fs, p.ready, pp⟩) ∧
          σ' = [some v1, some v2, some (V.int (bt:Nat)), some w3, some w4, some w5, some w6, some v7, some (V.ref fo), some v9, a10, some (V.int (pl:Nat)), a12, a13, a14, a15, a16, a17, some v18, some v19, none, none, none]) ?_ fun fin => ?_
        · clear k1 k2 k3 r19 g12 g13 g13'
          rintro σ' H12 ⟨G12, v19, pp, g12, r19, hq, hs0, rfl⟩
          have u12 := g12.up
          have gr12 := gr11.trans g12
          -- another ready note
          refine q_if g12.sub (et_T (ed_eqI (K := K) (e_var (i := 2) rfl (.int (bt : Nat))) ed_int)) (fun hb G13 H13 g13 => ?_) (fun _ G13 H13 g13 => ?_)
          · have b4 : bt = 4 := by have := of_decide_eq_true hb; omega
            have u13 := u12.trans g13.up
            refine q_asg g13.sub (e_pickS (K := K) (xs := p.hands) (.l _) (e_var (i := 0) rfl (stb u13 h1)) (e_var (i := 3) rfl (Dp.up u13 _ _ r3)) (by omega) (by omega)) fun v20 G14 H14 g14 ⟨hd, hhd, e⟩ => ?_
            subst e
            refine st (σ' := [some v1, some v2, some (V.int (bt:Nat)), some w3, some w4, some w5, some w6, some v7, some (V.ref fo), some v9, a10, some (V.int (pl:Nat)), a12, a13, a14, a15, a16, a17, some v18, some v19, some (V.str hd), none, none]) rfl ?_
            have u14 := u13.trans g14.up
            have rn : 1 ≤ (row p.notes hd).length := by
              obtain ⟨y, hy, e, _⟩ := hv.cov hd hhd
              exact List.length_pos_of_mem ((mem_row nd2).mpr ⟨hy, e⟩)
            have rl := row_le (ns := p.notes) hd
            refine q_asg g14.sub (e_pickS (K := K) (xs := row p.notes hd) (.l _) (e_var (i := 0) rfl (stb u14 h1)) (en_row (K := K) (i := 4) (j := 10) (k := 20) (h := hd) (by omega) (e_var rfl (Dp.up u14 _ _ r4)) (by simp) fun G6 v u6 => e_var rfl (.str hd)).d rn (by omega)) fun v21 G15 H15 g15 ⟨o, ho, e⟩ => ?_
            subst e
            refine st (σ' := [some v1, some v2, some (V.int (bt:Nat)), some w3, some w4, some w5, some w6, some v7, some (V.ref fo), some v9, a10, some (V.int (pl:Nat)), a12, a13, a14, a15, a16, a17, some v18, some v19, some (V.str hd), some (V.str o), none]) rfl ?_
            have u15 := u14.trans g15.up
            have hln : (sds p.hands).length = p.hands.length := List.length_map _
            have rln : (sds p.ready).length = p.ready.length := List.length_map _
            have evr := en_lcD (K := K) (σ := [some v1, some v2, some (V.int (bt:Nat)), some w3, some w4, some w5, some w6, some v7, some (V.ref fo), some v9, a10, some (V.int (pl:Nat)), a12, a13, a14, a15, a16, a17, some v18, some v19, some (V.str hd), some (V.str o), none]) (G := G15) (tt := tYes) (te := tIf (tTest (tOp rEq (tVar 20) (tVar 17))) (tVar 21) (tVar 22)) (g := gTup K 2 (gCons (gName 17) (gCons (gName 22) gNil))) (vs := [17, 22]) (fun _ => true) (fun i => .str (if hd = p.hands.getD i ⟨#[]⟩ then o else p.ready.getD i ⟨#[]⟩))
              (src_zip (ds := sds p.hands) (es := sds p.ready) (.inl ⟨rfl, rfl⟩) (by rw [hln, rln, hrl]) (e_var (i := 3) rfl (Dp.up u15 _ _ r3)) (e_var (i := 5) rfl (Dp.up u15 _ _ r5))) (by omega) fun i G16 x hi u ⟨da, db, hda, hdb, hx⟩ => by
                obtain ⟨a, ha, rfl⟩ := sds_get hda
                obtain ⟨b, hb, rfl⟩ := sds_get hdb
                obtain ⟨y1, y2, z1, z2, htg⟩ := tg_2 hx
                cases z1
                cases z2
                refine ⟨_, htg _ _ _ tg_name tg_name, rfl, et_yes, fun _ => ⟨rfl, ?_⟩⟩
                have e1 : p.hands.getD i ⟨#[]⟩ = a := by rw [List.getD_eq_getElem?_getD, ha]; rfl
                have e2 : p.ready.getD i ⟨#[]⟩ = b := by rw [List.getD_eq_getElem?_getD, hb]; rfl
                rw [e1, e2]
                exact e_if (et_T (ed_eqS (K := K) (e_var (i := 20) rfl (.str hd)) (e_var (i := 17) rfl (.str a)))) (fun e => (e_var (R := D K (.str o)) (i := 21) rfl (.str o)).to (by rw [if_pos (of_decide_eq_true e)])) (fun e => (e_var (R := D K (.str b)) (i := 22) rfl (.str b)).to (by rw [if_neg (of_decide_eq_false e)]))
            rw [List.filter_eq_self.mpr (fun _ _ => rfl), hln] at evr
            refine s_ret g15.sub (R := AnewR K p bt) ((ed_tup (dd_cons (e_var (i := 3) rfl (Dp.up u15 _ _ r3)) (dd_cons (e_var (i := 8) rfl (Dp.up u15 _ _ rc)) (dd_cons evr.d (dd_cons (e_var (i := 19) rfl (Dp.up ((g13.up.trans g14.up).trans g15.up) _ _ r19)) dd_nil)))) (by simp)).imp fun v H r => ⟨⟨p.hands, fs, (List.range p.hands.length).map fun i => if hd = p.hands.getD i ⟨#[]⟩ then o else p.ready.getD i ⟨#[]⟩, pp⟩, val_ready hq (by rw [List.length_map, List.length_range]) fun i r k hr' hk => ?_, fun h => by omega, ?_⟩) fun v G16 H16 g16 => k v G16 H16 (gr12.trans ((g13.trans (g14.trans g15)).trans g16))
            · have hk' : p.hands[i]? = some k := hk
              have il := (List.getElem?_eq_some_iff.mp hk').1
              rw [List.getElem?_map, List.getElem?_range il] at hr'
              have er : r = if hd = p.hands.getD i ⟨#[]⟩ then o else p.ready.getD i ⟨#[]⟩ := by simpa using hr'.symm
              have e1 : p.hands.getD i ⟨#[]⟩ = k := by rw [List.getD_eq_getElem?_getD, hk']; rfl
              rw [e1] at er
              subst er
              split
              · rename_i q
                obtain ⟨a, b⟩ := (mem_row nd2).mp ho
                exact ⟨(fmem o).mpr a, by rw [← q, ← b]; exact fhd o a⟩
              · have il2 : i < p.ready.length := by omega
                have e2 : p.ready[i]? = some (p.ready.getD i ⟨#[]⟩) := by rw [List.getD_eq_getElem?_getD, List.getElem?_eq_getElem il2]; rfl
                exact hq.rok i _ k e2 hk'
            · have e : (.list (sds ((List.range p.hands.length).map fun i => if hd = p.hands.getD i ⟨#[]⟩ then o else p.ready.getD i ⟨#[]⟩)) : PyData) = .list ((List.range p.hands.length).map fun i => PyData.str (if hd = p.hands.getD i ⟨#[]⟩ then o else p.ready.getD i ⟨#[]⟩)) := by
                unfold sds
                rw [List.map_map]; rfl
              show Dp K H v (.tuple [_, _, .list (sds _), _])
              rw [e]
              exact r
          · have u13 := u12.trans g13.up
            refine q_if g13.sub (et_T (ed_IB (K := K) (f := fun i j => decide (j < i)) (e_var (i := 2) rfl (.int (bt : Nat))) ed_int)) (fun hb G14 H14 g14 => ?_) (fun _ G14 H14 g14 => ?_)
            · have b6 : 6 ≤ bt := by have := of_decide_eq_true hb; omega
              have u14 := u13.trans g14.up
              refine s_ret g14.sub (R := AnewR K p bt) ((e_call (Γ := Pac × Nat) (args := fun x => [HeapAt, D K (dParts x.1), D K (.int (x.2 : Nat))]) (⟨p.hands, fs, p.ready, pp⟩, bt) (ea_cons (e_var (i := 0) rfl (stb u14 h1)) (ea_cons (ed_tup (K := K) (dd_cons (e_var (i := 3) rfl (Dp.up u14 _ _ r3)) (dd_cons (e_var (i := 8) rfl (Dp.up u14 _ _ rc)) (dd_cons (e_var (i := 5) rfl (Dp.up u14 _ _ r5)) (dd_cons (e_var (i := 19) rfl (Dp.up (g13.up.trans g14.up) _ _ r19)) dd_nil)))) (by simp)) (ea_cons (e_var (i := 2) (R := D K (.int (bt : Nat))) rfl (.int _)) ea_nil))) ⟨hq, fun y hy => hsp.n y ((fmem y).mp hy), by show fs.length ≤ 20; omega, b6, b8⟩).imp fun v H ⟨q, hq2, r⟩ => ⟨q, hq2, fun h => by omega, r⟩) fun v G15 H15 g15 => k v G15 H15 (gr12.trans ((g13.trans g14).trans g15))
            · have u14 := u13.trans g14.up
              refine s_ret g14.sub (R := AnewR K p bt) (e_if (et_T (ed_eqI (K := K) (e_var (i := 2) rfl (.int (bt : Nat))) ed_int)) (fun hb => ?_) (fun _ => ?_)) fun v G15 H15 g15 => k v G15 H15 (gr12.trans ((g13.trans g14).trans g15))
              · have b5 : bt = 5 := by have := of_decide_eq_true hb; omega
                refine (ed_tup (K := K) (dd_cons (en_rev (e_var (i := 3) rfl (Dp.up u14 _ _ r3))).d (dd_cons (e_var (i := 8) rfl (Dp.up u14 _ _ rc)) (dd_cons (en_rev (e_var (i := 5) rfl (Dp.up u14 _ _ r5))).d (dd_cons (e_var (i := 19) rfl (Dp.up (g13.up.trans g14.up) _ _ r19)) dd_nil)))) (by simp)).imp fun v H r => ⟨⟨p.hands.reverse, fs, p.ready.reverse, pp⟩, val_rev hq, fun h => by omega, ?_⟩
                show Dp K H v (.tuple [.list (sds p.hands.reverse), _, .list (sds p.ready.reverse), _])
                unfold sds
                rw [List.map_reverse, List.map_reverse]
                exact r
              · exact (ed_tup (K := K) (dd_cons (e_var (i := 3) rfl (Dp.up u14 _ _ r3)) (dd_cons (e_var (i := 8) rfl (Dp.up u14 _ _ rc)) (dd_cons (e_var (i := 5) rfl (Dp.up u14 _ _ r5)) (dd_cons (e_var (i := 19) rfl (Dp.up (g13.up.trans g14.up) _ _ r19)) dd_nil)))) (by simp)).imp fun v H r => ⟨⟨p.hands, fs, p.ready, pp⟩, hq, hs0, r⟩
        · have u13 := g13'.up
          have ll := lot_len_le ts
          have same0 : bt = 0 → Val ⟨p.hands, fs, p.ready, lotOf ts⟩ ∧ SameW p ⟨p.hands, fs, p.ready, lotOf ts⟩ := fun h => same_anew hv lin nm tf hf (hw h) (asc_lotOf _) (fun z hz => (k3 h).1 z (mem_lotOf.mp hz)) fun z hz => mem_lotOf.mpr ((k3 h).2 z hz)
          refine q_if g13.sub (et_not (et_B (e_lcovers (e_var rfl (Dp.up u13 _ _ r3)) (e_var rfl (Dp.up u13 _ _ rc)) (e_var rfl r19) hv.hok (by omega) ⟨tf, notes_ok vall, vall.n40, .t _, fun z hz => (fmem z).mpr (k1 z (mem_lotOf.mp hz)), by omega⟩ (wts_len vall)))) (fun hb G14 H14 g14 => ?_) (fun hb G14 H14 g14 => ?_)
          · have nc : ¬ Covers p.hands fs (lotOf ts) := fun c => by
              rw [bP_iff.mpr c] at hb
              cases hb
            refine s_asg g14.sub (ed_tupOf (K := K) (.l (sds (lotOf cs))) (en_srt lin.nd (by omega) (e_var (i := 9) rfl (Dp.up (u13.trans g14.up) _ _ r9))).d) fun v19 G15 H15 g15 r19 => fin _ _ ⟨G15, v19, lotOf cs, g13'.trans (g14.trans g15), r19, ?_, fun h => absurd (same0 h).1.cov nc, rfl⟩
            exact val_anew hv lin nm tf hf (asc_lotOf _) (fun z hz => (lin.mem z).mp (mem_lotOf.mp hz)) (cov_all hv lin nm tf hf fun z hz => mem_lotOf.mpr ((lin.mem z).mpr hz))
          · have c : Covers p.hands fs (lotOf ts) := bP_iff.mp (by
              cases q : bP (Covers p.hands fs (lotOf ts)) with
              | true => rfl
              | false => rw [q] at hb; cases hb)
            exact fin _ _ ⟨G14, v19, lotOf ts, g13'.trans g14, Dp.up g14.up _ _ r19, val_anew hv lin nm tf hf (asc_lotOf _) (fun z hz => k1 z (mem_lotOf.mp hz)) c, fun h => (same0 h).2, rfl⟩
      · refine q_if s11 (et_T (ed_eqI (K := K) (e_var (i := 2) rfl (.int (bt : Nat))) ed_int)) (fun hb G12 H12 g12 => ?_) (fun _ G12 H12 g12 => fin _ _ ⟨G12, v19, ts, g12, Dp.up g12.up _ _ r19, tok0, rfl⟩)
        have b3 : bt = 3 := by have := of_decide_eq_true hb; omega
        replace r19 := Dp.up g12.up _ _ r19
        replace h1 := stb g12.up h1
        replace r9 := Dp.up g12.up _ _ r9
        have cs1 : 1 ≤ cs.length := by omega
        refine s_asg g12.sub (en_ifP (K := K) (p := fun _ => True) (R := fun ds => ∃ ts : List Str, ds = sds ts ∧ (∀ z ∈ ts, z ∈ nms p.notes) ∧ ts.length ≤ 41) (etP_any (e_ltEq (e_draw (K := K) (n := 2) (e_var (i := 0) rfl h1) ed_int (by omega) (by omega)))) (fun _ => ?_) fun _ => ?_).s fun v19 G13 H13 g13 ⟨ds, ⟨ts2, e, m1, m2⟩, r⟩ => ?_
        · refine (en_filt (K := K) (xs := ts) (fun y => !decide (y = ts.getD 0 ⟨#[]⟩)) (.l _) (e_var (i := 19) rfl r19) (by omega) (by simp) fun y G14 hy u14 => et_T (ed_neS (K := K) (e_var rfl (.str y)) (ed_ix (K := K) (e := .str (ts.getD 0 ⟨#[]⟩)) 0 (.l (sds ts)) (e_var (i := 19) rfl (Dp.up u14 _ _ r19)) ed_int (.inl ⟨rfl, by rw [List.length_map]; exact List.length_pos_of_mem hy⟩) ?_))).imp fun ds e => ⟨_, e, fun z hz => wsub z (tsub z (List.mem_filter.mp hz).1), Nat.le_trans (List.length_filter_le _ _) (by omega)⟩
          have aux : ∀ l : List Str, y ∈ l → (sds l)[0]? = some (.str (l.getD 0 ⟨#[]⟩)) := fun l hl => by
            cases l with
            | nil => cases hl
            | cons a b => rfl
          exact aux ts hy
        · refine (en_catR (K := K) (xs := ts) (Pp := fun ps => ∃ x, x ∈ cs ∧ ps = [x]) (e_var (i := 19) rfl r19) (e_lst1S (P := fun x => x ∈ cs) (e_pickS (K := K) (xs := cs) (.l _) (e_var (i := 0) rfl h1) (e_var (i := 9) rfl r9) cs1 (by omega))) fun ps ⟨x, _, e⟩ => by rw [e]; simp; omega).imp fun ds ⟨ps, ⟨x, hx, e⟩, e2⟩ => ⟨ts ++ ps, e2, fun z hz => ?_, by rw [e, List.length_append, List.length_singleton]; omega⟩
          rcases List.mem_append.mp hz with q | q
          · exact wsub z (tsub z q)
          · have : z = x := by rw [e] at q; simpa using q
            rw [this]; exact (lin.mem x).mp hx
        · subst e
          refine fin _ _ ⟨G13, v19, ts2, g12.trans g13, r, ?_, rfl⟩
          rw [hTOK]
          exact ⟨m1, m2, fun h => by omega⟩
end
end KB

set_option Elab.async false
set_option linter.all false
set_option maxRecDepth 100000
set_option maxHeartbeats 4000000
/-! The law's defs: in how many ways a pact can be told. -/
namespace KB
open PySem PySem.Spec PyProof.Rows L2
theorem below_len {ns : List Note} {L : Str → List Str} {y : Str} (t : Told ns) (hUL : UL ns ns.length L) (hy : y ∈ nms ns) : (L y).length = (under ns y).length := by
  obtain ⟨a, b⟩ := ul_at hUL y hy
  exact (nodup_perm a (asc_nodup (asc_under ns y)) fun x => by rw [b x, mem_under t]).length_eq
section
variable {P : Program} {w : World} {K : PySem.W.Frag} {mg : Str → Option Value} {base : Heap}
def sp__law_count (K : PySem.W.Frag) : Sp := SpG (Γ := Pac) (fun p => [D K (.list (dNotes p.notes)), UndD K p.notes, D K (.tuple (sds (whole p.notes p.paper)))]) (fun p => Val p) fun p => D K (.int ((2 ^ freeN p : Nat) : Int))
abbrev s__law_count : Stmt := top 62
abbrev N__law_count : List Str := ["_law_notes_here", "_law_below", "_law_whole_here", "_law_found", "_law_free_here", "_law_name", "_law_owner", "_law_waits", "_law_turn"]
theorem sc__law_count : FnScope N__law_count ["_law_notes_here", "_law_below", "_law_whole_here"] (defScope s__law_count) := ⟨rfl, rfl, rfl, by decide +kernel, rfl, by decide +kernel, by decide +kernel⟩
theorem ok__law_count {f : Addr} {fd : FuncData} (F : Fun K "_law_count" "_law_count" s__law_count f fd) (T : Txt mg) (c__law_upper : Cal P w K mg base CX0 1 "_law_upper" ["_law_below", "_law_some_here"] (sp__law_upper K)) (c__law_bare : Cal P w K mg base CX0 2 "_law_bare" ["_law_notes_here", "_law_below", "_law_name"] (sp__law_bare K)) : FnOk P w K mg base CX0 3 f fd ["_law_notes_here", "_law_below", "_law_whole_here"] (sp__law_count K) := by
  refine F.ok sc__law_count (fun vs H Q E h => ?_) (fun cdv A outer s H vs Q E hr h => ?_)
  · obtain ⟨x, G, hs, ⟨v1, _, rfl, h1, v2, _, rfl, h2, v3, _, rfl, h3, rfl⟩, hp, k⟩ := h; rfl
  · obtain ⟨p, G, hs, ⟨v1, _, rfl, h1, v2, _, rfl, h2, v3, _, rfl, h3, rfl⟩, hv, k⟩ := h
    replace h1 : Dp K G v1 (.list (dNotes p.notes)) := h1
    replace h3 : Dp K G v3 (.tuple (sds (whole p.notes p.paper))) := h3
    replace hv : Val p := hv
    replace h2 : UndD K p.notes v2 G := h2
    have h2' := h2
    obtain ⟨L, hUL, r2⟩ := h2'
    replace r2 := r2.dt
    have nd := sc__law_count.nd
    have hu := hu_of hr
    have hrU := hrU_of hr
    refine ⟨_, pss_cons (ps_par (i := 3) (j := 4) (by rfl) nd rfl rfl (by decide) rfl rfl (pa_cons (pe_int) (pa_cons (pe_op op_sub (pe_callB (kLen K) (by rfl) T.m_len (by decide +kernel) (pa_cons (pv 2) pa_nil)) (pe_callB (kLen K) (by rfl) T.m_len (by decide +kernel) (pa_cons (pe_cal c__law_upper (hr.mono (by decide)) (by rfl) pass0 (pa_cons (pv 1) (pa_cons (pv 2) pa_nil))) pa_nil))) pa_nil)) (by rfl))
    (pss_cons (ps_for PassesOwn.never rfl (kSeq K (pv 0)) (kTg K 3 rfl (pgs_cons (pg_n 5 nd) (pgs_cons (pg_n 6 nd) (pgs_cons (pg_n 7 nd) pgs_nil))))
      (pss_one (ps_n 4 nd (pe_op op_sub (pe_op op_sub (pe_op op_add (pv 4) (pe_callB (kLen K) (by rfl) T.m_len (by decide +kernel) (pa_cons (pe_dget hu (pv 1) (pv 5) (fun _ _ => rfl)) pa_nil))) (pe_int)) (pe_callB (kLen K) (by rfl) T.m_len (by decide +kernel) (pa_cons (pe_cal c__law_bare (hr.mono (by decide)) (by rfl) pass0 (pa_cons (pv 0) (pa_cons (pv 1) (pa_cons (pv 5) pa_nil)))) pa_nil))))))
    (pss_cons (ps_for PassesOwn.never rfl (pi_range1 (by rfl) T.m_range (pa_cons (pv 4) pa_nil)) (pg_n 8 nd)
      (pss_one (ps_n 3 nd (pe_op op_mul (pv 3) (pe_int)))))
    (pss_one (ps_ret (pv 3))))), ?_⟩
    refine st (σ' := [some v1, some v2, some v3, none, none, none, none, none, none]) rfl ?_
    have t := hv.told
    have hl : (dNotes p.notes).length = p.notes.length := List.length_map _
    have hnl : (nms p.notes).length = p.notes.length := List.length_map _
    have hn := hv.n40
    obtain ⟨f1, f2⟩ := free_pp hv
    have wsub : ∀ z ∈ whole p.notes p.paper, z ∈ nms p.notes := fun z hz => by
      obtain ⟨y, _, u⟩ := (mem_whole t).mp hz
      exact (u.mem t).1
    generalize hA : (whole p.notes p.paper).length - (upper p.notes (whole p.notes p.paper)).length = A0
    refine ((ed_I (K := K) (f := fun i j => i - j) (ed_len (.t (sds (whole p.notes p.paper))) (e_var (i := 2) rfl h3)) (ed_len (.t (sds (upper p.notes (whole p.notes p.paper)))) (e_lupper (e_var (R := UndD K p.notes) (i := 1) rfl h2) (e_var (i := 2) rfl h3) ⟨t, notes_ok hv, hn, .t (sds (whole p.notes p.paper)), wsub, by omega⟩ (asc_nodup (asc_whole _ _))))).to (d' := .int ((A0 : Nat) : Int)) (by rw [List.length_map, List.length_map]; congr 1; omega)) G H (.refl _) hs _ fun v G1 H1 g1 rv => ⟨_, _, rfl, ?_⟩
    cases d_int rv
    refine st (σ' := [some v1, some v2, some v3, some (V.int 1), some (V.int (A0:Nat)), none, none, none, none]) rfl ?_
    replace h1 := Dp.up g1.up _ _ h1
    replace h2 := stb g1.up h2
    replace r2 := stb (R := DT K (ulF p.notes L)) g1.up r2
    refine q_for g1.sub (src_seq (d := .list (dNotes p.notes)) (.l _) (e_var rfl h1)) (fun i σ G' H' => Grow G H G' H' ∧ ∃ a5 a6 a7, σ = [some v1, some v2, some v3, some (V.int 1), some (.int ((A0 + (((nms p.notes).take i).map (freeAt p)).sum : Nat) : Int)), a5, a6, a7, none])
      (fun G2 H2 g2 => ⟨g1.trans g2, _, _, _, rfl⟩) ?_ ?_
    · rintro i σ' G' H' y G5 H5 hi sg sh ⟨gr, a5, a6, a7, rfl⟩ g5 ⟨e, he, hy⟩
      obtain ⟨m, hm, rfl⟩ := dN_get he
      obtain ⟨x1, x2, x3, z1, z2, z3, htg⟩ := tg_3 hy
      cases z1
      cases z2
      refine ⟨_, htg _ _ _ _ tg_name tg_name tg_name, ?_⟩
      refine st (σ' := [some v1, some v2, some v3, some (V.int 1), some (V.int ((A0+(((nms p.notes).take i).map (freeAt p)).sum:Nat):Int)), some (V.str m.1), some (V.str m.2.1), some x3, none]) rfl ?_
      have up := sg.trans g5.up
      have xm : m.1 ∈ nms p.notes := List.mem_map.mpr ⟨m, mem_of_get hm, rfl⟩
      obtain ⟨e1, e2⟩ := free_at hv xm
      refine s_asg g5.sub ((ed_I (K := K) (f := fun i j => i - j) (ed_I (K := K) (f := fun i j => i - j) (ed_I (K := K) (f := fun i j => i + j) (e_var (i := 4) rfl (.int _)) (ed_len (.l (sds (L m.1))) (ed_below xm (e_var (i := 1) rfl (stb (R := DT K (ulF p.notes L)) up r2)) (e_var (i := 5) rfl (.str m.1))))) ed_int) (ed_len (.t (sds (bare p.notes m.1))) (e_lbare hv (e_var (i := 0) rfl (Dp.up up _ _ h1)) (e_var (R := UndD K p.notes) (i := 1) rfl (stb up h2)) (e_var (i := 5) rfl (.str m.1)) xm))).to (d' := .int ((A0 + (((nms p.notes).take (i + 1)).map (freeAt p)).sum : Nat) : Int)) ?_) fun v6 G6 H6 g6 r6 => ?_
      · rw [List.length_map, List.length_map, below_len t hUL xm, List.take_add_one, nms_get hm, List.map_append, List.sum_append]
        simp only [Option.toList_some, List.map_cons, List.map_nil, List.sum_cons, List.sum_nil, Nat.add_zero]
        congr 1
        push_cast
        omega
      · cases d_int r6
        exact ⟨G6, (g5.trans g6).up, g6.sub, (gr.trans g5).trans g6, _, _, _, rfl⟩
    · rintro σ' G' H' sg sh ⟨gr, a5, a6, a7, rfl⟩
      have ef : A0 + (((nms p.notes).take (dNotes p.notes).length).map (freeAt p)).sum = freeN p := by
        rw [freeN_eq hv, hl, ← hnl, List.take_length, hA]
      rw [ef]
      have fle := freeN_le hv
      refine q_for sh (src_range (K := K) (n := freeN p) (by omega) (e_var rfl (.int (freeN p : Nat)))) (fun i σ G' H' => Grow G H G' H' ∧ ∃ a8, σ = [some v1, some v2, some v3, some (V.int ((2 ^ i : Nat) : Int)), some (.int (freeN p : Nat)), a5, a6, a7, a8])
        (fun G2 H2 g2 => ⟨gr.trans g2, _, rfl⟩) ?_ ?_
      · rintro i σ' G' H' y G5 H5 hi sg sh ⟨gr, a8, rfl⟩ g5 hy
        cases d_int hy
        refine ⟨_, tg_name, ?_⟩
        refine st (σ' := [some v1, some v2, some v3, some (V.int ((2^i:Nat):Int)), some (V.int (freeN p:Nat)), a5, a6, a7, some (V.int (i:Nat))]) rfl ?_
        refine s_asg g5.sub ((ed_IC (K := K) (f := fun i j => i * j) (e_var (i := 3) rfl (.int _)) ed_int (.inr ⟨by decide, by decide⟩)).to (d' := .int ((2 ^ (i + 1) : Nat) : Int)) (by rw [Nat.pow_succ]; push_cast; rfl)) fun v6 G6 H6 g6 r6 => ?_
        cases d_int r6
        exact ⟨G6, (g5.trans g6).up, g6.sub, (gr.trans g5).trans g6, _, rfl⟩
      · rintro σ' G' H' sg sh ⟨gr, a8, rfl⟩
        exact s_ret sh (e_var (R := D K (.int ((2 ^ freeN p : Nat) : Int))) (i := 3) rfl (.int _)) fun v G2 H2 g2 => k v G2 H2 (gr.trans g2)
end
end KB

set_option Elab.async false
set_option linter.all false
set_option maxRecDepth 100000
/-! What data show. -/
namespace KB
open PySem PySem.Spec PyProof.Rows L2
structure Rb (n k : Nat) (d : PyData) : Prop where
  sh : d.showable = true
  dep : d.depth ≤ n
  nd : d.hasDict = false
  len : d.shown.length ≤ k
theorem Rb.up {n k m l : Nat} {d : PyData} (h : Rb n k d) (h1 : n ≤ m) (h2 : k ≤ l) : Rb m l d := ⟨h.sh, Nat.le_trans h.dep h1, h.nd, Nat.le_trans h.len h2⟩
theorem rb_str {x : Str} (h : NameOk x) : Rb 0 82 (.str x) := by
  refine ⟨by simp [PyData.showable], by simp [PyData.depth], by simp [PyData.hasDict], ?_⟩
  have := PySem.StrLaws.reprText_len x fun c hc => Nat.lt_of_le_of_lt (h.2.2 c hc).2 (by decide)
  have h2 : x.length ≤ 8 := h.2.1
  simp only [PyData.shown]
  omega
theorem rb_bool {b : Bool} : Rb 0 5 (.bool b) := by
  refine ⟨by simp [PyData.showable], by simp [PyData.depth], by simp [PyData.hasDict], ?_⟩
  simp only [PyData.shown]
  cases b <;> decide
theorem rb_int {i : Int} (h : i.natAbs.log2 < 1920) : Rb 0 1921 (.int i) := by
  refine ⟨by simp [PyData.showable, h], by simp [PyData.depth], by simp [PyData.hasDict], ?_⟩
  simp only [PyData.shown]
  exact int_text_len_1921 h
theorem rb_all {n k : Nat} : ∀ {xs : List PyData}, (∀ d ∈ xs, Rb n k d) → PyData.showableAll xs = true ∧ PyData.depthAll xs ≤ n ∧ PyData.hasDictAll xs = false ∧ piled (PyData.shownAll xs) ≤ xs.length * (k + 2) ∧ (PyData.shownAll xs).length = xs.length
  | [], _ => ⟨by simp [PyData.showableAll], by simp [PyData.depthAll], by simp [PyData.hasDictAll], by simp [PyData.shownAll, piled], by simp [PyData.shownAll]⟩
  | x :: xs, h => by
    obtain ⟨a, b, c, d, e⟩ := rb_all (xs := xs) fun d hd => h d (List.mem_cons_of_mem _ hd)
    have hx := h x List.mem_cons_self
    refine ⟨by simp [PyData.showableAll, a, hx.sh], by simp only [PyData.depthAll]; exact Nat.max_le.mpr ⟨hx.dep, b⟩, by simp [PyData.hasDictAll, c, hx.nd], ?_, by simp [PyData.shownAll, e]⟩
    simp only [PyData.shownAll]
    rw [piled_cons, List.length_cons, Nat.succ_mul]
    have := hx.len
    omega
theorem rb_tup {n k : Nat} {xs : List PyData} (h : ∀ d ∈ xs, Rb n k d) : Rb (n + 1) (xs.length * (k + 2) + 3) (.tuple xs) := by
  obtain ⟨a, b, c, d, e⟩ := rb_all h
  refine ⟨by simpa [PyData.showable] using a, by simp only [PyData.depth]; omega, by simpa [PyData.hasDict] using c, ?_⟩
  simp only [PyData.shown]
  unfold tupleText
  rw [strLen_append, strLen_append]
  have e1 : ((("(" : String) : Str)).length = 1 := rfl
  have e3 : (((if (PyData.shownAll xs).length == 1 then ",)" else ")" : String) : Str)).length ≤ 2 := by split <;> decide
  rw [e1]
  by_cases q : PyData.shownAll xs = []
  · rw [q] at e3 ⊢
    have : (Str.join ", " []).length = 0 := by decide
    omega
  · have := join_length_add _ q
    omega
theorem rb_sds {xs : List Str} (h : ∀ x ∈ xs, NameOk x) (hl : xs.length ≤ 40) : Rb 1 3363 (.tuple (sds xs)) :=
  (rb_tup (n := 0) (k := 82) fun d hd => by obtain ⟨x, hx, rfl⟩ := List.mem_map.mp hd; exact rb_str (h x hx)).up (by omega) (by rw [List.length_map]; omega)
theorem rb_note {n : Note} (h : NameOk n.1 ∧ NameOk n.2.1 ∧ ∀ z ∈ n.2.2, NameOk z) (hl : n.2.2.length ≤ 40) : Rb 2 10098 (dNote n) :=
  (rb_tup (n := 1) (k := 3363) fun d hd => by
    simp only [List.mem_cons, List.not_mem_nil, or_false] at hd
    rcases hd with rfl | rfl | rfl
    · exact (rb_str h.1).up (by omega) (by omega)
    · exact (rb_str h.2.1).up (by omega) (by omega)
    · exact rb_sds h.2.2 hl).up (by omega) (by simp)
theorem rb_notes {ns : List Note} (h : NotesOk ns) (hw : ∀ n ∈ ns, n.2.2.length ≤ 40) (hl : ns.length ≤ 40) : Rb 3 404003 (.tuple (dNotes ns)) :=
  (rb_tup (n := 2) (k := 10098) fun d hd => by obtain ⟨n, hn, rfl⟩ := List.mem_map.mp hd; exact rb_note (h n hn) (hw n hn)).up (by omega) (by rw [List.length_map]; omega)
theorem rb_pac {p : Pac} (v : Val p) : Rb 4 1616023 (dPac p) := by
  have hh := v.h6
  have hr := v.rlen
  have wl : ∀ n ∈ p.notes, n.2.2.length ≤ 40 := fun n hn => len_le_nms v (asc_nodup (v.nok n hn).2.2) (told_wts v.told n hn)
  refine (rb_tup (n := 3) (k := 404003) fun d hd => ?_).up (by omega) (by simp)
  simp only [List.mem_cons, List.not_mem_nil, or_false] at hd
  rcases hd with rfl | rfl | rfl | rfl
  · exact (rb_sds v.hok (by omega)).up (by omega) (by omega)
  · exact rb_notes (notes_ok v) wl v.n40
  · refine (rb_sds (fun x hx => ?_) (by omega)).up (by omega) (by omega)
    obtain ⟨i, hi⟩ := List.mem_iff_getElem?.mp hx
    obtain ⟨h, _, a, _⟩ := ready_at v hi
    exact names_of_pac v x a
  · exact (rb_sds (fun x hx => names_of_pac v x (v.pin x hx)) (pap_len v)).up (by omega) (by omega)
section
variable {K : PySem.W.Frag} {σ : L2.St} {G : Hp} {te : TE} {d : PyData} {n k : Nat}
theorem ed_reprB (h : Rb n k d) (hn : n ≤ 60) (hk : k ≤ 16777216) (he : EvS te σ G (D K d)) : EvS (tCB (rReprD K) (tCons te tNil)) σ G (D K (.str d.shown)) := fun G0 H u s Q kk =>
  he G0 H u s _ fun v G1 H1 g1 r => ⟨v, d, rfl, Dp.up g1.sub _ _ r, h.sh, Nat.le_trans h.dep hn, Nat.le_trans h.len hk, kk _ G1 H1 g1 (.str _)⟩
end
end KB

set_option Elab.async false
set_option linter.all false
set_option maxRecDepth 100000
set_option maxHeartbeats 4000000
/-! The law's defs: whether the forms are right. -/
namespace KB
open PySem PySem.Spec PyProof.Rows L2
theorem freeN_short {p : Pac} (v : Val p) : freeN p ≤ 1700 := by
  rw [freeN_eq v]
  have h1 := free_pp v
  have h2 := sum_le (xs := nms p.notes) (f := freeAt p) fun y hy => (free_at v hy).2
  rw [List.length_map] at h2
  have := v.n40
  omega
theorem rb_count {p : Pac} (v : Val p) : Rb 0 1921 (.int ((2 ^ freeN p : Nat) : Int)) := by
  refine rb_int ?_
  have h := freeN_short v
  show (2 ^ freeN p : Nat).log2 < 1920
  rw [Nat.log2_lt (by have := Nat.two_pow_pos (freeN p); omega)]
  exact Nat.pow_lt_pow_right (by decide) (by omega)
section
variable {K : PySem.W.Frag} {σ : L2.St} {G : Hp} {ta tb : TE}
def LstR (K : PySem.W.Frag) (Rs : List RP) : RP := fun v H => ∃ a xs, v = .ref a ∧ SqL K H a xs ∧ Alls Rs xs H
instance {K : PySem.W.Frag} {Rs : List RP} [S : StbL Rs] : Stb (LstR K Rs) := ⟨fun u ⟨a, xs, e, q, h⟩ => ⟨a, xs, e, u.seq q, S.up u h⟩⟩
theorem e_lstA {t : TA} {Rs : List RP} [S : StbL Rs] (h : EvA t σ G Rs) (hl : Rs.length ≤ 1000000) : EvS (tLst t) σ G (LstR K Rs) := fun G0 H u s Q k =>
  h G0 H u s _ fun vs G1 H1 g1 rs => ⟨by rw [alls_len rs]; exact small9 hl, fun p hp => k _ _ _ (g1.trans (Grow.new g1.sub hp)) ⟨p, vs, rfl, SqL.of upd_same, S.up (Same.new (g1.sub.free hp)) rs⟩⟩
theorem src_two {te : TE} {R1 R2 : RP} [Stb R1] [Stb R2] (h : EvS te σ G (LstR K [R1, R2])) : SrcI (iSeq K te) σ G 2 (fun i v H => (i = 0 ∧ R1 v H) ∨ (i = 1 ∧ R2 v H)) := fun G0 H u s Q k => h G0 H u s _ fun v G1 H1 g1 r => by
    obtain ⟨a, xs, rfl, hq, v1, _, rfl, r1, v2, _, rfl, r2, rfl⟩ := r
    refine ⟨a, [v1, v2], rfl, .inl ⟨g1.sub.seq hq, k _ _ G1 H1 _ g1 (fun H3 s3 => s3.seq hq) (walk_list (xs := [v1, v2])) fun i G3 H3 x H4 hi u3 s3 ⟨e1, e2⟩ => ?_⟩⟩
    subst e1
    refine ⟨G3, .refl s3, ?_⟩
    match i, hi with
    | 0, _ => exact .inl ⟨rfl, by cases e2; exact stb u3 r1⟩
    | 1, _ => exact .inr ⟨rfl, by cases e2; exact stb u3 r2⟩
end
section
variable {P : Program} {w : World} {K : PySem.W.Frag} {mg : Str → Option Value} {base : Heap} {C : Addr}
def sp__law_forms_right (K : PySem.W.Frag) (C : Addr) : Sp := SpG (Γ := Pac) (fun p => [HeapAt, PactAt K C p, D K (dParts p)]) (fun p => Val p) fun _ => D K (.bool true)
abbrev s__law_forms_right : Stmt := top 63
abbrev N__law_forms_right : List Str := ["_law_heap_here", "_law_pact_here", "_law_parts", "_law_hands", "_law_notes_here", "_law_ready", "_law_paper", "_law_below", "_law_bare_here", "_law_full", "_law_whole_here", "_law_name", "_law_owner", "_law_note", "_law_one", "_law_upper_here", "_law_found", "_law_due", "_law_lot"]
theorem sc__law_forms_right : FnScope N__law_forms_right ["_law_heap_here", "_law_pact_here", "_law_parts"] (defScope s__law_forms_right) := ⟨rfl, rfl, rfl, by decide +kernel, rfl, by decide +kernel, by decide +kernel⟩
theorem ok__law_forms_right {f : Addr} {fd : FuncData} (F : Fun K "_law_forms_right" "_law_forms_right" s__law_forms_right f fd) (T : Txt mg) (c : CTxt K C) (c__law_unders : Cal P w K mg base CX0 1 "_law_unders" ["_law_notes_here"] (sp__law_unders K)) (c__law_whole : Cal P w K mg base CX0 1 "_law_whole" ["_law_below", "_law_paper"] (sp__law_whole K)) (c__law_free : Cal P w K mg base CX0 3 "_law_free" ["_law_heap_here", "_law_names_here", "_law_below", "_law_least"] (sp__law_free K)) (c__law_bare : Cal P w K mg base CX0 2 "_law_bare" ["_law_notes_here", "_law_below", "_law_name"] (sp__law_bare K)) (c_bare_waits : Cal P w K mg base CX0 5 "bare_waits" ["pact", "note"] (sp_bare_waits K C)) (c__law_upper : Cal P w K mg base CX0 1 "_law_upper" ["_law_below", "_law_some_here"] (sp__law_upper K)) (c_telling_count : Cal P w K mg base CX0 6 "telling_count" ["pact"] (sp_telling_count K C)) (c__law_count : Cal P w K mg base CX0 3 "_law_count" ["_law_notes_here", "_law_below", "_law_whole_here"] (sp__law_count K)) (c_bare_paper : Cal P w K mg base CX0 4 "bare_paper" ["pact"] (sp_bare_paper K C)) (c_full_form : Cal P w K mg base CX0 8 "full_form" ["pact"] (sp_full_form K C)) (c_bare_form : Cal P w K mg base CX0 8 "bare_form" ["pact"] (sp_bare_form K C)) : FnOkG P w K mg base 9 f fd ["_law_heap_here", "_law_pact_here", "_law_parts"] (sp__law_forms_right K C) := by
  refine Fun.okG F sc__law_forms_right (fun vs H Q E h => ?_) (fun cdv A outer s H vs Q E hr hgu h => ?_)
  · obtain ⟨x, G, hs, ⟨v1, _, rfl, h1, v2, _, rfl, h2, v3, _, rfl, h3, rfl⟩, hp, k⟩ := h; rfl
  · obtain ⟨p, G, hs, ⟨v1, _, rfl, h1, v2, _, rfl, h2, v3, _, rfl, h3, rfl⟩, hv, k⟩ := h
    replace h1 : HeapAt v1 G := h1
    replace h2 : PactAt K C p v2 G := h2
    replace h3 : Dp K G v3 (dParts p) := h3
    replace hv : Val p := hv
    have nd := sc__law_forms_right.nd
    have hu := hu_of hr
    have hrU := hrU_of hr
    refine ⟨_, pss_cons (ps_asg (pv 2) (kTg K 4 rfl (pgs_cons (pg_n 3 nd) (pgs_cons (pg_n 4 nd) (pgs_cons (pg_n 5 nd) (pgs_cons (pg_n 6 nd) pgs_nil))))))
    (pss_cons (ps_par3 (i := 7) (j := 8) (l := 9) (by rfl) nd rfl rfl rfl (by decide) (by decide) (by decide) rfl rfl rfl (pa_cons (pe_cal c__law_unders (hr.mono (by decide)) (by rfl) pass0 (pa_cons (pv 4) pa_nil)) (pa_cons (pe_lst pa_nil) (pa_cons (pe_lst pa_nil) pa_nil))) (by rfl))
    (pss_cons (ps_n 10 nd (pe_cal c__law_whole (hr.mono (by decide)) (by rfl) pass0 (pa_cons (pv 7) (pa_cons (pv 6) pa_nil))))
    (pss_cons (ps_for PassesOwn.never rfl (kSeq K (pe_cal c__law_free (hr.mono (by decide)) (by rfl) pass0 (pa_cons (pv 0) (pa_cons (pe_lc (own := [("_law_note", 13)]) (by rfl) nd (kSeq K (pv 4)) (blkOk_by (by kernel_rfl)) (fun _ _ _ _ _ => (pg_n 13 nd)) (fun _ _ _ _ _ => pts_nil) (fun _ _ _ _ _ => (pe_ix (kIx K) (pv 13) (pe_int) (fun _ _ => rfl)))) (pa_cons (pv 7) (pa_cons (pe_bl) pa_nil)))))) (pg_n 11 nd)
      (pss_cons (ps_n 12 nd (pe_ix (kIx K) (pe_lc (own := [("_law_note", 13)]) (by rfl) nd (kSeq K (pv 4)) (blkOk_by (by kernel_rfl)) (fun _ _ _ _ _ => (pg_n 13 nd)) (fun _ _ _ _ _ => (pts_one (pt_cmpR op_eq (pe_ix (kIx K) (pv 13) (pe_int) (fun _ _ => rfl)) (pv 11) (nomark _)))) (fun _ _ _ _ _ => (pe_ix (kIx K) (pv 13) (pe_int) (fun _ _ => rfl)))) (pe_int) (fun _ _ => rfl)))
        (pss_cons (ps_expr (pe_bm PySem.F.plainAttrs_list PySem.F.slot_list_append PySem.F.type_list_append mt_append (pv 8) (pa_cons (pe_tup (pa_cons (pv 11) (pa_cons (pv 12) (pa_cons (pe_cal c__law_bare (hr.mono (by decide)) (by rfl) pass0 (pa_cons (pv 4) (pa_cons (pv 7) (pa_cons (pv 11) pa_nil)))) pa_nil)))) pa_nil)))
        (pss_cons (ps_expr (pe_bm PySem.F.plainAttrs_list PySem.F.slot_list_append PySem.F.type_list_append mt_append (pv 9) (pa_cons (pe_tup (pa_cons (pv 11) (pa_cons (pv 12) (pa_cons (pe_callTy (kTup K) (by rfl) T.m_tuple (by decide +kernel) (pa_cons (pe_callB (kSrt K) (by rfl) T.m_sorted (by decide +kernel) (pa_cons (pe_lc (own := [("_law_one", 14)]) (by rfl) nd (kSeq K (pe_dget hu (pv 7) (pv 11) (fun _ _ => rfl))) (blkOk_by (by kernel_rfl)) (fun _ _ _ _ _ => (pg_n 14 nd)) (fun _ _ _ _ _ => (pts_one (pt_cmpR op_ne (pv 14) (pv 11) (nomark _)))) (fun _ _ _ _ _ => (pv 14))) pa_nil)) pa_nil)) pa_nil)))) pa_nil)))
        (pss_one (ps_if (pt_cmpR op_ne (pe_callB (kRepr K hgu (hr.mono (by decide))) (by rfl) T.m_repr (by decide +kernel) (pa_cons (pe_cal c_bare_waits (hr.mono (by decide)) (by rfl) pass0 (pa_cons (pv 1) (pa_cons (pv 11) pa_nil))) pa_nil)) (pe_callB (kRepr K hgu (hr.mono (by decide))) (by rfl) T.m_repr (by decide +kernel) (pa_cons (pe_ix (kIx K) (pe_ix (kIx K) (pv 8) (pe_un un_neg (pe_int)) (fun _ _ => rfl)) (pe_int) (fun _ _ => rfl)) pa_nil)) (nomark _))
          (pss_one (ps_ret (pe_bl)))
          (pss_nil)))))))
    (pss_cons (ps_n 15 nd (pe_cal c__law_upper (hr.mono (by decide)) (by rfl) pass0 (pa_cons (pv 7) (pa_cons (pv 10) pa_nil))))
    (pss_cons (ps_if (PW.pt (pw_or (pt_cmpR op_ne (pe_callB (kRepr K hgu (hr.mono (by decide))) (by rfl) T.m_repr (by decide +kernel) (pa_cons (pe_cal c_bare_paper (hr.mono (by decide)) (by rfl) pass0 (pa_cons (pv 1) pa_nil)) pa_nil)) (pe_callB (kRepr K hgu (hr.mono (by decide))) (by rfl) T.m_repr (by decide +kernel) (pa_cons (pv 15) pa_nil)) (nomark _)) (pw_or1 (pt_cmpR op_ne (pe_callB (kRepr K hgu (hr.mono (by decide))) (by rfl) T.m_repr (by decide +kernel) (pa_cons (pe_cal c_telling_count (hr.mono (by decide)) (by rfl) pass0 (pa_cons (pv 1) pa_nil)) pa_nil)) (pe_callB (kRepr K hgu (hr.mono (by decide))) (by rfl) T.m_repr (by decide +kernel) (pa_cons (pe_cal c__law_count (hr.mono (by decide)) (by rfl) pass0 (pa_cons (pv 4) (pa_cons (pv 7) (pa_cons (pv 10) pa_nil)))) pa_nil)) (nomark _)))))
      (pss_one (ps_ret (pe_bl)))
      (pss_nil))
    (pss_cons (ps_for PassesOwn.never rfl (kSeq K (pe_lst (pa_cons (pe_tup (pa_cons (pe_cal c_bare_form (hr.mono (by decide)) (by rfl) pass0 (pa_cons (pv 1) pa_nil)) (pa_cons (pv 8) (pa_cons (pv 15) pa_nil)))) (pa_cons (pe_tup (pa_cons (pe_cal c_full_form (hr.mono (by decide)) (by rfl) pass0 (pa_cons (pv 1) pa_nil)) (pa_cons (pv 9) (pa_cons (pv 10) pa_nil)))) pa_nil)))) (kTg K 3 rfl (pgs_cons (pg_n 16 nd) (pgs_cons (pg_n 17 nd) (pgs_cons (pg_n 18 nd) pgs_nil))))
      (pss_one (ps_if (pt_cmpR op_ne (pe_callB (kRepr K hgu (hr.mono (by decide))) (by rfl) T.m_repr (by decide +kernel) (pa_cons (pe_tup (pa_cons (kFld K (pv 16)) (pa_cons (kFld K (pv 16)) (pa_cons (kFld K (pv 16)) (pa_cons (kFld K (pv 16)) pa_nil))))) pa_nil)) (pe_callB (kRepr K hgu (hr.mono (by decide))) (by rfl) T.m_repr (by decide +kernel) (pa_cons (pe_tup (pa_cons (pe_callTy (kTup K) (by rfl) T.m_tuple (by decide +kernel) (pa_cons (pv 3) pa_nil)) (pa_cons (pe_callTy (kTup K) (by rfl) T.m_tuple (by decide +kernel) (pa_cons (pv 17) pa_nil)) (pa_cons (pe_callTy (kTup K) (by rfl) T.m_tuple (by decide +kernel) (pa_cons (pv 5) pa_nil)) (pa_cons (pv 18) pa_nil))))) pa_nil)) (nomark _))
          (pss_one (ps_ret (pe_bl)))
          (pss_nil))))
    (pss_one (ps_ret (pe_bl))))))))), ?_⟩
    refine st (σ' := [some v1, some v2, some v3, none, none, none, none, none, none, none, none, none, none, none, none, none, none, none, none]) rfl ?_
    have nz : ∀ {o : HO}, some o ≠ none := fun z => nomatch z
    have t := hv.told
    have hn := hv.n40
    refine q_asgT hs (e_var (R := D K (dParts p)) rfl h3) fun v G1 H1 g1 rv => ?_
    obtain ⟨w3, w4, w5, w6, r3, r4, r5, r6, htg⟩ := tg_4 rv
    refine ⟨_, htg _ _ _ _ _ tg_name tg_name tg_name tg_name, ?_⟩
    refine st (σ' := [some v1, some v2, some v3, some w3, some w4, some w5, some w6, none, none, none, none, none, none, none, none, none, none, none, none]) rfl ?_
    replace h1 := stb g1.up h1
    replace h2 := stb g1.up h2
    refine (e_lunders (ns := p.notes) (e_var (i := 4) rfl r4) t hv.n40 (wts_len hv)) G1 H1 (.refl _) g1.sub _ fun v7 G2 H2 g2 r7 => ⟨Nat.zero_le _, fun bo hbo => ⟨Nat.zero_le _, fun fo hfo => ⟨_, _, _, rfl, ?_⟩⟩⟩
    have g3 : Grow G2 H2 G2 (upd H2 bo (.lst [])) := Grow.cell g2.sub hbo
    have g4 : Grow G2 (upd H2 bo (.lst [])) G2 (upd (upd H2 bo (.lst [])) fo (.lst [])) := Grow.cell g3.sub hfo
    have g04 := ((g1.trans g2).trans g3).trans g4
    have nbf : bo ≠ fo := fun e => by rw [← e, upd_same] at hfo; cases hfo
    have hb0 : H bo = none := (g1.trans g2).keep.free hbo
    have hf0 : H fo = none := ((g1.trans g2).trans g3).keep.free hfo
    have cb4 : upd (upd H2 bo (.lst [])) fo (.lst []) bo = some (.lst []) := by rw [upd_ne nbf]; exact upd_same
    have cf4 : upd (upd H2 bo (.lst [])) fo (.lst []) fo = some (.lst []) := upd_same
    have gb4 : G2 bo = none := g2.sub.free hbo
    have gf4 : G2 fo = none := g3.sub.free hfo
    generalize upd (upd H2 bo (.lst [])) fo (.lst []) = H4 at *
    replace h1 := stb g2.up h1
    replace h2 := stb g2.up h2
    replace r3 := Dp.up g2.up _ _ r3
    replace r4 := Dp.up g2.up _ _ r4
    replace r5 := Dp.up g2.up _ _ r5
    replace r6 := Dp.up g2.up _ _ r6
    have s4 := g04.sub
    clear g1 g2 g3 g4 hbo hfo
    refine st (σ' := [some v1, some v2, some v3, some w3, some w4, some w5, some w6, some v7, some (V.ref bo), some (V.ref fo), none, none, none, none, none, none, none, none, none]) rfl ?_
    have wsub : ∀ z ∈ whole p.notes p.paper, z ∈ nms p.notes := fun z hz => by
      obtain ⟨y, _, u⟩ := (mem_whole t).mp hz
      exact (u.mem t).1
    have wl : (whole p.notes p.paper).length ≤ 40 := (free_pp hv).2
    refine q_asg s4 (e_lwhole (e_var (R := UndD K p.notes) rfl r7) (e_var rfl r6) (upre hv)) fun v10 G5 H5 g5 r10 => ?_
    refine st (σ' := [some v1, some v2, some v3, some w3, some w4, some w5, some w6, some v7, some (V.ref bo), some (V.ref fo), some v10, none, none, none, none, none, none, none, none]) rfl ?_
    have g05 := g04.trans g5
    have cb5 := g5.keep _ _ cb4
    have cf5 := g5.keep _ _ cf4
    have gb5 := g5.off bo (by rw [cb4]; exact nz) gb4
    have gf5 := g5.off fo (by rw [cf4]; exact nz) gf4
    replace h1 := stb g5.up h1
    replace h2 := stb g5.up h2
    replace r3 := Dp.up g5.up _ _ r3
    replace r4 := Dp.up g5.up _ _ r4
    replace r5 := Dp.up g5.up _ _ r5
    replace r6 := Dp.up g5.up _ _ r6
    replace r7 := stb g5.up r7
    have s5 := g05.sub
    clear g04 g5 cb4 cf4 gb4 gf4 s4
    obtain ⟨L, hUL, r7d⟩ := r7
    have r7 : UndD K p.notes v7 G5 := ⟨L, hUL, r7d⟩
    replace r7d := r7d.dt
    obtain ⟨o1, o2, o3⟩ := order_ok hv.told
    have ol : (order p.notes).length ≤ 40 := len_le_nms hv o1 fun x hx => (o2 x).mp hx
    have wok : ∀ x ∈ nms p.notes, NameOk x := names_of_pac hv
    refine q_for s5 (src_seq (d := .list (sds (order p.notes))) (.l _) ((e_lfree (K := K) (b := true) t (notes_ok hv) hn (e_var (i := 0) rfl h1) (en_names (ns := p.notes) (by omega) (e_var rfl r4) (by simp)).d (e_var (R := UndD K p.notes) rfl r7) ed_bl).imp fun v H ⟨ys, _, e, r⟩ => by rw [← e rfl]; exact r)) (fun i σ G' H' => Grow G H G' H' ∧ G' bo = none ∧ G' fo = none ∧ ∃ (vb vf : List V) (a11 a12 a13 a14 : Option V), H' bo = some (.lst vb) ∧ H' fo = some (.lst vf) ∧
        DpAll K G' vb (dNotes (mkN ((order p.notes).take i) (hnd p.notes) (bare p.notes))) ∧ DpAll K G' vf (dNotes (mkN ((order p.notes).take i) (hnd p.notes) (below p.notes))) ∧
        σ = [some v1, some v2, some v3, some w3, some w4, some w5, some w6, some v7, some (V.ref bo), some (V.ref fo), some v10, a11, a12, a13, a14, none, none, none, none])
      (fun G6 H6 g6 => ⟨g05.trans g6, g6.off bo (by rw [cb5]; exact nz) gb5, g6.off fo (by rw [cf5]; exact nz) gf5, [], [], _, _, _, _, g6.keep _ _ cb5, g6.keep _ _ cf5, .nil, .nil, rfl⟩) ?_ ?_
    · rintro i σ' G' H' y G7 H7 hi sg sh ⟨gr, gb, gf, vb, vf, a11, a12, a13, a14, cb, cf, hvb, hvf, rfl⟩ g7 ⟨e, he, hy⟩
      obtain ⟨x, hx, rfl⟩ := sds_get he
      cases hy
      refine ⟨_, tg_name, ?_⟩
      refine st (σ' := [some v1, some v2, some v3, some w3, some w4, some w5, some w6, some v7, some (V.ref bo), some (V.ref fo), some v10, some (V.str x), a12, a13, a14, none, none, none, none]) rfl ?_
      have u7 := sg.trans g7.up
      have cb7 := g7.keep _ _ cb
      have cf7 := g7.keep _ _ cf
      have gb7 := g7.off bo (by rw [cb]; exact nz) gb
      have gf7 := g7.off fo (by rw [cf]; exact nz) gf
      have xm : x ∈ nms p.notes := (o2 x).mp (mem_of_get hx)
      have lb : vb.length ≤ 1000000 := by rw [dp_len hvb, List.length_map, List.length_map, List.length_take]; omega
      have lf : vf.length ≤ 1000000 := by rw [dp_len hvf, List.length_map, List.length_map, List.length_take]; omega
      have bl : (bare p.notes x).length ≤ 40 := len_le_nms hv (asc_nodup (asc_bare p.notes x)) fun z hz => (((mem_below t).mp (bare_sub hz)).1.mem t).1
      have bok : ∀ z ∈ bare p.notes x, NameOk z := fun z hz => wok z (((mem_below t).mp (bare_sub hz)).1.mem t).1
      refine q_asg g7.sub (e_owner (K := K) (i := 4) (j := 13) (k := 11) (by omega) xm (e_var rfl (Dp.up u7 _ _ r4)) (by simp) fun G1 v u => e_var rfl (.str x)) fun v12 G8 H8 g8 r12 => ?_
      cases d_str r12
      refine st (σ' := [some v1, some v2, some v3, some w3, some w4, some w5, some w6, some v7, some (V.ref bo), some (V.ref fo), some v10, some (V.str x), some (V.str (hnd p.notes x)), a13, a14, none, none, none, none]) rfl ?_
      have u8 := u7.trans g8.up
      have cb8 := g8.keep _ _ cb7
      have cf8 := g8.keep _ _ cf7
      have gb8 := g8.off bo (by rw [cb7]; exact nz) gb7
      have gf8 := g8.off fo (by rw [cf7]; exact nz) gf7
      refine q_app (K := K) g8.sub rfl cb8 gb8 lb (ed_tup (ds := [.str x, .str (hnd p.notes x), .tuple (sds (bare p.notes x))]) (dd_cons (e_var rfl (.str x)) (dd_cons (e_var rfl (.str (hnd p.notes x))) (dd_cons (e_lbare hv (e_var rfl (Dp.up u8 _ _ r4)) (e_var (R := UndD K p.notes) rfl (stb u8 r7)) (e_var rfl (.str x)) xm) dd_nil))) (by simp)) fun vn G9 H9 w9 rn => ?_
      have u9 := u8.trans w9.up
      have gr9 := ((gr.trans g7).trans g8).cellwr hb0 w9
      have cf9 := w9.oth fo _ nbf.symm cf8
      have gf9 := w9.off fo (by rw [cf8]; exact nz) gf8
      have om := others_mem (L := L) t hUL xm
      have ol2 : ((L x).filter fun z => !decide (z = x)).length < 64 := by
        have h1 := List.length_filter_le (fun z => !decide (z = x)) (L x)
        have h2 := ul_len t hUL xm
        omega
      have oe : lotOf ((L x).filter fun z => !decide (z = x)) = below p.notes x := asc_uniq (asc_lotOf _) (asc_below _ _) fun z => by rw [mem_lotOf]; exact om z
      refine q_app (K := K) w9.sub rfl cf9 gf9 lf (ed_tup (ds := [.str x, .str (hnd p.notes x), .tuple (sds (below p.notes x))]) (dd_cons (e_var rfl (.str x)) (dd_cons (e_var rfl (.str (hnd p.notes x))) (dd_cons ((ed_tupOf (.l (sds (lotOf ((L x).filter fun z => !decide (z = x))))) (en_srt ((ul_at hUL x xm).1.filter _) ol2 (en_others (K := K) (i := 7) (j := 14) (k := 11) t hn hUL xm (e_var rfl (stb (R := DT K (ulF p.notes L)) u9 r7d)) (e_var rfl (.str x)) (by simp) fun G9 v9 u9 => e_var rfl (.str x)).d).d).to (by rw [oe])) dd_nil))) (by simp)) fun vm G10 H10 w10 rm => ?_
      have u10 := u9.trans w10.up
      have gr10 := gr9.cellwr hf0 w10
      have cb10 := w10.oth bo _ nbf w9.at
      have gb10 := w10.off bo (by rw [w9.at]; exact nz) w9.cell
      have e1 : dNotes (mkN ((order p.notes).take (i + 1)) (hnd p.notes) (bare p.notes)) = dNotes (mkN ((order p.notes).take i) (hnd p.notes) (bare p.notes)) ++ [dNote (x, hnd p.notes x, bare p.notes x)] := by
        rw [List.take_add_one, hx]; simp [mkN]
      have e2 : dNotes (mkN ((order p.notes).take (i + 1)) (hnd p.notes) (below p.notes)) = dNotes (mkN ((order p.notes).take i) (hnd p.notes) (below p.notes)) ++ [dNote (x, hnd p.notes x, below p.notes x)] := by
        rw [List.take_add_one, hx]; simp [mkN]
      have hb10 : DpAll K G10 (vb ++ [vn]) (dNotes (mkN ((order p.notes).take (i + 1)) (hnd p.notes) (bare p.notes))) := by
        rw [e1]
        exact dp_app (DpAll.up (g7.up.trans (g8.up.trans (w9.up.trans w10.up))) _ _ hvb) (.cons (Dp.up w10.up _ _ rn) .nil)
      have hf10 : DpAll K G10 (vf ++ [vm]) (dNotes (mkN ((order p.notes).take (i + 1)) (hnd p.notes) (below p.notes))) := by
        rw [e2]
        exact dp_app (DpAll.up (g7.up.trans (g8.up.trans (w9.up.trans w10.up))) _ _ hvf) (.cons rm .nil)
      have sB := same_with w10.sub cb10
      have rB : Dp K (upd G10 bo (.lst (vb ++ [vn]))) (.ref bo) (.list (dNotes (mkN ((order p.notes).take (i + 1)) (hnd p.notes) (bare p.notes)))) := .lst (SqL.of upd_same) (DpAll.up (Same.new gb10) _ _ hb10)
      have il : i < (order p.notes).length := by rw [List.length_map] at hi; exact hi
      have dl : (dNotes (mkN ((order p.notes).take (i + 1)) (hnd p.notes) (bare p.notes))).length = i + 1 := by rw [List.length_map, List.length_map, List.length_take]; omega
      have dg : (dNotes (mkN ((order p.notes).take (i + 1)) (hnd p.notes) (bare p.notes)))[i]? = some (dNote (x, hnd p.notes x, bare p.notes x)) := by
        rw [List.getElem?_map, List.getElem?_map, List.getElem?_take, if_pos (by omega), hx]; rfl
      have ux := u10.trans (Same.new (o := .lst (vb ++ [vn])) gb10)
      refine s_if sB (et_T (ed_neS (K := K) (ed_reprB (rb_sds bok bl) (by decide) (by decide) (e_call (p, x) (ea_cons (e_var (i := 1) rfl (stb (R := PactAt K C p) ux h2)) (ea_cons (e_var (i := 11) (R := D K (.str x)) rfl (.str x)) ea_nil)) ⟨hv, xm⟩)) (ed_reprB (rb_sds bok bl) (by decide) (by decide) (ed_ix (e := .tuple (sds (bare p.notes x))) 2 (.t [.str x, .str (hnd p.notes x), .tuple (sds (bare p.notes x))]) (ed_ix (e := dNote (x, hnd p.notes x, bare p.notes x)) i (.l (dNotes (mkN ((order p.notes).take (i + 1)) (hnd p.notes) (bare p.notes)))) (e_var (i := 8) rfl rB) (ed_neg (K := K) ed_int) (.inr ⟨by rw [dl]; push_cast; omega, by rw [dl]; omega⟩) dg) ed_int (.inl ⟨rfl, by simp⟩) rfl)))) (fun hb => by simp at hb) fun _ G11 H11 g11 => ?_
      have gt := g11.thaw gb10 cb10
      exact ⟨hid bo G11, g7.up.trans (g8.up.trans (w9.up.trans (w10.up.trans gt.up))), gt.sub, gr10.trans gt, hid_self, gt.off fo (by rw [w10.at]; exact nz) w10.cell, _, _, _, _, _, _, gt.keep _ _ cb10, gt.keep _ _ w10.at, DpAll.up gt.up _ _ hb10, DpAll.up gt.up _ _ hf10, rfl⟩
    · rintro σ' G' H' sg sh ⟨gr, gb, gf, vb, vf, a11, a12, a13, a14, cb, cf, hvb, hvf, rfl⟩
      rw [List.length_map, List.take_length] at hvb hvf
      have g8 := gr.addcell hb0 gb cb
      have gf8 : upd G' bo (.lst vb) fo = none := by rw [upd_ne nbf.symm]; exact gf
      have g9 := g8.addcell hf0 gf8 cf
      have rb : Dp K (upd (upd G' bo (.lst vb)) fo (.lst vf)) (.ref bo) (.list (dNotes (mkN (order p.notes) (hnd p.notes) (bare p.notes)))) := .lst (SqL.of (by rw [upd_ne nbf]; exact upd_same)) (DpAll.up ((Same.new gb).trans (Same.new gf8)) _ _ hvb)
      have rf : Dp K (upd (upd G' bo (.lst vb)) fo (.lst vf)) (.ref fo) (.list (dNotes (mkN (order p.notes) (hnd p.notes) (below p.notes)))) := .lst (SqL.of upd_same) (DpAll.up ((Same.new gb).trans (Same.new gf8)) _ _ hvf)
      have u9 : Same G5 (upd (upd G' bo (.lst vb)) fo (.lst vf)) := sg.trans ((Same.new gb).trans (Same.new gf8))
      generalize upd (upd G' bo (.lst vb)) fo (.lst vf) = G9 at *
      replace h1 := stb u9 h1
      replace h2 := stb u9 h2
      replace r3 := Dp.up u9 _ _ r3
      replace r4 := Dp.up u9 _ _ r4
      replace r5 := Dp.up u9 _ _ r5
      replace r7 := stb u9 r7
      replace r10 := Dp.up u9 _ _ r10
      have s9 := g9.sub
      clear g8 u9 gr gb gf cb cf hvb hvf sg sh
      have up1 : UPre p.notes (.tuple (sds (whole p.notes p.paper))) (whole p.notes p.paper) := ⟨t, notes_ok hv, hn, .t _, wsub, by omega⟩
      have ul : (upper p.notes (whole p.notes p.paper)).length ≤ 40 := Nat.le_trans (free_pp hv).1 wl
      have uok : ∀ z ∈ upper p.notes (whole p.notes p.paper), NameOk z := fun z hz => wok z (wsub z (upper_sub hz))
      refine q_asg s9 (e_lupper (e_var (R := UndD K p.notes) (i := 7) rfl r7) (e_var (i := 10) rfl r10) up1 (asc_nodup (asc_whole _ _))) fun v15 G10 H10 g10 r15 => ?_
      refine st (σ' := [some v1, some v2, some v3, some w3, some w4, some w5, some w6, some v7, some (V.ref bo), some (V.ref fo), some v10, a11, a12, a13, a14, some v15, none, none, none]) rfl ?_
      replace h2 := stb g10.up h2
      refine q_if g10.sub (et_or (et_T (ed_neS (K := K) (ed_reprB (rb_sds uok ul) (by decide) (by decide) (e_call p (ea_cons (e_var (i := 1) (R := PactAt K C p) rfl h2) ea_nil) hv)) (ed_reprB (rb_sds uok ul) (by decide) (by decide) (e_var (i := 15) rfl r15)))) fun _ => et_T (ed_neS (K := K) (ed_reprB (rb_count hv) (by decide) (by decide) (e_call p (ea_cons (e_var (i := 1) (R := PactAt K C p) rfl h2) ea_nil) hv)) (ed_reprB (rb_count hv) (by decide) (by decide) (e_call (Γ := Pac) (args := fun p => [D K (.list (dNotes p.notes)), UndD K p.notes, D K (.tuple (sds (whole p.notes p.paper)))]) p (ea_cons (e_var (i := 4) rfl (Dp.up g10.up _ _ r4)) (ea_cons (e_var (R := UndD K p.notes) (i := 7) rfl (stb g10.up r7)) (ea_cons (e_var (i := 10) rfl (Dp.up g10.up _ _ r10)) ea_nil))) hv)))) (fun hb => by simp at hb) fun _ G11 H11 g11 => ?_
      have u11 := g10.up.trans g11.up
      have g12 := g9.trans (g10.trans g11)
      replace h2 := stb g11.up h2
      replace r3 := Dp.up u11 _ _ r3
      replace r5 := Dp.up u11 _ _ r5
      replace r10 := Dp.up u11 _ _ r10
      replace r15 := Dp.up g11.up _ _ r15
      replace rb := Dp.up u11 _ _ rb
      replace rf := Dp.up u11 _ _ rf
      have s11 := g11.sub
      clear g9 g10 g11 u11 r4 r7 h1 s9
      have lq : ∀ {W : Str → List Str}, (mkN (order p.notes) (hnd p.notes) W).length ≤ 40 := fun {W} => by rw [List.length_map]; exact ol
      obtain ⟨vB, sB⟩ := bare_ok hv
      obtain ⟨vF, sF⟩ := full_ok hv
      refine q_for s11 (src_two (K := K) (R1 := TupR K [PactAt K C (barePac p), D K (.list (dNotes (barePac p).notes)), D K (.tuple (sds (barePac p).paper))]) (R2 := TupR K [PactAt K C (fullPac p), D K (.list (dNotes (fullPac p).notes)), D K (.tuple (sds (fullPac p).paper))]) (e_lstA (ea_cons (e_tupA (ea_cons (e_call (Γ := Pac) (args := fun x => [PactAt K C x]) (pre := fun x => Val x) (res := fun x => PactAt K C (barePac x)) p (ea_cons (e_var (i := 1) (R := PactAt K C p) rfl h2) ea_nil) hv) (ea_cons (e_var (i := 8) rfl rb) (ea_cons (e_var (i := 15) rfl r15) ea_nil))) (by simp)) (ea_cons (e_tupA (ea_cons (e_call (Γ := Pac) (args := fun x => [PactAt K C x]) (pre := fun x => Val x) (res := fun x => PactAt K C (fullPac x)) p (ea_cons (e_var (i := 1) (R := PactAt K C p) rfl h2) ea_nil) hv) (ea_cons (e_var (i := 9) rfl rf) (ea_cons (e_var (i := 10) rfl r10) ea_nil))) (by simp)) ea_nil)) (by simp))) (fun i σ G' H' => Grow G H G' H' ∧ ∃ a16 a17 a18, σ = [some v1, some v2, some v3, some w3, some w4, some w5, some w6, some v7, some (V.ref bo), some (V.ref fo), some v10, a11, a12, a13, a14, some v15, a16, a17, a18])
        (fun G2 H2 g2 => ⟨g12.trans g2, _, _, _, rfl⟩) ?_ ?_
      · rintro i σ' G' H' y G13 H13 hi sg sh ⟨gr, a16, a17, a18, rfl⟩ g13 hy
        have u13 := sg.trans g13.up
        obtain ⟨q, vq, eh, er, hq⟩ : ∃ q, Val q ∧ q.hands = p.hands ∧ q.ready = p.ready ∧ TupR K [PactAt K C q, D K (.list (dNotes q.notes)), D K (.tuple (sds q.paper))] y G13 := by
          rcases hy with ⟨_, hy⟩ | ⟨_, hy⟩
          · exact ⟨barePac p, vB, rfl, rfl, hy⟩
          · exact ⟨fullPac p, vF, rfl, rfl, hy⟩
        obtain ⟨x1, x2, x3, z1, z2, z3, htg⟩ := tr_3 hq
        refine ⟨_, htg _ _ _ _ tg_name tg_name tg_name, ?_⟩
        refine st (σ' := [some v1, some v2, some v3, some w3, some w4, some w5, some w6, some v7, some (V.ref bo), some (V.ref fo), some v10, a11, a12, a13, a14, some v15, some x1, some x2, some x3]) rfl ?_
        have r3' := Dp.up u13 _ _ r3
        have r5' := Dp.up u13 _ _ r5
        rw [← eh] at r3'
        rw [← er] at r5'
        refine s_if g13.sub (et_T (ed_neS (K := K) (ed_reprB (rb_pac vq) (by decide) (by decide) (ed_dPac c (e_var (i := 16) (R := PactAt K C q) rfl z1))) (ed_reprB (rb_pac vq) (by decide) (by decide) (ed_tup (K := K) (dd_cons (ed_tupOf (.l (sds q.hands)) (e_var (i := 3) rfl r3')) (dd_cons (ed_tupOf (.l (dNotes q.notes)) (e_var (i := 17) rfl z2)) (dd_cons (ed_tupOf (.l (sds q.ready)) (e_var (i := 5) rfl r5')) (dd_cons (e_var (i := 18) rfl z3) dd_nil)))) (by simp))))) (fun hb => by simp at hb) fun _ G14 H14 g14 => ?_
        exact ⟨G14, g13.up.trans g14.up, g14.sub, gr.trans (g13.trans g14), _, _, _, rfl⟩
      · rintro σ' G' H' sg sh ⟨gr, a16, a17, a18, rfl⟩
        exact s_ret sh (ed_bl (K := K) (i := true)) fun v G2 H2 g2 => k v G2 H2 (gr.trans g2)
end
end KB

set_option Elab.async false
set_option linter.all false
set_option maxRecDepth 100000
set_option maxHeartbeats 4000000
/-! An own error over KeyError whose __init__ says super().__init__(..) and then stores a field. -/
namespace PySem
namespace NnX
open PySem.W PySem.Calls PyProof.Rows PySem.HandSPX
open Builtin Builtin.ObjectAttr
abbrev keTail : List Value := [.type "KeyError", .type "LookupError", .type "Exception", .type "BaseException", .type "object"]
theorem store_KeyError : StoreFacts "KeyError" keTail "object.__setattr__" "object" where
  mro := by kernel_rfl
  slot := .of (owner := "object") (n := "__setattr__") (by rw [typeLookup_type, builtinLookup_eq_fast]; kernel_rfl) (by decide +kernel) (by decide +kernel) (by decide +kernel)
    (by first | exact .inl (by decide +kernel) | exact .inr (by decide +kernel)) (by rw [isSubtype_type]; kernel_rfl)
  entry := F.store_object.entry
  kind := by decide +kernel
  split := by decide +kernel
  hasOwner := by decide +kernel
  args := fun a b c => F.store_object.args a b c
  passes := fun self => by kernel_rfl
theorem kxs_KeyError : KxsFacts "KeyError" "KeyError.__init__" := ⟨by show builtinType _ = _; rw [builtinType_eq_fast]; kernel_rfl, by first | kernel_rfl | rfl⟩
theorem ke_kind : builtinKind "KeyError.__init__" = some .slot := by kernel_rfl
theorem ke_row : Manifest.signature? "KeyError.__init__" = some ⟨.positional, "*", "KeyError", .self, [⟨"args", .varPos, false⟩]⟩ := by kernel_rfl
theorem ke_entry : entryFor table "KeyError.__init__" = some Builtin.«BaseException.__init__» := PyProof.Rows.excClass_KeyError.initEntry
theorem ke_plain : plainId "KeyError.__init__" = true := by decide +kernel
theorem along_ke (K : W.Frag) : W.alongIn K "__init__" keTail = some (some (.builtin "KeyError.__init__")) := by kernel_rfl
section
variable {prog : Program} {w : World} {M : Model} {A : Around} {E : Value → Shared → Prop} {R : Result → Shared → Prop} {h : Heap} {g : Array GenState} {d : Drawn} {t : Nat} {os : OsState}
variable {nm q : Str} {C N : Addr} {bs : List Value} {hdct : Bool} {sn : List Str} {sub : List Value} {ab : Bool} {col : Option Bool} {dd : Option Addr} {k0 k1 k2 k3 k5 : Option Value}
/-- KeyError.__init__ bound to e, called -/
theorem call_kw {u e t0 : Addr} {rest : List Value} {Q : Value → Shared → Prop}
    (hC : h.get? C = some (excClassObj nm q C N bs keTail hdct sn sub ab col dd k0 k1 k2 k3 k5 "LookupError.__new__")) (he : h.get? e = some (excO C t0)) (hu : h.get? u = some (kxs_mw "KeyError.__init__" e)) (hrest : rest.length ≤ sizeLine)
    (hq : ∀ h' t1, (∀ b o, b ≠ e → h.get? b = some o → h'.get? b = some o) → h'.get? e = some (excO C t1) → Q .none ⟨h', g, d, t, os⟩) :
    wpAny (model prog w) A (call (.ref u) rest) Q E ⟨h, g, d, t, os⟩ := by
  refine wpAny_call (codeAny_of_tree ?_)
  show wpAny _ A.in1 (callAny (.ref u) ⟨rest, []⟩) _ _ _
  simp only [callAny]
  refine wpAny_bind (wpAny_load hu ?_)
  simp only [kxs_mw, show (Value.type "method-wrapper" == Value.type "method" || Value.type "method-wrapper" == Value.type "builtin_function_or_method" || Value.type "method-wrapper" == Value.type "method-wrapper") = true by decide, if_true]
  refine W.KFB.if_so (by decide) ?_
  refine wpAny_bind ?_
  · have hshort : ("KeyError" != "*") = true := by decide +kernel
    simp only [checkBoundCall, ke_kind, ke_row]
    repeat (first | (with_reducible refine wpAny_loadPart_at he ?_) | with_reducible refine wpAny_loadPart_at hC ?_ | wp_step)
    refine wpAny_onRaise ?_
    rw [show ∀ (a b : String) (n : Nat), Bind.check ⟨.positional, "*", "KeyError", .self, [⟨"args", .varPos, false⟩]⟩ a b n (List.map (fun x => x.fst) ({ pos := Value.ref e :: rest } : Args).kw) = pure () from
      fun a b n => check_star_args _ _ _ _ _ _]
    refine wpAny_pure ?_
    refine wpAny_bind (wpAny_pure (wpAny_pure ?_))
    refine ⟨Code.quiet_builtin _ (by decide +kernel), codeAny_builtin ke_entry ?_⟩
    rw [Around.under_plainId ke_plain _]
    wp_walk
    refine hq _ h.objs.size (fun b o hb ho => ?_) ?_
    · rw [Heap.get?_update_other _ _ (Ne.symm hb)]
      exact Heap.get?_push_of_some _ ho
    · rw [Heap.get?_update_self _ (Heap.get?_push_of_some _ he) rfl]
      rfl

/-! ### made: LookupError's maker, then the own __init__ -/
theorem check_new_ke {rest : List Value} {Q : Unit → Shared → Prop}
    (hC : h.get? C = some (excClassObj nm q C N bs keTail hdct sn sub ab col dd k0 k1 k2 k3 k5 "LookupError.__new__")) (hq : Q () ⟨h, g, d, t, os⟩) : wpAny M A (checkBuiltinCall "LookupError.__new__" ⟨.ref C :: rest, []⟩) Q E ⟨h, g, d, t, os⟩ := by
  have FF := PySem.F.excBase_LookupError
  have hcont : (Value.ref C :: keTail).contains (.type "LookupError") = true := by rw [List.contains_cons, show keTail.contains (.type "LookupError") = true by decide +kernel, Bool.or_true]
  have hstar := FF.noStar
  simp only [checkBuiltinCall, FF.newKind, FF.newSplit, FF.newRow]
  repeat (first | refine wpAny_loadPart_at hC ?_ | (refine wpAny_isSubtype_exc hC ?_; rw [hcont]) | refine wpAny_staticBase_exc hC ?_ | refine wpAny_madeBy_exc hC ?_ | simp only [bne_self_eq_false, Bool.false_eq_true, if_false] | wp_step)
  exact hq
theorem new_ke {rest : List Value}
    (hC : h.get? C = some (excClassObj nm q C N bs keTail hdct sn sub ab col dd k0 k1 k2 k3 k5 "LookupError.__new__"))
    (hq : R (.ok (.ret (.ref (h.objs.size + 1)))) ⟨(h.push { cls := .type "tuple", data := .seq rest.toArray }).push
      { cls := .ref C, data := .fields #[.ref h.objs.size, .none, .none, .none, .bool false, .none] }, g, d, t, os⟩) (hrest : rest.length ≤ sizeLine) :
    codeAny (model prog w) A (.builtin "LookupError.__new__" ⟨.ref C :: rest, []⟩) R ⟨h, g, d, t, os⟩ := by
  have FF := PySem.F.excBase_LookupError
  have hends := FF.ends
  have hcB : (Value.ref C :: keTail).contains (.type "LookupError") = true := by rw [List.contains_cons, show keTail.contains (.type "LookupError") = true by decide +kernel, Bool.or_true]
  have hcA : (Value.ref C :: keTail).contains (.type "AttributeError") = false := by rw [List.contains_cons, show keTail.contains (.type "AttributeError") = false by decide +kernel]; rfl
  have hcN : (Value.ref C :: keTail).contains (.type "NameError") = false := by rw [List.contains_cons, show keTail.contains (.type "NameError") = false by decide +kernel]; rfl
  refine codeAny_builtinAt FF.entry ?_
  unfold Builtin.«BaseException.__new__»
  refine wpAt_bind ?_
  show wpAt _ _ _ (stack >>= _) _ _ _
  refine wpAt_bind (wpAt_stack fun p below => wpAt_of_wpAny ?_)
  wp_walk
  refine wpAt_of_wpAny ?_
  rw [FF.owner]
  repeat (first | with_reducible refine wpAny_madeHere_exc FF.canon hC ?_ | with_reducible refine wpAny_loadPart_at hC ?_ | (with_reducible refine wpAny_isSubtype_exc hC ?_; first | rw [hcB] | rw [hcA] | rw [hcN]) | wp_step)
  show R _ _
  rw [Heap.size_push]
  exact hq
theorem type_call_ke {rest : List Value} {fI : Addr} {Q : Fin → Shared → Prop}
    (hC : h.get? C = some (excClassObj nm q C N bs keTail hdct sn sub ab col dd k0 k1 k2 k3 k5 "LookupError.__new__"))
    (hi : W.Looks (model prog w) h (typeLookup (.ref C) "__init__") (some (.ref fI))) (hb : ∀ self, W.Looks (model prog w) h (bindSpecial (.ref fI) self) (.ref fI, [self])) (hrest : rest.length ≤ sizeLine)
    (hq : codeAny (model prog w) A (.call (.ref fI) ⟨.ref (h.objs.size + 1) :: rest, []⟩)
      (fun r s' => match r with | .ok (.ret v) => v = .none ∧ Q (.done (.ret (.ref (h.objs.size + 1)))) s' | .ok _ => False | .error e => E e s')
      ⟨(h.push (W.kdv_tup rest)).push (excO C h.objs.size), g, d, t, os⟩) :
    wpAny (model prog w) A (Builtin.«type.__call__» ⟨.ref C :: rest, []⟩) Q E ⟨h, g, d, t, os⟩ := by
  repeat (first | with_reducible refine wpAny_loadPart_at hC ?_ | with_reducible refine wpAny_madeBy_exc hC ?_ | wp_step)
  refine codeAny_call_builtin_code (Code.quiet_builtin _ PySem.F.excBase_LookupError.quiet) (check_new_ke hC ?_)
  refine new_ke hC ?_ hrest
  show wpAny _ _ _ _ _ _
  have k : ∀ b o, h.get? b = some o → ((h.push (W.kdv_tup rest)).push (excO C h.objs.size)).get? b = some o := fun b o e => Heap.get?_push_of_some _ (Heap.get?_push_of_some _ e)
  have hC₁ := k _ _ hC
  have hget : ((h.push (W.kdv_tup rest)).push (excO C h.objs.size)).get? (h.objs.size + 1) = some (excO C h.objs.size) := by heap_get
  have hcC : (Value.ref C :: keTail).contains (.ref C) = true := by simp
  have i1 := hi.keeps k
  have b1 := (hb (.ref (h.objs.size + 1))).keeps k
  unfold isInstance
  repeat (first | with_reducible refine wpAny_loadPart_at hget ?_ | (with_reducible refine wpAny_isSubtype_exc hC₁ ?_; rw [hcC]) | wp_step)
  show wpAny _ _ (typeLookup (.ref C) _) _ _ _
  refine i1.at ?_
  refine wpAny_holding (wpAny_bind (b1.at ?_))
  refine wpAny_bind (wpAny_call (codeAny_mono hq fun r s' z => ?_))
  rcases r with e | (v | _ | _ | _) <;> first | exact z | exact z.elim | skip
  obtain ⟨rfl, z⟩ := z
  first
    | exact wpAny_pure (wpAny_pure z)
    | (wp_walk; exact z)
theorem call_ke {rest : List Value} {fI : Addr}
    (hC : h.get? C = some (excClassObj nm q C N bs keTail hdct sn sub ab col dd k0 k1 k2 k3 k5 "LookupError.__new__"))
    (hi : W.Looks (model prog w) h (typeLookup (.ref C) "__init__") (some (.ref fI))) (hb : ∀ self, W.Looks (model prog w) h (bindSpecial (.ref fI) self) (.ref fI, [self])) (hrest : rest.length ≤ sizeLine)
    (hq : codeAny (model prog w) (A.under (.builtin "type.__call__" ⟨.ref C :: rest, []⟩)) (.call (.ref fI) ⟨.ref (h.objs.size + 1) :: rest, []⟩) (W.InitBack (h.objs.size + 1) R)
      ⟨(h.push (W.kdv_tup rest)).push (excO C h.objs.size), g, d, t, os⟩) :
    codeAny (model prog w) A (.call (.ref C) ⟨rest, []⟩) R ⟨h, g, d, t, os⟩ := by
  have f1 := tc_lookup
  have f2 := tc_bind (.ref C)
  have hTy : (⟨h, g, d, t, os⟩ : Shared).TypeIs (.ref C) "type" := ⟨_, hC, rfl⟩
  refine codeAny_of_tree ?_
  show wpAny _ _ (callAny (.ref C) _) _ _ _
  repeat (any_goals (first | assumption | with_reducible refine wpAny_loadPart_at hC ?_ | wp_step))
  refine ⟨rfl, ?_⟩
  refine codeAny_call_builtin_at (Code.quiet_builtin _ (by decide +kernel)) entry_typeCall (wpAny_check_type_call_sub hC (type_call_ke hC hi hb hrest ?_))
  refine codeAny_mono hq fun r s' z => ?_
  rcases r with e | (v | _ | _ | _) <;> exact z
end
/-! ### self.name = v, the first -/
section
variable {prog : Program} {w : World} {A : Around} {E : Value → Shared → Prop} {R : Result → Shared → Prop} {hp : Heap} {g : Array GenState} {d : Drawn} {t : Nat} {os : OsState}
theorem osa_ke {K : W.Frag} {name : Str} {tk : Tok} {v : Value} {x C : Addr} {fv : Array Value} {cd : ClassData}
    (X : K.In hp) (hx : hp.get? x = some { cls := .ref C, data := .fields fv }) (hcd : W.clsIn K C = some cd) (hm : cd.mro = .ref C :: keTail) (hh : cd.hasDict = true) (ha : W.findIn K (.ref C) name = some none)
    (hq : ∀ h' tk' dx, (∀ b o, b ≠ x → hp.get? b = some o → h'.get? b = some o) → hp.objs.size ≤ dx → dx ≠ x → h'.get? x = some { cls := .ref C, dict := some dx, data := .fields fv } →
      h'.Ns1 dx (fun y => if y = name then some v else none) → R (.ok (.ret .none)) ⟨h', g, d, tk', os⟩) :
    codeAny (model prog w) A (.call (.builtin "object.__setattr__") ⟨[.ref x, .str name tk, v], []⟩) R ⟨hp, g, d, t, os⟩ := by
  have I : W.InstAt hp x { cls := .ref C, data := .fields fv } C none := ⟨hx, rfl, rfl, trivial⟩
  have hxs : x ≠ hp.objs.size := Nat.ne_of_lt (Heap.lt_size hx)
  have SF := F.store_object
  have hob : W.mroIn K C (.type "object") = some true := by
    unfold W.mroIn
    rw [hcd, Option.bind_some, hm, if_neg (show ¬ (List.isEmpty (Value.ref C :: keTail) = true) from Bool.false_ne_true), List.contains_cons, show keTail.contains (.type "object") = true by decide +kernel, Bool.or_true]
  have sub : W.Looks (model prog w) hp (isInstance (.ref x) (.type "object")) true := I.type.andThen (W.looks_mroIn X hob)
  refine codeAny_call_builtin SF.slot.plain SF.entry (@W.check_slot (model prog w) _ _ ⟨hp, g, d, t, os⟩ "object.__setattr__" "object" "__setattr__" (.ref x) [.str name tk, v] [] _ SF.kind SF.split sub (SF.args (.ref x) (.str name tk) v) ?_)
  have hmr : W.Looks (model prog w) hp (mroOf (.ref C)) cd.mro := (W.looks_clsIn X hcd).andThen .now
  have L3 : W.Looks (model prog w) hp (storeTaker? none) none := .now
  have hpass : refuseLoop (.ref x) "__setattr__" cd.mro = pure () := by
    rw [hm, refuseLoop_ref]
    exact store_KeyError.passes _
  have hcls : W.Looks (model prog w) hp (classData C) cd := W.looks_clsIn X hcd
  rw [W.osa_eq, refuse_eq]
  refine wpAny_bind (wpAny_bind (I.type.at (wpAny_bind (hmr.at ?_))))
  rw [hpass]
  refine wpAny_pure (wpAny_bind (I.type.at (wpAny_bind ((W.looks_findIn X ha).at (wpAny_bind (L3.at ?_))))))
  show wpAny _ _ (storeInOwnDict (.ref x) (.ref C) (.str name tk) name v false) _ _ _
  obtain ⟨nm, bs, mro, ns, qn, hd, sn, sb, ab, col, del⟩ := cd
  dsimp only at hh
  subst hh
  unfold storeInOwnDict ownDictForStores
  repeat (first | with_reducible refine store_in_new ?_ ?_ | with_reducible refine wpAny_loadPart_at hx ?_ | with_reducible refine hcls.at ?_ | wp_step)
  · exact ⟨_, #[], _, (Heap.get?_update_ne _ _ _ _ hxs.symm).trans (Heap.get?_push_at rfl rfl), rfl, fun e he => absurd he (by simp), fun _ => rfl⟩
  · intro h' tk' hn' hs
    have hx₁ : (hp.push { cls := .type "dict", data := .dict #[] }).get? x = some { cls := .ref C, data := .fields fv } := Heap.get?_push_of_some _ hx
    refine hq h' tk' hp.objs.size (fun b o hb ho => ?_) (Nat.le_refl _) hxs.symm ?_ hn'
    · exact (hs.2 b (Nat.ne_of_lt (Heap.lt_size ho))).trans ((Heap.get?_update_ne _ _ _ _ hb).trans (Heap.get?_push_of_some _ ho))
    · exact (hs.2 x hxs).trans (Heap.get?_update_self _ hx₁ rfl)
end
end NnX
end PySem

set_option Elab.async false
set_option linter.all false
set_option maxRecDepth 100000
set_option maxHeartbeats 4000000
/-! NoName, made and raised. -/
namespace PySem
namespace NnX
open PySem.W PySem.Calls PyProof.Rows PySem.HandSPX
def iA : Arguments := { posonlyargs := [], args := [{ arg := "self", annotation := none, pos := ⟨11, 17, 11, 21⟩ }, { arg := "name", annotation := none, pos := ⟨11, 23, 11, 27⟩ }], vararg := none, kwonlyargs := [], kw_defaults := [], kwarg := none, defaults := [] }
def iB : List Stmt := [.Expr (.Call (.Attribute (.Call (.Name "super" ⟨12, 8, 12, 13⟩) [] [] ⟨12, 8, 12, 15⟩) "__init__" ⟨12, 8, 12, 24⟩) [.Constant (.str "no such name") 0 ⟨12, 25, 12, 39⟩] [] ⟨12, 8, 12, 40⟩) ⟨12, 8, 12, 40⟩, .Assign [.Attribute (.Name "self" ⟨13, 8, 13, 12⟩) "name" ⟨13, 8, 13, 17⟩] (.Name "name" ⟨13, 20, 13, 24⟩) ⟨13, 8, 13, 24⟩]
def iS : Scope := { kind := .function, names := [(PySem.Str.ofString "self", .local), (PySem.Str.ofString "name", .local), (PySem.Str.ofString "__class__", .free), (PySem.Str.ofString "super", .globalImplicit)], isGenerator := false, isCoroutine := false, more := [] }
/-- what the written part says of NoName, at C, and of its __init__, at fI -/
structure NnTxt (prog : Program) (K : Frag) (mg : Str → Option Value) (C fI : Addr) : Prop where
  gC : mg "NoName" = some (.ref C)
  mS : mg "super" = none
  cls : ∃ nm q N bs sn sub ab col dd k0 k1 k2 k3 k5, K.lookup C = some (excClassObj nm q C N bs keTail true sn sub ab col dd k0 k1 k2 k3 k5 "LookupError.__new__")
  sa : findIn K (.ref C) "__setattr__" = some (some (.builtin "object.__setattr__"))
  xf : L2.XfC K C
  noN : findIn K (.ref C) "name" = some none
  iC : findIn K (.ref C) "__init__" = some (some (.ref fI))
  tC : typeIn K (.ref fI) = some (.type "function")
  kC : keepIn K (.ref C) = true
  tyC : typeIn K (.ref C) = some (.type "type")
  te : exmOne K (.ref C) (.ref C) = some true
  opq : nsIn K cStatics "thirdparty.any" = some none
  fn : ∃ (oc : Value) (od : Option Addr) (doc pm : Value) (an : Option Addr) (ct : Value) (osl : Array (Option Value)) (cda cc : Addr) (ccl : Value) (cdd : Option Addr) (ccs : Array (Option Value)) (cl : Value) (cld : Option Addr) (csl : Array (Option Value)) (vs : Array Value) (file : Str) (tf : Tok),
    K.lookup fI = some ⟨oc, od, .func (ksFn "__init__" "NoName.__init__" iA iB iS .none .none doc pm an (.ref cda) ct cc), osl⟩ ∧ codeIn K (.ref cda) "NoName.__init__" = true ∧
    K.lookup cda = some ⟨ccl, cdd, .fields vs, ccs⟩ ∧ vs[2]? = some (.str file tf) ∧ ((prog.main.file : Str) == file) = true ∧ K.lookup cc = some ⟨cl, cld, .cell (some (.ref C)), csl⟩
  sup : (prog.main.scope.names.lookup ("super" : Str)).isSome = false
theorem one_size (v : Value) : [v].length ≤ sizeLine := by
  rw [sizeLine_eq]
  exact (by decide : 1 ≤ 16777216)
theorem kept_but {K : Frag} {h h' : Heap} {x : Addr} (X : K.In h) (hx : K.lookup x = none) (k : ∀ b o, b ≠ x → h.get? b = some o → h'.get? b = some o) : K.In h' := fun a o e =>
  k a o (fun z => by rw [z, hx] at e; cases e) (X a o e)
theorem ldE {M : Model} {A : Around} {E : Value → Shared → Prop} {s : Shared} {env : Env} {m : Str → Option Value} {x : Str} {pos : Pos} {v : Value} {Q : Value → Shared → Prop} (hn : s.heap.Ns env.locals m) (hv : m x = some v) (h : Q v s)
    (hk : env.scope.kind = .function) (hl : env.kindOf x = some .local) (hd : (x == ("__debug__" : Str)) = false) : wpAny M A (eval (.Name x pos) env) Q E s := wpAny_Name (wpAny_loadName_local hk hl hn hv h) hd
/-- what __init__ leaves of a fresh exception at x -/
structure InitEnd (h h' : Heap) (x C dx t1 : Addr) (v : Value) : Prop where
  keep : ∀ b o, b ≠ x → h.get? b = some o → h'.get? b = some o
  obj : h'.get? x = some { cls := .ref C, dict := some dx, data := .fields #[.ref t1, .none, .none, .none, .bool false, .none] }
  dbig : h.objs.size ≤ dx
  dne : dx ≠ x
  ns : h'.Ns1 dx (fun y => if y = "name" then some v else none)
/-- a made NoName -/
structure OwnMade (h h' : Heap) (e C d : Addr) (v : Value) : Prop where
  keep : ∀ b o, h.get? b = some o → h'.get? b = some o
  new : h.objs.size ≤ e
  obj : ∃ oe vs, h'.get? e = some oe ∧ oe.cls = .ref C ∧ oe.dict = some d ∧ oe.data = .fields vs ∧ vs[1]? = some .none
  dbig : h.objs.size ≤ d
  dne : d ≠ e
  ns : h'.Ns1 d (fun y => if y = "name" then some v else none)
section
variable {prog : Program} {w : World} {A : Around} {E : Value → Shared → Prop} {R : Result → Shared → Prop} {s : Shared} {K : Frag} {mg : Str → Option Value} {C fI : Addr}
theorem nn_init (T : NnTxt prog K mg C fI) {x t0 : Addr} {v : Value} (X : K.In s.heap) (hlim : s.heap.NoLimit) (hG : s.heap.Ns mainGlobals mg) (hB : ∃ mb, s.heap.Ns builtinsNs mb ∧ ∀ x : Str, x ≠ "__name__" → mb x = bootBuiltins x)
    (hx : s.heap.get? x = some (excO C t0)) (hnx : K.lookup x = none) (hroom : A.depth < recursionLimit)
    (hq : ∀ h' tk dx t1, InitEnd s.heap h' x C dx t1 v → R (.ok (.ret .none)) { s with heap := h', toks := tk }) :
    codeAny (model prog w) A (.call (.ref fI) ⟨[.ref x, v], []⟩) R s := by
  obtain ⟨oc, od, doc, pm, an, ct, osl, cda, cc, ccl, cdd, ccs, cl, cld, csl, vs, file, tf, ho, hcd, hcda, hvs, hfile, hcc⟩ := T.fn
  obtain ⟨nm, q, N, bs, sn, sub, ab, col, dd, k0, k1, k2, k3, k5, hC⟩ := T.cls
  obtain ⟨mb, hB1, hB2⟩ := hB
  have hcl : clsIn K C = some { name := nm, bases := bs, mro := .ref C :: keTail, ns := N, qualname := q, hasDict := true, slotNames := sn, subclasses := sub, abstract := ab, collection := col, hasDel := false } := by unfold clsIn; rw [hC] <;> rfl
  refine ks_codeAny_call_defAt (binds := [("self", .ref x), ("name", v)]) hroom (X _ _ ho) rfl hlim (codeRec_of X hcd) rfl (BindsTo.of_eq (by first | rfl | with_unfolding_all rfl)) (by show ∀ y ∈ iS.names, y.2 ≠ NameKind.cell; decide) (fun y hy => by have hy : y ∈ ([("self", .ref x), ("name", v)] : List (Str × Value)) := hy; simp only [List.mem_cons, List.not_mem_nil, or_false] at hy; rcases hy with rfl | rfl <;> rfl) (fun h₁ hns k => ?_) rfl rfl rfl
  have X₁ : K.In h₁ := X.keeps k
  have hx₁ := k _ _ hx
  have hxL : s.heap.objs.size ≠ x := Nat.ne_of_gt (Heap.lt_size hx)
  have hCx : x ≠ C := fun z => by rw [z, hC] at hnx; cases hnx
  refine ks_wpAt_execs_cons (ks_wpAt_Expr_any (ks_wpAt_MethodCall ?_))
  refine ks_wpAt_super_base (f := fI) (cc := cda) rfl rfl (by decide) rfl (k _ _ (X _ _ ho)) rfl rfl rfl (X₁ _ _ hcda) rfl hvs hfile T.sup ?_
  refine ks_loadName_global rfl rfl (loadGlobal_builtin (hG.keeps k) T.mS (hB1.keeps k) ((hB2 _ (by decide)).trans (by first | rfl | kernel_rfl)) ⟨rfl, ?_⟩)
  refine wpAny_loadName_free rfl rfl rfl ⟨_, X₁ _ _ hcc, rfl⟩ ?_
  refine wpAny_loadName_local rfl rfl hns (v := .ref x) rfl ?_
  refine ks_wpAny_isType_cls (X₁ _ _ hC) rfl ⟨rfl, ?_⟩
  have hmro : mroIn K C (.ref C) = some true := by
    unfold mroIn
    rw [hcl, Option.bind_some, if_neg (show ¬ (List.isEmpty (Value.ref C :: keTail) = true) from Bool.false_ne_true)]
    simp
  have hmroK : mroIn K C (.type "KeyError") = some true := by
    unfold mroIn
    rw [hcl, Option.bind_some, if_neg (show ¬ (List.isEmpty (Value.ref C :: keTail) = true) from Bool.false_ne_true), List.contains_cons, show keTail.contains (.type "KeyError") = true by decide +kernel, Bool.or_true]
  refine ks_wpAny_call_super (X₁ _ _ hC) rfl hx₁ rfl (fun c e => by cases e) (looks_mroIn X₁ hmro) (fun h₂ e₂ k₂ => ?_)
  have X₂ : K.In h₂ := X₁.keeps k₂
  have hx₂ := k₂ _ _ hx₁
  have I₂ : InstAt h₂ x (excO C t0) C none := ⟨hx₂, rfl, rfl, trivial⟩
  refine kxs_getMethod kxs_KeyError e₂ (looks_opaque X₂ T.opq) (l₀ := .ref C :: keTail) (fun A Q E s k q => wpAny_bind ((looks_clsIn X₂ hcl) A _ E s k (wpAny_pure q))) (PySem.ESX.drop_own C keTail) X₂ (along_ke K) (I₂.type.andThen (looks_mroIn X₂ hmroK)) hCx (by decide) ?_
  refine kxs_callWith (i := "KeyError.__init__") (x := x) rfl (evalArgs_plain ?_)
  show wpAny _ _ (spliced ((false, eval (.Constant (.str "no such name") 0 ⟨12, 25, 12, 39⟩) _) :: [])) _ _ _
  refine Calls.spliced_cons (Calls.Constant_str (Calls.spliced_nil ?_))
  have k₃ : ∀ b o, h₂.get? b = some o → (h₂.push (kxs_mw "KeyError.__init__" x)).get? b = some o := fun b o e => Heap.get?_push_of_some _ e
  refine ⟨Heap.get?_push_size _ rfl, ?_⟩
  refine call_kw (k₃ _ _ (X₂ _ _ hC)) (k₃ _ _ hx₂) (Heap.get?_push_size _ rfl) (by rw [sizeLine_eq]; exact (by decide : 1 ≤ 16777216)) (fun h₄ t1 k₄ hx₄ => ?_)
  have kk : ∀ b o, b ≠ x → h₁.get? b = some o → h₄.get? b = some o := fun b o hb e => k₄ b o hb (k₃ b o (k₂ b o e))
  have X₄ : K.In h₄ := kept_but (X₂.keeps k₃) hnx k₄
  have hn₄ : h₄.Ns s.heap.objs.size (fun y => ([("self", Value.ref x), ("name", v)] : List (Str × Value)).reverse.lookup y) := by
    obtain ⟨oL, es, ep, hL, r⟩ := hns
    exact ⟨oL, es, ep, kk _ _ hxL hL, r⟩
  show _root_.PySem.wpAt _ _ _ (execs _ _) _ _ _
  refine wpAt_of_wpAny ?_
  refine wpAny_execs_cons (plainObj_wpAny_Assign_Attribute ?_)
  refine ldE (v := v) hn₄ (by first | rfl | with_unfolding_all rfl | kernel_rfl) (ldE (v := .ref x) hn₄ (by first | rfl | with_unfolding_all rfl | kernel_rfl) ?_ rfl rfl (by decide)) rfl rfl (by decide)
  refine set_plain X₄ (ox := excO C t1) (od := none) ⟨hx₄, rfl, rfl, trivial⟩ T.sa ?_
  refine osa_ke X₄ hx₄ hcl rfl rfl T.noN (fun h₅ tk₅ dx k₅ dn dne hx₅ hn₅ => ?_)
  show wpAny _ _ (execs _ _) _ _ _
  have z : s.heap.objs.size < h₄.objs.size := hn₄.lt
  exact wpAny_execs_nil (hq h₅ tk₅ dx t1 ⟨fun b o hb e => k₅ b o hb (kk b o hb (k b o e)), hx₅, Nat.le_of_lt (Nat.lt_of_lt_of_le z dn), dne, hn₅⟩)
theorem nn_made (T : NnTxt prog K mg C fI) {v : Value} (X : K.In s.heap) (hlim : s.heap.NoLimit) (hG : s.heap.Ns mainGlobals mg) (hB : ∃ mb, s.heap.Ns builtinsNs mb ∧ ∀ x : Str, x ≠ "__name__" → mb x = bootBuiltins x) (hroom : A.depth + 1 < recursionLimit)
    (hq : ∀ h' tk e d, OwnMade s.heap h' e C d v → R (.ok (.ret (.ref e))) { s with heap := h', toks := tk }) :
    codeAny (model prog w) A (.call (.ref C) ⟨[v], []⟩) R s := by
  obtain ⟨nm, q, N, bs, sn, sub, ab, col, dd, k0, k1, k2, k3, k5, hC⟩ := T.cls
  obtain ⟨hp, g, dr, tk, os⟩ := s
  have k : ∀ b o, hp.get? b = some o → ((hp.push (kdv_tup [v])).push (excO C hp.objs.size)).get? b = some o := fun b o e => Heap.get?_push_of_some _ (Heap.get?_push_of_some _ e)
  have hget : ((hp.push (kdv_tup [v])).push (excO C hp.objs.size)).get? (hp.objs.size + 1) = some (excO C hp.objs.size) := by heap_get
  have hnx : K.lookup (hp.objs.size + 1) = none := by
    cases e : K.lookup (hp.objs.size + 1) with
    | none => rfl
    | some o =>
      have z : hp.get? (hp.objs.size + 1) = some o := X _ _ e
      exact absurd (Nat.lt_of_succ_lt (Heap.lt_size z)) (Nat.lt_irrefl _)
  obtain ⟨mb, hB1, hB2⟩ := hB
  refine call_ke (X _ _ hC) (looks_findIn X T.iC) (fun self => bind_fn X self T.tC) (one_size v) ?_
  refine nn_init (s := ⟨(hp.push (kdv_tup [v])).push (excO C hp.objs.size), g, dr, tk, os⟩) T (X.keeps k) (hlim.keeps k) (hG.keeps k) ⟨mb, hB1.keeps k, hB2⟩ hget hnx ?_ fun h' tk' dx t1 ⟨k', hx, dn, dne, hns⟩ => ?_
  · show A.depth + 1 < recursionLimit
    exact hroom
  · have old : ∀ b o, hp.get? b = some o → h'.get? b = some o := fun b o e => k' b o (Nat.ne_of_lt (Nat.lt_succ_of_lt (Heap.lt_size e))) (k b o e)
    have z : hp.objs.size + 1 + 1 ≤ dx := by
      first
        | (simpa only [Heap.size_push] using dn)
        | exact dn
        | (have q := dn; rw [Heap.size_push, Heap.size_push] at q; exact q)
    exact ⟨rfl, hq h' tk' (hp.objs.size + 1) dx ⟨old, Nat.le_succ _, ⟨_, _, hx, rfl, rfl, rfl, rfl⟩, Nat.le_trans (Nat.le_trans (Nat.le_succ _) (Nat.le_succ _)) z, dne, hns⟩⟩
end
end NnX
end PySem
namespace L2
open PySem PySem.Spec PyProof.Rows
theorem relO_nn {v : V} {v' : Value} (r : RelV v v') (f : Str) : RelO (List.lookup f [(("name" : Str), v)]) (if f = "name" then some v' else none) := by
  by_cases hw : f = "name"
  · subst hw
    rw [if_pos rfl]
    have q : List.lookup ("name" : Str) [(("name" : Str), v)] = some v := by simp [List.lookup]
    rw [q]
    exact r
  · rw [if_neg hw]
    have qw : (f == ("name" : Str)) = false := by simpa using hw
    have q2 : List.lookup f [(("name" : Str), v)] = none := by simp [List.lookup, qw]
    rw [q2]
    trivial
section
variable {X : Cx} {C fI : Addr}
/-- NoName(e) -/
def tMkNn (C : Addr) (ta : TA) : St → Hp → XK → Prop := fun σ H Q => ta σ H fun vs H1 => ∃ v, vs = [v] ∧ ∀ d, H1 d = none → Q (.ref C) (some d) (upd H1 d (.xd [(("name" : Str), v)]))
theorem pmk_nn {a : Expr} {ta : TA} {p pos : Pos} {k : Nat} (T : PySem.NnX.NnTxt X.prog X.K X.mg C fI) (hr : Room k X.A) (ha : PA X [a] ta) (hg : Gl X "NoName" := by rfl)
    (he : starEach (a :: []) X.env = (false, eval a X.env) :: starEach [] X.env := by rfl) (hpl : (backTo pos (starEach [] X.env)).any (·.1) = false := by rfl) :
    PMk X (.Call (.Name "NoName" p) [a] [] pos) (tMkNn C ta) := by
  intro pins s σ H Q I h
  refine wpAny_Call_Name_kw (ld_glob I hg T.gC ?_)
  refine PySem.W.callWith_K (h₀ := X.base) I.ok.mod.kin T.kC (thn (ha.run pos pins s σ H _ I h) fun us s1 hh => ?_) he hpl
  obtain ⟨vs, H1, I1, r1, v, ev, q1⟩ := hh
  subst ev
  refine ⟨I1.kIn, ?_⟩
  cases r1 with
  | cons rv rn =>
    rename_i v' us'
    cases rn
    show wpAny _ _ (call (.ref C) [v']) _ _ _
    have hlim := I1.nolimit
    have hG := I1.mod.glob.keeps I1.bk
    have hB : ∃ mb, s1.heap.Ns builtinsNs mb ∧ ∀ x : Str, x ≠ "__name__" → mb x = bootBuiltins x := by
      obtain ⟨mb, h1, h2⟩ := I1.mod.blt
      exact ⟨mb, h1.keeps I1.bk, h2⟩
    obtain ⟨hp, g, dr, tk, os⟩ := s1
    refine wpAny_call (PySem.NnX.nn_made T I1.kIn hlim hG hB (by have := hr.dp; omega) fun h' tk' e d M => ?_)
    show MkP X pins σ Q (.ref e) ⟨h', g, dr, tk', os⟩
    obtain ⟨oe, fv, hoe, hc, hd, hdat, h1⟩ := M.obj
    have hns := M.ns
    obtain ⟨G', g1, g2⟩ := restrict h' fun b => decide (b ≠ e)
    have gk : ∀ b, b ≠ e → G'.get? b = h'.get? b := fun b hb => g1 b (decide_eq_true hb)
    have ge : G'.get? e = none := g2 e (by simp)
    have old : ∀ b o, hp.get? b = some o → G'.get? b = some o := fun b o q => (gk b (Nat.ne_of_lt (Nat.lt_of_lt_of_le (Heap.lt_size q) M.new))).trans (M.keep b o q)
    have ob : ObjOk X.prog X.w (upd H1 d (.xd [(("name" : Str), v)])) G' d (.xd [(("name" : Str), v)]) :=
      ⟨_, hns.at (fun o q => (gk d M.dne).trans q), fun f => relO_nn rv f⟩
    have J : Inv X pins σ (upd H1 d (.xd [(("name" : Str), v)])) ⟨G', g, dr, tk', os⟩ := I1.laid (t' := tk') old M.dbig ob
    refine ⟨e, oe, fv, ⟨G', g, dr, tk', os⟩, _, .ref C, some d, rfl, J, fun b o q => ?_, ge, hoe, ⟨hc, hd⟩, hdat, h1, ?_, rfl, I1.bare, raises_own T.xf.exC T.tyC, q1 d (I1.hok.fresh M.dbig)⟩
    · by_cases hb : b = e
      · have q' : G'.get? b = some o := q
        rw [hb, ge] at q'; cases q'
      · exact (gk b hb).symm.trans q
    · rw [upd_ne (Ne.symm M.dne)]
      exact I1.hok.fresh M.new
/-- raise NoName(e) -/
def tRaiseNn (C : Addr) (W : WX) (ta : TA) : TS := fun _ σ H => tMkNn C ta σ H fun cls d H' => W cls d σ H'
theorem ps_raiseNn {a : Expr} {ta : TA} {W : WX} {p pos pos2 : Pos} {k : Nat} (hc : X.calm = true) (T : PySem.NnX.NnTxt X.prog X.K X.mg C fI) (hr : Room k X.A) (tk : Takes X W) (ha : PA X [a] ta) (hg : Gl X "NoName" := by rfl)
    (he : starEach (a :: []) X.env = (false, eval a X.env) :: starEach [] X.env := by rfl) (hpl : (backTo pos (starEach [] X.env)).any (·.1) = false := by rfl) :
    PS X (.Raise (some (.Call (.Name "NoName" p) [a] [] pos)) none pos2) (tRaiseNn C W ta) := ps_raise hc tk (pmk_nn T hr ha hg he hpl)
end
end L2

set_option Elab.async false
set_option linter.all false
set_option maxRecDepth 100000
set_option maxHeartbeats 4000000
/-! need_note and bare_waits where they raise; the law's _law_none. -/
namespace KB
open PySem PySem.Spec PyProof.Rows L2
section
variable {P : Program} {w : World} {K : PySem.W.Frag} {mg : Str → Option Value} {base : Heap} {C CN fN : Addr}
/-- refused: an error of the class at CN, whose own dict tells the name -/
def spNo (K : PySem.W.Frag) (C CN : Addr) : Sp := fun vs H Q E => ∃ (p : Pac) (x : Str) (G : Hp), Same G H ∧ Alls [PactAt K C p, D K (.str x)] vs G ∧ Val p ∧ x ∉ nms p.notes ∧
  ∀ d G2 H2, Grow G H G2 H2 → H2 d = some (.xd [(("name" : Str), V.str x)]) → E (.ref CN) (some d) H2
theorem ok_need_noteX {f : Addr} {fd : FuncData} (F : Fun K "need_note" "need_note" s_need_note f fd) (c : CTxt K C) (TN : PySem.NnX.NnTxt P K mg CN fN) : FnOk P w K mg base (L2.CX P w) 3 f fd ["pact", "note"] (spNo K C CN) := by
  refine F.okX sc_need_note (fun vs H Q E h => ?_) (fun cdv A outer s H vs Q E hr h => ?_)
  · obtain ⟨p, x, G, hs, ⟨v1, _, rfl, h1, v2, _, rfl, h2, rfl⟩, _⟩ := h; rfl
  · obtain ⟨p, x, G, hs, ⟨v1, _, rfl, h1, v2, _, rfl, h2, rfl⟩, hv, hx, k⟩ := h
    replace h1 : PactAt K C p v1 G := h1
    replace h2 : Dp K G v2 (.str x) := h2
    have nd := sc_need_note.nd
    have hu := hu_of hr
    refine ⟨_, pss_one (ps_if (pt_cmp (pc_dnotin hu (pv 1) (kFld K (pv 0))))
      (pss_one (ps_raiseNn rfl TN hr (takes_of (E := E) rfl rfl rfl rfl) (pa_cons (pv 1) pa_nil)))
      (pss_nil)), ?_⟩
    refine s_if hs (et_B (ed_noplace c (e_var rfl h1) (e_var rfl h2))) (fun _ G2 H2 g2 => ?_) (fun z => by simp [hx] at z)
    cases d_str h2
    exact ⟨_, rfl, _, rfl, fun d hd => k d (upd G2 d (.xd [(("name" : Str), V.str x)])) _ (g2.trans (Grow.new g2.sub hd)) upd_same⟩
theorem ok_bare_waitsX {f : Addr} {fd : FuncData} (F : Fun K "bare_waits" "bare_waits" s_bare_waits f fd) (c : CTxt K C) (cN : Cal P w K mg base (L2.CX P w) 3 "need_note" ["pact", "note"] (spNo K C CN)) : FnOk P w K mg base (L2.CX P w) 4 f fd ["pact", "note"] (spNo K C CN) := by
  refine F.okX sc_bare_waits (fun vs H Q E h => ?_) (fun cdv A outer s H vs Q E hr h => ?_)
  · obtain ⟨p, x, G, hs, ⟨v1, _, rfl, h1, v2, _, rfl, h2, rfl⟩, _⟩ := h; rfl
  · obtain ⟨p, x, G, hs, ⟨v1, _, rfl, h1, v2, _, rfl, h2, rfl⟩, hv, hx, k⟩ := h
    replace h1 : PactAt K C p v1 G := h1
    replace h2 : Dp K G v2 (.str x) := h2
    refine ⟨_, pss_cons (ps_expr (pe_cal cN (hr.mono (by decide)) (by rfl) (passes_call (takes_of (E := E) rfl rfl rfl rfl) fun _ _ _ _ h => h) (pa_cons (pv 0) (pa_cons (pv 1) pa_nil)))) pss_never, ?_⟩
    have ev : EvA (tCons (tVar 0) (tCons (tVar 1) tNil)) (start N_bare_waits [v1, v2]) G [PactAt K C p, D K (.str x)] := ea_cons (e_var rfl h1) (ea_cons (e_var rfl h2) ea_nil)
    show tCons (tVar 0) (tCons (tVar 1) tNil) (start N_bare_waits [v1, v2]) H (fun vs H1 => spNo K C CN (vs ++ []) H1 _ E)
    exact ev G H (.refl _) hs _ fun vs G1 H1 g1 rs => ⟨p, x, G1, g1.sub, by rw [List.append_nil]; exact rs, hv, hx, fun d G2 H2 g2 hd => k d G2 H2 (g1.trans g2) hd⟩
end
/-! ### _law_none -/
open LamX in
/-- what _law_none makes of the lambda's reading -/
def TTn (K : PySem.W.Frag) (CS : Addr) : (XK → Hp → VK → Prop) → Hp → VK → Prop := fun tl H Q =>
  tl (fun cls d H' => ∃ b, PySem.W.exmOne K cls (.ref CS) = some b ∧ (b = true → cls = .ref CS ∧ ∃ (dd : Addr) (fs : List (Str × V)) (v : V), d = some dd ∧ H' dd = some (.xd fs) ∧ fs.lookup ("name" : Str) = some v ∧ Q v H') ∧ (b = false → False)) H (fun _ H' => Q .non H')
open LamX in
theorem none_gives {X : Cx} {q : Str} {sg : Scope} {g CS : Addr} {cdg : Value} {j : Nat} {x : Str} {p1 p2 p3 p4 p5 p6 p7 p8 p9 p10 p11 : Pos} (TX : XfC X.K CS) (hno : PySem.W.findIn X.K (.ref CS) "name" = some none) (hme : X.mg "NoName" = some (.ref CS))
    (hge : sg.names.lookup ("NoName" : Str) = some .globalImplicit) (hw : sg.names.lookup ("wrong" : Str) = some .local) :
    GivesTo X ["_law_work", "wrong"] x sg g cdg [.Try [.Expr (.Call (.Name "_law_work" p1) [] [] p2) p3] [.ExceptHandler (some (.Name "NoName" p4)) (some "wrong") [.Return (some (.Attribute (.Name "wrong" p5) "name" p6)) p7] p8] [] [] p9, .Return (some (.Constant .none j p10)) p11] "_law_work" q (TTn X.K CS) := by
  intro f c' s H Q tl act hc h
  have hgl : Gl (cxOf C8.CX0 X.prog X.w X.K X.mg X.base ["_law_work", "wrong"] x sg g cdg X.A X.stack s H C8.E0).nox "NoName" := hge
  have hvw : Vis sg "wrong" := .inl hw
  have nd : (["_law_work", "wrong"] : List Str).Nodup := by decide
  refine ⟨_, pss_cons (ps_try_as (X := (cxOf C8.CX0 X.prog X.w X.K X.mg X.base ["_law_work", "wrong"] x sg g cdg X.A X.stack s H C8.E0).nox) (c := .ref CS) (i := 1) (n := "wrong")
      (tb := fun W D σ H => ∃ Ech : XK, (∀ cls d σ' H', Ech cls d H' → σ'.length = 2 → W cls d σ' H') ∧ σ[0]? = some (some (.ref f)) ∧ H c' = some (CodeO c' q) ∧ tl Ech H (fun _ H' => D.nx σ H'))
      (ts := fun a cls d => tRet (tXf a cls d CS "name" (tVar 1)))
      rfl rfl nd rfl hw ⟨hgl, by decide, .inl hme⟩ LamX.takes0 (fun W pn xe tk _ => ?_) (fun a oe cls d pn hz hf => pss_one (ps_ret (pe_xf TX hno hz hf (pe_var (i := 1) rfl hvw (by decide) (by decide)))))) (pss_one (ps_ret pe_non)), ?_⟩
  · refine ⟨fun pins s' σ H' D I h' => ?_⟩
    obtain ⟨Ech, hW, h1, h2, h3⟩ := h'
    have tk2 : Takes ((cxOf C8.CX0 X.prog X.w X.K X.mg X.base ["_law_work", "wrong"] x sg g cdg X.A X.stack s H C8.E0).tr pn xe) (fun cls d σ' H' => σ'.length = 2 → W cls d σ' H') := fun u s' ⟨a, B, sI, pins, σ, H, cls, d, e, I, nb, up, sky, na, os, ag, w⟩ =>
      tk u s' ⟨a, B, sI, pins, σ, H, cls, d, e, I, nb, up, sky, na, os, ag, w I.len⟩
    have hp := act _ pn xe Ech p1 p2 tk2 hW
    have hq := pss_one (ps_expr (pos := p3) hp)
    exact hq.run pins s' σ H' D I ⟨h1, h2, h3⟩
  · refine ⟨fun cls d H' => ∃ b, PySem.W.exmOne X.K cls (.ref CS) = some b ∧ (b = true → cls = .ref CS ∧ ∃ (dd : Addr) (fs : List (Str × V)) (v : V), d = some dd ∧ H' dd = some (.xd fs) ∧ fs.lookup ("name" : Str) = some v ∧ Q v H') ∧ (b = false → False),
      fun cls d σ' H' ⟨b, e1, e2, e3⟩ hl => ⟨b, e1, fun hb a _ => ?_, fun hb => (e3 hb).elim⟩, rfl, hc, h⟩
    obtain ⟨ec, dd, fs, v, ed, ea, el, hq⟩ := e2 hb
    match σ', hl with
    | [_, _], _ => exact ⟨.ref a, rfl, rfl, ec, dd, fs, v, ed, ea, el, hq⟩
end KB

set_option Elab.async false
set_option linter.all false
set_option maxRecDepth 100000
set_option maxHeartbeats 4000000
/-! Keyword calls; the lambda of the law. -/
namespace KB
open PySem PySem.Spec PyProof.Rows L2
/-! ### f(k = v, ..): only keywords, in the parameters' order backwards -/
structure CalK (P : Program) (w : World) (K : PySem.W.Frag) (mg : Str → Option Value) (base : Heap) (k : Nat) (x : Str) (ps ks : List Str) (sp : Sp) : Prop where
  ex : ∃ (f : Addr) (fd : FuncData), FnOk P w K mg base CX0 k f fd ps sp ∧ mg x = some (.ref f) ∧ PySem.W.keepIn K (.ref f) = true ∧ ∀ (s : Shared) (ws : List Value), K.In s.heap → ws.length = ps.length → BindsTo s fd ⟨[], ks.zip ws⟩ (ps.zip ws.reverse)
def tCallK0 (sp : Sp) (tk : TA) : TE := fun σ H Q => tk σ H fun zs H2 => sp zs.reverse H2 Q E0
section
variable {X : Cx} {k : Nat} {x : Str} {ps ks : List Str} {sp : Sp} {p pos : Pos} {kws : List Keyword} {tk : TA}
theorem pe_calk (c : CalK X.prog X.w X.K X.mg X.base k x ps ks sp) (hr : Room k X.A) (hg : Gl X x) (hkw : PK X kws tk) (hall : (backToKw pos (keywordEach kws X.env)).all (·.1.isSome) = true := by rfl)
    (hks : (backToKw pos (keywordEach kws X.env)).filterMap (·.1) = ks := by rfl) (hdb : (x == ("__debug__" : Str)) = false := by decide)
    (hpl : ((backTo pos (starEach [] X.env)).any (·.1) || (backToKw pos (keywordEach kws X.env)).any (·.1.isNone)) = false := by rfl) : PE X (.Call (.Name x p) [] kws pos) (tCallK0 sp tk) := by
  obtain ⟨f, fd, F, hm, hk, hb⟩ := c.ex
  refine ⟨fun pins s σ H Q I h => ?_⟩
  refine wpAny_Call_Name_kw (ld_glob I hg hm ?_ hdb)
  refine PySem.W.callWith_KW0 (h₀ := X.base) I.ok.mod.kin hk hall ?_ hpl
  refine thn (hkw.run pos pins s σ H _ I h) fun ws s2 ⟨zs, H2, I2, rz, q2⟩ => ⟨I2.kIn, ?_⟩
  rw [hks]
  have hl := F.len _ _ _ _ q2
  have hl2 : ws.length = ps.length := by rw [← hl, List.length_reverse, rz.length]
  show wpAny _ _ (call (.ref f) [] (ks.zip ws)) _ _ _
  refine wpAny_call (codeAny_mono (F.run X.A X.stack s2 H2 ⟨[], ks.zip ws⟩ ws.reverse zs.reverse Q E0 hr I2.env0 (hb s2 ws I2.kIn hl2) rz.reverse q2) fun r s' hq => ?_)
  cases r with
  | error e => exact (show False from hq).elim
  | ok fl =>
    cases fl with
    | ret u => exact I2.after hq
    | next => exact False.elim hq
    | brk => exact False.elim hq
    | cont => exact False.elim hq
end
section
variable {K : PySem.W.Frag} {σ : L2.St} {G : Hp} {ta tb : TE}
theorem e_callK1 {Γ : Type} {args : Γ → List RP} {pre : Γ → Prop} {res : Γ → RP} {R : RP} (g : Γ) (ha : EvS ta σ G R) (hs : args g = [R]) (hp : pre g) : EvS (tCallK0 (SpG args pre res) (tCons ta tNil)) σ G (res g) := fun G0 H u s Q k =>
  ha G0 H u s _ fun v G1 H1 g1 r => ⟨g, G1, g1.sub, by rw [hs]; exact ⟨v, _, rfl, r, rfl⟩, hp, fun v G2 H2 g2 r => k v G2 H2 (g1.trans g2) r⟩
theorem e_callK2 {Γ : Type} {args : Γ → List RP} {pre : Γ → Prop} {res : Γ → RP} {R1 R2 : RP} [Stb R1] (g : Γ) (ha : EvS ta σ G R1) (hb : EvS tb σ G R2) (hs : args g = [R2, R1]) (hp : pre g) : EvS (tCallK0 (SpG args pre res) (tCons ta (tCons tb tNil))) σ G (res g) := fun G0 H u s Q k =>
  ha G0 H u s _ fun v G1 H1 g1 r => hb G1 H1 (u.trans g1.up) g1.sub _ fun y G2 H2 g2 r2 => ⟨g, G2, g2.sub, by rw [hs]; exact ⟨y, _, rfl, r2, v, _, rfl, stb g2.up r, rfl⟩, hp, fun v G3 H3 g3 r => k v G3 H3 ((g1.trans g2).trans g3) r⟩
/-- the items of a written list, each told -/
theorem src_lstR {te : TE} {Rs : List RP} [S : StbL Rs] (h : EvS te σ G (LstR K Rs)) : SrcI (iSeq K te) σ G Rs.length (fun i v H => ∃ R, Rs[i]? = some R ∧ R v H) := fun G0 H u s Q k => h G0 H u s _ fun v G1 H1 g1 r => by
    obtain ⟨a, xs, rfl, hq, r1⟩ := r
    have key : ∀ {Rs : List RP} {xs : List V} {G3 : Hp} {i : Nat} {x : V}, Alls Rs xs G3 → xs[i]? = some x → ∃ R, Rs[i]? = some R ∧ R x G3 := fun {Rs} => by
      induction Rs with
      | nil => intro xs G3 i x h e; rw [show xs = [] from h] at e; simp at e
      | cons R Rs ih =>
        intro xs G3 i x h e
        obtain ⟨v, r, rfl, h1, h2⟩ := h
        cases i with
        | zero => simp at e; subst e; exact ⟨R, rfl, h1⟩
        | succ i => exact ih h2 (by simpa using e)
    have hl := alls_len r1
    refine ⟨a, xs, rfl, .inl ⟨g1.sub.seq hq, ?_⟩⟩
    refine k _ _ G1 H1 _ g1 (fun H3 s3 => s3.seq hq) (hl ▸ walk_list (xs := xs)) fun i G3 H3 x H4 hi u3 s3 ⟨e1, e2⟩ => ?_
    subst e1
    exact ⟨G3, .refl s3, key (S.up u3 r1) e2⟩
end
/-! ### all but the tables of code objects -/
section
variable {K : PySem.W.Frag} {H H' : Hp}
open LamX (ExtN)
theorem rd_ext {a : Addr} {u : HO} (e : ExtN H H') (h1 : ∀ ps, u ≠ .tbl ps) (h : Rd H a u) : Rd H' a u := by
  rcases h with h | ⟨o, h⟩
  · exact .inl (e a _ h h1)
  · exact .inr ⟨o, e a _ h fun ps z => nomatch z⟩
theorem sqL_ext {a : Addr} {xs : List V} (e : ExtN H H') (h : SqL K H a xs) : SqL K H' a xs := by
  rcases h with h | h
  · exact .inl (rd_ext e (fun ps z => nomatch z) h)
  · exact .inr h
theorem sqT_ext {a : Addr} {xs : List V} (e : ExtN H H') (h : SqT K H a xs) : SqT K H' a xs := by
  rcases h with h | h
  · exact .inl (rd_ext e (fun ps z => nomatch z) h)
  · exact .inr h
mutual
theorem dp_ext (e : ExtN H H') : ∀ (d : PyData) (v : V), Dp K H v d → Dp K H' v d
  | .none, _, h => by cases h; exact .non
  | .bool b, _, h => by cases h; exact .bl b
  | .int i, _, h => by cases h; exact .int i
  | .str x, _, h => by cases h; exact .str x
  | .list ds, _, h => by
    cases h with
    | lst a b => exact .lst (sqL_ext e a) (dpAll_ext e ds _ b)
  | .tuple ds, _, h => by
    cases h with
    | tup a b => exact .tup (sqT_ext e a) (dpAll_ext e ds _ b)
  | .dict _, _, h => by cases h
theorem dpAll_ext (e : ExtN H H') : ∀ (ds : List PyData) (vs : List V), DpAll K H vs ds → DpAll K H' vs ds
  | [], _, h => by cases h; exact .nil
  | d :: ds, _, h => by
    cases h with
    | cons a b => exact .cons (dp_ext e d _ a) (dpAll_ext e ds _ b)
end
theorem pf_ext {p : Pac} {fs : List (Str × V)} (e : ExtN H H') (h : PF K p fs H) : PF K p fs H' := by
  obtain ⟨⟨v1, a1, b1⟩, ⟨v2, a2, b2⟩, ⟨v3, a3, b3⟩, ⟨v4, a4, b4⟩, ⟨v5, a5, b5⟩, ⟨v6, a6, f, c1, c2, a, kvs, c3, c4, c5, c6⟩, ⟨v7, a7, bs, d1, d2⟩, ⟨v8, a8, a', kvs', e1, e2, e3, e4⟩, ⟨v9, a9, b9⟩⟩ := h
  refine ⟨⟨v1, a1, dp_ext e _ _ b1⟩, ⟨v2, a2, dp_ext e _ _ b2⟩, ⟨v3, a3, dp_ext e _ _ b3⟩, ⟨v4, a4, dp_ext e _ _ b4⟩, ⟨v5, a5, dp_ext e _ _ b5⟩, ⟨v6, a6, f, c1, c2, a, kvs, c3, rd_ext e (fun ps z => nomatch z) c4, c5, dpAll_ext e _ _ c6⟩, ⟨v7, a7, bs, d1, dp_ext e _ _ d2⟩,
    ⟨v8, a8, a', kvs', e1, rd_ext e (fun ps z => nomatch z) e2, e3, fun i y kv h1 h2 => ⟨(e4 i y kv h1 h2).1, ?_⟩⟩, ⟨v9, a9, b9⟩⟩
  obtain ⟨b, o, f1, f2, f3⟩ := (e4 i y kv h1 h2).2
  exact ⟨b, o, f1, e _ _ f2 (fun ps z => nomatch z), f3⟩
theorem pact_ext {C : Addr} {p : Pac} {v : V} (e : ExtN H H') (h : PactAt K C p v H) : PactAt K C p v H' := by
  obtain ⟨x, dx, fs, e1, e2, e3⟩ := h
  exact ⟨x, dx, fs, e1, e _ _ e2 (fun ps z => nomatch z), pf_ext e e3⟩
/-- without the tables -/
def noT (G : Hp) : Hp := fun b => match G b with
  | some (.tbl _) => none
  | o => o
theorem noT_get {G : Hp} {b : Addr} {o : HO} (h : noT G b = some o) : G b = some o ∧ ∀ ps, o ≠ .tbl ps := by
  unfold noT at h
  split at h
  · cases h
  · rename_i hn
    exact ⟨h, fun ps z => hn ps (by rw [h, z])⟩
theorem noT_ext {G : Hp} : ExtN G (noT G) := fun b o h n => by
  unfold noT
  rw [h]
  split
  · rename_i q
    cases q
    exact absurd rfl (n _)
  · rfl
theorem noT_same {G : Hp} (s : Same G H) (e : ExtN H H') : Same (noT G) H' := fun b o h => by
  obtain ⟨a, n⟩ := noT_get h
  exact e b o (s b o a) n
end
/-! ### the lambda -/
def lamQ : Str := "law" ++ ".<locals>." ++ "<lambda>"
def lamSc : Scope := { kind := .function, names := [(PySem.Str.ofString "_law_odd", .free), (PySem.Str.ofString "_law_pact_here", .free), (PySem.Str.ofString "bare_waits", .globalImplicit)], isGenerator := false, isCoroutine := false, more := [] }
def tLamN (K : PySem.W.Frag) (C CN Pt : Addr) : TE := LamX.tLam [(Pt, lamQ)] (TTn K CN) fun E => tCall (spNo K C CN) [] E (tCons (tVar 7) (tCons (tVar 12) tNil))
abbrev s_law : Stmt := top 64
abbrev N_law : List Str := ["_law_script", "_law_heap_here", "_law_hands", "_law_notes_here", "_law_ready", "_law_paper", "_law_parts", "_law_pact_here", "_law_bent", "_law_told", "_law_other_here", "_law_due", "_law_odd", "_law_word", "_law_note"]
theorem sc_law : FnScope N_law ["_law_script"] (defScope s_law) := ⟨rfl, rfl, rfl, by decide +kernel, rfl, by decide +kernel, by decide +kernel⟩
abbrev s__law_none : Stmt := top 52
abbrev N__law_none : List Str := ["_law_work", "wrong"]
theorem sc__law_none : FnScope N__law_none ["_law_work"] (defScope s__law_none) := ⟨rfl, rfl, rfl, by decide +kernel, rfl, by decide +kernel, by decide +kernel⟩
section
variable {P : Program} {w : World} {K : PySem.W.Frag} {mg : Str → Option Value} {base : Heap} {C CN fN : Addr}
theorem lam_ok {f c g Pt : Addr} {fd : FuncData} {A : Around} {outer : List Env} {s : Shared} {H : Hp} {E : XK} (hm : mg "_law_none" = some (.ref g)) (hk : PySem.W.keepIn K (.ref g) = true) (Fn : Fun K "_law_none" "_law_none" s__law_none g fd) (hb : L2.Binds K fd ["_law_work"] [])
    (TB : LamX.TabB base mg c Pt) (TN : PySem.NnX.NnTxt P K mg CN fN) (cX : Cal P w K mg base (L2.CX P w) 4 "bare_waits" ["pact", "note"] (spNo K C CN)) (hr : Room 6 (cxOf CX0 P w K mg base N_law "law" (defScope s_law) f (.ref c) A outer s H E).nox.A)
    {p lpos pos p1 p2 p3 p4 : Pos} : PE (cxOf CX0 P w K mg base N_law "law" (defScope s_law) f (.ref c) A outer s H E).nox (.Call (.Name "_law_none" p) [.Lambda ⟨[], [], none, [], [], none, []⟩ (.Call (.Name "bare_waits" p1) [.Name "_law_pact_here" p2, .Name "_law_odd" p3] [] p4) lamSc lpos] [] pos) (tLamN K C CN Pt) := by
  obtain ⟨oc, od, kV, doc, pm, an, cdv, ct, osl, rfl, lk, hcd⟩ := Fn.ex
  exact LamX.pe_lamcall (k := 4) (c := c) (P := Pt) (Ng := ["_law_work", "wrong"]) rfl hm hk lk hcd hb sc__law_none rfl (.inl rfl) (none_gives TN.xf TN.noN TN.gC rfl rfl) TB rfl (List.mem_singleton.mpr rfl) (fun q hq _ => by rw [List.mem_singleton.mp hq]; rfl) hr (LamX.lamS_by (by rfl)) rfl (fun _ _ _ _ _ => rfl)
    (fun A outer s H E f c' hr2 => pe_cal cX hr2 rfl (passes_call (takes_of (E := E) rfl rfl rfl rfl) fun _ _ _ _ h => h) (pa_cons (pv 7) (pa_cons (pv 12) pa_nil)))
end
section
variable {K : PySem.W.Frag} {σ : L2.St} {G H : Hp} {tt2 : TT} {tu tz : TS} {En : Ends} {C CN Pt : Addr} {p : Pac} {x : Str} {v7 : V}
/-- if _law_none(lambda: ..) != _law_odd or ..: the name comes back -/
theorem q_lamif (s : Same G H) (hP : H Pt = some (.tbl #[])) (h7 : σ[7]? = some (some v7)) (r7 : PactAt K C p v7 G) (h12 : σ[12]? = some (some (.str x))) (hv : Val p) (hx : x ∉ nms p.notes) (te : PySem.W.exmOne K (.ref CN) (.ref CN) = some true)
    (h2 : ∀ G2, Same (noT G) G2 → Et tt2 σ G2 false) (k : ∀ G2 H2, Same (noT G) G2 → Same G2 H2 → tz En σ H2) : tSeq (tIfS (tOr (tTest (tOp rNe (tLamN K C CN Pt) (tVar 12))) tt2) tu tNext) tz En σ H := by
  refine ⟨fun q hq => ?_, fun H1 eN T1 => ?_⟩
  · rw [List.mem_singleton.mp hq]
    exact LamX.TabS.nil hP
  have s1 : Same (noT G) H1 := noT_same s eN
  have r7' : PactAt K C p v7 (noT G) := pact_ext noT_ext r7
  have ev : EvA (tCons (tVar 7) (tCons (tVar 12) tNil)) σ (noT G) [PactAt K C p, D K (.str x)] := ea_cons (e_var h7 r7') (ea_cons (e_var h12 (.str x)) ea_nil)
  show tCons (tVar 7) (tCons (tVar 12) tNil) σ H1 (fun vs H1 => spNo K C CN (vs ++ []) H1 _ _)
  refine ev (noT G) H1 (.refl _) s1 _ fun vs G2 H2 g2 rs => ⟨p, x, G2, g2.sub, by rw [List.append_nil]; exact rs, hv, hx, fun d G3 H3 g3 hd => ⟨true, te, fun _ => ⟨rfl, d, _, _, rfl, hd, rfl, ?_⟩, fun z => by cases z⟩⟩
  refine ⟨_, h12, rfl, _, rfl, ?_⟩
  have e : (!decide (V.str x = V.str x)) = false := by simp
  rw [e]
  have g23 := g2.trans g3
  show tt2 σ H3 _
  refine h2 G3 g23.up G3 H3 (.refl _) g23.sub _ fun b G4 H4 g4 hb => ?_
  subst hb
  show tz En σ H4
  exact k G4 H4 (g23.up.trans g4.up) g4.sub
end
end KB

set_option Elab.async false
set_option linter.all false
set_option maxRecDepth 100000
set_option maxHeartbeats 4000000
/-! The law. -/
namespace KB
open PySem PySem.Spec PyProof.Rows L2
theorem noNum_web (p : Pac) : noNum (webD p) = true := by simp [webD, noNum, noNums, noNums_sds, noNums_notes]
theorem sh_web {p : Pac} (v : Val p) : Sh 4 (webD p) := by
  refine sh_tup (n := 3) fun e he => ?_
  simp only [List.mem_cons, List.not_mem_nil, or_false] at he
  have wok : ∀ x ∈ nms p.notes, NameOk x := names_of_pac v
  rcases he with rfl | rfl | rfl | rfl
  · exact (sh_tup (n := 0) (sh_sds v.hok)).up (by decide)
  · refine sh_lst (n := 2) fun d hd => ?_
    obtain ⟨n, hn, rfl⟩ := List.mem_map.mp hd
    obtain ⟨y, hy, rfl⟩ := List.mem_map.mp hn
    have hy' := mem_lotOf.mp hy
    obtain ⟨m, hm, e⟩ := List.mem_map.mp hy'
    have nk := notes_ok v m hm
    obtain ⟨i, hi⟩ := List.mem_iff_getElem?.mp hm
    have eh : hnd p.notes y = m.2.1 := by rw [← e]; exact hnd_at v.told.nodup hi
    exact sh_note ⟨wok y hy', by show NameOk (hnd p.notes y); rw [eh]; exact nk.2.1, fun z hz => wok z (und_names v y z hz)⟩
  · exact (sh_tup (n := 0) (sh_sds (ready_ok v))).up (by decide)
  · exact (sh_tup (n := 0) (sh_sds fun x hx => wok x (whole_names v x hx))).up (by decide)
theorem web_due {p q : Pac} (v : Val p) (v2 : Val q) : PyData.eqv (webD q) (webD p) = bP (SameW p q) := by
  rw [eqv_bP (noNum_web q)]
  refine bP_congr ⟨fun h => ?_, fun s => ?_⟩
  · simp only [webD, PyData.tuple.injEq, PyData.list.injEq, List.cons.injEq, and_true] at h
    obtain ⟨h1, h2, h3, h4⟩ := h
    exact same_of_web v v2 (sds_inj h1).symm (dNotes_inj h2).symm (sds_inj h3).symm (sds_inj h4).symm
  · show webD q = webD p
    unfold webD
    rw [s.hands, s.web v v2, s.ready, s.whole]
theorem upper_eq {p q : Pac} (s : SameW p q) (v : Val p) (v2 : Val q) : upper p.notes (whole p.notes p.paper) = upper q.notes (whole q.notes q.paper) := congrArg Pac.paper (s.bareE v v2)
theorem bP_symm {p q : Pac} : bP (SameW q p) = bP (SameW p q) := bP_congr ⟨SameW.symm, SameW.symm⟩
theorem bare_first {p : Pac} (v : Val p) {n : Note} (h : p.notes[0]? = some n) : bare p.notes n.1 = [] := by
  rw [List.eq_nil_iff_forall_not_mem]
  intro z hz
  obtain ⟨u, ne⟩ := (mem_below v.told).mp (bare_sub hz)
  have l := u.le v.told ne
  have e : (nms p.notes).idxOf n.1 = 0 := by
    cases q : p.notes with
    | nil => rw [q] at h; cases h
    | cons m r => rw [q] at h; cases h; simp [nms]
  omega
theorem start_g {K : PySem.W.Frag} {H : Hp} {a : Addr} {ns : List Int} (h : SqL K H a (ns.map V.int)) : ∃ G : Hp, Same G H ∧ Dp K G (.ref a) (.list (ns.map PyData.int)) := by
  rcases h with h | h
  · have e1 : ∀ b, b = a → (fun b => if b = a then H a else none : Hp) b = H a := fun b q => if_pos q
    have e2 : ∀ b, ¬ b = a → (fun b => if b = a then H a else none : Hp) b = none := fun b q => if_neg q
    refine ⟨(fun b => if b = a then H a else none : Hp), fun b o e => ?_, .lst (.inl ?_) (ints_dp ns)⟩
    · by_cases q : b = a
      · have e' := (e1 b q).symm.trans e
        rw [q]; exact e'
      · have e' := (e2 b q).symm.trans e
        cases e'
    · rcases h with h | ⟨o, h⟩
      · exact .inl ((e1 a rfl).trans h)
      · exact .inr ⟨o, (e1 a rfl).trans h⟩
  · exact ⟨(fun _ => none : Hp), fun b o e => (nomatch e), .lst (.inr h) (ints_dp ns)⟩
section
variable {K : PySem.W.Frag} {C : Addr} {σ : L2.St} {G : Hp} {p q : Pac} {v1 v6 v7 v9 v10 : V}
theorem q_parE {i j : Nat} {ta tb : TE} {R1 R2 : RP} {H : Hp} {tz : TS} {En : Ends} [Stb R1] [Stb R2] (s : Same G H) (ha : EvS ta σ G R1) (hb : EvS tb σ G R2) (k : ∀ v w G2 H2, Grow G H G2 H2 → R1 v G2 → R2 w G2 → tz En ((σ.set i (some v)).set j (some w)) H2) :
    tSeq (tPar i j (tCons ta (tCons tb tNil))) tz En σ H := by
  have ev : EvA (tCons ta (tCons tb tNil)) σ G [R1, R2] := ea_cons ha (ea_cons hb ea_nil)
  show tCons ta (tCons tb tNil) σ H (fun vs H1 => ∃ v w, vs = [v, w] ∧ tz En ((σ.set i (some v)).set j (some w)) H1)
  refine ev G H (.refl _) s _ fun vs G2 H2 g2 ⟨v, _, e1, r1, w, _, e2, r2, e3⟩ => ?_
  subst e1; subst e2; subst e3
  exact ⟨_, _, rfl, k _ _ G2 H2 g2 r1 r2⟩
/-- Pact(told[0], told[1], told[2], told[3]) -/
theorem e_pactOf (h9 : σ[9]? = some (some v9)) (r9 : Dp K G v9 (dParts q)) (vq : Val q) : EvS (tMake C (sp_Pact_init K C) [] E0 (tCons (tOp (rIx K) (tVar 9) (tC (.int 0))) (tCons (tOp (rIx K) (tVar 9) (tC (.int 1))) (tCons (tOp (rIx K) (tVar 9) (tC (.int 2))) (tCons (tOp (rIx K) (tVar 9) (tC (.int 3))) tNil))))) σ G (PactAt K C q) := by
  have e : EvS (tVar 9) σ G (D K (.tuple [.list (sds q.hands), .list (dNotes q.notes), .list (sds q.ready), .tuple (sds q.paper)])) := e_var h9 r9
  have x0 : EvS (tOp (rIx K) (tVar 9) (tC (.int 0))) σ G (D K (qd true (sds q.hands))) := ed_ix (e := .list (sds q.hands)) 0 (.t _) e ed_int (.inl ⟨rfl, by simp⟩) rfl
  have x1 : EvS (tOp (rIx K) (tVar 9) (tC (.int 1))) σ G (D K (.list (dNotes q.notes))) := ed_ix (e := .list (dNotes q.notes)) 1 (.t _) e ed_int (.inl ⟨rfl, by simp⟩) rfl
  have x2 : EvS (tOp (rIx K) (tVar 9) (tC (.int 2))) σ G (D K (qd true (sds q.ready))) := ed_ix (e := .list (sds q.ready)) 2 (.t _) e ed_int (.inl ⟨rfl, by simp⟩) rfl
  have x3 : EvS (tOp (rIx K) (tVar 9) (tC (.int 3))) σ G (D K (.tuple (sds q.paper))) := ed_ix (e := .tuple (sds q.paper)) 3 (.t _) e ed_int (.inl ⟨rfl, by simp⟩) rfl
  exact e_make (p := q) (b := true) (ea_cons x0 (ea_cons x1 (ea_cons x2 (ea_cons x3 ea_nil)))) vq
theorem e_webOf {i : Nat} {v : V} (h : σ[i]? = some (some v)) (r : Dp K G v (dParts q)) (vq : Val q) : EvS (tCall (sp__law_web K) [] E0 (tCons (tVar i) tNil)) σ G (D K (webD q)) :=
  e_call (Γ := Pac) (args := fun p => [D K (dParts p)]) (pre := fun p => Val p) (res := fun p => D K (webD p)) q (ea_cons (e_var (R := D K (dParts q)) h r) ea_nil) vq
theorem e_dueOf (h6 : σ[6]? = some (some v6)) (r6 : Dp K G v6 (dParts p)) (h9 : σ[9]? = some (some v9)) (r9 : Dp K G v9 (dParts q)) (vp : Val p) (vq : Val q) :
    EvS (tOp (rEqD K) (tCall (sp__law_web K) [] E0 (tCons (tVar 9) tNil)) (tCall (sp__law_web K) [] E0 (tCons (tVar 6) tNil))) σ G (D K (.bool (bP (SameW p q)))) :=
  (ed_eqD (K := K) (e_webOf h9 r9 vq) (e_webOf h6 r6 vp) (sh_web vq).shaped (sh_web vp).shaped).to (by rw [web_due vp vq])
theorem e_full {te : TE} (h : EvS te σ G (PactAt K C q)) (vq : Val q) : EvS (tCall (sp_full_form K C) [] E0 (tCons te tNil)) σ G (PactAt K C (fullPac q)) :=
  e_call (Γ := Pac) (args := fun x => [PactAt K C x]) (pre := fun x => Val x) (res := fun x => PactAt K C (fullPac x)) q (ea_cons h ea_nil) vq
theorem e_bare {te : TE} (h : EvS te σ G (PactAt K C q)) (vq : Val q) : EvS (tCall (sp_bare_form K C) [] E0 (tCons te tNil)) σ G (PactAt K C (barePac q)) :=
  e_call (Γ := Pac) (args := fun x => [PactAt K C x]) (pre := fun x => Val x) (res := fun x => PactAt K C (barePac x)) q (ea_cons h ea_nil) vq
theorem e_count {te : TE} (h : EvS te σ G (PactAt K C q)) (vq : Val q) : EvS (tCall (sp_telling_count K C) [] E0 (tCons te tNil)) σ G (D K (.int ((2 ^ freeN q : Nat) : Int))) :=
  e_call (Γ := Pac) (args := fun x => [PactAt K C x]) (pre := fun x => Val x) (res := fun x => D K (.int ((2 ^ freeN x : Nat) : Int))) q (ea_cons h ea_nil) vq
theorem e_fullK {te : TE} (h : EvS te σ G (PactAt K C q)) (vq : Val q) : EvS (tCallK0 (sp_full_form K C) (tCons te tNil)) σ G (PactAt K C (fullPac q)) :=
  e_callK1 (Γ := Pac) (args := fun x => [PactAt K C x]) (pre := fun x => Val x) (res := fun x => PactAt K C (fullPac x)) (R := PactAt K C q) q h rfl vq
theorem e_bareK {te : TE} (h : EvS te σ G (PactAt K C q)) (vq : Val q) : EvS (tCallK0 (sp_bare_form K C) (tCons te tNil)) σ G (PactAt K C (barePac q)) :=
  e_callK1 (Γ := Pac) (args := fun x => [PactAt K C x]) (pre := fun x => Val x) (res := fun x => PactAt K C (barePac x)) (R := PactAt K C q) q h rfl vq
theorem e_countK {te : TE} (h : EvS te σ G (PactAt K C q)) (vq : Val q) : EvS (tCallK0 (sp_telling_count K C) (tCons te tNil)) σ G (D K (.int ((2 ^ freeN q : Nat) : Int))) :=
  e_callK1 (Γ := Pac) (args := fun x => [PactAt K C x]) (pre := fun x => Val x) (res := fun x => D K (.int ((2 ^ freeN x : Nat) : Int))) (R := PactAt K C q) q h rfl vq
theorem e_bpaper {te : TE} (h : EvS te σ G (PactAt K C q)) (vq : Val q) : EvS (tCall (sp_bare_paper K C) [] E0 (tCons te tNil)) σ G (D K (.tuple (sds (upper q.notes (whole q.notes q.paper))))) :=
  e_call (Γ := Pac) (args := fun x => [PactAt K C x]) (pre := fun x => Val x) (res := fun x => D K (.tuple (sds (upper x.notes (whole x.notes x.paper))))) q (ea_cons h ea_nil) vq
theorem e_bpaperK {te : TE} (h : EvS te σ G (PactAt K C q)) (vq : Val q) : EvS (tCallK0 (sp_bare_paper K C) (tCons te tNil)) σ G (D K (.tuple (sds (upper q.notes (whole q.notes q.paper))))) :=
  e_callK1 (Γ := Pac) (args := fun x => [PactAt K C x]) (pre := fun x => Val x) (res := fun x => D K (.tuple (sds (upper x.notes (whole x.notes x.paper))))) (R := PactAt K C q) q h rfl vq
theorem e_same {ta tb : TE} (ha : EvS ta σ G (PactAt K C p)) (hb : EvS tb σ G (PactAt K C q)) (vp : Val p) (vq : Val q) : EvS (tCall (sp_same_web K C) [] E0 (tCons ta (tCons tb tNil))) σ G (D K (.bool (bP (SameW p q)))) :=
  e_call (Γ := Pac × Pac) (args := fun x => [PactAt K C x.1, PactAt K C x.2]) (pre := fun x => Val x.1 ∧ Val x.2) (res := fun x => D K (.bool (bP (SameW x.1 x.2)))) (p, q) (ea_cons ha (ea_cons hb ea_nil)) ⟨vp, vq⟩
theorem e_sameK {ta tb : TE} (ha : EvS ta σ G (PactAt K C p)) (hb : EvS tb σ G (PactAt K C q)) (vp : Val p) (vq : Val q) : EvS (tCallK0 (sp_same_web K C) (tCons ta (tCons tb tNil))) σ G (D K (.bool (bP (SameW q p)))) :=
  e_callK2 (Γ := Pac × Pac) (args := fun x => [PactAt K C x.1, PactAt K C x.2]) (pre := fun x => Val x.1 ∧ Val x.2) (res := fun x => D K (.bool (bP (SameW x.1 x.2)))) (R1 := PactAt K C p) (R2 := PactAt K C q) (q, p) ha hb rfl ⟨vq, vp⟩
theorem rbb (x y : Bool) : Rb 1 100 (.tuple [.bool x, .bool y]) := (rb_tup (n := 0) (k := 5) fun d hd => by
  simp only [List.mem_cons, List.not_mem_nil, or_false] at hd
  rcases hd with rfl | rfl <;> exact rb_bool).up (by omega) (by simp)
variable (h7 : σ[7]? = some (some v7)) (r7 : PactAt K C p v7 G) (h10 : σ[10]? = some (some v10)) (r10 : PactAt K C q v10 G) (h11 : σ[11]? = some (some (V.bl (bP (SameW p q))))) (vp : Val p) (vq : Val q)
include h7 r7 h10 r10 h11 vp vq
theorem et_if1 {bt : Nat} (h8 : σ[8]? = some (some (V.int (bt : Nat)))) (sq : bt = 0 → SameW p q) : Et (tOr (tAnd (tTest (tOp rEq (tVar 8) (tC (.int 0)))) (tNot (tB (tVar 11)))) (tTest (tOp rNe (tCB (rReprD K) (tCons (tTup (tCons (tCall (sp_same_web K C) [] E0 (tCons (tVar 7) (tCons (tVar 10) tNil))) (tCons (tCallK0 (sp_same_web K C) (tCons (tVar 7) (tCons (tVar 10) tNil))) tNil))) tNil)) (tCB (rReprD K) (tCons (tTup (tCons (tVar 11) (tCons (tVar 11) tNil))) tNil))))) σ G false := by
  have e7 : EvS (tVar 7) σ G (PactAt K C p) := e_var h7 r7
  have e10 : EvS (tVar 10) σ G (PactAt K C q) := e_var h10 r10
  have e11 : EvS (tVar 11) σ G (D K (.bool (bP (SameW p q)))) := e_var h11 (.bl _)
  have e8 : EvS (tVar 8) σ G (D K (.int (bt : Nat))) := e_var h8 (.int _)
  have a1 : EvS (tCB (rReprD K) (tCons (tTup (tCons (tCall (sp_same_web K C) [] E0 (tCons (tVar 7) (tCons (tVar 10) tNil))) (tCons (tCallK0 (sp_same_web K C) (tCons (tVar 7) (tCons (tVar 10) tNil))) tNil))) tNil)) σ G (D K (.str (PyData.tuple [.bool (bP (SameW p q)), .bool (bP (SameW q p))]).shown)) :=
    ed_reprB (rbb _ _) (by decide) (by decide) (ed_tup (dd_cons (e_same e7 e10 vp vq) (dd_cons (e_sameK e7 e10 vp vq) dd_nil)) (by simp))
  have a2 : EvS (tCB (rReprD K) (tCons (tTup (tCons (tVar 11) (tCons (tVar 11) tNil))) tNil)) σ G (D K (.str (PyData.tuple [.bool (bP (SameW p q)), .bool (bP (SameW p q))]).shown)) :=
    ed_reprB (rbb _ _) (by decide) (by decide) (ed_tup (dd_cons e11 (dd_cons e11 dd_nil)) (by simp))
  refine (et_or (et_and (et_T (ed_eqI e8 ed_int)) fun _ => et_not (et_B e11)) fun _ => et_T (ed_neS a1 a2)).to ?_
  rw [bP_symm (p := p) (q := q)]
  by_cases q0 : bt = 0
  · have e1 : bP (SameW p q) = true := bP_iff.mpr (sq q0)
    rw [e1]; simp
  · have e1 : decide ((bt : Int) = 0) = false := by simp; omega
    rw [e1]; simp
theorem et_if2 : Et (tOr (tTest (tOp rNe (tOp (rEqP C (sp_Pact_eq K C)) (tCallK0 (sp_bare_form K C) (tCons (tVar 7) tNil)) (tCall (sp_bare_form K C) [] E0 (tCons (tVar 10) tNil))) (tVar 11))) (tTest (tOp rNe (tOp (rEqP C (sp_Pact_eq K C)) (tCall (sp_full_form K C) [] E0 (tCons (tVar 10) tNil)) (tCallK0 (sp_full_form K C) (tCons (tVar 7) tNil))) (tVar 11)))) σ G false := by
  have e7 : EvS (tVar 7) σ G (PactAt K C p) := e_var h7 r7
  have e10 : EvS (tVar 10) σ G (PactAt K C q) := e_var h10 r10
  have e11 : EvS (tVar 11) σ G (D K (.bool (bP (SameW p q)))) := e_var h11 (.bl _)
  have bF : bP (barePac p = barePac q) = bP (SameW p q) := bP_congr (bare_iff vp vq)
  have fF : bP (fullPac q = fullPac p) = bP (SameW p q) := (bP_congr (full_iff vq vp)).trans bP_symm
  refine (et_or (et_T (ed_neB (ed_eqP (e_bareK e7 vp) (e_bare e10 vq) (bare_ok vp).1 (bare_ok vq).1) e11)) fun _ => et_T (ed_neB (ed_eqP (e_full e10 vq) (e_fullK e7 vp) (full_ok vq).1 (full_ok vp).1) e11)).to ?_
  rw [bF, fF]
  simp
theorem et_if3 : Et (tOr (tAnd (tB (tVar 11)) (tTest (tOp rNe (tCallK0 (sp_telling_count K C) (tCons (tVar 10) tNil)) (tCall (sp_telling_count K C) [] E0 (tCons (tVar 7) tNil))))) (tNot (tB (tCall (sp_same_web K C) [] E0 (tCons (tVar 10) (tCons (tCall (sp_bare_form K C) [] E0 (tCons (tCall (sp_full_form K C) [] E0 (tCons (tVar 10) tNil)) tNil)) tNil)))))) σ G false := by
  have e7 : EvS (tVar 7) σ G (PactAt K C p) := e_var h7 r7
  have e10 : EvS (tVar 10) σ G (PactAt K C q) := e_var h10 r10
  have e11 : EvS (tVar 11) σ G (D K (.bool (bP (SameW p q)))) := e_var h11 (.bl _)
  obtain ⟨vF, sF⟩ := full_ok vq
  obtain ⟨vB, sB⟩ := bare_ok vF
  have sl : bP (SameW q (barePac (fullPac q))) = true := bP_iff.mpr (sF.trans sB)
  refine (et_or (b := false) (et_and (b := false) (et_B e11) fun hd => ?_) fun _ => ?_).to (by simp)
  · refine et_T ((ed_neI (e_countK e10 vq) (e_count e7 vp)).to ?_)
    rw [(bP_iff.mp hd).count vp vq]
    simp
  · refine (et_not (et_B (e_same e10 (e_bare (e_full e10 vq) vF) vq vB))).to ?_
    rw [sl]; rfl
end
end KB

set_option Elab.async false
set_option linter.all false
set_option maxRecDepth 100000
set_option maxHeartbeats 1000000
/-! The law. -/
namespace KB
open PySem PySem.Spec PyProof.Rows L2
section
variable {P : Program} {w : World} {K : PySem.W.Frag} {mg : Str → Option Value} {base : Heap} {C CN fN : Addr}
def sp_law (K : PySem.W.Frag) (Pt : Addr) : Sp := fun vs H Q _ => ∃ (a : Addr) (ns : List Int), vs = [.ref a] ∧ SqL K H a (ns.map V.int) ∧ ns.length ≤ 63 ∧ H Pt = some (.tbl #[]) ∧ ∀ H', Q (.bl true) H'
theorem ok_law {f c g Pt : Addr} {oc kV doc pm ct : Value} {od an : Option Addr} {osl : Array (Option Value)} {fdN : FuncData} (lk : K.lookup f = some ⟨oc, od, .func (PySem.W.fnOf "law" "law" (defArgs s_law) (defBody s_law) (defScope s_law) .none kV doc pm an (.ref c) ct), osl⟩) (hcd : PySem.W.codeIn K (.ref c) "law" = true)
    (T : Txt mg) (cC : CTxt K C) (cEq : CalEq P w K mg base 1 C (sp_Pact_eq K C)) (hmN : mg "_law_none" = some (.ref g)) (hkN : PySem.W.keepIn K (.ref g) = true) (FN : Fun K "_law_none" "_law_none" s__law_none g fdN) (hbN : L2.Binds K fdN ["_law_work"] [])
    (TB : LamX.TabB base mg c Pt) (TN : PySem.NnX.NnTxt P K mg CN fN) (cX : Cal P w K mg base (L2.CX P w) 4 "bare_waits" ["pact", "note"] (spNo K C CN)) (c__law_heap : Cal P w K mg base CX0 1 "_law_heap" ["_law_script", "_law_base"] (sp__law_heap K)) (c__law_pact : Cal P w K mg base CX0 4 "_law_pact" ["_law_heap_here", "_law_most"] (sp__law_pact K)) (c__law_pick : Cal P w K mg base CX0 2 "_law_pick" ["_law_heap_here", "_law_some_here"] (sp__law_pick K)) (c_Pact : MkP P w K mg base 5 "Pact" ["self", "hands", "notes", "ready", "paper"] C (sp_Pact_init K C)) (c_same_web : Cal P w K mg base CX0 9 "same_web" ["one", "other"] (sp_same_web K C)) (c__law_forms_right : CalG P w K mg base 9 "_law_forms_right" ["_law_heap_here", "_law_pact_here", "_law_parts"] (sp__law_forms_right K C)) (c__law_anew : Cal P w K mg base CX0 4 "_law_anew" ["_law_heap_here", "_law_parts", "_law_bent"] (sp__law_anew K)) (c__law_web : Cal P w K mg base CX0 2 "_law_web" ["_law_parts"] (sp__law_web K)) (c_full_form : Cal P w K mg base CX0 8 "full_form" ["pact"] (sp_full_form K C)) (c_bare_form : Cal P w K mg base CX0 8 "bare_form" ["pact"] (sp_bare_form K C)) (c_telling_count : Cal P w K mg base CX0 6 "telling_count" ["pact"] (sp_telling_count K C)) (c_bare_paper : Cal P w K mg base CX0 4 "bare_paper" ["pact"] (sp_bare_paper K C)) (k_same_web : CalK P w K mg base 9 "same_web" ["one", "other"] ["other", "one"] (sp_same_web K C)) (k_full_form : CalK P w K mg base 8 "full_form" ["pact"] ["pact"] (sp_full_form K C)) (k_bare_form : CalK P w K mg base 8 "bare_form" ["pact"] ["pact"] (sp_bare_form K C)) (k_telling_count : CalK P w K mg base 6 "telling_count" ["pact"] ["pact"] (sp_telling_count K C)) (k_bare_waits : CalK P w K mg base 5 "bare_waits" ["pact", "note"] ["note", "pact"] (sp_bare_waits K C)) (k_bare_paper : CalK P w K mg base 4 "bare_paper" ["pact"] ["pact"] (sp_bare_paper K C)) :
    FnOkG P w K mg base 10 f (PySem.W.fnOf "law" "law" (defArgs s_law) (defBody s_law) (defScope s_law) .none kV doc pm an (.ref c) ct) ["_law_script"] (sp_law K Pt) := by
  refine fn_ofG lk hcd sc_law (fun vs H Q E h => ?_) fun A outer s H vs Q E hr hgu h => ?_
  · obtain ⟨a, ns, rfl, _⟩ := h; rfl
  obtain ⟨a, ns, rfl, hS, hl, hP, k⟩ := h
  obtain ⟨G0, s0, d0⟩ := start_g hS
  · have nd := sc_law.nd
    have hu := hu_of hr
    have hrU := hrU_of hr
    refine ⟨_, pss_cons (ps_n 1 nd (pe_cal c__law_heap (hr.mono (by decide)) (by rfl) pass0 (pa_cons (pv 0) (pa_cons (pe_int) pa_nil))))
    (pss_cons (ps_asg (pe_cal c__law_pact (hr.mono (by decide)) (by rfl) pass0 (pa_cons (pv 1) (pa_cons (pe_cal c__law_pick (hr.mono (by decide)) (by rfl) pass0 (pa_cons (pv 1) (pa_cons (pe_lst (pa_cons (pe_int) (pa_cons (pe_int) (pa_cons (pe_int) (pa_cons (pe_int) (pa_cons (pe_int) (pa_cons (pe_int) (pa_cons (pe_int) (pa_cons (pe_int) (pa_cons (pe_int) (pa_cons (pe_int) pa_nil))))))))))) pa_nil))) pa_nil))) (kTg K 4 rfl (pgs_cons (pg_n 2 nd) (pgs_cons (pg_n 3 nd) (pgs_cons (pg_n 4 nd) (pgs_cons (pg_n 5 nd) pgs_nil))))))
    (pss_cons (ps_n 6 nd (pe_tup (pa_cons (pv 2) (pa_cons (pv 3) (pa_cons (pv 4) (pa_cons (pv 5) pa_nil))))))
    (pss_cons (ps_n 7 nd (pe_mk c_Pact (hr.mono (by decide)) (by rfl) (pa_cons (pv 2) (pa_cons (pv 3) (pa_cons (pv 4) (pa_cons (pv 5) pa_nil))))))
    (pss_cons (ps_if (PW.pt (pw_or (pt_not (pt_val (pe_calG c__law_forms_right hgu (hr.mono (by decide)) (by rfl) (pa_cons (pv 1) (pa_cons (pv 7) (pa_cons (pv 6) pa_nil)))))) (pw_or1 (pt_not (pt_val (pe_cal c_same_web (hr.mono (by decide)) (by rfl) pass0 (pa_cons (pv 7) (pa_cons (pv 7) pa_nil))))))))
      (pss_one (ps_ret (pe_bl)))
      (pss_nil))
    (pss_cons (ps_for PassesOwn.never rfl (kSeq K (pe_lst (pa_cons (pe_int) (pa_cons (pe_int) (pa_cons (pe_int) (pa_cons (pe_int) (pa_cons (pe_cal c__law_pick (hr.mono (by decide)) (by rfl) pass0 (pa_cons (pv 1) (pa_cons (pe_lst (pa_cons (pe_int) (pa_cons (pe_int) pa_nil))) pa_nil))) (pa_cons (pe_int) (pa_cons (pe_cal c__law_pick (hr.mono (by decide)) (by rfl) pass0 (pa_cons (pv 1) (pa_cons (pe_lst (pa_cons (pe_int) (pa_cons (pe_int) pa_nil))) pa_nil))) pa_nil))))))))) (pg_n 8 nd)
      (pss_cons (ps_n 9 nd (pe_cal c__law_anew (hr.mono (by decide)) (by rfl) pass0 (pa_cons (pv 1) (pa_cons (pv 6) (pa_cons (pv 8) pa_nil)))))
        (pss_cons (ps_par (i := 10) (j := 11) (by rfl) nd rfl rfl (by decide) rfl rfl (pa_cons (pe_mk c_Pact (hr.mono (by decide)) (by rfl) (pa_cons (pe_ix (kIx K) (pv 9) (pe_int) (fun _ _ => rfl)) (pa_cons (pe_ix (kIx K) (pv 9) (pe_int) (fun _ _ => rfl)) (pa_cons (pe_ix (kIx K) (pv 9) (pe_int) (fun _ _ => rfl)) (pa_cons (pe_ix (kIx K) (pv 9) (pe_int) (fun _ _ => rfl)) pa_nil))))) (pa_cons (pe_cmpR (kEq K hrU) (pe_cal c__law_web (hr.mono (by decide)) (by rfl) pass0 (pa_cons (pv 9) pa_nil)) (pe_cal c__law_web (hr.mono (by decide)) (by rfl) pass0 (pa_cons (pv 6) pa_nil)) (nomark _)) pa_nil)) (by rfl))
        (pss_cons (ps_if (PW.pt (pw_or (PW.pt (pw_and (pt_cmpR op_eq (pv 8) (pe_int) (nomark _)) (pw_and1 (pt_not (pt_val (pv 11)))))) (pw_or1 (pt_cmpR op_ne (pe_callB (kRepr K hgu (hr.mono (by decide))) (by rfl) T.m_repr (by decide +kernel) (pa_cons (pe_tup (pa_cons (pe_cal c_same_web (hr.mono (by decide)) (by rfl) pass0 (pa_cons (pv 7) (pa_cons (pv 10) pa_nil))) (pa_cons (pe_calk k_same_web (hr.mono (by decide)) (by rfl) (pk_cons (pv 7) (pk_cons (pv 10) pk_nil))) pa_nil))) pa_nil)) (pe_callB (kRepr K hgu (hr.mono (by decide))) (by rfl) T.m_repr (by decide +kernel) (pa_cons (pe_tup (pa_cons (pv 11) (pa_cons (pv 11) pa_nil))) pa_nil)) (nomark _)))))
          (pss_one (ps_ret (pe_bl)))
          (pss_nil))
        (pss_cons (ps_if (PW.pt (pw_or (pt_cmpR op_ne (pe_cmpR (op_eqP cEq (hr.mono (by decide))) (pe_calk k_bare_form (hr.mono (by decide)) (by rfl) (pk_cons (pv 7) pk_nil)) (pe_cal c_bare_form (hr.mono (by decide)) (by rfl) pass0 (pa_cons (pv 10) pa_nil)) (nomark _)) (pv 11) (nomark _)) (pw_or1 (pt_cmpR op_ne (pe_cmpR (op_eqP cEq (hr.mono (by decide))) (pe_cal c_full_form (hr.mono (by decide)) (by rfl) pass0 (pa_cons (pv 10) pa_nil)) (pe_calk k_full_form (hr.mono (by decide)) (by rfl) (pk_cons (pv 7) pk_nil)) (nomark _)) (pv 11) (nomark _)))))
          (pss_one (ps_ret (pe_bl)))
          (pss_nil))
        (pss_one (ps_if (PW.pt (pw_or (PW.pt (pw_and (pt_val (pv 11)) (pw_and1 (pt_cmpR op_ne (pe_calk k_telling_count (hr.mono (by decide)) (by rfl) (pk_cons (pv 10) pk_nil)) (pe_cal c_telling_count (hr.mono (by decide)) (by rfl) pass0 (pa_cons (pv 7) pa_nil)) (nomark _))))) (pw_or1 (pt_not (pt_val (pe_cal c_same_web (hr.mono (by decide)) (by rfl) pass0 (pa_cons (pv 10) (pa_cons (pe_cal c_bare_form (hr.mono (by decide)) (by rfl) pass0 (pa_cons (pe_cal c_full_form (hr.mono (by decide)) (by rfl) pass0 (pa_cons (pv 10) pa_nil)) pa_nil)) pa_nil))))))))
          (pss_one (ps_ret (pe_bl)))
          (pss_nil))))))))
    (pss_cons (ps_n 12 nd (pe_cal c__law_pick (hr.mono (by decide)) (by rfl) pass0 (pa_cons (pv 1) (pa_cons (pe_lc (own := [("_law_word", 13)]) (by rfl) nd (kSeq K (pe_op (kCat K) (pe_lst (pa_cons (pe_str) (pa_cons (pe_str) (pa_cons (pe_str) pa_nil)))) (pv 2))) (blkOk_by (by kernel_rfl)) (fun _ _ _ _ _ => (pg_n 13 nd)) (fun _ _ _ _ _ => (pts_one (pt_cmpR (kNi K) (pv 13) (pe_lc (own := [("_law_note", 14)]) (by rfl) nd (kSeq K (pv 3)) (blkOk_by (by kernel_rfl)) (fun _ _ _ _ _ => (pg_n 14 nd)) (fun _ _ _ _ _ => pts_nil) (fun _ _ _ _ _ => (pe_ix (kIx K) (pv 14) (pe_int) (fun _ _ => rfl)))) (by rfl)))) (fun _ _ _ _ _ => (pv 13))) pa_nil))))
    (pss_cons (ps_if (PW.pt (pw_or (pt_cmpR op_ne (lam_ok hmN hkN FN hbN TB TN cX (hr.mono (by decide))) (pv 12) (nomark _)) (pw_or1 (pt_cmpR (kNe K hrU) (pe_calk k_bare_waits (hr.mono (by decide)) (by rfl) (pk_cons (pe_ix (kIx K) (pe_ix (kIx K) (pv 3) (pe_int) (fun _ _ => rfl)) (pe_int) (fun _ _ => rfl)) (pk_cons (pv 7) pk_nil))) (pe_tup pa_nil) (nomark _)))))
      (pss_one (ps_ret (pe_bl)))
      (pss_nil))
    (pss_cons (ps_if (pt_cmpR (kNe K hrU) (pe_calk k_bare_paper (hr.mono (by decide)) (by rfl) (pk_cons (pv 7) pk_nil)) (pe_cal c_bare_paper (hr.mono (by decide)) (by rfl) pass0 (pa_cons (pe_cal c_full_form (hr.mono (by decide)) (by rfl) pass0 (pa_cons (pv 7) pa_nil)) pa_nil)) (nomark _))
      (pss_one (ps_ret (pe_bl)))
      (pss_nil))
    (pss_one (ps_ret (pe_cmpR op_eq (pe_callB (kRepr K hgu (hr.mono (by decide))) (by rfl) T.m_repr (by decide +kernel) (pa_cons (pe_tup (pa_cons (kFld K (pv 7)) (pa_cons (kFld K (pv 7)) (pa_cons (kFld K (pv 7)) (pa_cons (kFld K (pv 7)) pa_nil))))) pa_nil)) (pe_callB (kRepr K hgu (hr.mono (by decide))) (by rfl) T.m_repr (by decide +kernel) (pa_cons (pe_tup (pa_cons (pe_callTy (kTup K) (by rfl) T.m_tuple (by decide +kernel) (pa_cons (pv 2) pa_nil)) (pa_cons (pe_callTy (kTup K) (by rfl) T.m_tuple (by decide +kernel) (pa_cons (pv 3) pa_nil)) (pa_cons (pe_callTy (kTup K) (by rfl) T.m_tuple (by decide +kernel) (pa_cons (pv 4) pa_nil)) (pa_cons (pv 5) pa_nil))))) pa_nil)) (nomark _)))))))))))), ?_⟩
    refine st (σ' := [some (V.ref a), none, none, none, none, none, none, none, none, none, none, none, none, none, none]) rfl ?_
    have nz : ∀ {o : HO}, some o ≠ none := fun z => nomatch z
    refine q_asg s0 (e_call (Γ := List Int) (args := fun ns => [D K (.list (ns.map PyData.int)), D K (.int 7)]) (pre := fun ns => ns.length ≤ 63) (res := fun _ => HeapAt) ns (ea_cons (e_var rfl d0) (ea_cons ed_int ea_nil)) hl) fun v1 G1 H1 g1 h1 => ?_
    refine st (σ' := [some (V.ref a), some v1, none, none, none, none, none, none, none, none, none, none, none, none, none]) rfl ?_
    have pk : EvS (tCall (sp__law_pick K) [] E0 (tCons (tVar 1) (tCons (tLst (tCons (tC (.int 6)) (tCons (tC (.int 6)) (tCons (tC (.int 6)) (tCons (tC (.int 8)) (tCons (tC (.int 8)) (tCons (tC (.int 8)) (tCons (tC (.int 10)) (tCons (tC (.int 10)) (tCons (tC (.int 10)) (tCons (tC (.int 18)) tNil))))))))))) tNil))) [some (V.ref a), some v1, none, none, none, none, none, none, none, none, none, none, none, none, none] G1 (NatR 6 18) :=
      (e_pick (K := K) (e_var rfl h1) (en_lst (dd_cons ed_int (dd_cons ed_int (dd_cons ed_int (dd_cons ed_int (dd_cons ed_int (dd_cons ed_int (dd_cons ed_int (dd_cons ed_int (dd_cons ed_int (dd_cons ed_int dd_nil)))))))))) (by decide)).d (by decide) (by decide)).imp fun v H ⟨d, hd, r⟩ => by
        simp only [itemsOf, List.mem_cons, List.not_mem_nil, or_false] at hd
        rcases hd with rfl | rfl | rfl | rfl | rfl | rfl | rfl | rfl | rfl | rfl
        · exact ⟨6, by decide, by decide, d_int r⟩
        · exact ⟨6, by decide, by decide, d_int r⟩
        · exact ⟨6, by decide, by decide, d_int r⟩
        · exact ⟨8, by decide, by decide, d_int r⟩
        · exact ⟨8, by decide, by decide, d_int r⟩
        · exact ⟨8, by decide, by decide, d_int r⟩
        · exact ⟨10, by decide, by decide, d_int r⟩
        · exact ⟨10, by decide, by decide, d_int r⟩
        · exact ⟨10, by decide, by decide, d_int r⟩
        · exact ⟨18, by decide, by decide, d_int r⟩
    refine q_asgT g1.sub (R := PartsR K) (e_call2 (e_var (R := HeapAt) rfl h1) pk fun x y G rx ⟨m, a, b, e⟩ => ⟨m, ⟨x, _, rfl, rx, y, _, rfl, by subst e; exact .int _, rfl⟩, ⟨a, b⟩, fun v G' r => r⟩) fun v G2 H2 g2 ⟨p, hv, hsp, r⟩ => ?_
    obtain ⟨w2, w3, w4, w5, r2, r3, r4, r5, htg⟩ := tg_4 r
    refine ⟨_, htg _ _ _ _ _ tg_name tg_name tg_name tg_name, ?_⟩
    refine st (σ' := [some (V.ref a), some v1, some w2, some w3, some w4, some w5, none, none, none, none, none, none, none, none, none]) rfl ?_
    replace h1 := stb g2.up h1
    clear pk
    refine q_asg g2.sub (ed_tup (K := K) (ds := [.list (sds p.hands), .list (dNotes p.notes), .list (sds p.ready), .tuple (sds p.paper)]) (dd_cons (e_var rfl r2) (dd_cons (e_var rfl r3) (dd_cons (e_var rfl r4) (dd_cons (e_var rfl r5) dd_nil)))) (by simp)) fun v6 G3 H3 g3 r6 => ?_
    refine st (σ' := [some (V.ref a), some v1, some w2, some w3, some w4, some w5, some v6, none, none, none, none, none, none, none, none]) rfl ?_
    replace h1 := stb g3.up h1
    replace r2 := Dp.up g3.up _ _ r2
    replace r3 := Dp.up g3.up _ _ r3
    replace r4 := Dp.up g3.up _ _ r4
    replace r5 := Dp.up g3.up _ _ r5
    replace r6 : Dp K G3 v6 (dParts p) := r6
    refine q_asg g3.sub (e_make (p := p) (b := true) (ea_cons (e_var rfl r2) (ea_cons (e_var rfl r3) (ea_cons (e_var rfl r4) (ea_cons (e_var rfl r5) ea_nil)))) hv) fun v7 G4 H4 g4 r7 => ?_
    refine st (σ' := [some (V.ref a), some v1, some w2, some w3, some w4, some w5, some v6, some v7, none, none, none, none, none, none, none]) rfl ?_
    have g04 := (((g1.trans g2).trans g3).trans g4)
    replace h1 := stb g4.up h1
    replace r2 := Dp.up g4.up _ _ r2
    replace r3 := Dp.up g4.up _ _ r3
    replace r4 := Dp.up g4.up _ _ r4
    replace r5 := Dp.up g4.up _ _ r5
    replace r6 := Dp.up g4.up _ _ r6
    have sw : bP (SameW p p) = true := bP_iff.mpr (SameW.refl p)
    refine q_skip g04.sub (et_or (et_not (et_B (e_call (Γ := Pac) (args := fun p => [HeapAt, PactAt K C p, D K (dParts p)]) (pre := fun p => Val p) (res := fun _ => D K (.bool true)) p (ea_cons (e_var (R := HeapAt) rfl h1) (ea_cons (e_var (R := PactAt K C p) rfl r7) (ea_cons (e_var rfl r6) ea_nil))) hv))) fun _ => et_not (et_B (e_call (Γ := Pac × Pac) (args := fun x => [PactAt K C x.1, PactAt K C x.2]) (p, p) (ea_cons (e_var (R := PactAt K C p) rfl r7) (ea_cons (e_var (R := PactAt K C p) rfl r7) ea_nil)) ⟨hv, hv⟩))) (by rw [sw]; rfl) fun G5 H5 g5 => ?_
    have g05 := g04.trans g5
    replace h1 := stb g5.up h1
    replace r2 := Dp.up g5.up _ _ r2
    replace r3 := Dp.up g5.up _ _ r3
    replace r4 := Dp.up g5.up _ _ r4
    replace r5 := Dp.up g5.up _ _ r5
    replace r6 := Dp.up g5.up _ _ r6
    replace r7 := stb g5.up r7
    have s5 := g05.sub
    clear g1 g2 g3 g4 g5 g04 r d0
    have pick2 : ∀ {x y : Int} {σ : L2.St}, (0 ≤ x ∧ x ≤ 8) → (0 ≤ y ∧ y ≤ 8) → σ[1]? = some (some v1) → EvS (tCall (sp__law_pick K) [] E0 (tCons (tVar 1) (tCons (tLst (tCons (tC (.int x)) (tCons (tC (.int y)) tNil))) tNil))) σ G5 (NatR 0 8) := fun {x y σ} hx hy e =>
      (e_pick (K := K) (e_var e h1) (en_lst (dd_cons ed_int (dd_cons ed_int dd_nil)) (by simp)).d (by simp [itemsOf]) (by simp [itemsOf])).imp fun v H ⟨d, hd, r⟩ => by
        simp only [itemsOf, List.mem_cons, List.not_mem_nil, or_false] at hd
        rcases hd with rfl | rfl
        · exact ⟨x.toNat, by omega, by omega, by rw [d_int r]; congr 1; omega⟩
        · exact ⟨y.toNat, by omega, by omega, by rw [d_int r]; congr 1; omega⟩
    have nat8 : ∀ {σ : L2.St} {n : Nat}, n ≤ 8 → EvS (tC (.int (n : Nat))) σ G5 (NatR 0 8) := fun h => e_c ⟨_, Nat.zero_le _, h, rfl⟩
    refine q_for s5 (src_lstR (K := K) (Rs := [NatR 0 8, NatR 0 8, NatR 0 8, NatR 0 8, NatR 0 8, NatR 0 8, NatR 0 8]) (e_lstA (ea_cons (nat8 (n := 0) (by decide)) (ea_cons (nat8 (n := 1) (by decide)) (ea_cons (nat8 (n := 2) (by decide)) (ea_cons (nat8 (n := 3) (by decide)) (ea_cons (pick2 (by decide) (by decide) rfl) (ea_cons (nat8 (n := 6) (by decide)) (ea_cons (pick2 (by decide) (by decide) rfl) ea_nil))))))) (by simp)))
      (fun i σ G' H' => Grow G0 H G' H' ∧ ∃ a8 a9 a10 a11, σ = [some (V.ref a), some v1, some w2, some w3, some w4, some w5, some v6, some v7, a8, a9, a10, a11, none, none, none])
      (fun G2 H2 g2 => ⟨g05.trans g2, _, _, _, _, rfl⟩) ?_ ?_
    · rintro i σ' G' H' y G6 H6 hi sg sh ⟨gr, a8, a9, a10, a11, rfl⟩ g6 ⟨R, hR, hy⟩
      obtain ⟨bt, b8, rfl⟩ : ∃ bt : Nat, bt ≤ 8 ∧ y = .int (bt : Nat) := by
        have e : R = NatR 0 8 := by
          match i, hi with
          | 0, _ => exact (Option.some.inj hR).symm
          | 1, _ => exact (Option.some.inj hR).symm
          | 2, _ => exact (Option.some.inj hR).symm
          | 3, _ => exact (Option.some.inj hR).symm
          | 4, _ => exact (Option.some.inj hR).symm
          | 5, _ => exact (Option.some.inj hR).symm
          | 6, _ => exact (Option.some.inj hR).symm
        subst e
        obtain ⟨n, _, h, e⟩ := hy
        exact ⟨n, h, e⟩
      refine ⟨_, tg_name, ?_⟩
      refine st (σ' := [some (V.ref a), some v1, some w2, some w3, some w4, some w5, some v6, some v7, some (V.int (bt:Nat)), a9, a10, a11, none, none, none]) rfl ?_
      have u6 := sg.trans g6.up
      refine q_asg g6.sub (e_call (Γ := Pac × Nat) (args := fun x => [HeapAt, D K (dParts x.1), D K (.int (x.2 : Nat))]) (pre := fun x => Val x.1 ∧ ShortP x.1 ∧ x.2 ≤ 8) (res := fun x => AnewR K x.1 x.2) (p, bt) (ea_cons (e_var (R := HeapAt) rfl (stb u6 h1)) (ea_cons (e_var rfl (Dp.up u6 _ _ r6)) (ea_cons (e_var rfl (.int (bt : Nat))) ea_nil))) ⟨hv, hsp, b8⟩) fun v9 G7 H7 g7 ⟨q, vq, sq, r9⟩ => ?_
      replace sq : bt = 0 → SameW p q := sq
      refine st (σ' := [some (V.ref a), some v1, some w2, some w3, some w4, some w5, some v6, some v7, some (V.int (bt:Nat)), some v9, a10, a11, none, none, none]) rfl ?_
      have u7 := u6.trans g7.up
      have r6' : Dp K G7 v6 (dParts p) := Dp.up u7 _ _ r6
      refine q_parE g7.sub (e_pactOf (K := K) (C := C) rfl r9 vq) (e_dueOf (K := K) rfl r6' rfl r9 hv vq) fun v10 v11 G8 H8 g8 r10 r11 => ?_
      cases d_bl r11
      refine st (σ' := [some (V.ref a), some v1, some w2, some w3, some w4, some w5, some v6, some v7, some (V.int (bt:Nat)), some v9, some v10, some (V.bl (bP (SameW p q))), none, none, none]) rfl ?_
      have u8 := u7.trans g8.up
      have h7 := stb u8 r7
      refine q_skip g8.sub (et_if1 (K := K) (C := C) (p := p) (q := q) rfl h7 rfl r10 rfl hv vq (bt := bt) rfl sq) rfl fun G9 H9 g9 => ?_
      refine q_skip g9.sub (et_if2 (K := K) (C := C) (p := p) (q := q) rfl (stb g9.up h7) rfl (stb g9.up r10) rfl hv vq) rfl fun G10 H10 g10 => ?_
      refine s_if g10.sub (et_if3 (K := K) (C := C) (p := p) (q := q) rfl (stb (g9.up.trans g10.up) h7) rfl (stb (g9.up.trans g10.up) r10) rfl hv vq) (fun hb => by cases hb) fun _ G11 H11 g11 => ?_
      have gg := ((((g6.trans g7).trans g8).trans g9).trans g10).trans g11
      exact ⟨G11, gg.up, gg.sub, gr.trans gg, _, _, _, _, rfl⟩
    · rintro σ' G' H' sg sh ⟨gr, a8, a9, a10, a11, rfl⟩
      replace h1 := stb sg h1
      replace r2 := Dp.up sg _ _ r2
      replace r3 := Dp.up sg _ _ r3
      replace r4 := Dp.up sg _ _ r4
      replace r5 := Dp.up sg _ _ r5
      replace r7 := stb sg r7
      clear pick2 nat8
      have ne0 : ("" : Str) ∉ nms p.notes := fun z => by
        exact absurd (names_of_pac hv _ z).1 (by decide)
      have hh6 := hv.h6
      have wl : ((["", "q", "zz"] : List Str) ++ p.hands).length ≤ 9 := by simp; omega
      refine q_asg sh (e_pickS (K := K) (xs := ((["", "q", "zz"] : List Str) ++ p.hands).filter fun x => !decide (x ∈ nms p.notes)) (.l _) (e_var (i := 1) rfl h1) (en_filt (K := K) (xs := (["", "q", "zz"] : List Str) ++ p.hands) (fun x => !decide (x ∈ nms p.notes)) (.l _) ((en_cat (K := K) (ds := sds (["", "q", "zz"] : List Str)) (es := sds p.hands) (en_lst (dd_cons ed_str (dd_cons ed_str (dd_cons ed_str dd_nil))) (by decide)).d (e_var (i := 2) rfl r2) (by simp; omega)).d.to (by simp [sds])) (by omega) (by simp) fun x G2 hx u2 => et_T (ed_niIn (.l (sds (nms p.notes))) (e_var rfl (.str x)) (en_names (ns := p.notes) (by have := hv.n40; omega) (e_var rfl (Dp.up u2 _ _ r3)) (by simp)).d)).d (List.length_pos_of_mem (a := ("" : Str)) (List.mem_filter.mpr ⟨by simp, by simp [ne0]⟩)) (Nat.le_trans (List.length_filter_le _ _) (by omega))) fun v12 G6 H6 g6 ⟨x, hx, e⟩ => ?_
      subst e
      have hxn : x ∉ nms p.notes := by
        have := (List.mem_filter.mp hx).2
        simpa using this
      refine st (σ' := [some (V.ref a), some v1, some w2, some w3, some w4, some w5, some v6, some v7, a8, a9, a10, a11, some (V.str x), none, none]) rfl ?_
      have g06 := gr.trans g6
      replace r2 := Dp.up g6.up _ _ r2
      replace r3 := Dp.up g6.up _ _ r3
      replace r4 := Dp.up g6.up _ _ r4
      replace r5 := Dp.up g6.up _ _ r5
      replace r7 := stb g6.up r7
      have n2 := hv.n2
      have e0 : p.notes[0]? = some p.notes[0] := List.getElem?_eq_getElem _
      have hb0 := bare_first hv e0
      have m0 : p.notes[0].1 ∈ nms p.notes := mem_of_get (by rw [List.getElem?_map, e0]; rfl)
      refine q_lamif g06.sub (g06.keep _ _ hP) rfl r7 rfl hv hxn TN.te (fun G2 u2 => ?_) fun G7 H7 u7 s7 => ?_
      · have q3 : Dp K G2 w3 (.list (dNotes p.notes)) := Dp.up u2 _ _ (dp_ext noT_ext _ _ r3)
        have q7 : PactAt K C p v7 G2 := stb u2 (pact_ext noT_ext r7)
        refine et_T ((ed_neD (K := K) (a := .tuple (sds (bare p.notes p.notes[0].1))) (b := .tuple []) (e_callK2 (Γ := Pac × Str) (R1 := D K (.str p.notes[0].1)) (R2 := PactAt K C p) (p, p.notes[0].1) (ed_ix (e := .str p.notes[0].1) (d := dNote p.notes[0]) 0 (.t _) (ed_ix (e := dNote p.notes[0]) (d := .list (dNotes p.notes)) 0 (.l _) (e_var rfl q3) ed_int (.inl ⟨rfl, by simp; omega⟩) (by rw [List.getElem?_map, e0]; rfl)) ed_int (.inl ⟨rfl, by simp⟩) rfl) (e_var rfl q7) rfl ⟨hv, m0⟩) (ed_tup dd_nil (by simp)) ?_ ?_).to ?_)
        · rw [hb0]; rfl
        · rfl
        · rw [hb0]; rfl
      have q2 := Dp.up u7 _ _ (dp_ext noT_ext _ _ r2)
      have q3 := Dp.up u7 _ _ (dp_ext noT_ext _ _ r3)
      have q4 := Dp.up u7 _ _ (dp_ext noT_ext _ _ r4)
      have q5 := Dp.up u7 _ _ (dp_ext noT_ext _ _ r5)
      have q7 : PactAt K C p v7 G7 := stb u7 (pact_ext noT_ext r7)
      obtain ⟨vF, sF⟩ := full_ok hv
      have ue := upper_eq sF hv vF
      have uok : ∀ z ∈ upper p.notes (whole p.notes p.paper), NameOk z := fun z hz => names_of_pac hv z (whole_names hv z (upper_sub hz))
      have shu : SeqAt.shaped (.tuple (sds (upper p.notes (whole p.notes p.paper)))) = true := (sh_tup (n := 0) (sh_sds uok)).shaped
      refine q_skip s7 (et_T ((ed_neD (K := K) (a := .tuple (sds (upper p.notes (whole p.notes p.paper)))) (b := .tuple (sds (upper (fullPac p).notes (whole (fullPac p).notes (fullPac p).paper)))) (e_callK1 (Γ := Pac) (R := PactAt K C p) (res := fun x => D K (.tuple (sds (upper x.notes (whole x.notes x.paper))))) p (e_var rfl q7) rfl hv) (e_call (Γ := Pac) (args := fun x => [PactAt K C x]) (pre := fun x => Val x) (res := fun x => D K (.tuple (sds (upper x.notes (whole x.notes x.paper))))) (fullPac p) (ea_cons (e_call (Γ := Pac) (args := fun x => [PactAt K C x]) (pre := fun x => Val x) (res := fun x => PactAt K C (fullPac x)) p (ea_cons (e_var (R := PactAt K C p) rfl q7) ea_nil) hv) ea_nil) vF) shu (by rw [← ue]; exact shu)).to (d' := .bool false) ?_)) rfl fun G8 H8 g8 => ?_
      · rw [← ue, eqv_bP (by simp [noNum, noNums_sds]), bP_iff.mpr rfl]; rfl
      refine s_ret g8.sub ((ed_eqS (K := K) (ed_reprB (rb_pac hv) (by decide) (by decide) (ed_dPac cC (e_var (R := PactAt K C p) rfl (stb g8.up q7)))) (ed_reprB (rb_pac hv) (by decide) (by decide) (ed_tup (K := K) (dd_cons (ed_tupOf (.l (sds p.hands)) (e_var rfl (Dp.up g8.up _ _ q2))) (dd_cons (ed_tupOf (.l (dNotes p.notes)) (e_var rfl (Dp.up g8.up _ _ q3))) (dd_cons (ed_tupOf (.l (sds p.ready)) (e_var rfl (Dp.up g8.up _ _ q4))) (dd_cons (e_var rfl (Dp.up g8.up _ _ q5)) dd_nil)))) (by simp)))).to (d' := .bool true) (by simp)) fun v G9 H9 g9 rv => ?_
      cases d_bl rv
      exact k _
end
end KB

set_option Elab.async false
set_option linter.all false
set_option maxRecDepth 100000
set_option maxHeartbeats 4000000
/-! The end where the law is called with no repr under way: one table of one code object. -/
namespace KB
open PySem PySem.Spec PyProof.Rows L2
section
variable {P : Program} {w : World} {K : PySem.W.Frag} {mg mb : Str → Option Value} {k : Nat} {fa a c Pt : Addr} {fd : FuncData} {x : Str} {sp : Sp} {s₁ : Shared} {vs : List Value} {ns : List Int}
/-- what the start's heap tracks: the table, and perhaps the script -/
structure Seed (K : PySem.W.Frag) (Pt a : Addr) (H : Hp) : Prop where
  tab : H Pt = some (.tbl #[])
  else' : ∀ b u, H b = some u → b = Pt ∨ (b = a ∧ K.lookup a = none ∧ ∃ o xs, u = .frz o (.lst xs))
theorem run_seed {H : Hp} (KX : K.In s₁.heap) (hns : s₁.heap.Ns mainGlobals mg) (hb : s₁.heap.Ns builtinsNs mb) (hbb : ∀ x : Str, x ≠ "__name__" → mb x = bootBuiltins x) (hlim : s₁.heap.NoLimit) (hg : s₁.gens = #[])
    (hT : s₁.heap.get? Pt = some { cls := .none, data := .fields #[] }) (nT : K.lookup Pt = none) (C : PySem.W.CodeHd s₁.heap c Pt)
    (hbm : ∃ (bm : Addr) (ob : Obj), mg "__builtins__" = some (.ref bm) ∧ bm ≠ builtinsNs ∧ s₁.heap.get? bm = some ob ∧ ob.cls = .type "module" ∧ ob.dict = some builtinsNs ∧ ob.data = .plain)
    (ha : s₁.heap.get? a = some { cls := .type "list", data := .seq vs.toArray }) (hr : Room k callerA)
    (F : ∀ base : Heap, K.In base → base.Ns mainGlobals mg → LamX.TabB base mg c Pt → FnOkG P w K mg base k fa fd [x] sp) (hbind : ∀ (s : Shared) (u : Value), BindsTo s fd ⟨[u], []⟩ [(x, u)])
    (S : Seed K Pt a H) (hok : HOk P w H s₁.heap) (hsp : sp [.ref a] H (fun v _ => v = .bl true) fun _ _ _ => False) :
    codeAny (model P w) callerA (.call (.ref fa) ⟨[.ref a], []⟩) (fun r s' => r = .ok (.ret (.bool true)) ∧ OldK s₁.heap s'.heap ∧ s'.os = s₁.os ∧ AllBare s'.gens) s₁ := by
  -- an address that holds neither a list nor a table is not tracked
  have free : ∀ {b : Addr} {o : Obj}, s₁.heap.get? b = some o → (∀ vs n, o.data ≠ .seq vs n) → o.data ≠ .fields #[] → H b = none := fun {b o} e h1 h2 => by
    rcases q : H b with _ | u
    · rfl
    · rcases S.else' b u q with rfl | ⟨rfl, _⟩
      · rw [hT] at e; cases e; exact (h2 rfl).elim
      · rw [ha] at e; cases e; exact (h1 _ _ rfl).elim
  have dict : ∀ {b : Addr} {m : Str → Option Value}, s₁.heap.Ns b m → (hidT s₁.heap H).Ns b m := fun {b m} ⟨o, es, ep, e, d, r⟩ =>
    ⟨o, es, ep, hidT_get e (free e (fun vs n z => by rw [d] at z; cases z) fun z => by rw [d] at z; cases z), d, r⟩
  have kin : K.In (hidT s₁.heap H) := fun b o e => hidT_get (KX b o e) (by
    rcases q : H b with _ | u
    · rfl
    · rcases S.else' b u q with rfl | ⟨rfl, z, _⟩
      · rw [nT] at e; cases e
      · rw [z] at e; cases e)
  have mod : L2.Mod K mg (hidT s₁.heap H) := ⟨kin, dict hns, ⟨mb, dict hb, hbb⟩, let ⟨mc, h1, h2⟩ := hlim; ⟨mc, dict h1, h2⟩⟩
  have notT : ∀ {o : Obj} {d : Addr}, s₁.heap.get? Pt = some o → o.dict = some d → False := fun {o d} e z => by
    rw [hT] at e; cases e; cases z
  have tb : LamX.TabB (hidT s₁.heap H) mg c Pt := by
    refine ⟨?_, ?_, fun z => ?_⟩
    · obtain ⟨o, us, file, tf, flags, tg, inF, text, tt, e1, r1, r2, r3, r⟩ := C
      refine ⟨o, us, file, tf, flags, tg, inF, text, tt, hidT_get e1 (free e1 (fun vs n z => ?_) fun z => ?_), r1, r2, r3, r⟩
      · rw [r2] at z; cases z
      · rw [r2] at z; cases z; simp at r3
    · obtain ⟨bm, ob, b1, b2, b3, b4, b5, b6⟩ := hbm
      refine ⟨bm, ob, b1, b2, fun q => ?_, fun q => ?_, hidT_get b3 (free b3 (fun vs n z => ?_) fun z => ?_), b4, b5, b6⟩
      · obtain ⟨o, es, ep, e, hd, _⟩ := hns
        rw [q, e] at b3; cases b3; rw [hd] at b6; cases b6
      · rw [q, hT] at b3; cases b3; cases b6
      · rw [b6] at z; cases z
      · rw [b6] at z; cases z
    · obtain ⟨o, es, ep, e, hd, _⟩ := hns
      rw [z, hT] at e; cases e; cases hd
  have env : Env0 P w K mg (hidT s₁.heap H) callerA [] s₁ H := ⟨rfl, mod, fun b o e => of_hidT e, Nat.le_of_eq (hidT_size _ _), trivial, fun b hb => absurd (show b ∈ ([] : List Addr) from hb) (by simp), hok, .of_eq hg⟩
  refine codeAny_mono ((F _ kin (dict hns) tb).run callerA [] s₁ H ⟨[.ref a], []⟩ [.ref a] [.ref a] _ _ hr rfl env (hbind s₁ (.ref a)) (.cons rfl .nil) hsp) fun r s' h => ?_
  match r, h with
  | .ok (.ret u), h =>
    obtain ⟨v, H', os, bare, un, hok', r', q⟩ := h
    obtain rfl : v = .bl true := q
    obtain rfl : u = Value.bool true := r'
    obtain ⟨more, hm⟩ := un.tbls Pt #[] S.tab
    have hT' : s'.heap.get? Pt = some { cls := .none, data := .fields (#[] ++ more) } := hok' Pt _ hm
    have old : ∀ b o, b ≠ Pt → s₁.heap.get? b = some o → s'.heap.get? b = some o := fun b o nb e => by
      rcases q : H b with _ | u
      · exact un.keep b o e q (by intro z; exact absurd (show b ∈ ([] : List Addr) from z) (by simp)) (by simp)
      · rcases S.else' b u q with z | ⟨_, _, ob, xs, rfl⟩
        · exact absurd z nb
        · obtain ⟨e1, _⟩ := hok b _ q
          obtain ⟨e2, _⟩ := hok' b _ (un.frzs b ob _ q)
          rw [e] at e1; cases e1
          exact e2
    refine ⟨rfl, ⟨fun b o e => ?_, fun b o e => ?_⟩, os, bare⟩
    · by_cases z : b = Pt
      · subst z
        rw [hT] at e; cases e
        exact .inr (.inl ⟨(C.tab hT).isCodeTable, rfl, #[], more, rfl, hT'⟩)
      · exact .inl (old b o z e)
    · by_cases z : b = Pt
      · subst z; exact ⟨_, hT'⟩
      · exact ⟨o, old b o z e⟩
  | .ok .next, h => exact False.elim h
  | .ok .brk, h => exact False.elim h
  | .ok .cont, h => exact False.elim h
  | .error e, h => exact False.elim h
/-- the call of the law with its script a -/
theorem run_law (KX : K.In s₁.heap) (hns : s₁.heap.Ns mainGlobals mg) (hb : s₁.heap.Ns builtinsNs mb) (hbb : ∀ x : Str, x ≠ "__name__" → mb x = bootBuiltins x) (hlim : s₁.heap.NoLimit) (hg : s₁.gens = #[])
    (hT : s₁.heap.get? Pt = some { cls := .none, data := .fields #[] }) (nT : K.lookup Pt = none) (C : PySem.W.CodeHd s₁.heap c Pt)
    (hbm : ∃ (bm : Addr) (ob : Obj), mg "__builtins__" = some (.ref bm) ∧ bm ≠ builtinsNs ∧ s₁.heap.get? bm = some ob ∧ ob.cls = .type "module" ∧ ob.dict = some builtinsNs ∧ ob.data = .plain)
    (ha : s₁.heap.get? a = some { cls := .type "list", data := .seq vs.toArray }) (hi : IntsAre vs ns) (hl : ns.length ≤ sizeLine) (hr : Room k callerA)
    (F : ∀ base : Heap, K.In base → base.Ns mainGlobals mg → LamX.TabB base mg c Pt → FnOkG P w K mg base k fa fd [x] sp) (hbind : ∀ (s : Shared) (u : Value), BindsTo s fd ⟨[u], []⟩ [(x, u)])
    (hsp : ∀ H : Hp, H Pt = some (.tbl #[]) → SqL K H a (ns.map V.int) → sp [.ref a] H (fun v _ => v = .bl true) fun _ _ _ => False) :
    codeAny (model P w) callerA (.call (.ref fa) ⟨[.ref a], []⟩) (fun r s' => r = .ok (.ret (.bool true)) ∧ OldK s₁.heap s'.heap ∧ s'.os = s₁.os ∧ AllBare s'.gens) s₁ := by
  have rv := vals_ints hi
  have aT : Pt ≠ a := fun z => by rw [z, ha] at hT; cases hT
  rcases hk : K.lookup a with _ | o
  · let H : Hp := fun b => if b = Pt then some (.tbl #[]) else if b = a then some (.frz { cls := .type "list", data := .seq vs.toArray } (.lst (ns.map V.int))) else none
    have h1 : H Pt = some (.tbl #[]) := if_pos rfl
    have h2 : H a = some (.frz { cls := .type "list", data := .seq vs.toArray } (.lst (ns.map V.int))) := (if_neg (Ne.symm aT)).trans (if_pos rfl)
    have h3 : ∀ b u, H b = some u → b = Pt ∨ b = a := fun b u e => by
      by_cases z : b = Pt
      · exact .inl z
      · by_cases y : b = a
        · exact .inr y
        · have e' := ((if_neg z).trans (if_neg y)).symm.trans e
          cases e'
    refine run_seed KX hns hb hbb hlim hg hT nT C hbm ha hr F hbind (H := H) ⟨h1, fun b u e => ?_⟩ (fun b u e => ?_) (hsp H h1 (.inl (.inr ⟨_, h2⟩)))
    · rcases h3 b u e with z | z
      · exact .inl z
      · subst z
        rw [h2] at e; cases e
        exact .inr ⟨rfl, hk, _, _, rfl⟩
    · rcases h3 b u e with z | z
      · subst z
        rw [h1] at e; cases e
        exact hT
      · subst z
        rw [h2] at e; cases e
        exact ⟨ha, by rw [List.length_map]; exact hl, vs, _, rv, ha⟩
  · have e := KX a o hk
    rw [ha] at e; cases e
    let H : Hp := fun b => if b = Pt then some (.tbl #[]) else none
    have h1 : H Pt = some (.tbl #[]) := if_pos rfl
    have h3 : ∀ b u, H b = some u → b = Pt := fun b u e => by
      by_cases z : b = Pt
      · exact z
      · have e' := (if_neg z).symm.trans e
        cases e'
    refine run_seed KX hns hb hbb hlim hg hT nT C hbm ha hr F hbind (H := H) ⟨h1, fun b u e => .inl (h3 b u e)⟩ (fun b u e => ?_)
      (hsp H h1 (.inr ⟨_, vs.toArray, _, hk, rfl, rfl, rfl, by rw [List.size_toArray, hi.length]; exact hl, by simpa using rv⟩))
    obtain rfl := h3 b u e
    rw [h1] at e; cases e
    exact hT
end
/-- what is known of the law's promise at the head's heap h -/
def LawG (l : PySem.W.OpenLaw) (w : World) (K : PySem.W.Frag) (k n : Nat) (x : Str) (mg : Str → Option Value) (fa : Addr) (h : Heap) : Prop :=
  ∃ (fd : FuncData) (c Pt : Addr) (sp : Sp), h.get? Pt = some { cls := .none, data := .fields #[] } ∧ K.lookup Pt = none ∧ PySem.W.CodeHd h c Pt ∧ (∀ (s : Shared) (u : Value), BindsTo s fd ⟨[u], []⟩ [(x, u)]) ∧
    (∀ (H : Hp) (a : Addr) (ns : List Int), ns.length ≤ n → (∀ z ∈ ns, Builtin.Int.intBits z ≤ 1048576) → H Pt = some (.tbl #[]) → SqL K H a (ns.map V.int) → sp [.ref a] H (fun v _ => v = .bl true) fun _ _ _ => False) ∧
    ∀ base : Heap, K.In base → base.Ns mainGlobals mg → LamX.TabB base mg c Pt → FnOkG l.prog w K mg base k fa fd [x] sp
theorem walk_ofG {l : PySem.W.OpenLaw} {n k : Nat} {q : Program} {loose : List Str} {XP : (Str → Option Value) → Heap → Prop} {YP : World → Heap → Prop} {d : DefRec} {K : Params → PySem.W.Frag} {x : Str}
    (hn : l.most = some n) (hn2 : n ≤ sizeLine) (hdf : d.params.defaults = []) (hr : Room k callerA) (hY : ∀ (w : World) (h : Heap), YP w h → (K w.params).In h)
    (F : ∀ (w : World) (mg : Str → Option Value) (fa : Addr) (h : Heap), YP w h → (K w.params).In h → h.Ns mainGlobals mg → mg d.name = some (.ref fa) → LawG l w (K w.params) k n x mg fa h) :
    PySem.W.WalkO q loose XP YP l.row.toRowW d [] (fun f vs => PySem.call f vs) := by
  refine Att.attach_callB hn hdf fun w s₀ s₁ mg mb fa o pm cd doc a vs ns G Y ho hd hcd hmg hobj hints hlen hbits hg => ?_
  have KX := hY w _ Y
  obtain ⟨fd, c, Pt, sp, hT, nT, C, hb, hsp, hF⟩ := F w mg fa _ Y KX G.T.g hmg
  exact run_law KX G.T.g G.T.b G.T.builtins G.T.nolimit hg hT nT C G.T.bmain hobj hints (Nat.le_trans hlen hn2) hr hF hb fun H hH hS => hsp H a ns hlen hbits hH hS
end KB

set_option Elab.async false
set_option linter.all false
set_option maxRecDepth 100000
set_option maxHeartbeats 4000000
/-! The end: what the top has left, the head, the row. -/
namespace KB
open PySem PySem.Spec PyProof.Rows L2
theorem exm_selfN {K : PySem.W.Frag} {S : Addr} (h1 : PySem.W.subIn K (.ref S) (.type "BaseException") = some true) (h2 : PySem.W.isClsIn K S = true) (h3 : PySem.W.typeIn K (.ref S) = some (.type "type")) (h4 : PySem.W.subIn K (.ref S) (.ref S) = some true) :
    PySem.W.exmOne K (.ref S) (.ref S) = some true := by
  have e1 : (PySem.W.subIn K (.ref S) (.type "BaseException") == some true) = true := by rw [h1] <;> rfl
  have e2 : ((PySem.W.clsIn K S).isSome && PySem.W.typeIn K (.ref S) == some (.type "type")) = true := by
    have h2' : (PySem.W.clsIn K S).isSome = true := h2
    rw [h2', h3] <;> rfl
  show (if (PySem.W.subIn K (.ref S) (.type "BaseException") == some true) = true then (if ((PySem.W.clsIn K S).isSome && PySem.W.typeIn K (.ref S) == some (.type "type")) = true then PySem.W.subIn K (.ref S) (.ref S) else none) else none) = some true
  rw [if_pos e1, if_pos e2]
  exact h4
theorem all_mk {P : Program} {w : World} {K : PySem.W.Frag} {h : Heap} {mg : Str → Option Value} {fa : Addr} {C : Addr} {f0 : Addr} {od0 an0 : Option Addr} {sl0 : Array (Option Value)} {oc0 kV0 dc0 pm0 cd0 ct0 : Value} {f1 : Addr} {od1 an1 : Option Addr} {sl1 : Array (Option Value)} {oc1 kV1 dc1 pm1 cd1 ct1 : Value} {f2 : Addr} {od2 an2 : Option Addr} {sl2 : Array (Option Value)} {oc2 kV2 dc2 pm2 cd2 ct2 : Value} {f3 : Addr} {od3 an3 : Option Addr} {sl3 : Array (Option Value)} {oc3 kV3 dc3 pm3 cd3 ct3 : Value} {f4 : Addr} {od4 an4 : Option Addr} {sl4 : Array (Option Value)} {oc4 kV4 dc4 pm4 cd4 ct4 : Value} {f5 : Addr} {od5 an5 : Option Addr} {sl5 : Array (Option Value)} {oc5 kV5 dc5 pm5 cd5 ct5 : Value} {f6 : Addr} {od6 an6 : Option Addr} {sl6 : Array (Option Value)} {oc6 kV6 dc6 pm6 cd6 ct6 : Value} {f7 : Addr} {od7 an7 : Option Addr} {sl7 : Array (Option Value)} {oc7 kV7 dc7 pm7 cd7 ct7 : Value} {f8 : Addr} {od8 an8 : Option Addr} {sl8 : Array (Option Value)} {oc8 kV8 dc8 pm8 cd8 ct8 : Value} {f9 : Addr} {od9 an9 : Option Addr} {sl9 : Array (Option Value)} {oc9 kV9 dc9 pm9 cd9 ct9 : Value} {f10 : Addr} {od10 an10 : Option Addr} {sl10 : Array (Option Value)} {oc10 kV10 dc10 pm10 cd10 ct10 : Value} {f11 : Addr} {od11 an11 : Option Addr} {sl11 : Array (Option Value)} {oc11 kV11 dc11 pm11 cd11 ct11 : Value} {f12 : Addr} {od12 an12 : Option Addr} {sl12 : Array (Option Value)} {oc12 kV12 dc12 pm12 cd12 ct12 : Value} {f13 : Addr} {od13 an13 : Option Addr} {sl13 : Array (Option Value)} {oc13 kV13 dc13 pm13 cd13 ct13 : Value} {f14 : Addr} {od14 an14 : Option Addr} {sl14 : Array (Option Value)} {oc14 kV14 dc14 pm14 cd14 ct14 : Value} {f15 : Addr} {od15 an15 : Option Addr} {sl15 : Array (Option Value)} {oc15 kV15 dc15 pm15 cd15 ct15 : Value} {f16 : Addr} {od16 an16 : Option Addr} {sl16 : Array (Option Value)} {oc16 kV16 dc16 pm16 cd16 ct16 : Value} {f17 : Addr} {od17 an17 : Option Addr} {sl17 : Array (Option Value)} {oc17 kV17 dc17 pm17 cd17 ct17 : Value} {f18 : Addr} {od18 an18 : Option Addr} {sl18 : Array (Option Value)} {oc18 kV18 dc18 pm18 cd18 ct18 : Value} {f19 : Addr} {od19 an19 : Option Addr} {sl19 : Array (Option Value)} {oc19 kV19 dc19 pm19 cd19 ct19 : Value} {f20 : Addr} {od20 an20 : Option Addr} {sl20 : Array (Option Value)} {oc20 kV20 dc20 pm20 cd20 ct20 : Value} {f21 : Addr} {od21 an21 : Option Addr} {sl21 : Array (Option Value)} {oc21 kV21 dc21 pm21 cd21 ct21 : Value} {f22 : Addr} {od22 an22 : Option Addr} {sl22 : Array (Option Value)} {oc22 kV22 dc22 pm22 cd22 ct22 : Value} {f23 : Addr} {od23 an23 : Option Addr} {sl23 : Array (Option Value)} {oc23 kV23 dc23 pm23 cd23 ct23 : Value} {f24 : Addr} {od24 an24 : Option Addr} {sl24 : Array (Option Value)} {oc24 kV24 dc24 pm24 cd24 ct24 : Value} {f25 : Addr} {od25 an25 : Option Addr} {sl25 : Array (Option Value)} {oc25 kV25 dc25 pm25 cd25 ct25 : Value} {f26 : Addr} {od26 an26 : Option Addr} {sl26 : Array (Option Value)} {oc26 kV26 dc26 pm26 cd26 ct26 : Value} {f27 : Addr} {od27 an27 : Option Addr} {sl27 : Array (Option Value)} {oc27 kV27 dc27 pm27 cd27 ct27 : Value} {f28 : Addr} {od28 an28 : Option Addr} {sl28 : Array (Option Value)} {oc28 kV28 dc28 pm28 cd28 ct28 : Value} {f29 : Addr} {od29 an29 : Option Addr} {sl29 : Array (Option Value)} {oc29 kV29 dc29 pm29 cd29 ct29 : Value} {f30 : Addr} {od30 an30 : Option Addr} {sl30 : Array (Option Value)} {oc30 kV30 dc30 pm30 cd30 ct30 : Value} {f31 : Addr} {od31 an31 : Option Addr} {sl31 : Array (Option Value)} {oc31 kV31 dc31 pm31 cd31 ct31 : Value} {f32 : Addr} {od32 an32 : Option Addr} {sl32 : Array (Option Value)} {oc32 kV32 dc32 pm32 cd32 ct32 : Value} {f33 : Addr} {od33 an33 : Option Addr} {sl33 : Array (Option Value)} {oc33 kV33 dc33 pm33 cd33 ct33 : Value} {f34 : Addr} {od34 an34 : Option Addr} {sl34 : Array (Option Value)} {oc34 kV34 dc34 pm34 cd34 ct34 : Value} {f35 : Addr} {od35 an35 : Option Addr} {sl35 : Array (Option Value)} {oc35 kV35 dc35 pm35 cd35 ct35 : Value} {f36 : Addr} {od36 an36 : Option Addr} {sl36 : Array (Option Value)} {oc36 kV36 dc36 pm36 cd36 ct36 : Value} {f37 : Addr} {od37 an37 : Option Addr} {sl37 : Array (Option Value)} {oc37 kV37 dc37 pm37 cd37 ct37 : Value} {f38 : Addr} {od38 an38 : Option Addr} {sl38 : Array (Option Value)} {oc38 kV38 dc38 pm38 cd38 ct38 : Value} {f39 : Addr} {od39 an39 : Option Addr} {sl39 : Array (Option Value)} {oc39 kV39 dc39 pm39 cd39 ct39 : Value} {f40 : Addr} {od40 an40 : Option Addr} {sl40 : Array (Option Value)} {oc40 kV40 dc40 pm40 cd40 ct40 : Value} {f41 : Addr} {od41 an41 : Option Addr} {sl41 : Array (Option Value)} {oc41 kV41 dc41 pm41 cd41 ct41 : Value} {f42 : Addr} {od42 an42 : Option Addr} {sl42 : Array (Option Value)} {oc42 kV42 dc42 pm42 cd42 ct42 : Value} {f43 : Addr} {od43 an43 : Option Addr} {sl43 : Array (Option Value)} {oc43 kV43 dc43 pm43 cd43 ct43 : Value} {f44 : Addr} {od44 an44 : Option Addr} {sl44 : Array (Option Value)} {oc44 kV44 dc44 pm44 cd44 ct44 : Value} {f45 : Addr} {od45 an45 : Option Addr} {sl45 : Array (Option Value)} {oc45 kV45 dc45 pm45 cd45 ct45 : Value} {f46 : Addr} {od46 an46 : Option Addr} {sl46 : Array (Option Value)} {oc46 kV46 dc46 pm46 cd46 ct46 : Value} {f47 : Addr} {od47 an47 : Option Addr} {sl47 : Array (Option Value)} {oc47 kV47 dc47 pm47 cd47 ct47 : Value} {f48 : Addr} {od48 an48 : Option Addr} {sl48 : Array (Option Value)} {oc48 kV48 dc48 pm48 cd48 ct48 : Value} {f49 : Addr} {od49 an49 : Option Addr} {sl49 : Array (Option Value)} {oc49 kV49 dc49 pm49 cd49 ct49 : Value} {fl c Pt : Addr} {odl anl : Option Addr} {sll : Array (Option Value)} {ocl kVl dcl pml ctl : Value} {t_LETTERS : Tok} {t_LONGEST : Tok} {t_FEWEST_HANDS : Tok} {t_MOST_HANDS : Tok} {t_FEWEST_NOTES : Tok} {t_MOST_NOTES : Tok} {CN fN cda cc NN : Addr} {nmN qN : Str} {bsN : List Value} {snN : List Str} {subN : List Value} {abN : Bool} {colN : Option Bool} {ddN : Option Addr} {k0N k1N k2N k3N k5N : Option Value} {ocN dcN pmN ctN cclN clN : Value} {odN anN cddN cldN : Option Addr} {slN ccsN cslN : Array (Option Value)} {vsN : Array Value} {fileN : Str} {tfN : Tok}
    (X : K.In h) (G : h.Ns mainGlobals mg) (hfa : mg "law" = some (.ref fa))
    (aC : PySem.W.nsIn K mainGlobals "Pact" = some (some (.ref C)))
    (a0 : PySem.W.nsIn K mainGlobals "is_text" = some (some (.ref f0)))
    (l0 : K.lookup f0 = some ⟨oc0, od0, .func (PySem.W.fnOf "is_text" "is_text" (defArgs s_is_text) (defBody s_is_text) (defScope s_is_text) .none kV0 dc0 pm0 an0 cd0 ct0), sl0⟩)
    (c0 : PySem.W.codeIn K cd0 "is_text" = true)
    (k0 : PySem.W.keepIn K (.ref f0) = true)
    (a1 : PySem.W.nsIn K mainGlobals "is_sequence" = some (some (.ref f1)))
    (l1 : K.lookup f1 = some ⟨oc1, od1, .func (PySem.W.fnOf "is_sequence" "is_sequence" (defArgs s_is_sequence) (defBody s_is_sequence) (defScope s_is_sequence) .none kV1 dc1 pm1 an1 cd1 ct1), sl1⟩)
    (c1 : PySem.W.codeIn K cd1 "is_sequence" = true)
    (k1 : PySem.W.keepIn K (.ref f1) = true)
    (a2 : PySem.W.nsIn K mainGlobals "is_name" = some (some (.ref f2)))
    (l2 : K.lookup f2 = some ⟨oc2, od2, .func (PySem.W.fnOf "is_name" "is_name" (defArgs s_is_name) (defBody s_is_name) (defScope s_is_name) .none kV2 dc2 pm2 an2 cd2 ct2), sl2⟩)
    (c2 : PySem.W.codeIn K cd2 "is_name" = true)
    (k2 : PySem.W.keepIn K (.ref f2) = true)
    (a3 : PySem.W.nsIn K mainGlobals "is_lot" = some (some (.ref f3)))
    (l3 : K.lookup f3 = some ⟨oc3, od3, .func (PySem.W.fnOf "is_lot" "is_lot" (defArgs s_is_lot) (defBody s_is_lot) (defScope s_is_lot) .none kV3 dc3 pm3 an3 cd3 ct3), sl3⟩)
    (c3 : PySem.W.codeIn K cd3 "is_lot" = true)
    (k3 : PySem.W.keepIn K (.ref f3) = true)
    (a4 : PySem.W.nsIn K mainGlobals "lot_of" = some (some (.ref f4)))
    (l4 : K.lookup f4 = some ⟨oc4, od4, .func (PySem.W.fnOf "lot_of" "lot_of" (defArgs s_lot_of) (defBody s_lot_of) (defScope s_lot_of) .none kV4 dc4 pm4 an4 cd4 ct4), sl4⟩)
    (c4 : PySem.W.codeIn K cd4 "lot_of" = true)
    (k4 : PySem.W.keepIn K (.ref f4) = true)
    (a5 : PySem.W.nsIn K mainGlobals "are_hands" = some (some (.ref f5)))
    (l5 : K.lookup f5 = some ⟨oc5, od5, .func (PySem.W.fnOf "are_hands" "are_hands" (defArgs s_are_hands) (defBody s_are_hands) (defScope s_are_hands) .none kV5 dc5 pm5 an5 cd5 ct5), sl5⟩)
    (c5 : PySem.W.codeIn K cd5 "are_hands" = true)
    (k5 : PySem.W.keepIn K (.ref f5) = true)
    (a6 : PySem.W.nsIn K mainGlobals "is_told_note" = some (some (.ref f6)))
    (l6 : K.lookup f6 = some ⟨oc6, od6, .func (PySem.W.fnOf "is_told_note" "is_told_note" (defArgs s_is_told_note) (defBody s_is_told_note) (defScope s_is_told_note) .none kV6 dc6 pm6 an6 cd6 ct6), sl6⟩)
    (c6 : PySem.W.codeIn K cd6 "is_told_note" = true)
    (k6 : PySem.W.keepIn K (.ref f6) = true)
    (a7 : PySem.W.nsIn K mainGlobals "are_ready" = some (some (.ref f7)))
    (l7 : K.lookup f7 = some ⟨oc7, od7, .func (PySem.W.fnOf "are_ready" "are_ready" (defArgs s_are_ready) (defBody s_are_ready) (defScope s_are_ready) .none kV7 dc7 pm7 an7 cd7 ct7), sl7⟩)
    (c7 : PySem.W.codeIn K cd7 "are_ready" = true)
    (k7 : PySem.W.keepIn K (.ref f7) = true)
    (a8 : PySem.W.nsIn K mainGlobals "bits_under" = some (some (.ref f8)))
    (l8 : K.lookup f8 = some ⟨oc8, od8, .func (PySem.W.fnOf "bits_under" "bits_under" (defArgs s_bits_under) (defBody s_bits_under) (defScope s_bits_under) .none kV8 dc8 pm8 an8 cd8 ct8), sl8⟩)
    (c8 : PySem.W.codeIn K cd8 "bits_under" = true)
    (k8 : PySem.W.keepIn K (.ref f8) = true)
    (a9 : PySem.W.nsIn K mainGlobals "bits_of_lot" = some (some (.ref f9)))
    (l9 : K.lookup f9 = some ⟨oc9, od9, .func (PySem.W.fnOf "bits_of_lot" "bits_of_lot" (defArgs s_bits_of_lot) (defBody s_bits_of_lot) (defScope s_bits_of_lot) .none kV9 dc9 pm9 an9 cd9 ct9), sl9⟩)
    (c9 : PySem.W.codeIn K cd9 "bits_of_lot" = true)
    (k9 : PySem.W.keepIn K (.ref f9) = true)
    (a10 : PySem.W.nsIn K mainGlobals "is_paper" = some (some (.ref f10)))
    (l10 : K.lookup f10 = some ⟨oc10, od10, .func (PySem.W.fnOf "is_paper" "is_paper" (defArgs s_is_paper) (defBody s_is_paper) (defScope s_is_paper) .none kV10 dc10 pm10 an10 cd10 ct10), sl10⟩)
    (c10 : PySem.W.codeIn K cd10 "is_paper" = true)
    (k10 : PySem.W.keepIn K (.ref f10) = true)
    (a11 : PySem.W.findIn K (.ref C) "__init__" = some (some (.ref f11)))
    (i11 : PySem.W.isFn K (.ref f11) = true)
    (l11 : K.lookup f11 = some ⟨oc11, od11, .func (PySem.W.fnOf "__init__" "Pact.__init__" (defArgs s_Pact_init) (defBody s_Pact_init) (defScope s_Pact_init) .none kV11 dc11 pm11 an11 cd11 ct11), sl11⟩)
    (c11 : PySem.W.codeIn K cd11 "Pact.__init__" = true)
    (k11 : PySem.W.keepIn K (.ref f11) = true)
    (a12 : PySem.W.findIn K (.ref C) "__eq__" = some (some (.ref f12)))
    (i12 : PySem.W.isFn K (.ref f12) = true)
    (l12 : K.lookup f12 = some ⟨oc12, od12, .func (PySem.W.fnOf "__eq__" "Pact.__eq__" (defArgs s_Pact_eq) (defBody s_Pact_eq) (defScope s_Pact_eq) .none kV12 dc12 pm12 an12 cd12 ct12), sl12⟩)
    (c12 : PySem.W.codeIn K cd12 "Pact.__eq__" = true)
    (k12 : PySem.W.keepIn K (.ref f12) = true)
    (a13 : PySem.W.nsIn K mainGlobals "need_note" = some (some (.ref f13)))
    (l13 : K.lookup f13 = some ⟨oc13, od13, .func (PySem.W.fnOf "need_note" "need_note" (defArgs s_need_note) (defBody s_need_note) (defScope s_need_note) .none kV13 dc13 pm13 an13 cd13 ct13), sl13⟩)
    (c13 : PySem.W.codeIn K cd13 "need_note" = true)
    (k13 : PySem.W.keepIn K (.ref f13) = true)
    (a14 : PySem.W.nsIn K mainGlobals "names_of_bits" = some (some (.ref f14)))
    (l14 : K.lookup f14 = some ⟨oc14, od14, .func (PySem.W.fnOf "names_of_bits" "names_of_bits" (defArgs s_names_of_bits) (defBody s_names_of_bits) (defScope s_names_of_bits) .none kV14 dc14 pm14 an14 cd14 ct14), sl14⟩)
    (c14 : PySem.W.codeIn K cd14 "names_of_bits" = true)
    (k14 : PySem.W.keepIn K (.ref f14) = true)
    (a15 : PySem.W.nsIn K mainGlobals "hand_of" = some (some (.ref f15)))
    (l15 : K.lookup f15 = some ⟨oc15, od15, .func (PySem.W.fnOf "hand_of" "hand_of" (defArgs s_hand_of) (defBody s_hand_of) (defScope s_hand_of) .none kV15 dc15 pm15 an15 cd15 ct15), sl15⟩)
    (c15 : PySem.W.codeIn K cd15 "hand_of" = true)
    (k15 : PySem.W.keepIn K (.ref f15) = true)
    (a16 : PySem.W.nsIn K mainGlobals "is_under" = some (some (.ref f16)))
    (l16 : K.lookup f16 = some ⟨oc16, od16, .func (PySem.W.fnOf "is_under" "is_under" (defArgs s_is_under) (defBody s_is_under) (defScope s_is_under) .none kV16 dc16 pm16 an16 cd16 ct16), sl16⟩)
    (c16 : PySem.W.codeIn K cd16 "is_under" = true)
    (k16 : PySem.W.keepIn K (.ref f16) = true)
    (a17 : PySem.W.nsIn K mainGlobals "under_of" = some (some (.ref f17)))
    (l17 : K.lookup f17 = some ⟨oc17, od17, .func (PySem.W.fnOf "under_of" "under_of" (defArgs s_under_of) (defBody s_under_of) (defScope s_under_of) .none kV17 dc17 pm17 an17 cd17 ct17), sl17⟩)
    (c17 : PySem.W.codeIn K cd17 "under_of" = true)
    (k17 : PySem.W.keepIn K (.ref f17) = true)
    (a18 : PySem.W.nsIn K mainGlobals "whole_paper" = some (some (.ref f18)))
    (l18 : K.lookup f18 = some ⟨oc18, od18, .func (PySem.W.fnOf "whole_paper" "whole_paper" (defArgs s_whole_paper) (defBody s_whole_paper) (defScope s_whole_paper) .none kV18 dc18 pm18 an18 cd18 ct18), sl18⟩)
    (c18 : PySem.W.codeIn K cd18 "whole_paper" = true)
    (k18 : PySem.W.keepIn K (.ref f18) = true)
    (a19 : PySem.W.nsIn K mainGlobals "level_of" = some (some (.ref f19)))
    (l19 : K.lookup f19 = some ⟨oc19, od19, .func (PySem.W.fnOf "level_of" "level_of" (defArgs s_level_of) (defBody s_level_of) (defScope s_level_of) .none kV19 dc19 pm19 an19 cd19 ct19), sl19⟩)
    (c19 : PySem.W.codeIn K cd19 "level_of" = true)
    (k19 : PySem.W.keepIn K (.ref f19) = true)
    (a20 : PySem.W.nsIn K mainGlobals "uppermost" = some (some (.ref f20)))
    (l20 : K.lookup f20 = some ⟨oc20, od20, .func (PySem.W.fnOf "uppermost" "uppermost" (defArgs s_uppermost) (defBody s_uppermost) (defScope s_uppermost) .none kV20 dc20 pm20 an20 cd20 ct20), sl20⟩)
    (c20 : PySem.W.codeIn K cd20 "uppermost" = true)
    (k20 : PySem.W.keepIn K (.ref f20) = true)
    (a21 : PySem.W.nsIn K mainGlobals "own_ahead" = some (some (.ref f21)))
    (l21 : K.lookup f21 = some ⟨oc21, od21, .func (PySem.W.fnOf "own_ahead" "own_ahead" (defArgs s_own_ahead) (defBody s_own_ahead) (defScope s_own_ahead) .none kV21 dc21 pm21 an21 cd21 ct21), sl21⟩)
    (c21 : PySem.W.codeIn K cd21 "own_ahead" = true)
    (k21 : PySem.W.keepIn K (.ref f21) = true)
    (a22 : PySem.W.nsIn K mainGlobals "bare_waits" = some (some (.ref f22)))
    (l22 : K.lookup f22 = some ⟨oc22, od22, .func (PySem.W.fnOf "bare_waits" "bare_waits" (defArgs s_bare_waits) (defBody s_bare_waits) (defScope s_bare_waits) .none kV22 dc22 pm22 an22 cd22 ct22), sl22⟩)
    (c22 : PySem.W.codeIn K cd22 "bare_waits" = true)
    (k22 : PySem.W.keepIn K (.ref f22) = true)
    (a23 : PySem.W.nsIn K mainGlobals "bare_paper" = some (some (.ref f23)))
    (l23 : K.lookup f23 = some ⟨oc23, od23, .func (PySem.W.fnOf "bare_paper" "bare_paper" (defArgs s_bare_paper) (defBody s_bare_paper) (defScope s_bare_paper) .none kV23 dc23 pm23 an23 cd23 ct23), sl23⟩)
    (c23 : PySem.W.codeIn K cd23 "bare_paper" = true)
    (k23 : PySem.W.keepIn K (.ref f23) = true)
    (a24 : PySem.W.nsIn K mainGlobals "least_order" = some (some (.ref f24)))
    (l24 : K.lookup f24 = some ⟨oc24, od24, .func (PySem.W.fnOf "least_order" "least_order" (defArgs s_least_order) (defBody s_least_order) (defScope s_least_order) .none kV24 dc24 pm24 an24 cd24 ct24), sl24⟩)
    (c24 : PySem.W.codeIn K cd24 "least_order" = true)
    (k24 : PySem.W.keepIn K (.ref f24) = true)
    (a25 : PySem.W.nsIn K mainGlobals "told_with" = some (some (.ref f25)))
    (l25 : K.lookup f25 = some ⟨oc25, od25, .func (PySem.W.fnOf "told_with" "told_with" (defArgs s_told_with) (defBody s_told_with) (defScope s_told_with) .none kV25 dc25 pm25 an25 cd25 ct25), sl25⟩)
    (c25 : PySem.W.codeIn K cd25 "told_with" = true)
    (k25 : PySem.W.keepIn K (.ref f25) = true)
    (a26 : PySem.W.nsIn K mainGlobals "bare_form" = some (some (.ref f26)))
    (l26 : K.lookup f26 = some ⟨oc26, od26, .func (PySem.W.fnOf "bare_form" "bare_form" (defArgs s_bare_form) (defBody s_bare_form) (defScope s_bare_form) .none kV26 dc26 pm26 an26 cd26 ct26), sl26⟩)
    (c26 : PySem.W.codeIn K cd26 "bare_form" = true)
    (k26 : PySem.W.keepIn K (.ref f26) = true)
    (a27 : PySem.W.nsIn K mainGlobals "full_form" = some (some (.ref f27)))
    (l27 : K.lookup f27 = some ⟨oc27, od27, .func (PySem.W.fnOf "full_form" "full_form" (defArgs s_full_form) (defBody s_full_form) (defScope s_full_form) .none kV27 dc27 pm27 an27 cd27 ct27), sl27⟩)
    (c27 : PySem.W.codeIn K cd27 "full_form" = true)
    (k27 : PySem.W.keepIn K (.ref f27) = true)
    (a28 : PySem.W.nsIn K mainGlobals "same_web" = some (some (.ref f28)))
    (l28 : K.lookup f28 = some ⟨oc28, od28, .func (PySem.W.fnOf "same_web" "same_web" (defArgs s_same_web) (defBody s_same_web) (defScope s_same_web) .none kV28 dc28 pm28 an28 cd28 ct28), sl28⟩)
    (c28 : PySem.W.codeIn K cd28 "same_web" = true)
    (k28 : PySem.W.keepIn K (.ref f28) = true)
    (a29 : PySem.W.nsIn K mainGlobals "telling_count" = some (some (.ref f29)))
    (l29 : K.lookup f29 = some ⟨oc29, od29, .func (PySem.W.fnOf "telling_count" "telling_count" (defArgs s_telling_count) (defBody s_telling_count) (defScope s_telling_count) .none kV29 dc29 pm29 an29 cd29 ct29), sl29⟩)
    (c29 : PySem.W.codeIn K cd29 "telling_count" = true)
    (k29 : PySem.W.keepIn K (.ref f29) = true)
    (a30 : PySem.W.nsIn K mainGlobals "_law_heap" = some (some (.ref f30)))
    (l30 : K.lookup f30 = some ⟨oc30, od30, .func (PySem.W.fnOf "_law_heap" "_law_heap" (defArgs s__law_heap) (defBody s__law_heap) (defScope s__law_heap) .none kV30 dc30 pm30 an30 cd30 ct30), sl30⟩)
    (c30 : PySem.W.codeIn K cd30 "_law_heap" = true)
    (k30 : PySem.W.keepIn K (.ref f30) = true)
    (a31 : PySem.W.nsIn K mainGlobals "_law_draw" = some (some (.ref f31)))
    (l31 : K.lookup f31 = some ⟨oc31, od31, .func (PySem.W.fnOf "_law_draw" "_law_draw" (defArgs s__law_draw) (defBody s__law_draw) (defScope s__law_draw) .none kV31 dc31 pm31 an31 cd31 ct31), sl31⟩)
    (c31 : PySem.W.codeIn K cd31 "_law_draw" = true)
    (k31 : PySem.W.keepIn K (.ref f31) = true)
    (a32 : PySem.W.nsIn K mainGlobals "_law_pick" = some (some (.ref f32)))
    (l32 : K.lookup f32 = some ⟨oc32, od32, .func (PySem.W.fnOf "_law_pick" "_law_pick" (defArgs s__law_pick) (defBody s__law_pick) (defScope s__law_pick) .none kV32 dc32 pm32 an32 cd32 ct32), sl32⟩)
    (c32 : PySem.W.codeIn K cd32 "_law_pick" = true)
    (k32 : PySem.W.keepIn K (.ref f32) = true)
    (a33 : PySem.W.nsIn K mainGlobals "_law_mixed" = some (some (.ref f33)))
    (l33 : K.lookup f33 = some ⟨oc33, od33, .func (PySem.W.fnOf "_law_mixed" "_law_mixed" (defArgs s__law_mixed) (defBody s__law_mixed) (defScope s__law_mixed) .none kV33 dc33 pm33 an33 cd33 ct33), sl33⟩)
    (c33 : PySem.W.codeIn K cd33 "_law_mixed" = true)
    (k33 : PySem.W.keepIn K (.ref f33) = true)
    (a34 : PySem.W.nsIn K mainGlobals "_law_names" = some (some (.ref f34)))
    (l34 : K.lookup f34 = some ⟨oc34, od34, .func (PySem.W.fnOf "_law_names" "_law_names" (defArgs s__law_names) (defBody s__law_names) (defScope s__law_names) .none kV34 dc34 pm34 an34 cd34 ct34), sl34⟩)
    (c34 : PySem.W.codeIn K cd34 "_law_names" = true)
    (k34 : PySem.W.keepIn K (.ref f34) = true)
    (a35 : PySem.W.nsIn K mainGlobals "_law_unders" = some (some (.ref f35)))
    (l35 : K.lookup f35 = some ⟨oc35, od35, .func (PySem.W.fnOf "_law_unders" "_law_unders" (defArgs s__law_unders) (defBody s__law_unders) (defScope s__law_unders) .none kV35 dc35 pm35 an35 cd35 ct35), sl35⟩)
    (c35 : PySem.W.codeIn K cd35 "_law_unders" = true)
    (k35 : PySem.W.keepIn K (.ref f35) = true)
    (a36 : PySem.W.nsIn K mainGlobals "_law_notes" = some (some (.ref f36)))
    (l36 : K.lookup f36 = some ⟨oc36, od36, .func (PySem.W.fnOf "_law_notes" "_law_notes" (defArgs s__law_notes) (defBody s__law_notes) (defScope s__law_notes) .none kV36 dc36 pm36 an36 cd36 ct36), sl36⟩)
    (c36 : PySem.W.codeIn K cd36 "_law_notes" = true)
    (k36 : PySem.W.keepIn K (.ref f36) = true)
    (a37 : PySem.W.nsIn K mainGlobals "_law_pact" = some (some (.ref f37)))
    (l37 : K.lookup f37 = some ⟨oc37, od37, .func (PySem.W.fnOf "_law_pact" "_law_pact" (defArgs s__law_pact) (defBody s__law_pact) (defScope s__law_pact) .none kV37 dc37 pm37 an37 cd37 ct37), sl37⟩)
    (c37 : PySem.W.codeIn K cd37 "_law_pact" = true)
    (k37 : PySem.W.keepIn K (.ref f37) = true)
    (a38 : PySem.W.nsIn K mainGlobals "_law_none" = some (some (.ref f38)))
    (l38 : K.lookup f38 = some ⟨oc38, od38, .func (PySem.W.fnOf "_law_none" "_law_none" (defArgs s__law_none) (defBody s__law_none) (defScope s__law_none) .none kV38 dc38 pm38 an38 cd38 ct38), sl38⟩)
    (c38 : PySem.W.codeIn K cd38 "_law_none" = true)
    (k38 : PySem.W.keepIn K (.ref f38) = true)
    (a39 : PySem.W.nsIn K mainGlobals "_law_upper" = some (some (.ref f39)))
    (l39 : K.lookup f39 = some ⟨oc39, od39, .func (PySem.W.fnOf "_law_upper" "_law_upper" (defArgs s__law_upper) (defBody s__law_upper) (defScope s__law_upper) .none kV39 dc39 pm39 an39 cd39 ct39), sl39⟩)
    (c39 : PySem.W.codeIn K cd39 "_law_upper" = true)
    (k39 : PySem.W.keepIn K (.ref f39) = true)
    (a40 : PySem.W.nsIn K mainGlobals "_law_bare" = some (some (.ref f40)))
    (l40 : K.lookup f40 = some ⟨oc40, od40, .func (PySem.W.fnOf "_law_bare" "_law_bare" (defArgs s__law_bare) (defBody s__law_bare) (defScope s__law_bare) .none kV40 dc40 pm40 an40 cd40 ct40), sl40⟩)
    (c40 : PySem.W.codeIn K cd40 "_law_bare" = true)
    (k40 : PySem.W.keepIn K (.ref f40) = true)
    (a41 : PySem.W.nsIn K mainGlobals "_law_whole" = some (some (.ref f41)))
    (l41 : K.lookup f41 = some ⟨oc41, od41, .func (PySem.W.fnOf "_law_whole" "_law_whole" (defArgs s__law_whole) (defBody s__law_whole) (defScope s__law_whole) .none kV41 dc41 pm41 an41 cd41 ct41), sl41⟩)
    (c41 : PySem.W.codeIn K cd41 "_law_whole" = true)
    (k41 : PySem.W.keepIn K (.ref f41) = true)
    (a42 : PySem.W.nsIn K mainGlobals "_law_web" = some (some (.ref f42)))
    (l42 : K.lookup f42 = some ⟨oc42, od42, .func (PySem.W.fnOf "_law_web" "_law_web" (defArgs s__law_web) (defBody s__law_web) (defScope s__law_web) .none kV42 dc42 pm42 an42 cd42 ct42), sl42⟩)
    (c42 : PySem.W.codeIn K cd42 "_law_web" = true)
    (k42 : PySem.W.keepIn K (.ref f42) = true)
    (a43 : PySem.W.nsIn K mainGlobals "_law_free" = some (some (.ref f43)))
    (l43 : K.lookup f43 = some ⟨oc43, od43, .func (PySem.W.fnOf "_law_free" "_law_free" (defArgs s__law_free) (defBody s__law_free) (defScope s__law_free) .none kV43 dc43 pm43 an43 cd43 ct43), sl43⟩)
    (c43 : PySem.W.codeIn K cd43 "_law_free" = true)
    (k43 : PySem.W.keepIn K (.ref f43) = true)
    (a44 : PySem.W.nsIn K mainGlobals "_law_some" = some (some (.ref f44)))
    (l44 : K.lookup f44 = some ⟨oc44, od44, .func (PySem.W.fnOf "_law_some" "_law_some" (defArgs s__law_some) (defBody s__law_some) (defScope s__law_some) .none kV44 dc44 pm44 an44 cd44 ct44), sl44⟩)
    (c44 : PySem.W.codeIn K cd44 "_law_some" = true)
    (k44 : PySem.W.keepIn K (.ref f44) = true)
    (a45 : PySem.W.nsIn K mainGlobals "_law_covers" = some (some (.ref f45)))
    (l45 : K.lookup f45 = some ⟨oc45, od45, .func (PySem.W.fnOf "_law_covers" "_law_covers" (defArgs s__law_covers) (defBody s__law_covers) (defScope s__law_covers) .none kV45 dc45 pm45 an45 cd45 ct45), sl45⟩)
    (c45 : PySem.W.codeIn K cd45 "_law_covers" = true)
    (k45 : PySem.W.keepIn K (.ref f45) = true)
    (a46 : PySem.W.nsIn K mainGlobals "_law_other" = some (some (.ref f46)))
    (l46 : K.lookup f46 = some ⟨oc46, od46, .func (PySem.W.fnOf "_law_other" "_law_other" (defArgs s__law_other) (defBody s__law_other) (defScope s__law_other) .none kV46 dc46 pm46 an46 cd46 ct46), sl46⟩)
    (c46 : PySem.W.codeIn K cd46 "_law_other" = true)
    (k46 : PySem.W.keepIn K (.ref f46) = true)
    (a47 : PySem.W.nsIn K mainGlobals "_law_anew" = some (some (.ref f47)))
    (l47 : K.lookup f47 = some ⟨oc47, od47, .func (PySem.W.fnOf "_law_anew" "_law_anew" (defArgs s__law_anew) (defBody s__law_anew) (defScope s__law_anew) .none kV47 dc47 pm47 an47 cd47 ct47), sl47⟩)
    (c47 : PySem.W.codeIn K cd47 "_law_anew" = true)
    (k47 : PySem.W.keepIn K (.ref f47) = true)
    (a48 : PySem.W.nsIn K mainGlobals "_law_count" = some (some (.ref f48)))
    (l48 : K.lookup f48 = some ⟨oc48, od48, .func (PySem.W.fnOf "_law_count" "_law_count" (defArgs s__law_count) (defBody s__law_count) (defScope s__law_count) .none kV48 dc48 pm48 an48 cd48 ct48), sl48⟩)
    (c48 : PySem.W.codeIn K cd48 "_law_count" = true)
    (k48 : PySem.W.keepIn K (.ref f48) = true)
    (a49 : PySem.W.nsIn K mainGlobals "_law_forms_right" = some (some (.ref f49)))
    (l49 : K.lookup f49 = some ⟨oc49, od49, .func (PySem.W.fnOf "_law_forms_right" "_law_forms_right" (defArgs s__law_forms_right) (defBody s__law_forms_right) (defScope s__law_forms_right) .none kV49 dc49 pm49 an49 cd49 ct49), sl49⟩)
    (c49 : PySem.W.codeIn K cd49 "_law_forms_right" = true)
    (k49 : PySem.W.keepIn K (.ref f49) = true)
    (al : PySem.W.nsIn K mainGlobals "law" = some (some (.ref fl)))
    (ll : K.lookup fl = some ⟨ocl, odl, .func (PySem.W.fnOf "law" "law" (defArgs s_law) (defBody s_law) (defScope s_law) .none kVl dcl pml anl (.ref c) ctl), sll⟩)
    (cl : PySem.W.codeIn K (.ref c) "law" = true)
    (pg : PySem.W.plainGet K C Str.empty = true)
    (hd : PySem.W.hasDictIn K C = true)
    (po : PySem.W.plainOver K C = true)
    (sa : PySem.W.findIn K (.ref C) "__setattr__" = some (some (.builtin "object.__setattr__")))
    (mkC : PySem.W.makesIn K C = true)
    (kC : PySem.W.keepIn K (.ref C) = true)
    (nHands : PySem.W.findIn K (.ref C) "hands" = some none)
    (nNotes : PySem.W.findIn K (.ref C) "notes" = some none)
    (nReady : PySem.W.findIn K (.ref C) "ready" = some none)
    (nPaper : PySem.W.findIn K (.ref C) "paper" = some none)
    (nNames : PySem.W.findIn K (.ref C) "names" = some none)
    (nPlaces : PySem.W.findIn K (.ref C) "note_places" = some none)
    (nUnders : PySem.W.findIn K (.ref C) "note_unders" = some none)
    (nRows : PySem.W.findIn K (.ref C) "hand_rows" = some none)
    (nBits : PySem.W.findIn K (.ref C) "paper_bits" = some none)
    (iha : PySem.W.findIn K (.ref C) "__class__" = some (some (.builtin "object.__class__")))
    (ihn : PySem.W.specialIn K (.builtin "object.__class__") "__get__" = some (some (.builtin "getset_descriptor.__get__")))
    (ihtk : PySem.W.takesIn K (.builtin "object.__class__") = some true)
    (ihm : PySem.W.mroIn K C (.type "object") = some true)
    (z_isinstance : PySem.W.nsIn K mainGlobals "isinstance" = some none)
    (z_len : PySem.W.nsIn K mainGlobals "len" = some none)
    (z_all : PySem.W.nsIn K mainGlobals "all" = some none)
    (z_tuple : PySem.W.nsIn K mainGlobals "tuple" = some none)
    (z_sorted : PySem.W.nsIn K mainGlobals "sorted" = some none)
    (z_set : PySem.W.nsIn K mainGlobals "set" = some none)
    (z_list : PySem.W.nsIn K mainGlobals "list" = some none)
    (z_enumerate : PySem.W.nsIn K mainGlobals "enumerate" = some none)
    (z_zip : PySem.W.nsIn K mainGlobals "zip" = some none)
    (z_range : PySem.W.nsIn K mainGlobals "range" = some none)
    (z_int : PySem.W.nsIn K mainGlobals "int" = some none)
    (z_abs : PySem.W.nsIn K mainGlobals "abs" = some none)
    (z_min : PySem.W.nsIn K mainGlobals "min" = some none)
    (z_repr : PySem.W.nsIn K mainGlobals "repr" = some none)
    (z_str : PySem.W.nsIn K mainGlobals "str" = some none)
    (z_LETTERS : PySem.W.nsIn K mainGlobals "LETTERS" = some (some (.str "abcdefghijklmnopqrstuvwxyz" t_LETTERS)))
    (z_LONGEST : PySem.W.nsIn K mainGlobals "LONGEST" = some (some (.int 8 t_LONGEST)))
    (z_FEWEST_HANDS : PySem.W.nsIn K mainGlobals "FEWEST_HANDS" = some (some (.int 2 t_FEWEST_HANDS)))
    (z_MOST_HANDS : PySem.W.nsIn K mainGlobals "MOST_HANDS" = some (some (.int 6 t_MOST_HANDS)))
    (z_FEWEST_NOTES : PySem.W.nsIn K mainGlobals "FEWEST_NOTES" = some (some (.int 2 t_FEWEST_NOTES)))
    (z_MOST_NOTES : PySem.W.nsIn K mainGlobals "MOST_NOTES" = some (some (.int 40 t_MOST_NOTES)))
    (aN : PySem.W.nsIn K mainGlobals "NoName" = some (some (.ref CN)))
    (z_super : PySem.W.nsIn K mainGlobals "super" = some none)
    (xN : K.lookup CN = some (excClassObj nmN qN CN NN bsN [.type "KeyError", .type "LookupError", .type "Exception", .type "BaseException", .type "object"] true snN subN abN colN ddN k0N k1N k2N k3N k5N "LookupError.__new__"))
    (saN : PySem.W.findIn K (.ref CN) "__setattr__" = some (some (.builtin "object.__setattr__")))
    (gaN : PySem.W.findIn K (.ref CN) "__getattribute__" = some (some (.builtin "BaseException.__getattribute__")))
    (ggN : PySem.W.findIn K (.ref CN) "__getattr__" = some none)
    (eN : PySem.W.subIn K (.ref CN) (.type "BaseException") = some true)
    (hdN : PySem.W.hasDictIn K CN = true)
    (noN : PySem.W.findIn K (.ref CN) "name" = some none)
    (iN : PySem.W.findIn K (.ref CN) "__init__" = some (some (.ref fN)))
    (tfnN : PySem.W.typeIn K (.ref fN) = some (.type "function"))
    (kN : PySem.W.keepIn K (.ref CN) = true)
    (tyN : PySem.W.typeIn K (.ref CN) = some (.type "type"))
    (isN : PySem.W.isClsIn K CN = true)
    (sN : PySem.W.subIn K (.ref CN) (.ref CN) = some true)
    (opq : PySem.W.nsIn K cStatics "thirdparty.any" = some none)
    (lN : K.lookup fN = some ⟨ocN, odN, .func (PySem.W.ksFn "__init__" "NoName.__init__" PySem.NnX.iA PySem.NnX.iB PySem.NnX.iS .none .none dcN pmN anN (.ref cda) ctN cc), slN⟩)
    (cN : PySem.W.codeIn K (.ref cda) "NoName.__init__" = true)
    (ldaN : K.lookup cda = some ⟨cclN, cddN, .fields vsN, ccsN⟩)
    (hvsN : vsN[2]? = some (.str fileN tfN))
    (lccN : K.lookup cc = some ⟨clN, cldN, .cell (some (.ref CN)), cslN⟩)
    (hfile : ((P.main.file : Str) == fileN) = true) (hsup : (P.main.scope.names.lookup ("super" : Str)).isSome = false) :
    ∃ fd : FuncData, (∀ (s : Shared) (u : Value), BindsTo s fd ⟨[u], []⟩ [("_law_script", u)]) ∧ ∀ base : Heap, K.In base → base.Ns mainGlobals mg → LamX.TabB base mg c Pt → FnOkG P w K mg base 10 fa fd ["_law_script"] (sp_law K Pt) := by
  have e := hfa.symm.trans (PySem.W.mg_of X G al)
  cases e
  have T : Txt mg := { m_isinstance := PySem.W.mg_none_of X G z_isinstance, m_len := PySem.W.mg_none_of X G z_len, m_all := PySem.W.mg_none_of X G z_all, m_tuple := PySem.W.mg_none_of X G z_tuple, m_sorted := PySem.W.mg_none_of X G z_sorted, m_set := PySem.W.mg_none_of X G z_set, m_list := PySem.W.mg_none_of X G z_list, m_enumerate := PySem.W.mg_none_of X G z_enumerate, m_zip := PySem.W.mg_none_of X G z_zip, m_range := PySem.W.mg_none_of X G z_range, m_int := PySem.W.mg_none_of X G z_int, m_abs := PySem.W.mg_none_of X G z_abs, m_min := PySem.W.mg_none_of X G z_min, m_repr := PySem.W.mg_none_of X G z_repr, m_str := PySem.W.mg_none_of X G z_str, c_LETTERS := ⟨_, PySem.W.mg_of X G z_LETTERS⟩, c_LONGEST := ⟨_, PySem.W.mg_of X G z_LONGEST⟩, c_FEWEST_HANDS := ⟨_, PySem.W.mg_of X G z_FEWEST_HANDS⟩, c_MOST_HANDS := ⟨_, PySem.W.mg_of X G z_MOST_HANDS⟩, c_FEWEST_NOTES := ⟨_, PySem.W.mg_of X G z_FEWEST_NOTES⟩, c_MOST_NOTES := ⟨_, PySem.W.mg_of X G z_MOST_NOTES⟩ }
  have clC : Cls K C := ⟨pg, hd, po, sa⟩
  have cC : CTxt K C := ⟨clC, nHands, nNotes, nReady, nPaper, nNames, nPlaces, nUnders, nRows, nBits⟩
  have ciC : C8.InsC K C := ⟨clC, iha, ihn, ihtk, ihm, if_pos (beq_self_eq_true _)⟩
  have gP : mg "Pact" = some (.ref C) := PySem.W.mg_of X G aC
  have TN : PySem.NnX.NnTxt P K mg CN fN := { gC := PySem.W.mg_of X G aN, mS := PySem.W.mg_none_of X G z_super, cls := ⟨nmN, qN, NN, bsN, snN, subN, abN, colN, ddN, k0N, k1N, k2N, k3N, k5N, xN⟩, sa := saN, xf := ⟨gaN, ggN, eN, hdN⟩, noN := noN, iC := iN, tC := tfnN, kC := kN, tyC := tyN, te := exm_selfN eN isN tyN sN, opq := opq, fn := ⟨ocN, odN, dcN, pmN, anN, ctN, slN, cda, cc, cclN, cddN, ccsN, clN, cldN, cslN, vsN, fileN, tfN, lN, cN, ldaN, hvsN, hfile, lccN⟩, sup := hsup }
  have F_is_text := fun_mk (st := s_is_text) l0 c0 k0
  have b_is_text := F_is_text.binds (ps := ["value"]) fun _ _ _ _ _ _ us hl => match us, hl with | [_], _ => rfl
  have F_is_sequence := fun_mk (st := s_is_sequence) l1 c1 k1
  have b_is_sequence := F_is_sequence.binds (ps := ["value"]) fun _ _ _ _ _ _ us hl => match us, hl with | [_], _ => rfl
  have F_is_name := fun_mk (st := s_is_name) l2 c2 k2
  have b_is_name := F_is_name.binds (ps := ["value"]) fun _ _ _ _ _ _ us hl => match us, hl with | [_], _ => rfl
  have F_is_lot := fun_mk (st := s_is_lot) l3 c3 k3
  have b_is_lot := F_is_lot.binds (ps := ["value"]) fun _ _ _ _ _ _ us hl => match us, hl with | [_], _ => rfl
  have F_lot_of := fun_mk (st := s_lot_of) l4 c4 k4
  have b_lot_of := F_lot_of.binds (ps := ["things"]) fun _ _ _ _ _ _ us hl => match us, hl with | [_], _ => rfl
  have F_are_hands := fun_mk (st := s_are_hands) l5 c5 k5
  have b_are_hands := F_are_hands.binds (ps := ["value"]) fun _ _ _ _ _ _ us hl => match us, hl with | [_], _ => rfl
  have F_is_told_note := fun_mk (st := s_is_told_note) l6 c6 k6
  have b_is_told_note := F_is_told_note.binds (ps := ["value", "hands", "earlier"]) fun _ _ _ _ _ _ us hl => match us, hl with | [_, _, _], _ => rfl
  have F_are_ready := fun_mk (st := s_are_ready) l7 c7 k7
  have b_are_ready := F_are_ready.binds (ps := ["value", "hands", "notes"]) fun _ _ _ _ _ _ us hl => match us, hl with | [_, _, _], _ => rfl
  have F_bits_under := fun_mk (st := s_bits_under) l8 c8 k8
  have b_bits_under := F_bits_under.binds (ps := ["notes"]) fun _ _ _ _ _ _ us hl => match us, hl with | [_], _ => rfl
  have F_bits_of_lot := fun_mk (st := s_bits_of_lot) l9 c9 k9
  have b_bits_of_lot := F_bits_of_lot.binds (ps := ["names", "notes"]) fun _ _ _ _ _ _ us hl => match us, hl with | [_, _], _ => rfl
  have F_is_paper := fun_mk (st := s_is_paper) l10 c10 k10
  have b_is_paper := F_is_paper.binds (ps := ["value", "hands", "notes"]) fun _ _ _ _ _ _ us hl => match us, hl with | [_, _, _], _ => rfl
  have F_Pact_init := fun_mk (st := s_Pact_init) l11 c11 k11
  have b_Pact_init := F_Pact_init.binds (ps := ["self", "hands", "notes", "ready", "paper"]) fun _ _ _ _ _ _ us hl => match us, hl with | [_, _, _, _, _], _ => rfl
  have F_Pact_eq := fun_mk (st := s_Pact_eq) l12 c12 k12
  have b_Pact_eq := F_Pact_eq.binds (ps := ["self", "other"]) fun _ _ _ _ _ _ us hl => match us, hl with | [_, _], _ => rfl
  have F_need_note := fun_mk (st := s_need_note) l13 c13 k13
  have b_need_note := F_need_note.binds (ps := ["pact", "note"]) fun _ _ _ _ _ _ us hl => match us, hl with | [_, _], _ => rfl
  have F_names_of_bits := fun_mk (st := s_names_of_bits) l14 c14 k14
  have b_names_of_bits := F_names_of_bits.binds (ps := ["pact", "bits"]) fun _ _ _ _ _ _ us hl => match us, hl with | [_, _], _ => rfl
  have F_hand_of := fun_mk (st := s_hand_of) l15 c15 k15
  have b_hand_of := F_hand_of.binds (ps := ["pact", "note"]) fun _ _ _ _ _ _ us hl => match us, hl with | [_, _], _ => rfl
  have F_is_under := fun_mk (st := s_is_under) l16 c16 k16
  have b_is_under := F_is_under.binds (ps := ["pact", "one", "other"]) fun _ _ _ _ _ _ us hl => match us, hl with | [_, _, _], _ => rfl
  have F_under_of := fun_mk (st := s_under_of) l17 c17 k17
  have b_under_of := F_under_of.binds (ps := ["pact", "note"]) fun _ _ _ _ _ _ us hl => match us, hl with | [_, _], _ => rfl
  have F_whole_paper := fun_mk (st := s_whole_paper) l18 c18 k18
  have b_whole_paper := F_whole_paper.binds (ps := ["pact"]) fun _ _ _ _ _ _ us hl => match us, hl with | [_], _ => rfl
  have F_level_of := fun_mk (st := s_level_of) l19 c19 k19
  have b_level_of := F_level_of.binds (ps := ["pact", "note"]) fun _ _ _ _ _ _ us hl => match us, hl with | [_, _], _ => rfl
  have F_uppermost := fun_mk (st := s_uppermost) l20 c20 k20
  have b_uppermost := F_uppermost.binds (ps := ["pact", "notes"]) fun _ _ _ _ _ _ us hl => match us, hl with | [_, _], _ => rfl
  have F_own_ahead := fun_mk (st := s_own_ahead) l21 c21 k21
  have b_own_ahead := F_own_ahead.binds (ps := ["pact", "note"]) fun _ _ _ _ _ _ us hl => match us, hl with | [_, _], _ => rfl
  have F_bare_waits := fun_mk (st := s_bare_waits) l22 c22 k22
  have b_bare_waits := F_bare_waits.binds (ps := ["pact", "note"]) fun _ _ _ _ _ _ us hl => match us, hl with | [_, _], _ => rfl
  have F_bare_paper := fun_mk (st := s_bare_paper) l23 c23 k23
  have b_bare_paper := F_bare_paper.binds (ps := ["pact"]) fun _ _ _ _ _ _ us hl => match us, hl with | [_], _ => rfl
  have F_least_order := fun_mk (st := s_least_order) l24 c24 k24
  have b_least_order := F_least_order.binds (ps := ["pact"]) fun _ _ _ _ _ _ us hl => match us, hl with | [_], _ => rfl
  have F_told_with := fun_mk (st := s_told_with) l25 c25 k25
  have b_told_with := F_told_with.binds (ps := ["pact", "waits", "paper"]) fun _ _ _ _ _ _ us hl => match us, hl with | [_, _, _], _ => rfl
  have F_bare_form := fun_mk (st := s_bare_form) l26 c26 k26
  have b_bare_form := F_bare_form.binds (ps := ["pact"]) fun _ _ _ _ _ _ us hl => match us, hl with | [_], _ => rfl
  have F_full_form := fun_mk (st := s_full_form) l27 c27 k27
  have b_full_form := F_full_form.binds (ps := ["pact"]) fun _ _ _ _ _ _ us hl => match us, hl with | [_], _ => rfl
  have F_same_web := fun_mk (st := s_same_web) l28 c28 k28
  have b_same_web := F_same_web.binds (ps := ["one", "other"]) fun _ _ _ _ _ _ us hl => match us, hl with | [_, _], _ => rfl
  have F_telling_count := fun_mk (st := s_telling_count) l29 c29 k29
  have b_telling_count := F_telling_count.binds (ps := ["pact"]) fun _ _ _ _ _ _ us hl => match us, hl with | [_], _ => rfl
  have F__law_heap := fun_mk (st := s__law_heap) l30 c30 k30
  have b__law_heap := F__law_heap.binds (ps := ["_law_script", "_law_base"]) fun _ _ _ _ _ _ us hl => match us, hl with | [_, _], _ => rfl
  have F__law_draw := fun_mk (st := s__law_draw) l31 c31 k31
  have b__law_draw := F__law_draw.binds (ps := ["_law_heap_here", "_law_many"]) fun _ _ _ _ _ _ us hl => match us, hl with | [_, _], _ => rfl
  have F__law_pick := fun_mk (st := s__law_pick) l32 c32 k32
  have b__law_pick := F__law_pick.binds (ps := ["_law_heap_here", "_law_some_here"]) fun _ _ _ _ _ _ us hl => match us, hl with | [_, _], _ => rfl
  have F__law_mixed := fun_mk (st := s__law_mixed) l33 c33 k33
  have b__law_mixed := F__law_mixed.binds (ps := ["_law_heap_here", "_law_some_here"]) fun _ _ _ _ _ _ us hl => match us, hl with | [_, _], _ => rfl
  have F__law_names := fun_mk (st := s__law_names) l34 c34 k34
  have b__law_names := F__law_names.binds (ps := ["_law_heap_here", "_law_many"]) fun _ _ _ _ _ _ us hl => match us, hl with | [_, _], _ => rfl
  have F__law_unders := fun_mk (st := s__law_unders) l35 c35 k35
  have b__law_unders := F__law_unders.binds (ps := ["_law_notes_here"]) fun _ _ _ _ _ _ us hl => match us, hl with | [_], _ => rfl
  have F__law_notes := fun_mk (st := s__law_notes) l36 c36 k36
  have b__law_notes := F__law_notes.binds (ps := ["_law_heap_here", "_law_hands", "_law_names_here"]) fun _ _ _ _ _ _ us hl => match us, hl with | [_, _, _], _ => rfl
  have F__law_pact := fun_mk (st := s__law_pact) l37 c37 k37
  have b__law_pact := F__law_pact.binds (ps := ["_law_heap_here", "_law_most"]) fun _ _ _ _ _ _ us hl => match us, hl with | [_, _], _ => rfl
  have F__law_none := fun_mk (st := s__law_none) l38 c38 k38
  have b__law_none := F__law_none.binds (ps := ["_law_work"]) fun _ _ _ _ _ _ us hl => match us, hl with | [_], _ => rfl
  have F__law_upper := fun_mk (st := s__law_upper) l39 c39 k39
  have b__law_upper := F__law_upper.binds (ps := ["_law_below", "_law_some_here"]) fun _ _ _ _ _ _ us hl => match us, hl with | [_, _], _ => rfl
  have F__law_bare := fun_mk (st := s__law_bare) l40 c40 k40
  have b__law_bare := F__law_bare.binds (ps := ["_law_notes_here", "_law_below", "_law_name"]) fun _ _ _ _ _ _ us hl => match us, hl with | [_, _, _], _ => rfl
  have F__law_whole := fun_mk (st := s__law_whole) l41 c41 k41
  have b__law_whole := F__law_whole.binds (ps := ["_law_below", "_law_paper"]) fun _ _ _ _ _ _ us hl => match us, hl with | [_, _], _ => rfl
  have F__law_web := fun_mk (st := s__law_web) l42 c42 k42
  have b__law_web := F__law_web.binds (ps := ["_law_parts"]) fun _ _ _ _ _ _ us hl => match us, hl with | [_], _ => rfl
  have F__law_free := fun_mk (st := s__law_free) l43 c43 k43
  have b__law_free := F__law_free.binds (ps := ["_law_heap_here", "_law_names_here", "_law_below", "_law_least"]) fun _ _ _ _ _ _ us hl => match us, hl with | [_, _, _, _], _ => rfl
  have F__law_some := fun_mk (st := s__law_some) l44 c44 k44
  have b__law_some := F__law_some.binds (ps := ["_law_heap_here", "_law_few", "_law_many"]) fun _ _ _ _ _ _ us hl => match us, hl with | [_, _, _], _ => rfl
  have F__law_covers := fun_mk (st := s__law_covers) l45 c45 k45
  have b__law_covers := F__law_covers.binds (ps := ["_law_hands", "_law_notes_here", "_law_paper"]) fun _ _ _ _ _ _ us hl => match us, hl with | [_, _, _], _ => rfl
  have F__law_other := fun_mk (st := s__law_other) l46 c46 k46
  have b__law_other := F__law_other.binds (ps := ["_law_heap_here", "_law_parts", "_law_bent"]) fun _ _ _ _ _ _ us hl => match us, hl with | [_, _, _], _ => rfl
  have F__law_anew := fun_mk (st := s__law_anew) l47 c47 k47
  have b__law_anew := F__law_anew.binds (ps := ["_law_heap_here", "_law_parts", "_law_bent"]) fun _ _ _ _ _ _ us hl => match us, hl with | [_, _, _], _ => rfl
  have F__law_count := fun_mk (st := s__law_count) l48 c48 k48
  have b__law_count := F__law_count.binds (ps := ["_law_notes_here", "_law_below", "_law_whole_here"]) fun _ _ _ _ _ _ us hl => match us, hl with | [_, _, _], _ => rfl
  have F__law_forms_right := fun_mk (st := s__law_forms_right) l49 c49 k49
  have b__law_forms_right := F__law_forms_right.binds (ps := ["_law_heap_here", "_law_pact_here", "_law_parts"]) fun _ _ _ _ _ _ us hl => match us, hl with | [_, _, _], _ => rfl
  refine ⟨PySem.W.fnOf "law" "law" (defArgs s_law) (defBody s_law) (defScope s_law) .none kVl dcl pml anl (.ref c) ctl, fun s u => .of_eq rfl, fun base hK hG hT => ?_⟩
  have c_is_text : Cal P w K mg base CX0 1 "is_text" ["value"] (sp_is_text K) := ⟨⟨_, _, ok_is_text F_is_text T , PySem.W.mg_of X G a0, k0, b_is_text⟩⟩
  have c_is_sequence : Cal P w K mg base CX0 1 "is_sequence" ["value"] (sp_is_sequence K) := ⟨⟨_, _, ok_is_sequence F_is_sequence T , PySem.W.mg_of X G a1, k1, b_is_sequence⟩⟩
  have c_is_name : Cal P w K mg base CX0 2 "is_name" ["value"] (sp_is_name K) := ⟨⟨_, _, ok_is_name F_is_name T c_is_text, PySem.W.mg_of X G a2, k2, b_is_name⟩⟩
  have c_is_lot : Cal P w K mg base CX0 3 "is_lot" ["value"] (sp_is_lot K) := ⟨⟨_, _, ok_is_lot F_is_lot T c_is_name, PySem.W.mg_of X G a3, k3, b_is_lot⟩⟩
  have c_lot_of : Cal P w K mg base CX0 1 "lot_of" ["things"] (sp_lot_of K) := ⟨⟨_, _, ok_lot_of F_lot_of T , PySem.W.mg_of X G a4, k4, b_lot_of⟩⟩
  have c_are_hands : Cal P w K mg base CX0 3 "are_hands" ["value"] (sp_are_hands K) := ⟨⟨_, _, ok_are_hands F_are_hands T c_is_sequence c_is_name, PySem.W.mg_of X G a5, k5, b_are_hands⟩⟩
  have c_is_told_note : Cal P w K mg base CX0 4 "is_told_note" ["value", "hands", "earlier"] (sp_is_told_note K) := ⟨⟨_, _, ok_is_told_note F_is_told_note T c_is_name c_is_lot, PySem.W.mg_of X G a6, k6, b_is_told_note⟩⟩
  have c_are_ready : Cal P w K mg base CX0 3 "are_ready" ["value", "hands", "notes"] (sp_are_ready K) := ⟨⟨_, _, ok_are_ready F_are_ready T c_is_sequence c_is_name, PySem.W.mg_of X G a7, k7, b_are_ready⟩⟩
  have c_bits_under : Cal P w K mg base CX0 1 "bits_under" ["notes"] (sp_bits_under K) := ⟨⟨_, _, ok_bits_under F_bits_under T , PySem.W.mg_of X G a8, k8, b_bits_under⟩⟩
  have c_bits_of_lot : Cal P w K mg base CX0 2 "bits_of_lot" ["names", "notes"] (sp_bits_of_lot K) := ⟨⟨_, _, ok_bits_of_lot F_bits_of_lot T c_bits_under, PySem.W.mg_of X G a9, k9, b_bits_of_lot⟩⟩
  have c_is_paper : Cal P w K mg base CX0 4 "is_paper" ["value", "hands", "notes"] (sp_is_paper K) := ⟨⟨_, _, ok_is_paper F_is_paper T c_is_lot c_bits_of_lot, PySem.W.mg_of X G a10, k10, b_is_paper⟩⟩
  have c_Pact : MkP P w K mg base 5 "Pact" ["self", "hands", "notes", "ready", "paper"] C (sp_Pact_init K C) := ⟨⟨_, _, ok_Pact_init F_Pact_init T cC c_are_hands c_is_sequence c_is_told_note c_are_ready c_is_paper c_bits_under c_bits_of_lot, ⟨mkC, a11, i11, kC⟩, b_Pact_init⟩, gP⟩
  have cEq : CalEq P w K mg base 1 C (sp_Pact_eq K C) := ⟨⟨_, _, _, ok_Pact_eq F_Pact_eq T cC ciC gP, a12, i12, b_Pact_eq⟩⟩
  have c_need_note : Cal P w K mg base CX0 1 "need_note" ["pact", "note"] (sp_need_note K C) := ⟨⟨_, _, ok_need_note F_need_note T cC, PySem.W.mg_of X G a13, k13, b_need_note⟩⟩
  have c_names_of_bits : Cal P w K mg base CX0 2 "names_of_bits" ["pact", "bits"] (sp_names_of_bits K C) := ⟨⟨_, _, ok_names_of_bits F_names_of_bits T cC c_lot_of, PySem.W.mg_of X G a14, k14, b_names_of_bits⟩⟩
  have c_hand_of : Cal P w K mg base CX0 2 "hand_of" ["pact", "note"] (sp_hand_of K C) := ⟨⟨_, _, ok_hand_of F_hand_of T cC c_need_note, PySem.W.mg_of X G a15, k15, b_hand_of⟩⟩
  have c_is_under : Cal P w K mg base CX0 1 "is_under" ["pact", "one", "other"] (sp_is_under K C) := ⟨⟨_, _, ok_is_under F_is_under T cC, PySem.W.mg_of X G a16, k16, b_is_under⟩⟩
  have c_under_of : Cal P w K mg base CX0 3 "under_of" ["pact", "note"] (sp_under_of K C) := ⟨⟨_, _, ok_under_of F_under_of T cC c_need_note c_names_of_bits, PySem.W.mg_of X G a17, k17, b_under_of⟩⟩
  have c_whole_paper : Cal P w K mg base CX0 3 "whole_paper" ["pact"] (sp_whole_paper K C) := ⟨⟨_, _, ok_whole_paper F_whole_paper T cC c_names_of_bits, PySem.W.mg_of X G a18, k18, b_whole_paper⟩⟩
  have c_level_of : Cal P w K mg base CX0 3 "level_of" ["pact", "note"] (sp_level_of K C) := ⟨⟨_, _, ok_level_of F_level_of T cC c_hand_of, PySem.W.mg_of X G a19, k19, b_level_of⟩⟩
  have c_uppermost : Cal P w K mg base CX0 2 "uppermost" ["pact", "notes"] (sp_uppermost K C) := ⟨⟨_, _, ok_uppermost F_uppermost T c_is_under c_lot_of, PySem.W.mg_of X G a20, k20, b_uppermost⟩⟩
  have c_own_ahead : Cal P w K mg base CX0 4 "own_ahead" ["pact", "note"] (sp_own_ahead K C) := ⟨⟨_, _, ok_own_ahead F_own_ahead T cC c_level_of, PySem.W.mg_of X G a21, k21, b_own_ahead⟩⟩
  have c_bare_waits : Cal P w K mg base CX0 5 "bare_waits" ["pact", "note"] (sp_bare_waits K C) := ⟨⟨_, _, ok_bare_waits F_bare_waits T c_need_note c_under_of c_uppermost c_own_ahead, PySem.W.mg_of X G a22, k22, b_bare_waits⟩⟩
  have c_bare_paper : Cal P w K mg base CX0 4 "bare_paper" ["pact"] (sp_bare_paper K C) := ⟨⟨_, _, ok_bare_paper F_bare_paper T c_uppermost c_whole_paper, PySem.W.mg_of X G a23, k23, b_bare_paper⟩⟩
  have c_least_order : Cal P w K mg base CX0 2 "least_order" ["pact"] (sp_least_order K C) := ⟨⟨_, _, ok_least_order F_least_order T cC c_lot_of c_is_under, PySem.W.mg_of X G a24, k24, b_least_order⟩⟩
  have c_told_with : Cal P w K mg base CX0 7 "told_with" ["pact", "waits", "paper"] (sp_told_with K C) := ⟨⟨_, _, ok_told_with F_told_with T cC c_least_order c_Pact, PySem.W.mg_of X G a25, k25, b_told_with⟩⟩
  have c_bare_form : Cal P w K mg base CX0 8 "bare_form" ["pact"] (sp_bare_form K C) := ⟨⟨_, _, ok_bare_form F_bare_form T cC c_told_with c_bare_paper c_bare_waits, PySem.W.mg_of X G a26, k26, b_bare_form⟩⟩
  have c_full_form : Cal P w K mg base CX0 8 "full_form" ["pact"] (sp_full_form K C) := ⟨⟨_, _, ok_full_form F_full_form T cC c_under_of c_told_with c_whole_paper, PySem.W.mg_of X G a27, k27, b_full_form⟩⟩
  have c_same_web : Cal P w K mg base CX0 9 "same_web" ["one", "other"] (sp_same_web K C) := ⟨⟨_, _, ok_same_web F_same_web T cEq c_full_form, PySem.W.mg_of X G a28, k28, b_same_web⟩⟩
  have c_telling_count : Cal P w K mg base CX0 6 "telling_count" ["pact"] (sp_telling_count K C) := ⟨⟨_, _, ok_telling_count F_telling_count T cC c_whole_paper c_bare_paper c_under_of c_bare_waits, PySem.W.mg_of X G a29, k29, b_telling_count⟩⟩
  have c__law_heap : Cal P w K mg base CX0 1 "_law_heap" ["_law_script", "_law_base"] (sp__law_heap K) := ⟨⟨_, _, ok__law_heap F__law_heap T , PySem.W.mg_of X G a30, k30, b__law_heap⟩⟩
  have c__law_draw : Cal P w K mg base CX0 1 "_law_draw" ["_law_heap_here", "_law_many"] (sp__law_draw K) := ⟨⟨_, _, ok__law_draw F__law_draw T , PySem.W.mg_of X G a31, k31, b__law_draw⟩⟩
  have c__law_pick : Cal P w K mg base CX0 2 "_law_pick" ["_law_heap_here", "_law_some_here"] (sp__law_pick K) := ⟨⟨_, _, ok__law_pick F__law_pick T c__law_draw, PySem.W.mg_of X G a32, k32, b__law_pick⟩⟩
  have c__law_mixed : Cal P w K mg base CX0 2 "_law_mixed" ["_law_heap_here", "_law_some_here"] (sp__law_mixed K) := ⟨⟨_, _, ok__law_mixed F__law_mixed T c__law_draw, PySem.W.mg_of X G a33, k33, b__law_mixed⟩⟩
  have c__law_names : Cal P w K mg base CX0 3 "_law_names" ["_law_heap_here", "_law_many"] (sp__law_names K) := ⟨⟨_, _, ok__law_names F__law_names T c__law_pick c__law_draw c__law_mixed, PySem.W.mg_of X G a34, k34, b__law_names⟩⟩
  have c__law_unders : Cal P w K mg base CX0 1 "_law_unders" ["_law_notes_here"] (sp__law_unders K) := ⟨⟨_, _, ok__law_unders F__law_unders T , PySem.W.mg_of X G a35, k35, b__law_unders⟩⟩
  have c__law_notes : Cal P w K mg base CX0 3 "_law_notes" ["_law_heap_here", "_law_hands", "_law_names_here"] (sp__law_notes K) := ⟨⟨_, _, ok__law_notes F__law_notes T c__law_draw c__law_mixed c__law_pick, PySem.W.mg_of X G a36, k36, b__law_notes⟩⟩
  have c__law_pact : Cal P w K mg base CX0 4 "_law_pact" ["_law_heap_here", "_law_most"] (sp__law_pact K) := ⟨⟨_, _, ok__law_pact F__law_pact T c__law_names c__law_pick c__law_draw c__law_notes c__law_unders c__law_mixed, PySem.W.mg_of X G a37, k37, b__law_pact⟩⟩
  have c__law_upper : Cal P w K mg base CX0 1 "_law_upper" ["_law_below", "_law_some_here"] (sp__law_upper K) := ⟨⟨_, _, ok__law_upper F__law_upper T , PySem.W.mg_of X G a39, k39, b__law_upper⟩⟩
  have c__law_bare : Cal P w K mg base CX0 2 "_law_bare" ["_law_notes_here", "_law_below", "_law_name"] (sp__law_bare K) := ⟨⟨_, _, ok__law_bare F__law_bare T c__law_upper, PySem.W.mg_of X G a40, k40, b__law_bare⟩⟩
  have c__law_whole : Cal P w K mg base CX0 1 "_law_whole" ["_law_below", "_law_paper"] (sp__law_whole K) := ⟨⟨_, _, ok__law_whole F__law_whole T , PySem.W.mg_of X G a41, k41, b__law_whole⟩⟩
  have c__law_web : Cal P w K mg base CX0 2 "_law_web" ["_law_parts"] (sp__law_web K) := ⟨⟨_, _, ok__law_web F__law_web T c__law_unders c__law_whole, PySem.W.mg_of X G a42, k42, b__law_web⟩⟩
  have c__law_free : Cal P w K mg base CX0 3 "_law_free" ["_law_heap_here", "_law_names_here", "_law_below", "_law_least"] (sp__law_free K) := ⟨⟨_, _, ok__law_free F__law_free T c__law_pick, PySem.W.mg_of X G a43, k43, b__law_free⟩⟩
  have c__law_some : Cal P w K mg base CX0 2 "_law_some" ["_law_heap_here", "_law_few", "_law_many"] (sp__law_some K) := ⟨⟨_, _, ok__law_some F__law_some T c__law_draw, PySem.W.mg_of X G a44, k44, b__law_some⟩⟩
  have c__law_covers : Cal P w K mg base CX0 2 "_law_covers" ["_law_hands", "_law_notes_here", "_law_paper"] (sp__law_covers K) := ⟨⟨_, _, ok__law_covers F__law_covers T c__law_whole c__law_unders, PySem.W.mg_of X G a45, k45, b__law_covers⟩⟩
  have c__law_other : Cal P w K mg base CX0 3 "_law_other" ["_law_heap_here", "_law_parts", "_law_bent"] (sp__law_other K) := ⟨⟨_, _, ok__law_other F__law_other T c__law_draw c__law_pick c__law_covers, PySem.W.mg_of X G a46, k46, b__law_other⟩⟩
  have c__law_anew : Cal P w K mg base CX0 4 "_law_anew" ["_law_heap_here", "_law_parts", "_law_bent"] (sp__law_anew K) := ⟨⟨_, _, ok__law_anew F__law_anew T c__law_unders c__law_free c__law_draw c__law_bare c__law_some c__law_pick c__law_whole c__law_upper c__law_covers c__law_other, PySem.W.mg_of X G a47, k47, b__law_anew⟩⟩
  have c__law_count : Cal P w K mg base CX0 3 "_law_count" ["_law_notes_here", "_law_below", "_law_whole_here"] (sp__law_count K) := ⟨⟨_, _, ok__law_count F__law_count T c__law_upper c__law_bare, PySem.W.mg_of X G a48, k48, b__law_count⟩⟩
  have c__law_forms_right : CalG P w K mg base 9 "_law_forms_right" ["_law_heap_here", "_law_pact_here", "_law_parts"] (sp__law_forms_right K C) := ⟨⟨_, _, ok__law_forms_right F__law_forms_right T cC c__law_unders c__law_whole c__law_free c__law_bare c_bare_waits c__law_upper c_telling_count c__law_count c_bare_paper c_full_form c_bare_form, PySem.W.mg_of X G a49, k49, b__law_forms_right⟩⟩
  have k_same_web : CalK P w K mg base 9 "same_web" ["one", "other"] ["other", "one"] (sp_same_web K C) := ⟨⟨_, _, ok_same_web F_same_web T cEq c_full_form, PySem.W.mg_of X G a28, k28, fun s ws _ hl => match ws, hl with | [_, _], _ => .of_eq rfl⟩⟩
  have k_full_form : CalK P w K mg base 8 "full_form" ["pact"] ["pact"] (sp_full_form K C) := ⟨⟨_, _, ok_full_form F_full_form T cC c_under_of c_told_with c_whole_paper, PySem.W.mg_of X G a27, k27, fun s ws _ hl => match ws, hl with | [_], _ => .of_eq rfl⟩⟩
  have k_bare_form : CalK P w K mg base 8 "bare_form" ["pact"] ["pact"] (sp_bare_form K C) := ⟨⟨_, _, ok_bare_form F_bare_form T cC c_told_with c_bare_paper c_bare_waits, PySem.W.mg_of X G a26, k26, fun s ws _ hl => match ws, hl with | [_], _ => .of_eq rfl⟩⟩
  have k_telling_count : CalK P w K mg base 6 "telling_count" ["pact"] ["pact"] (sp_telling_count K C) := ⟨⟨_, _, ok_telling_count F_telling_count T cC c_whole_paper c_bare_paper c_under_of c_bare_waits, PySem.W.mg_of X G a29, k29, fun s ws _ hl => match ws, hl with | [_], _ => .of_eq rfl⟩⟩
  have k_bare_waits : CalK P w K mg base 5 "bare_waits" ["pact", "note"] ["note", "pact"] (sp_bare_waits K C) := ⟨⟨_, _, ok_bare_waits F_bare_waits T c_need_note c_under_of c_uppermost c_own_ahead, PySem.W.mg_of X G a22, k22, fun s ws _ hl => match ws, hl with | [_, _], _ => .of_eq rfl⟩⟩
  have k_bare_paper : CalK P w K mg base 4 "bare_paper" ["pact"] ["pact"] (sp_bare_paper K C) := ⟨⟨_, _, ok_bare_paper F_bare_paper T c_uppermost c_whole_paper, PySem.W.mg_of X G a23, k23, fun s ws _ hl => match ws, hl with | [_], _ => .of_eq rfl⟩⟩
  have cNX : Cal P w K mg base (L2.CX P w) 3 "need_note" ["pact", "note"] (spNo K C CN) := ⟨⟨_, _, ok_need_noteX F_need_note cC TN, PySem.W.mg_of X G a13, k13, b_need_note⟩⟩
  have cX : Cal P w K mg base (L2.CX P w) 4 "bare_waits" ["pact", "note"] (spNo K C CN) := ⟨⟨_, _, ok_bare_waitsX F_bare_waits cC cNX, PySem.W.mg_of X G a22, k22, b_bare_waits⟩⟩
  exact ok_law ll cl T cC cEq (PySem.W.mg_of X G a38) k38 F__law_none b__law_none hT TN cX c__law_heap c__law_pact c__law_pick c_Pact c_same_web c__law_forms_right c__law_anew c__law_web c_full_form c_bare_form c_telling_count c_bare_paper k_same_web k_full_form k_bare_form k_telling_count k_bare_waits k_bare_paper
theorem law_at {l : PySem.W.OpenLaw} {w : World} {K : PySem.W.Frag} {h : Heap} {mg : Str → Option Value} {fa c Pt : Addr} (X : K.In h) (hT : h.get? Pt = some { cls := .none, data := .fields #[] }) (nT : K.lookup Pt = none) (hc : PySem.W.codeHdIn K c Pt = true)
    (A : ∃ fd : FuncData, (∀ (s : Shared) (u : Value), BindsTo s fd ⟨[u], []⟩ [("_law_script", u)]) ∧ ∀ base : Heap, K.In base → base.Ns mainGlobals mg → LamX.TabB base mg c Pt → FnOkG l.prog w K mg base 10 fa fd ["_law_script"] (sp_law K Pt)) :
    LawG l w K 10 63 "_law_script" mg fa h := by
  obtain ⟨fd, hb, hF⟩ := A
  exact ⟨fd, c, Pt, sp_law K Pt, hT, nT, PySem.W.codeHd_of_K X hc, hb, fun H a ns hl _ hp hS => ⟨a, ns, rfl, hS, hl, hp, fun _ => rfl⟩, hF⟩
end KB
open PySem PySem.W PyProof.Rows in
set_option maxRecDepth 100000 in
set_option maxHeartbeats 0 in
theorem PySem.Challenge.cw_boundorvoid_k07_whole_forms_of_one_web_holds : PySem.Challenge.rw_boundorvoid_k07_whole_forms_of_one_web.Holds := by
  w_on; o_law; k_head; (case hw => w_witness2)
  k_fill
  refine KB.walk_ofG (l := PySem.Challenge.rw_boundorvoid_k07_whole_forms_of_one_web) (n := 63) (k := 10) (x := "_law_script") rfl (by decide) rfl ⟨rfl, by decide, by decide⟩ (fun w h Y => PySem.W.km_in_of Y) ?y_F
  case y_F =>
    intro w mg fa h Y KX G hmg
    have hT := PySem.W.km_tabs_of Y 380 (by simp)
    refine' KB.law_at (Pt := 380) KX hT ?y_nT ?y_hc (KB.all_mk KX G hmg ?y_aC ?y_a0 ?y_l0 ?y_c0 ?y_k0 ?y_a1 ?y_l1 ?y_c1 ?y_k1 ?y_a2 ?y_l2 ?y_c2 ?y_k2 ?y_a3 ?y_l3 ?y_c3 ?y_k3 ?y_a4 ?y_l4 ?y_c4 ?y_k4 ?y_a5 ?y_l5 ?y_c5 ?y_k5 ?y_a6 ?y_l6 ?y_c6 ?y_k6 ?y_a7 ?y_l7 ?y_c7 ?y_k7 ?y_a8 ?y_l8 ?y_c8 ?y_k8 ?y_a9 ?y_l9 ?y_c9 ?y_k9 ?y_a10 ?y_l10 ?y_c10 ?y_k10 ?y_a11 ?y_i11 ?y_l11 ?y_c11 ?y_k11 ?y_a12 ?y_i12 ?y_l12 ?y_c12 ?y_k12 ?y_a13 ?y_l13 ?y_c13 ?y_k13 ?y_a14 ?y_l14 ?y_c14 ?y_k14 ?y_a15 ?y_l15 ?y_c15 ?y_k15 ?y_a16 ?y_l16 ?y_c16 ?y_k16 ?y_a17 ?y_l17 ?y_c17 ?y_k17 ?y_a18 ?y_l18 ?y_c18 ?y_k18 ?y_a19 ?y_l19 ?y_c19 ?y_k19 ?y_a20 ?y_l20 ?y_c20 ?y_k20 ?y_a21 ?y_l21 ?y_c21 ?y_k21 ?y_a22 ?y_l22 ?y_c22 ?y_k22 ?y_a23 ?y_l23 ?y_c23 ?y_k23 ?y_a24 ?y_l24 ?y_c24 ?y_k24 ?y_a25 ?y_l25 ?y_c25 ?y_k25 ?y_a26 ?y_l26 ?y_c26 ?y_k26 ?y_a27 ?y_l27 ?y_c27 ?y_k27 ?y_a28 ?y_l28 ?y_c28 ?y_k28 ?y_a29 ?y_l29 ?y_c29 ?y_k29 ?y_a30 ?y_l30 ?y_c30 ?y_k30 ?y_a31 ?y_l31 ?y_c31 ?y_k31 ?y_a32 ?y_l32 ?y_c32 ?y_k32 ?y_a33 ?y_l33 ?y_c33 ?y_k33 ?y_a34 ?y_l34 ?y_c34 ?y_k34 ?y_a35 ?y_l35 ?y_c35 ?y_k35 ?y_a36 ?y_l36 ?y_c36 ?y_k36 ?y_a37 ?y_l37 ?y_c37 ?y_k37 ?y_a38 ?y_l38 ?y_c38 ?y_k38 ?y_a39 ?y_l39 ?y_c39 ?y_k39 ?y_a40 ?y_l40 ?y_c40 ?y_k40 ?y_a41 ?y_l41 ?y_c41 ?y_k41 ?y_a42 ?y_l42 ?y_c42 ?y_k42 ?y_a43 ?y_l43 ?y_c43 ?y_k43 ?y_a44 ?y_l44 ?y_c44 ?y_k44 ?y_a45 ?y_l45 ?y_c45 ?y_k45 ?y_a46 ?y_l46 ?y_c46 ?y_k46 ?y_a47 ?y_l47 ?y_c47 ?y_k47 ?y_a48 ?y_l48 ?y_c48 ?y_k48 ?y_a49 ?y_l49 ?y_c49 ?y_k49 ?y_al ?y_ll ?y_cl ?y_pg ?y_hd ?y_po ?y_sa ?y_mkC ?y_kC ?y_nHands ?y_nNotes ?y_nReady ?y_nPaper ?y_nNames ?y_nPlaces ?y_nUnders ?y_nRows ?y_nBits ?y_iha ?y_ihn ?y_ihtk ?y_ihm ?y_z_isinstance ?y_z_len ?y_z_all ?y_z_tuple ?y_z_sorted ?y_z_set ?y_z_list ?y_z_enumerate ?y_z_zip ?y_z_range ?y_z_int ?y_z_abs ?y_z_min ?y_z_repr ?y_z_str ?y_z_LETTERS ?y_z_LONGEST ?y_z_FEWEST_HANDS ?y_z_MOST_HANDS ?y_z_FEWEST_NOTES ?y_z_MOST_NOTES ?y_aN ?y_z_super ?y_xN ?y_saN ?y_gaN ?y_ggN ?y_eN ?y_hdN ?y_noN ?y_iN ?y_tfnN ?y_kN ?y_tyN ?y_isN ?y_sN ?y_opq ?y_lN ?y_cN ?y_ldaN ?y_hvsN ?y_lccN ?y_hfile ?y_hsup)
    (case y_aC => k_is)
    (case y_a0 => k_is)
    (case y_l0 => k_is)
    (case y_c0 => k_is)
    (case y_k0 => k_is)
    (case y_a1 => k_is)
    (case y_l1 => k_is)
    (case y_c1 => k_is)
    (case y_k1 => k_is)
    (case y_a2 => k_is)
    (case y_l2 => k_is)
    (case y_c2 => k_is)
    (case y_k2 => k_is)
    (case y_a3 => k_is)
    (case y_l3 => k_is)
    (case y_c3 => k_is)
    (case y_k3 => k_is)
    (case y_a4 => k_is)
    (case y_l4 => k_is)
    (case y_c4 => k_is)
    (case y_k4 => k_is)
    (case y_a5 => k_is)
    (case y_l5 => k_is)
    (case y_c5 => k_is)
    (case y_k5 => k_is)
    (case y_a6 => k_is)
    (case y_l6 => k_is)
    (case y_c6 => k_is)
    (case y_k6 => k_is)
    (case y_a7 => k_is)
    (case y_l7 => k_is)
    (case y_c7 => k_is)
    (case y_k7 => k_is)
    (case y_a8 => k_is)
    (case y_l8 => k_is)
    (case y_c8 => k_is)
    (case y_k8 => k_is)
    (case y_a9 => k_is)
    (case y_l9 => k_is)
    (case y_c9 => k_is)
    (case y_k9 => k_is)
    (case y_a10 => k_is)
    (case y_l10 => k_is)
    (case y_c10 => k_is)
    (case y_k10 => k_is)
    (case y_a11 => k_is)
    (case y_i11 => k_is)
    (case y_l11 => k_is)
    (case y_c11 => k_is)
    (case y_k11 => k_is)
    (case y_a12 => k_is)
    (case y_i12 => k_is)
    (case y_l12 => k_is)
    (case y_c12 => k_is)
    (case y_k12 => k_is)
    (case y_a13 => k_is)
    (case y_l13 => k_is)
    (case y_c13 => k_is)
    (case y_k13 => k_is)
    (case y_a14 => k_is)
    (case y_l14 => k_is)
    (case y_c14 => k_is)
    (case y_k14 => k_is)
    (case y_a15 => k_is)
    (case y_l15 => k_is)
    (case y_c15 => k_is)
    (case y_k15 => k_is)
    (case y_a16 => k_is)
    (case y_l16 => k_is)
    (case y_c16 => k_is)
    (case y_k16 => k_is)
    (case y_a17 => k_is)
    (case y_l17 => k_is)
    (case y_c17 => k_is)
    (case y_k17 => k_is)
    (case y_a18 => k_is)
    (case y_l18 => k_is)
    (case y_c18 => k_is)
    (case y_k18 => k_is)
    (case y_a19 => k_is)
    (case y_l19 => k_is)
    (case y_c19 => k_is)
    (case y_k19 => k_is)
    (case y_a20 => k_is)
    (case y_l20 => k_is)
    (case y_c20 => k_is)
    (case y_k20 => k_is)
    (case y_a21 => k_is)
    (case y_l21 => k_is)
    (case y_c21 => k_is)
    (case y_k21 => k_is)
    (case y_a22 => k_is)
    (case y_l22 => k_is)
    (case y_c22 => k_is)
    (case y_k22 => k_is)
    (case y_a23 => k_is)
    (case y_l23 => k_is)
    (case y_c23 => k_is)
    (case y_k23 => k_is)
    (case y_a24 => k_is)
    (case y_l24 => k_is)
    (case y_c24 => k_is)
    (case y_k24 => k_is)
    (case y_a25 => k_is)
    (case y_l25 => k_is)
    (case y_c25 => k_is)
    (case y_k25 => k_is)
    (case y_a26 => k_is)
    (case y_l26 => k_is)
    (case y_c26 => k_is)
    (case y_k26 => k_is)
    (case y_a27 => k_is)
    (case y_l27 => k_is)
    (case y_c27 => k_is)
    (case y_k27 => k_is)
    (case y_a28 => k_is)
    (case y_l28 => k_is)
    (case y_c28 => k_is)
    (case y_k28 => k_is)
    (case y_a29 => k_is)
    (case y_l29 => k_is)
    (case y_c29 => k_is)
    (case y_k29 => k_is)
    (case y_a30 => k_is)
    (case y_l30 => k_is)
    (case y_c30 => k_is)
    (case y_k30 => k_is)
    (case y_a31 => k_is)
    (case y_l31 => k_is)
    (case y_c31 => k_is)
    (case y_k31 => k_is)
    (case y_a32 => k_is)
    (case y_l32 => k_is)
    (case y_c32 => k_is)
    (case y_k32 => k_is)
    (case y_a33 => k_is)
    (case y_l33 => k_is)
    (case y_c33 => k_is)
    (case y_k33 => k_is)
    (case y_a34 => k_is)
    (case y_l34 => k_is)
    (case y_c34 => k_is)
    (case y_k34 => k_is)
    (case y_a35 => k_is)
    (case y_l35 => k_is)
    (case y_c35 => k_is)
    (case y_k35 => k_is)
    (case y_a36 => k_is)
    (case y_l36 => k_is)
    (case y_c36 => k_is)
    (case y_k36 => k_is)
    (case y_a37 => k_is)
    (case y_l37 => k_is)
    (case y_c37 => k_is)
    (case y_k37 => k_is)
    (case y_a38 => k_is)
    (case y_l38 => k_is)
    (case y_c38 => k_is)
    (case y_k38 => k_is)
    (case y_a39 => k_is)
    (case y_l39 => k_is)
    (case y_c39 => k_is)
    (case y_k39 => k_is)
    (case y_a40 => k_is)
    (case y_l40 => k_is)
    (case y_c40 => k_is)
    (case y_k40 => k_is)
    (case y_a41 => k_is)
    (case y_l41 => k_is)
    (case y_c41 => k_is)
    (case y_k41 => k_is)
    (case y_a42 => k_is)
    (case y_l42 => k_is)
    (case y_c42 => k_is)
    (case y_k42 => k_is)
    (case y_a43 => k_is)
    (case y_l43 => k_is)
    (case y_c43 => k_is)
    (case y_k43 => k_is)
    (case y_a44 => k_is)
    (case y_l44 => k_is)
    (case y_c44 => k_is)
    (case y_k44 => k_is)
    (case y_a45 => k_is)
    (case y_l45 => k_is)
    (case y_c45 => k_is)
    (case y_k45 => k_is)
    (case y_a46 => k_is)
    (case y_l46 => k_is)
    (case y_c46 => k_is)
    (case y_k46 => k_is)
    (case y_a47 => k_is)
    (case y_l47 => k_is)
    (case y_c47 => k_is)
    (case y_k47 => k_is)
    (case y_a48 => k_is)
    (case y_l48 => k_is)
    (case y_c48 => k_is)
    (case y_k48 => k_is)
    (case y_a49 => k_is)
    (case y_l49 => k_is)
    (case y_c49 => k_is)
    (case y_k49 => k_is)
    (case y_al => k_is)
    (case y_ll => k_is)
    (case y_cl => k_is)
    (case y_pg => k_is)
    (case y_hd => k_is)
    (case y_po => k_is)
    (case y_sa => k_is)
    (case y_mkC => k_is)
    (case y_kC => k_is)
    (case y_nHands => k_is)
    (case y_nNotes => k_is)
    (case y_nReady => k_is)
    (case y_nPaper => k_is)
    (case y_nNames => k_is)
    (case y_nPlaces => k_is)
    (case y_nUnders => k_is)
    (case y_nRows => k_is)
    (case y_nBits => k_is)
    (case y_iha => k_is)
    (case y_ihn => k_is)
    (case y_ihtk => k_is)
    (case y_ihm => k_is)
    (case y_z_isinstance => k_is)
    (case y_z_len => k_is)
    (case y_z_all => k_is)
    (case y_z_tuple => k_is)
    (case y_z_sorted => k_is)
    (case y_z_set => k_is)
    (case y_z_list => k_is)
    (case y_z_enumerate => k_is)
    (case y_z_zip => k_is)
    (case y_z_range => k_is)
    (case y_z_int => k_is)
    (case y_z_abs => k_is)
    (case y_z_min => k_is)
    (case y_z_repr => k_is)
    (case y_z_str => k_is)
    (case y_z_LETTERS => k_is)
    (case y_z_LONGEST => k_is)
    (case y_z_FEWEST_HANDS => k_is)
    (case y_z_MOST_HANDS => k_is)
    (case y_z_FEWEST_NOTES => k_is)
    (case y_z_MOST_NOTES => k_is)
    (case y_aN => k_is)
    (case y_z_super => k_is)
    (case y_xN => k_is)
    (case y_saN => k_is)
    (case y_gaN => k_is)
    (case y_ggN => k_is)
    (case y_eN => k_is)
    (case y_hdN => k_is)
    (case y_noN => k_is)
    (case y_iN => k_is)
    (case y_tfnN => k_is)
    (case y_kN => k_is)
    (case y_tyN => k_is)
    (case y_isN => k_is)
    (case y_sN => first | rfl | k_is)
    (case y_opq => k_is)
    (case y_lN => k_is)
    (case y_cN => k_is)
    (case y_ldaN => k_is)
    (case y_hvsN => first | rfl | k_is)
    (case y_lccN => k_is)
    (case y_nT => first | rfl | kernel_rfl | k_is)
    (case y_hc => first | k_is | kernel_rfl)
    (case y_hfile => first | rfl | decide +kernel)
    (case y_hsup => first | rfl | decide +kernel)
