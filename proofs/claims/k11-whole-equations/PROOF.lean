import PyProof.Rows.All
import Wide.All
import OpenK.AllK
import Wide.FinOn
import HandS.ForMost
import HandS.Walk
import HandS.IsInst
import HandS.Style
import HandS.TupAny
import HandS.Zip
import HandS.Deep
import HandS.Codes
import KE.SortData
import KE.GoesNew
import PyProof.ListStr
import HandS.Conv
import KE.OsSortAny
import PySem.Challenge.RW_turnfriends_k11_whole_equations
set_option Elab.async false
set_option linter.all false
set_option maxRecDepth 100000
set_option maxHeartbeats 4000000
/-! KR1 -/
namespace TF
open PySem PySem.Spec PyProof.Rows L2

/-! zip of two texts -/
def ItzS (x y : Str) : It :=
  ⟨fun i _ => i < min x.cps.size y.cps.size,
    fun i H v H' => ∃ T c d, v = .ref T ∧ H T = none ∧ H' = upd H T (.tup [.str ⟨#[c]⟩, .str ⟨#[d]⟩]) ∧ x.cps[i]? = some c ∧ y.cps[i]? = some d,
    fun i _ => i = min x.cps.size y.cps.size⟩
theorem turn_zipS {P : Program} {w : World} {K : PySem.W.Frag} {elts : List Expr} {kk : Nat} {tpos : Pos} {z TI TO i1 i2 : Addr} {x y : Str} {t u : Tok} (S : ZipSep2 z TI TO i1 i2 [i1] [i2]) :
    Turn P w K (.Tuple elts kk tpos) (ItzS x y) [z, TI, TO, i1, i2] z (fun i h => IsZip h z TI TO .none ∧ IsTupOf2 h TI (.ref i1) (.ref i2) ∧ (∃ a b, IsTupOf2 h TO a b) ∧ h.IsStrIter i1 (strIterType x) x t i ∧ h.IsStrIter i2 (strIterType y) y u i) where
  mem := by simp
  obj := fun i h st c hc => by
    obtain ⟨hz, hTI, ⟨a, b, hTO⟩, ⟨o1, e1, _, d1⟩, ⟨o2, e2, _, d2⟩⟩ := st
    have e' : c = z ∨ c = TI ∨ c = TO ∨ c = i1 ∨ c = i2 := by simpa using hc
    rcases e' with q | q | q | q | q
    · rw [q]; exact ⟨_, hz, fun v q => nomatch q⟩
    · rw [q]; exact ⟨_, hTI, fun v q => nomatch q⟩
    · rw [q]; exact ⟨_, hTO, fun v q => nomatch q⟩
    · rw [q]; exact ⟨o1, e1, fun v q => by rw [d1] at q; cases q⟩
    · rw [q]; exact ⟨o2, e2, fun v q => by rw [d2] at q; cases q⟩
  keep := fun i h h' st k => by
    obtain ⟨hz, hTI, ⟨a, b, hTO⟩, ⟨o1, e1, r1⟩, ⟨o2, e2, r2⟩⟩ := st
    exact ⟨k z (by simp) _ hz, k TI (by simp) _ hTI, ⟨a, b, k TO (by simp) _ hTO⟩, ⟨o1, k i1 (by simp) _ e1, r1⟩, ⟨o2, k i2 (by simp) _ e2, r2⟩⟩
  item := by
    intro X hP hw hK hc i pins s σ H E I hf st hg
    subst hP hw hK
    have hh : X.A.in1.handled = none := I.ok.hd hc
    have W := GoesN.zip2 (elts := elts) (x1 := kk) (pos := tpos) S (Draws.text (prog := X.prog) (w := X.w) hh i1 x t) (Draws.text (prog := X.prog) (w := X.w) hh i2 y u)
    refine W.goes i s _ E hg st fun v h' tk hY st' hk htk => ?_
    obtain ⟨T, vx, vy, ev, hT, ⟨c, tc, hc1, evx⟩, ⟨d, td, hd1, evy⟩, hTup⟩ := hY
    subst ev evx evy
    have new : ObjOk X.prog X.w (upd H T (.tup [.str ⟨#[c]⟩, .str ⟨#[d]⟩])) h' T (.tup [.str ⟨#[c]⟩, .str ⟨#[d]⟩]) :=
      ⟨by show 2 ≤ sizeLine; decide, [_, _], .cons ⟨_, rfl⟩ (.cons ⟨_, rfl⟩ .nil), hTup⟩
    have I1 := I.turnedNew (t' := tk) (ch := [z, TI, TO, i1, i2]) (fun b o hb q => hk b o (fun q' => hb (by
      have : b = z ∨ b = TO ∨ b = i1 ∨ b = i2 := by simpa using q'
      rcases this with q | q | q | q <;> simp [q])) q) hf hT new
    refine ⟨.ref T, _, I1, rfl, ⟨T, c, d, rfl, I.hok.fresh hT, rfl, hc1, hd1⟩, st', fun b hb => ?_⟩
    have hlt : b < s.heap.objs.size := by
      obtain ⟨hz, hTI, ⟨a, b', hTO⟩, ⟨o1, e1, _⟩, ⟨o2, e2, _⟩⟩ := st
      have e' : b = z ∨ b = TI ∨ b = TO ∨ b = i1 ∨ b = i2 := by simpa using hb
      rcases e' with q | q | q | q | q
      · rw [q]; exact Heap.lt_size hz
      · rw [q]; exact Heap.lt_size hTI
      · rw [q]; exact Heap.lt_size hTO
      · rw [q]; exact Heap.lt_size e1
      · rw [q]; exact Heap.lt_size e2
    rw [upd_ne (Nat.ne_of_lt (Nat.lt_of_lt_of_le hlt hT))]
    exact (hf b hb).1
  done := by
    intro X hP hw hK hc i pins s σ H E I hf st hg
    subst hP hw hK
    have hh : X.A.in1.handled = none := I.ok.hd hc
    have W := GoesN.zip2 (elts := elts) (x1 := kk) (pos := tpos) S (Draws.text (prog := X.prog) (w := X.w) hh i1 x t) (Draws.text (prog := X.prog) (w := X.w) hh i2 y u)
    have hg' : i = min x.cps.size y.cps.size := hg
    rw [hg'] at st
    refine W.stops s _ E st fun h' tk hk htk => ?_
    exact I.turnedL (t' := tk) (ch := [z, TI, TO, i1, i2]) (fun b o hb q => hk b o (fun q' => hb (by
      have : b = z ∨ b = TO ∨ b = i1 ∨ b = i2 := by simpa using q'
      rcases this with q | q | q | q <;> simp [q])) q) hf
  self := fun A i s Q E st h => wpAny_pyIter_zip st.1 h
def iZipS (ta : TA) : TI := fun σ H R => ta σ H fun vs H1 => ∃ x y, vs = [.str x, .str y] ∧ R (ItzS x y) H1
theorem pi_zipS {X : Cx} {e e2 : Expr} {ta : TA} {p pos tpos : Pos} {elts : List Expr} {kk : Nat} (hg : Gl X "zip") (hm : X.mg "zip" = none) (ha : PA X [e, e2] ta)
    (hs : starEach [e, e2] X.env = (false, eval e X.env) :: starEach [e2] X.env := by rfl) (hpl : (backTo pos (starEach [e2] X.env)).any (·.1) = false := by rfl) :
    PI X (.Tuple elts kk tpos) (.Call (.Name "zip" p) [e, e2] [] pos) (iZipS ta) := by
  refine ⟨fun pins s σ H R I h => ?_⟩
  refine Call_ (ld_blt I hg hm PyProof.Rows.boot_zip (PyProof.Rows.callWith_type1 (thn (ha.run pos pins s σ H _ I h) fun us s1 ⟨vs, H1, I1, r1, q1⟩ => ?_) hs hpl))
  obtain ⟨x, y, ex, q1⟩ := q1
  subst ex
  cases r1 with
  | cons r rr =>
    cases rr with
    | cons r' rr =>
      cases rr
      obtain ⟨t, rfl⟩ := r
      obtain ⟨u, rfl⟩ := r'
      have fresh5 : ∀ c, c ∈ [s1.heap.objs.size + 4, s1.heap.objs.size + 2, s1.heap.objs.size + 3, s1.heap.objs.size, s1.heap.objs.size + 1] → FpOk X pins H1 c := fun c hcm => by
        have e' : c = s1.heap.objs.size + 4 ∨ c = s1.heap.objs.size + 2 ∨ c = s1.heap.objs.size + 3 ∨ c = s1.heap.objs.size ∨ c = s1.heap.objs.size + 1 := by simpa using hcm
        have hle : s1.heap.objs.size ≤ c := by
          rcases e' with z | z | z | z | z
          · rw [z]; exact Nat.le_add_right _ _
          · rw [z]; exact Nat.le_add_right _ _
          · rw [z]; exact Nat.le_add_right _ _
          · rw [z]; exact Nat.le_refl _
          · rw [z]; exact Nat.le_add_right _ _
        exact I1.fpOk hle (I1.hok.fresh hle)
      refine zip_begins2 (begins_text x t) (begins_text y u) trivial trivial fun h' hz hTI hTO h1 h2 hsz hk => wpAny_pyIter_zip hz ?_
      have I2 : Inv X pins σ H1 { s1 with heap := h' } := I1.kept (t' := s1.toks) hk
      exact ⟨s1.heap.objs.size + 4, [s1.heap.objs.size + 4, s1.heap.objs.size + 2, s1.heap.objs.size + 3, s1.heap.objs.size, s1.heap.objs.size + 1], _, _, H1, rfl, I2,
        turn_zipS (t := t) (u := u) (zip_sep2 (N := s1.heap.objs.size) (fp1 := []) (fp2 := []) (fun _ h => nomatch h) (fun _ h => nomatch h)), ⟨hz, hTI, ⟨_, _, hTO⟩, ⟨_, h1, rfl, rfl⟩, ⟨_, h2, rfl, rfl⟩⟩, fresh5, q1⟩
theorem walk_zipS {x y : Str} : Walk (ItzS x y) (min x.cps.size y.cps.size) (fun _ => True) (fun i H v H' => ∃ T c d, v = .ref T ∧ H T = none ∧ H' = upd H T (.tup [.str ⟨#[c]⟩, .str ⟨#[d]⟩]) ∧ x.cps[i]? = some c ∧ y.cps[i]? = some d) where
  goes := fun _ _ h _ => h
  stops := fun _ _ => rfl
  yields := fun _ _ _ _ _ _ h => h

/-! enumerate of anything that begins -/
theorem meets_enumerate_newB1 {v : Value} {o : Obj} {H : Heap → Prop} (B : Begins v o H) :
    Meets (Builtin.«enumerate.__new__» ⟨[.type "enumerate", v], []⟩) (fun _ R s => H s.heap ∧
      R (.ok (.ret (.ref (s.heap.push o).objs.size)))
        { s with heap := (s.heap.push o).push { cls := .type "enumerate", data := .fields #[.none, .bool false, .ref s.heap.objs.size, rawInt 0, .none, .none] } }) :=
  .of_wp fun prog w A R s h => by
    obtain ⟨hp, g, d, tk, os⟩ := s; obtain ⟨h1, h⟩ := h
    have hsub := sub_enumerate
    have q1 : ∀ {A' : Around} {E : Value → Shared → Prop} {Q : Value → Shared → Prop}, Q (.ref hp.objs.size) ⟨(hp.push o), g, d, tk, os⟩ → wpAny (model prog w) A' (pyIter v) Q E ⟨hp, g, d, tk, os⟩ :=
      fun q => B.iter prog w _ _ ⟨hp, g, d, tk, os⟩ _ (B.keeps _ _ h1 fun b o' e => e) q
    wp_walk
    refine wpAny_stack_any fun st => wpAny_pure ?_
    split
    · rename_i c _ _ _ _ _
      cases (c == Value.type "enumerate")
      · wp_walk using q1
        exact ⟨_, rfl, h⟩
      · wp_walk using q1
        exact ⟨_, rfl, h⟩
    · wp_walk using q1
      exact ⟨_, rfl, h⟩
end TF
/-! KR2 -/
namespace TF
open PySem PySem.Spec PyProof.Rows L2
section
variable {prog : Program} {w : World} {A : Around} {E : Value → Shared → Prop} {s : Shared}
theorem enum_begins1 {v : Value} {o : Obj} {H : Heap → Prop} {Q : Value → Shared → Prop} (B : Begins v o H) (h1 : H s.heap)
    (h : ∀ h', IsEnum h' (s.heap.objs.size + 1) s.heap.objs.size 0 .none → h'.get? s.heap.objs.size = some o → h'.objs.size = s.heap.objs.size + 2 →
      (∀ b o, s.heap.get? b = some o → h'.get? b = some o) → Q (.ref (s.heap.objs.size + 1)) { s with heap := h' }) :
    wpAny (model prog w) A (call (.type "enumerate") [v]) Q E s := by
  refine callType_new F.called_enumerate (by decide) (F.typeCall_enumerate_1 _) (F.newCall_enumerate_1 _) (fun obj => F.args_object_init_2 obj _) F.entry_enumerate_new
    (meets_enumerate_newB1 B) ⟨h1, ?_⟩
  have hz : (s.heap.push o).objs.size = s.heap.objs.size + 1 := Heap.size_push ..
  show _ ∧ _
  rw [hz]
  have he : IsEnum ((s.heap.push o).push
      { cls := .type "enumerate", data := .fields #[.none, .bool false, .ref s.heap.objs.size, rawInt 0, .none, .none] }) (s.heap.objs.size + 1) s.heap.objs.size 0 .none := by
    have := Heap.get?_push_size (s.heap.push o)
      (o := { cls := .type "enumerate", data := .fields #[.none, .bool false, .ref s.heap.objs.size, rawInt 0, .none, .none] }) rfl
    rw [hz] at this; exact this
  refine ⟨⟨_, he, rfl⟩, h _ he (Heap.get?_push_of_some _ (Heap.get?_push_size _ B.free)) (by rw [Heap.size_push, hz]) fun b o y => Heap.get?_push_of_some _ (Heap.get?_push_of_some _ y)⟩
end

/-- the signs of a text with their places -/
def IteS (x : Str) : It :=
  ⟨fun i _ => i < x.cps.size, fun i H v H' => ∃ T c, v = .ref T ∧ H T = none ∧ H' = upd H T (.tup [.int (i : Nat), .str ⟨#[c]⟩]) ∧ x.cps[i]? = some c, fun i _ => i = x.cps.size⟩
theorem turn_enumS {P : Program} {w : World} {K : PySem.W.Frag} {elts : List Expr} {kk : Nat} {tpos : Pos} {e it : Addr} {x : Str} {t : Tok} (hne : e ≠ it) :
    Turn P w K (.Tuple elts kk tpos) (IteS x) [e, it] e (fun i h => (∃ old, IsEnum h e it (0 + (i : Int)) old) ∧ h.IsStrIter it (strIterType x) x t i) where
  mem := by simp
  obj := fun i h st c hc => by
    obtain ⟨⟨old, he⟩, ⟨o1, e1, _, d1⟩⟩ := st
    have e' : c = e ∨ c = it := by simpa using hc
    rcases e' with q | q
    · rw [q]; exact ⟨_, he, fun v q => nomatch q⟩
    · rw [q]; exact ⟨o1, e1, fun v q => by rw [d1] at q; cases q⟩
  keep := fun i h h' st k => by
    obtain ⟨⟨old, he⟩, ⟨o1, e1, r1⟩⟩ := st
    exact ⟨⟨old, k e (by simp) _ he⟩, ⟨o1, k it (by simp) _ e1, r1⟩⟩
  item := by
    intro X hP hw hK hc i pins s σ H E I hf st hg
    subst hP hw hK
    have hh : X.A.in1.handled = none := I.ok.hd hc
    have W := GoesN.enumFrom (elts := elts) (x1 := kk) (pos := tpos) 0 (Draws.text (prog := X.prog) (w := X.w) hh it x t) e hne (by simpa using hne) (by simp)
    refine W.goes i s _ E hg st fun v h' tk hY st' hk htk => ?_
    obtain ⟨T, ti, vx, ev, hT, ⟨c, tc, hc1, evx⟩, hTup⟩ := hY
    subst ev evx
    have hTup' : h'.IsTuple T #[.int (i : Int) ti, .str ⟨#[c]⟩ tc] := by
      have e0 : (0 : Int) + (i : Int) = (i : Int) := Int.zero_add _
      rw [e0] at hTup; exact hTup
    have new : ObjOk X.prog X.w (upd H T (.tup [.int (i : Nat), .str ⟨#[c]⟩])) h' T (.tup [.int (i : Nat), .str ⟨#[c]⟩]) :=
      ⟨by show 2 ≤ sizeLine; decide, [_, _], .cons ⟨_, rfl⟩ (.cons ⟨_, rfl⟩ .nil), hTup'⟩
    have I1 := I.turnedNew (t' := tk) (ch := [e, it]) (fun b o hb q => hk b o hb q) hf hT new
    refine ⟨.ref T, _, I1, rfl, ⟨T, c, rfl, I.hok.fresh hT, rfl, hc1⟩, st', fun b hb => ?_⟩
    have hlt : b < s.heap.objs.size := by
      obtain ⟨⟨old, he⟩, ⟨o1, e1, _⟩⟩ := st
      have e' : b = e ∨ b = it := by simpa using hb
      rcases e' with q | q
      · rw [q]; exact Heap.lt_size he
      · rw [q]; exact Heap.lt_size e1
    rw [upd_ne (Nat.ne_of_lt (Nat.lt_of_lt_of_le hlt hT))]
    exact (hf b hb).1
  done := by
    intro X hP hw hK hc i pins s σ H E I hf st hg
    subst hP hw hK
    have hh : X.A.in1.handled = none := I.ok.hd hc
    have W := GoesN.enumFrom (elts := elts) (x1 := kk) (pos := tpos) 0 (Draws.text (prog := X.prog) (w := X.w) hh it x t) e hne (by simpa using hne) (by simp)
    have hg' : i = x.cps.size := hg
    rw [hg'] at st
    refine W.stops s _ E st fun h' tk hk htk => ?_
    exact I.turnedL (t' := tk) (ch := [e, it]) (fun b o hb q => hk b o hb q) hf
  self := fun A i s Q E st h => let ⟨⟨_, he⟩, _⟩ := st; wpAny_pyIter_enum he h
def iEnumS (ta : TA) : TI := fun σ H R => ta σ H fun vs H1 => ∃ x, vs = [.str x] ∧ R (IteS x) H1
theorem pi_enumS {X : Cx} {e : Expr} {ta : TA} {p pos tpos : Pos} {elts : List Expr} {kk : Nat} (hg : Gl X "enumerate") (hm : X.mg "enumerate" = none) (ha : PA X [e] ta) (hs : starEach [e] X.env = [(false, eval e X.env)] := by rfl) :
    PI X (.Tuple elts kk tpos) (.Call (.Name "enumerate" p) [e] [] pos) (iEnumS ta) := by
  refine ⟨fun pins s σ H R I h => ?_⟩
  refine Call_ (ld_blt I hg hm boot_enumerate (PyProof.Rows.callWith_type1 (thn (ha.run pos pins s σ H _ I h) fun us s1 ⟨vs, H1, I1, r1, q1⟩ => ?_) hs rfl))
  obtain ⟨x, ex, q⟩ := q1
  subst ex
  cases r1 with
  | cons r rr =>
    cases rr
    obtain ⟨t, rfl⟩ := r
    refine enum_begins1 (begins_text x t) trivial fun h' he hit hsz hk => wpAny_pyIter_enum he ?_
    have I2 : Inv X pins σ H1 { s1 with heap := h' } := I1.kept (t' := s1.toks) hk
    refine ⟨s1.heap.objs.size + 1, [s1.heap.objs.size + 1, s1.heap.objs.size], _, _, H1, rfl, I2, turn_enumS (t := t) (Nat.succ_ne_self _), ⟨⟨.none, he⟩, ⟨_, hit, rfl, rfl⟩⟩, fun b hb => ?_, q⟩
    have e' : b = s1.heap.objs.size + 1 ∨ b = s1.heap.objs.size := by simpa using hb
    have hle : s1.heap.objs.size ≤ b := by
      rcases e' with z | z
      · rw [z]; exact Nat.le_add_right _ _
      · rw [z]; exact Nat.le_refl _
    exact I1.fpOk hle (I1.hok.fresh hle)
theorem walk_enumS {x : Str} : Walk (IteS x) x.cps.size (fun _ => True) (fun i H v H' => ∃ T c, v = .ref T ∧ H T = none ∧ H' = upd H T (.tup [.int (i : Nat), .str ⟨#[c]⟩]) ∧ x.cps[i]? = some c) where
  goes := fun _ _ h _ => h
  stops := fun _ _ => rfl
  yields := fun _ _ _ _ _ _ h => h

/-- the items of a tuple with their places -/
def IteT (K : PySem.W.Frag) (a : Addr) : It :=
  ⟨fun i H => ∃ (xs : List V) (x : V), SqT K H a xs ∧ xs[i]? = some x, fun i H v H' => ∃ T x, v = .ref T ∧ H T = none ∧ H' = upd H T (.tup [.int (i : Nat), x]) ∧ ∀ xs, SqT K H a xs → xs[i]? = some x, fun i H => ∃ xs : List V, SqT K H a xs ∧ xs.length = i⟩
theorem turn_enumT {P : Program} {w : World} {K : PySem.W.Frag} {elts : List Expr} {kk : Nat} {tpos : Pos} {a e it : Addr} (hne : e ≠ it) (hea : e ≠ a) (hia : it ≠ a) :
    Turn P w K (.Tuple elts kk tpos) (IteT K a) [e, it] e (fun i h => (∃ old, IsEnum h e it (0 + (i : Int)) old) ∧ h.IsTupleIter it a i) where
  mem := by simp
  obj := fun i h st c hc => by
    obtain ⟨⟨old, he⟩, ⟨o1, e1, _, d1⟩⟩ := st
    have e' : c = e ∨ c = it := by simpa using hc
    rcases e' with q | q
    · rw [q]; exact ⟨_, he, fun v q => nomatch q⟩
    · rw [q]; exact ⟨o1, e1, fun v q => by rw [d1] at q; cases q⟩
  keep := fun i h h' st k => by
    obtain ⟨⟨old, he⟩, h1⟩ := st
    exact ⟨⟨old, k e (by simp) _ he⟩, h1.at fun o q => k it (by simp) o q⟩
  item := by
    intro X hP hw hK hc i pins s σ H E I hf st hg
    subst hP hw hK
    have hh : X.A.in1.handled = none := I.ok.hd hc
    obtain ⟨xs, x, hq, hx⟩ := hg
    obtain ⟨its, rv, p, hz⟩ := I.tuple hq
    obtain ⟨u, hu, ru⟩ := rv.get hx
    have W := GoesN.enumFrom (elts := elts) (x1 := kk) (pos := tpos) 0 (Draws.tuple (prog := X.prog) (w := X.w) hh it a (Ne.symm hia) its.toArray) e hne (by simp [hne, hea]) (by simp)
    have hlt : i < its.toArray.size := by
      have := (List.getElem?_eq_some_iff.mp hu).1
      simpa using this
    refine W.goes i s _ E hlt ⟨st.1, st.2, p⟩ fun v h' tk hY st' hk htk => ?_
    obtain ⟨T, ti, vx, ev, hT, hvx, hTup⟩ := hY
    have evx : vx = u := by
      have e1 : its[i]? = some vx := by simpa using hvx
      rw [hu] at e1; exact (Option.some.inj e1).symm
    subst ev evx
    have hTup' : h'.IsTuple T #[.int (i : Int) ti, vx] := by
      have e0 : (0 : Int) + (i : Int) = (i : Int) := Int.zero_add _
      rw [e0] at hTup; exact hTup
    have new : ObjOk X.prog X.w (upd H T (.tup [.int (i : Nat), x])) h' T (.tup [.int (i : Nat), x]) :=
      ⟨by show 2 ≤ sizeLine; decide, [_, _], .cons ⟨_, rfl⟩ (.cons ru .nil), hTup'⟩
    have I1 := I.turnedNew (t' := tk) (ch := [e, it]) (fun b o hb q => hk b o hb q) hf hT new
    refine ⟨.ref T, _, I1, rfl, ⟨T, x, rfl, I.hok.fresh hT, rfl, fun ys hy => by rw [I.tuple_inj hy hq]; exact hx⟩, ⟨st'.1, st'.2.1⟩, fun b hb => ?_⟩
    have hlt2 : b < s.heap.objs.size := by
      obtain ⟨⟨old, he⟩, ⟨o1, e1, _⟩⟩ := st
      have e' : b = e ∨ b = it := by simpa using hb
      rcases e' with q | q
      · rw [q]; exact Heap.lt_size he
      · rw [q]; exact Heap.lt_size e1
    rw [upd_ne (Nat.ne_of_lt (Nat.lt_of_lt_of_le hlt2 hT))]
    exact (hf b hb).1
  done := by
    intro X hP hw hK hc i pins s σ H E I hf st hg
    subst hP hw hK
    have hh : X.A.in1.handled = none := I.ok.hd hc
    obtain ⟨xs, hq, hx⟩ := hg
    obtain ⟨its, rv, p, hz⟩ := I.tuple hq
    have W := GoesN.enumFrom (elts := elts) (x1 := kk) (pos := tpos) 0 (Draws.tuple (prog := X.prog) (w := X.w) hh it a (Ne.symm hia) its.toArray) e hne (by simp [hne, hea]) (by simp)
    have hi : i = its.toArray.size := by
      have := rv.length
      simp only [List.size_toArray]
      omega
    subst hi
    refine W.stops s _ E ⟨st.1, st.2, p⟩ fun h' tk hk htk => ?_
    exact I.turnedL (t' := tk) (ch := [e, it]) (fun b o hb q => hk b o hb q) hf
  self := fun A i s Q E st h => let ⟨⟨_, he⟩, _⟩ := st; wpAny_pyIter_enum he h
def iEnumT (K : PySem.W.Frag) (ta : TA) : TI := fun σ H R => ta σ H fun vs H1 => ∃ a xs, vs = [.ref a] ∧ SqT K H1 a xs ∧ R (IteT K a) H1
theorem pi_enumT {X : Cx} {e : Expr} {ta : TA} {p pos tpos : Pos} {elts : List Expr} {kk : Nat} (hg : Gl X "enumerate") (hm : X.mg "enumerate" = none) (ha : PA X [e] ta) (hs : starEach [e] X.env = [(false, eval e X.env)] := by rfl) :
    PI X (.Tuple elts kk tpos) (.Call (.Name "enumerate" p) [e] [] pos) (iEnumT X.K ta) := by
  refine ⟨fun pins s σ H R I h => ?_⟩
  refine Call_ (ld_blt I hg hm boot_enumerate (PyProof.Rows.callWith_type1 (thn (ha.run pos pins s σ H _ I h) fun us s1 ⟨vs, H1, I1, r1, q1⟩ => ?_) hs rfl))
  obtain ⟨a, xs, ex, hq, q⟩ := q1
  subst ex
  cases r1 with
  | cons r rr =>
    cases rr
    cases r
    obtain ⟨its, rv, p', hz⟩ := I1.tuple hq
    obtain ⟨oa, hoa, _⟩ := id p'
    have hal := Heap.lt_size hoa
    refine enum_begins1 (begins_tuple a its.toArray) p' fun h' he hit hsz hk => wpAny_pyIter_enum he ?_
    have I2 : Inv X pins σ H1 { s1 with heap := h' } := I1.kept (t' := s1.toks) hk
    refine ⟨s1.heap.objs.size + 1, [s1.heap.objs.size + 1, s1.heap.objs.size], _, _, H1, rfl, I2, turn_enumT (Nat.succ_ne_self _) (Nat.ne_of_gt (Nat.lt_succ_of_lt hal)) (Nat.ne_of_gt hal), ⟨⟨.none, he⟩, ⟨_, hit, rfl, rfl⟩⟩, fun b hb => ?_, q⟩
    have e' : b = s1.heap.objs.size + 1 ∨ b = s1.heap.objs.size := by simpa using hb
    have hle : s1.heap.objs.size ≤ b := by
      rcases e' with z | z
      · rw [z]; exact Nat.le_add_right _ _
      · rw [z]; exact Nat.le_refl _
    exact I1.fpOk hle (I1.hok.fresh hle)
theorem walk_enumT {K : PySem.W.Frag} {a : Addr} {xs : List V} : Walk (IteT K a) xs.length (fun H => SqT K H a xs) (fun i H v H' => ∃ T x, v = .ref T ∧ H T = none ∧ H' = upd H T (.tup [.int (i : Nat), x]) ∧ xs[i]? = some x) where
  goes := fun i _ h g => ⟨xs, xs[i], g, List.getElem?_eq_getElem h⟩
  stops := fun _ g => ⟨xs, g, rfl⟩
  yields := fun _ _ _ _ _ g ⟨T, x, h1, h2, h3, h4⟩ => ⟨T, x, h1, h2, h3, h4 xs g⟩
theorem walk_zipT {K : PySem.W.Frag} {a b : Addr} {xs ys : List V} {n : Nat} (hn : n = min xs.length ys.length) : Walk (RZ.ItzT K a b) n (fun H => SqT K H a xs ∧ SqT K H b ys) (YPair (fun i => xs[i]?) (fun i => ys[i]?)) where
  goes := fun i _ h g => ⟨xs, ys, xs[i]'(by omega), ys[i]'(by omega), g.1, g.2, List.getElem?_eq_getElem _, List.getElem?_eq_getElem _⟩
  stops := fun _ g => ⟨xs, ys, g.1, g.2, by omega⟩
  yields := fun _ _ _ _ _ g ⟨T, x, y, h1, h2, h3, h4, h5⟩ => ⟨T, x, y, h1, h2, h3, h4 xs g.1, h5 ys g.2⟩

/-! text * int, list(text) -/
def rMulS : R2 := fun x y H Q => ∃ z n, x = .str z ∧ y = .int n ∧ z.length ≤ 1000 ∧ 0 ≤ n ∧ n ≤ 1000 ∧ Q (.str (Txt.mul z n)) H
theorem op_mulS {X : Cx} : OpR X (binaryOp .Mult) rMulS := by
  intro pins s σ H x y v u Q I rx ry h
  obtain ⟨z, n, rfl, rfl, hz, h0, h1, q⟩ := h
  obtain ⟨t, rfl⟩ := rx
  obtain ⟨t', rfl⟩ := ry
  exact SB.mul (mulOk_of 1000 1000 hz (by omega) (by omega) (by decide) (by decide)) fun t' k => ⟨.str _, H, I.tok _, ⟨_, rfl⟩, q⟩
def signsV (x : Str) : List V := x.cps.toList.map fun c => V.str ⟨#[c]⟩
def rListStr : List V → Hp → VK → Prop := fun xs H Q => ∃ x, xs = [.str x] ∧ x.cps.size ≤ 1000 ∧ ∀ p, H p = none → Q (.ref p) (upd H p (.lst (signsV x)))
theorem vals_signs {x : Str} {acc : Array Value} (h : ItemsOf (SignAt x) acc x.cps.size) : Vals (signsV x) acc.toList := by
  obtain ⟨hs, hi⟩ := h
  refine vals_of_at (by simp [signsV, hs]) fun j y u h1 h2 => ?_
  obtain ⟨c, tk, e1, e2⟩ := hi j u (by simpa using h2)
  unfold signsV at h1
  rw [List.getElem?_map, Array.getElem?_toList, e1] at h1
  have ey : V.str ⟨#[c]⟩ = y := Option.some.inj h1
  subst ey e2
  exact ⟨_, rfl⟩
theorem call_listStr {X : Cx} (hc : X.calm = true) : CallR X (.type "list") rListStr := by
  intro pins s σ H xs us Q I r h
  obtain ⟨x, rfl, hx, q⟩ := h
  obtain ⟨u, rfl, ru⟩ := vals1 r
  obtain ⟨t, rfl⟩ := ru
  have hz : x.cps.size ≤ sizeLine := Nat.le_trans hx (by decide)
  refine call_list_str (I.ok.hd hc) x t (fun h' tk acc' c' hk hS hacc => ?_) hz
  have rv := vals_signs hacc
  have new : ObjOk X.prog X.w (upd H s.heap.objs.size (.lst (signsV x))) h' s.heap.objs.size (.lst (signsV x)) := ⟨by simpa [signsV] using hz, acc'.toList, c', rv, by simpa using hS⟩
  exact ⟨.ref _, _, I.laid hk (Nat.le_refl _) new, rfl, q _ (I.hok.fresh (Nat.le_refl _))⟩
end TF
/-! KR3 -/
namespace TF
open PySem PySem.Spec PyProof.Rows L2

/-! x in t, deep -/
def rInT (K : PySem.W.Frag) : R2 := fun x y H Q => ∃ d ds, Dp K H x d ∧ Dp K H y (.tuple ds) ∧ SeqAt.shaped d = true ∧ SeqAt.shaped (.tuple ds) = true ∧ Q (.bl (ds.any fun z => PyData.eqv z d)) H
def rNotInT (K : PySem.W.Frag) : R2 := fun x y H Q => ∃ d ds, Dp K H x d ∧ Dp K H y (.tuple ds) ∧ SeqAt.shaped d = true ∧ SeqAt.shaped (.tuple ds) = true ∧ Q (.bl (!ds.any fun z => PyData.eqv z d)) H
theorem op_inT {X : Cx} (hu : X.A.units + 65 < cLine) : OpR X (compareOp .In) (rInT X.K) := by
  intro pins s σ H x y v u Q I rx ry h
  obtain ⟨d, ds, hd, he, sd, se, q⟩ := h
  obtain ⟨as, r1⟩ := Dp.reads I d x v hd rx
  obtain ⟨bs, r2⟩ := Dp.reads I (.tuple ds) y u he ry
  exact SeqAt.in_tuple_reads r2 r1 (SeqAt.canLay_of_shaped se) (SeqAt.canLay_of_shaped sd) (room_in_shaped sd hu) ⟨.bl _, H, I, rfl, q⟩
theorem op_notInT {X : Cx} (hu : X.A.units + 65 < cLine) : OpR X (compareOp .NotIn) (rNotInT X.K) := by
  intro pins s σ H x y v u Q I rx ry h
  obtain ⟨d, ds, hd, he, sd, se, q⟩ := h
  obtain ⟨as, r1⟩ := Dp.reads I d x v hd rx
  obtain ⟨bs, r2⟩ := Dp.reads I (.tuple ds) y u he ry
  exact SeqAt.notIn_tuple_reads r2 r1 (SeqAt.canLay_of_shaped se) (SeqAt.canLay_of_shaped sd) (room_in_shaped sd hu) ⟨.bl _, H, I, rfl, q⟩

/-! a list beside an empty list -/
def rNeNil (K : PySem.W.Frag) : R2 := fun x y H Q => ∃ a b xs, x = .ref a ∧ y = .ref b ∧ SqL K H a xs ∧ SqL K H b [] ∧ Q (.bl (!xs.isEmpty)) H
def rEqNil (K : PySem.W.Frag) : R2 := fun x y H Q => ∃ a b xs, x = .ref a ∧ y = .ref b ∧ SqL K H a xs ∧ SqL K H b [] ∧ Q (.bl xs.isEmpty) H
theorem op_neNil {X : Cx} (hu : X.A.units < cLine) : OpR X (compareOp .NotEq) (rNeNil X.K) := by
  intro pins s σ H x y v u Q I rx ry h
  obtain ⟨a, b, xs, rfl, rfl, ha, hb, q⟩ := h
  cases rx
  cases ry
  obtain ⟨its, rv, p, _⟩ := I.list ha
  obtain ⟨its2, rv2, p2, _⟩ := I.list hb
  cases rv2
  cases rv with
  | nil =>
    exact SeqAt.RcNeAt.lists (e := fun _ => true) p.isList p2.isList rfl hu (fun j h1 _ => absurd h1 (Nat.not_lt_zero _)) X.prog X.w _ _ ⟨.bl _, H, I, rfl, q⟩
  | cons r t =>
    exact SeqAt.RcNeAt.lists_lengths p.isList p2.isList (by simp) hu X.prog X.w _ _ ⟨.bl true, H, I, rfl, q⟩
theorem op_eqNil {X : Cx} (hu : X.A.units < cLine) : OpR X (compareOp .Eq) (rEqNil X.K) := by
  intro pins s σ H x y v u Q I rx ry h
  obtain ⟨a, b, xs, rfl, rfl, ha, hb, q⟩ := h
  cases rx
  cases ry
  obtain ⟨its, rv, p, _⟩ := I.list ha
  obtain ⟨its2, rv2, p2, _⟩ := I.list hb
  cases rv2
  cases rv with
  | nil =>
    exact SeqAt.RcAt.lists (e := fun _ => true) p.isList p2.isList rfl hu (fun j h1 _ => absurd h1 (Nat.not_lt_zero _)) X.prog X.w _ _ ⟨.bl _, H, I, rfl, q⟩
  | cons r t =>
    exact SeqAt.RcAt.lists_lengths p.isList p2.isList (by simp) hu X.prog X.w _ _ ⟨.bl false, H, I, rfl, q⟩

/-! data without lists: ints, texts, tuples of these -/
mutual
inductive Dt (H : Hp) : V → PyData → Prop
  | int (i : Int) : Dt H (.int i) (.int i)
  | str (x : Str) : Dt H (.str x) (.str x)
  | bl (b : Bool) : Dt H (.bl b) (.bool b)
  | tup {a : Addr} {xs : List V} {ds : List PyData} : H a = some (.tup xs) → Dts H xs ds → Dt H (.ref a) (.tuple ds)
inductive Dts (H : Hp) : List V → List PyData → Prop
  | nil : Dts H [] []
  | cons {v : V} {vs : List V} {d : PyData} {ds : List PyData} : Dt H v d → Dts H vs ds → Dts H (v :: vs) (d :: ds)
end
/-- the tuples stay -/
def Tp (H H' : Hp) : Prop := ∀ a xs, H a = some (.tup xs) → H' a = some (.tup xs)
theorem Tp.refl (H : Hp) : Tp H H := fun _ _ h => h
theorem Tp.trans {H H1 H2 : Hp} (a : Tp H H1) (b : Tp H1 H2) : Tp H H2 := fun c o h => b c o (a c o h)
theorem same_tp {H H' : Hp} (h : Same H H') : Tp H H' := fun a xs e => h a _ e
theorem Tp.new {H : Hp} {p : Addr} {o : HO} (h : H p = none) : Tp H (upd H p o) := fun a xs e => by
  rw [upd_ne (ne_of_none e h)]; exact e
/-- an object that is no tuple changes -/
theorem Tp.mut {H : Hp} {p : Addr} {o u : HO} (h : H p = some u) (hu : ∀ xs, u ≠ .tup xs) : Tp H (upd H p o) := fun a xs e => by
  have : a ≠ p := fun q => by subst q; rw [h] at e; exact hu xs (Option.some.inj e)
  rw [upd_ne this]; exact e
mutual
theorem Dt.mono {H H' : Hp} (e : Tp H H') : ∀ {d : PyData} {v : V}, Dt H v d → Dt H' v d
  | .int _, _, .int i => .int i
  | .str _, _, .str x => .str x
  | .bool _, _, .bl x => .bl x
  | .tuple _, _, .tup h hs => .tup (e _ _ h) (Dts.mono e hs)
theorem Dts.mono {H H' : Hp} (e : Tp H H') : ∀ {ds : List PyData} {vs : List V}, Dts H vs ds → Dts H' vs ds
  | [], _, .nil => .nil
  | _ :: _, _, .cons h hs => .cons (Dt.mono e h) (Dts.mono e hs)
end
mutual
theorem Dt.dp {K : PySem.W.Frag} {H : Hp} : ∀ {d : PyData} {v : V}, Dt H v d → Dp K H v d
  | .int _, _, .int i => .int i
  | .str _, _, .str x => .str x
  | .bool _, _, .bl x => .bl x
  | .tuple _, _, .tup h hs => .tup (SqT.of h) (Dts.dp hs)
theorem Dts.dp {K : PySem.W.Frag} {H : Hp} : ∀ {ds : List PyData} {vs : List V}, Dts H vs ds → DpAll K H vs ds
  | [], _, .nil => .nil
  | _ :: _, _, .cons h hs => .cons (Dt.dp h) (Dts.dp hs)
end
theorem Dt.intE {H : Hp} {v : V} {i : Int} (h : Dt H v (.int i)) : v = .int i := by cases h; rfl
theorem Dt.strE {H : Hp} {v : V} {x : Str} (h : Dt H v (.str x)) : v = .str x := by cases h; rfl
theorem Dt.blE {H : Hp} {v : V} {x : Bool} (h : Dt H v (.bool x)) : v = .bl x := by cases h; rfl
theorem Dt.tupE {H : Hp} {v : V} {ds : List PyData} (h : Dt H v (.tuple ds)) : ∃ a xs, v = .ref a ∧ H a = some (.tup xs) ∧ Dts H xs ds := by
  cases h with | tup h hs => exact ⟨_, _, rfl, h, hs⟩
theorem Dts.length : ∀ {H : Hp} {vs : List V} {ds : List PyData}, Dts H vs ds → vs.length = ds.length
  | _, _, _, .nil => rfl
  | _, _, _, .cons _ t => by rw [List.length_cons, List.length_cons, Dts.length t]
theorem Dts.get : ∀ {H : Hp} {vs : List V} {ds : List PyData} {i : Nat} {d : PyData}, Dts H vs ds → ds[i]? = some d → ∃ v, vs[i]? = some v ∧ Dt H v d
  | _, _, _, _, _, .nil, e => by simp at e
  | _, _, _, 0, d, .cons h _, e => by simp at e; subst e; exact ⟨_, rfl, h⟩
  | _, _, _, i + 1, d, .cons _ t, e => by
    obtain ⟨v, h1, h2⟩ := Dts.get (i := i) (d := d) t (by simpa using e)
    exact ⟨v, by simpa using h1, h2⟩
theorem Dts.getV : ∀ {H : Hp} {vs : List V} {ds : List PyData} {i : Nat} {v : V}, Dts H vs ds → vs[i]? = some v → ∃ d, ds[i]? = some d ∧ Dt H v d
  | _, _, _, _, _, .nil, e => by simp at e
  | _, _, _, 0, d, .cons h _, e => by simp at e; subst e; exact ⟨_, rfl, h⟩
  | _, _, _, i + 1, d, .cons _ t, e => by
    obtain ⟨v, h1, h2⟩ := Dts.getV (i := i) (v := d) t (by simpa using e)
    exact ⟨v, by simpa using h1, h2⟩
theorem Dts.append : ∀ {H : Hp} {vs ws : List V} {ds es : List PyData}, Dts H vs ds → Dts H ws es → Dts H (vs ++ ws) (ds ++ es)
  | _, _, _, _, _, .nil, s => s
  | _, _, _, _, _, .cons h t, s => .cons h (Dts.append t s)
theorem Dts.snoc {H : Hp} {vs : List V} {v : V} {ds : List PyData} {d : PyData} (h : Dts H vs ds) (h1 : Dt H v d) : Dts H (vs ++ [v]) (ds ++ [d]) := h.append (.cons h1 .nil)
theorem Dts.drop : ∀ {H : Hp} {vs : List V} {ds : List PyData} (k : Nat), Dts H vs ds → Dts H (vs.drop k) (ds.drop k)
  | _, _, _, 0, h => h
  | _, _, _, _ + 1, .nil => .nil
  | _, _, _, k + 1, .cons _ t => Dts.drop k t
theorem Dts.take : ∀ {H : Hp} {vs : List V} {ds : List PyData} (k : Nat), Dts H vs ds → Dts H (vs.take k) (ds.take k)
  | _, _, _, 0, _ => .nil
  | _, _, _, _ + 1, .nil => .nil
  | _, _, _, k + 1, .cons h t => .cons h (Dts.take k t)
theorem Dts.ints : ∀ {H : Hp} (ns : List Int), Dts H (ns.map V.int) (ns.map PyData.int)
  | _, [] => .nil
  | _, n :: ns => .cons (.int n) (Dts.ints ns)
theorem Dts.intsE : ∀ {H : Hp} {vs : List V} {ns : List Int}, Dts H vs (ns.map PyData.int) → vs = ns.map V.int
  | _, _, [], h => by cases h; rfl
  | _, _, n :: ns, h => by
    cases h with
    | cons h1 h2 => rw [h1.intE, Dts.intsE h2]; rfl
theorem Dts.strsE : ∀ {H : Hp} {vs : List V} {ns : List Str}, Dts H vs (ns.map PyData.str) → vs = ns.map V.str
  | _, _, [], h => by cases h; rfl
  | _, _, n :: ns, h => by
    cases h with
    | cons h1 h2 => rw [h1.strE, Dts.strsE h2]; rfl

/-! sorted(xs) of such data -/
theorem each_of {X : Cx} {pins : List (Addr × Obj)} {σ : L2.St} {H : Hp} {s : Shared} (I : Inv X pins σ H s) : ∀ {xs : List V} {us : List Value} {ds : List PyData}, Dts H xs ds → Vals xs us →
    PySem.W.EachIs (fun (u : Value) (d : PyData) => ∃ x, RelV x u ∧ Dt H x d) us ds ∧ PySem.W.EachIs (fun (u : Value) (d : PyData) => ∃ as, Reads s.heap u (id d) as) us ds
  | _, _, _, .nil, .nil => ⟨.nil, .nil⟩
  | _, _, _, .cons h hs, .cons r rs => by
    obtain ⟨e1, e2⟩ := each_of I hs rs
    obtain ⟨as, q⟩ := Dp.reads I _ _ _ (h.dp (K := X.K)) r
    exact ⟨.cons ⟨_, r, h⟩ e1, .cons ⟨as, q⟩ e2⟩
theorem of_each {H : Hp} : ∀ {us : List Value} {ds : List PyData}, PySem.W.EachIs (fun (u : Value) (d : PyData) => ∃ x, RelV x u ∧ Dt H x d) us ds → ∃ xs, Vals xs us ∧ Dts H xs ds
  | _, _, .nil => ⟨[], .nil, .nil⟩
  | _, _, .cons ⟨x, r, h⟩ t => by
    obtain ⟨xs, h1, h2⟩ := of_each t
    exact ⟨x :: xs, .cons r h1, .cons h h2⟩
def rSortedD (K : PySem.W.Frag) : List V → Hp → VK → Prop := fun vs H Q => ∃ a xs ds, vs = [V.ref a] ∧ SqL K H a xs ∧ Dts H xs ds ∧ PySem.W.AllAlike ds ∧ PySem.W.Sortable ds ∧ (∀ d ∈ ds, d.depth ≤ 8) ∧
  ∀ p ys, H p = none → Dts H ys (ds.mergeSort (PySem.W.dataLe false id)) → ys.length = xs.length → Q (.ref p) (upd H p (.lst ys))
theorem cr_sortedD {X : Cx} (hu : X.A.units + 64 < cLine) : CallR X (.builtin "sorted") (rSortedD X.K) := by
  intro pins s σ H vs us Q I r h
  obtain ⟨a, xs, ds, rfl, hs, hd, hal, hso, hdp, q⟩ := h
  have eu := Vals.ref1 r
  subst eu
  obtain ⟨its, rv, p, hz⟩ := I.list hs
  obtain ⟨e1, e2⟩ := each_of I hd rv
  have hlen := hd.length
  refine PySem.W.sorted_data (R := fun (u : Value) (d : PyData) => ∃ x, RelV x u ∧ Dt H x d) (enc := id) p.isList e1 e2 (by simpa using hal) (by simpa using hso) (by omega) (fun b hb => ?_) fun out ho eo => ?_
  · have := hdp b hb
    show X.A.units + 2 + b.depth < cLine
    omega
  · obtain ⟨ys, hv, hy⟩ := of_each eo
    have hlo := hv.length
    have hlx : ys.length = xs.length := by omega
    obtain ⟨m, hn, _⟩ := I.loc
    have F : Fr (Att.noObjs s.heap) X.env.locals s.heap m := Att.fr_all hn
    obtain ⟨c, _, N', _, hk⟩ := PySem.W.sorted_news (news := []) F (fun _ h => nomatch h) its out
    have hat := (N' _ List.mem_cons_self).1
    have hf : H (s.heap.objs.size + 1) = none := I.hok.fresh (Nat.le_succ _)
    have new : ObjOk X.prog X.w (upd H (s.heap.objs.size + 1) (.lst ys)) (sortedAll s.heap its out.toArray) (s.heap.objs.size + 1) (.lst ys) :=
      ⟨by omega, out, c, hv, hat⟩
    exact ⟨.ref (s.heap.objs.size + 1), _, I.laid (t' := s.toks) hk (Nat.le_succ _) new, rfl, q _ ys hf hy hlx⟩
end TF
/-! L1 -/
namespace TF
open PySem PySem.Spec PyProof.Rows L2

/-! what a value stands for: data; that very value; a list of data -/
inductive Ds where
  | d (x : PyData)
  | v (x : V)
  | t (ds : List PyData)
def Is (H : Hp) : Ds → V → Prop
  | .d x, u => Dt H u x
  | .v x, u => u = x
  | .t ds, u => ∃ p xs, u = .ref p ∧ H p = some (.lst xs) ∧ Dts H xs ds
def Iss (H : Hp) : List Ds → List V → Prop
  | [], us => us = []
  | d :: ds, us => ∃ u r, us = u :: r ∧ Is H d u ∧ Iss H ds r
theorem Is.same {H H' : Hp} (e : Same H H') : ∀ (s : Ds) (u : V), Is H s u → Is H' s u
  | .d x, u, h => Dt.mono (same_tp e) h
  | .v x, u, h => h
  | .t ds, u, ⟨p, xs, e1, e2, e3⟩ => ⟨p, xs, e1, e _ _ e2, Dts.mono (same_tp e) e3⟩
theorem Iss.same {H H' : Hp} (e : Same H H') : ∀ (ds : List Ds) (us : List V), Iss H ds us → Iss H' ds us
  | [], us, h => h
  | d :: ds, us, ⟨u, r, e1, e2, e3⟩ => ⟨u, r, e1, Is.same e d u e2, Iss.same e ds r e3⟩
theorem is_d {H : Hp} {x : PyData} {u : V} : Is H (.d x) u ↔ Dt H u x := Iff.rfl
theorem is_v {H : Hp} {x : V} {u : V} : Is H (.v x) u ↔ u = x := Iff.rfl
theorem is_t {H : Hp} {ds : List PyData} {u : V} : Is H (.t ds) u ↔ ∃ p xs, u = .ref p ∧ H p = some (.lst xs) ∧ Dts H xs ds := Iff.rfl
theorem iss_nil {H : Hp} {us : List V} : Iss H [] us ↔ us = [] := Iff.rfl
theorem iss_cons {H : Hp} {d : Ds} {ds : List Ds} {us : List V} : Iss H (d :: ds) us ↔ ∃ u r, us = u :: r ∧ Is H d u ∧ Iss H ds r := Iff.rfl
theorem Iss.length {H : Hp} : ∀ {ds : List Ds} {us : List V}, Iss H ds us → us.length = ds.length
  | [], us, h => by rw [iss_nil] at h; subst h; rfl
  | d :: ds, us, h => by
    rw [iss_cons] at h
    obtain ⟨u, r, e1, _, e3⟩ := h
    subst e1
    rw [List.length_cons, List.length_cons, Iss.length e3]
theorem Iss.dts {H : Hp} : ∀ {ds : List PyData} {us : List V}, Iss H (ds.map .d) us ↔ Dts H us ds
  | [], us => by
    rw [List.map_nil, iss_nil]
    constructor
    · intro h; subst h; exact .nil
    · intro h; cases h; rfl
  | d :: ds, us => by
    rw [List.map_cons, iss_cons]
    constructor
    · rintro ⟨u, r, e1, e2, e3⟩
      subst e1
      exact .cons (is_d.mp e2) (Iss.dts.mp e3)
    · intro h
      cases h with
      | cons h1 h2 => exact ⟨_, _, rfl, is_d.mpr h1, Iss.dts.mpr h2⟩

/-! heaps: what lies outside ms is kept -/
def Ch (ms : List Addr) (H H' : Hp) : Prop := ∀ a o, a ∉ ms → H a = some o → H' a = some o
theorem Ch.refl (ms : List Addr) (H : Hp) : Ch ms H H := fun _ _ _ h => h
theorem Ch.trans {ms : List Addr} {H H1 H2 : Hp} (a : Ch ms H H1) (b : Ch ms H1 H2) : Ch ms H H2 := fun c o hc h => b c o hc (a c o hc h)
theorem same_ch {ms : List Addr} {H H' : Hp} (e : Same H H') : Ch ms H H' := fun a o _ h => e a o h
theorem Ch.then {ms : List Addr} {H H1 H2 : Hp} (a : Ch ms H H1) (b : Same H1 H2) : Ch ms H H2 := a.trans (same_ch b)
theorem Ch.same {H H' : Hp} (e : Ch [] H H') : Same H H' := fun a o h => e a o (by simp) h
theorem same_new {H : Hp} {p : Addr} {o : HO} (h : H p = none) : Same H (upd H p o) := fun b x e => by
  rw [upd_ne (ne_of_none e h)]
  exact e
theorem Ch.upd {ms : List Addr} {H H' : Hp} {p : Addr} {o : HO} (e : Ch ms H H') (h : p ∈ ms) : Ch ms H (upd H' p o) := fun a x ha hx => by
  have : a ≠ p := fun q => ha (q ▸ h)
  rw [upd_ne this]
  exact e a x ha hx
/-- what was free may change -/
theorem same_mut {H H' : Hp} {p : Addr} {o : HO} (e : Same H H') (h : H p = none) : Same H (upd H' p o) := fun a u ha => by
  rw [upd_ne (ne_of_none ha h)]
  exact e a u ha
/-- the objects at ms were free before: all that was then is kept -/
theorem Ch.back {ms : List Addr} {H0 H H' : Hp} (e : Ch ms H H') (s : Same H0 H) (f : ∀ m ∈ ms, H0 m = none) : Same H0 H' := fun a o h => by
  refine e a o (fun hm => ?_) (s a o h)
  rw [f a hm] at h; cases h
/-- lists at ms -/
def MsL (ms : List Addr) (H : Hp) : Prop := ∀ m ∈ ms, ∃ o, H m = some o ∧ ∀ xs, o ≠ .tup xs
theorem Ch.tp {ms : List Addr} {H H' : Hp} (e : Ch ms H H') (m : MsL ms H) : Tp H H' := fun a xs h => by
  refine e a _ (fun hm => ?_) h
  obtain ⟨o, e1, e2⟩ := m a hm
  rw [h] at e1
  exact e2 xs (Option.some.inj e1).symm
theorem ne_of_free {H : Hp} {a b : Addr} {o : HO} (h : H a = some o) (h' : H b = none) : a ≠ b := ne_of_none h h'

/-! what evaluates to what -/
def Ev (te : TE) (σ : L2.St) (H : Hp) (s : Ds) : Prop := ∀ H1, Same H H1 → ∀ Q : VK, (∀ u H2, Same H1 H2 → Is H2 s u → Q u H2) → te σ H1 Q
/-- .. a list not there before -/
def EvF (te : TE) (σ : L2.St) (H : Hp) (ds : List PyData) : Prop := ∀ H1, Same H H1 → ∀ Q : VK, (∀ p xs H2, Same H1 H2 → H1 p = none → H2 p = some (.lst xs) → Dts H2 xs ds → Q (.ref p) H2) → te σ H1 Q
def EvT (tt : TT) (σ : L2.St) (H : Hp) (b : Bool) : Prop := ∀ H1, Same H H1 → ∀ Q : Bool → Hp → Prop, (∀ H2, Same H1 H2 → Q b H2) → tt σ H1 Q
def EvA (ta : TA) (σ : L2.St) (H : Hp) (ss : List Ds) : Prop := ∀ H1, Same H H1 → ∀ Q : List V → Hp → Prop, (∀ us H2, Same H1 H2 → Iss H2 ss us → Q us H2) → ta σ H1 Q
def EvO (to : TO) (σ : L2.St) (H : Hp) (o : Option Int) : Prop := ∀ H1, Same H H1 → ∀ Q : Option Int → Hp → Prop, (∀ H2, Same H1 H2 → Q o H2) → to σ H1 Q
section
variable {K : PySem.W.Frag} {σ : L2.St} {H H' : Hp} {ta tb te tx : TE} {tt tu : TT} {s s' : Ds} {x y z : PyData} {r : R2}
theorem Ev.mono (h : Ev te σ H s) (e : Same H H') : Ev te σ H' s := fun H1 a Q q => h H1 (e.trans a) Q q
theorem EvF.mono {ds : List PyData} (h : EvF te σ H ds) (e : Same H H') : EvF te σ H' ds := fun H1 a Q q => h H1 (e.trans a) Q q
theorem EvT.mono {b : Bool} (h : EvT tt σ H b) (e : Same H H') : EvT tt σ H' b := fun H1 a Q q => h H1 (e.trans a) Q q
theorem EvF.ev {ds : List PyData} (h : EvF te σ H ds) : Ev te σ H (.t ds) := fun H1 e Q q => h H1 e Q fun p xs H2 e2 _ h2 h3 => q _ H2 e2 (is_t.mpr ⟨p, xs, rfl, h2, h3⟩)
theorem Ev.to (h : Ev te σ H s) (e : s = s') : Ev te σ H s' := e ▸ h
theorem EvT.to {b c : Bool} (h : EvT tt σ H b) (e : b = c) : EvT tt σ H c := e ▸ h
theorem EvF.to {ds es : List PyData} (h : EvF te σ H ds) (e : ds = es) : EvF te σ H es := e ▸ h
/-- a word that an extension leaves true -/
theorem ev_var {i : Nat} {u : V} (h : σ[i]? = some (some u)) (k : Is H s u) : Ev (tVar i) σ H s := fun H1 e _ q => ⟨u, h, q u H1 (Same.refl H1) (Is.same e _ _ k)⟩
theorem ev_varD {i : Nat} {u : V} (h : σ[i]? = some (some u)) (k : Dt H u x) : Ev (tVar i) σ H (.d x) := ev_var h (is_d.mpr k)
theorem ev_varV {i : Nat} {u : V} (h : σ[i]? = some (some u)) : Ev (tVar i) σ H (.v u) := ev_var h (is_v.mpr rfl)
theorem ev_c {v : V} {x : PyData} (h : ∀ H, Dt H v x) : Ev (tC v) σ H (.d x) := fun H1 _ _ q => q v H1 (Same.refl H1) (is_d.mpr (h H1))
theorem ev_int {i : Int} : Ev (tC (.int i)) σ H (.d (.int i)) := ev_c fun _ => .int i
theorem ev_str {x : Str} : Ev (tC (.str x)) σ H (.d (.str x)) := ev_c fun _ => .str x
theorem ev_bl {x : Bool} : Ev (tC (.bl x)) σ H (.d (.bool x)) := ev_c fun _ => .bl x
theorem ev_cv {v : V} : Ev (tC v) σ H (.v v) := fun H1 _ _ q => q v H1 (Same.refl H1) (is_v.mpr rfl)
/-- a two-place operation -/
theorem ev_op2 (ha : Ev ta σ H s) (hb : Ev tb σ H s') {s3 : Ds} (hr : ∀ u v H1, Same H H1 → Is H1 s u → Is H1 s' v → ∀ Q : VK, (∀ w H2, Same H1 H2 → Is H2 s3 w → Q w H2) → r u v H1 Q) : Ev (tOp r ta tb) σ H s3 := fun H1 e Q q =>
  ha H1 e _ fun u H2 e2 hu => hb H2 (e.trans e2) _ fun v H3 e3 hv => hr u v H3 ((e.trans e2).trans e3) (Is.same e3 _ _ hu) hv Q fun w H4 e4 hw => q w H4 ((e2.trans e3).trans e4) hw
theorem ev_II {i j : Int} (ha : Ev ta σ H (.d (.int i))) (hb : Ev tb σ H (.d (.int j))) {s3 : Ds} (hr : ∀ H1, Same H H1 → ∀ Q : VK, (∀ w H2, Same H1 H2 → Is H2 s3 w → Q w H2) → r (.int i) (.int j) H1 Q) : Ev (tOp r ta tb) σ H s3 :=
  ev_op2 ha hb fun u v H1 e hu hv Q q => by
    rw [(is_d.mp hu).intE, (is_d.mp hv).intE]
    exact hr H1 e Q q
theorem ev_I0 {g : Int → Int → Int} {i j : Int} (ha : Ev ta σ H (.d (.int i))) (hb : Ev tb σ H (.d (.int j))) : Ev (tOp (rI0 fun i j => .int (g i j)) ta tb) σ H (.d (.int (g i j))) :=
  ev_II ha hb fun H1 _ Q q => ⟨i, j, rfl, rfl, q _ H1 (Same.refl H1) (is_d.mpr (.int _))⟩
theorem ev_I {C : Int → Int → Prop} {g : Int → Int → Int} {i j : Int} (ha : Ev ta σ H (.d (.int i))) (hb : Ev tb σ H (.d (.int j))) (hc : C i j) : Ev (tOp (rI C fun i j => .int (g i j)) ta tb) σ H (.d (.int (g i j))) :=
  ev_II ha hb fun H1 _ Q q => ⟨i, j, rfl, rfl, hc, q _ H1 (Same.refl H1) (is_d.mpr (.int _))⟩
theorem ev_B0 {g : Int → Int → Bool} {i j : Int} (ha : Ev ta σ H (.d (.int i))) (hb : Ev tb σ H (.d (.int j))) : Ev (tOp (rI0 fun i j => .bl (g i j)) ta tb) σ H (.d (.bool (g i j))) :=
  ev_II ha hb fun H1 _ Q q => ⟨i, j, rfl, rfl, q _ H1 (Same.refl H1) (is_d.mpr (.bl _))⟩
/-- == and != of scalars -/
theorem ev_eqI {i j : Int} (ha : Ev ta σ H (.d (.int i))) (hb : Ev tb σ H (.d (.int j))) : Ev (tOp rEq ta tb) σ H (.d (.bool (decide (i = j)))) :=
  ev_II ha hb fun H1 _ Q q => ⟨rfl, by rw [dec_int, Bool.beq_eq_decide_eq]; exact q _ H1 (Same.refl H1) (is_d.mpr (.bl _))⟩
theorem ev_neI {i j : Int} (ha : Ev ta σ H (.d (.int i))) (hb : Ev tb σ H (.d (.int j))) : Ev (tOp rNe ta tb) σ H (.d (.bool (!decide (i = j)))) :=
  ev_II ha hb fun H1 _ Q q => ⟨rfl, by rw [dec_int, Bool.beq_eq_decide_eq]; exact q _ H1 (Same.refl H1) (is_d.mpr (.bl _))⟩
theorem ev_eqS {i j : Str} (ha : Ev ta σ H (.d (.str i))) (hb : Ev tb σ H (.d (.str j))) : Ev (tOp rEq ta tb) σ H (.d (.bool (decide (i = j)))) :=
  ev_op2 ha hb fun u v H1 e hu hv Q q => by
    rw [(is_d.mp hu).strE, (is_d.mp hv).strE]
    have e1 : decide (V.str i = V.str j) = decide (i = j) := by
      by_cases h : i = j
      · rw [h]; simp
      · rw [decide_eq_false h]; exact decide_eq_false fun z => h (V.str.inj z)
    exact ⟨rfl, by rw [e1]; exact q _ H1 (Same.refl H1) (is_d.mpr (.bl _))⟩
theorem ev_neS {i j : Str} (ha : Ev ta σ H (.d (.str i))) (hb : Ev tb σ H (.d (.str j))) : Ev (tOp rNe ta tb) σ H (.d (.bool (!decide (i = j)))) :=
  ev_op2 ha hb fun u v H1 e hu hv Q q => by
    rw [(is_d.mp hu).strE, (is_d.mp hv).strE]
    have e1 : decide (V.str i = V.str j) = decide (i = j) := by
      by_cases h : i = j
      · rw [h]; simp
      · rw [decide_eq_false h]; exact decide_eq_false fun z => h (V.str.inj z)
    exact ⟨rfl, by rw [e1]; exact q _ H1 (Same.refl H1) (is_d.mpr (.bl _))⟩
theorem ev_eqB {i j : Bool} (ha : Ev ta σ H (.d (.bool i))) (hb : Ev tb σ H (.d (.bool j))) : Ev (tOp rEq ta tb) σ H (.d (.bool (i == j))) :=
  ev_op2 ha hb fun u v H1 e hu hv Q q => by
    rw [(is_d.mp hu).blE, (is_d.mp hv).blE]
    exact ⟨rfl, by rw [dec_bl]; exact q _ H1 (Same.refl H1) (is_d.mpr (.bl _))⟩
theorem ev_neB {i j : Bool} (ha : Ev ta σ H (.d (.bool i))) (hb : Ev tb σ H (.d (.bool j))) : Ev (tOp rNe ta tb) σ H (.d (.bool (!(i == j)))) :=
  ev_op2 ha hb fun u v H1 e hu hv Q q => by
    rw [(is_d.mp hu).blE, (is_d.mp hv).blE]
    exact ⟨rfl, by rw [dec_bl]; exact q _ H1 (Same.refl H1) (is_d.mpr (.bl _))⟩
/-- text + text -/
def rAddS : R2 := fun x y H Q => ∃ i j, x = .str i ∧ y = .str j ∧ i.length + j.length ≤ sizeLine ∧ Q (.str (i ++ j)) H
theorem ev_addS {i j : Str} (ha : Ev ta σ H (.d (.str i))) (hb : Ev tb σ H (.d (.str j))) (hz : i.length + j.length ≤ 100000) : Ev (tOp rAddS ta tb) σ H (.d (.str (i ++ j))) :=
  ev_op2 ha hb fun u v H1 e hu hv Q q => by
    rw [(is_d.mp hu).strE, (is_d.mp hv).strE]
    exact ⟨i, j, rfl, rfl, Nat.le_trans hz (by decide), q _ H1 (Same.refl H1) (is_d.mpr (.str _))⟩
theorem ev_mulS {i : Str} {j : Int} (ha : Ev ta σ H (.d (.str i))) (hb : Ev tb σ H (.d (.int j))) (hz : i.length ≤ 1000) (h0 : 0 ≤ j) (h1 : j ≤ 1000) : Ev (tOp rMulS ta tb) σ H (.d (.str (Txt.mul i j))) :=
  ev_op2 ha hb fun u v H1 e hu hv Q q => by
    rw [(is_d.mp hu).strE, (is_d.mp hv).intE]
    exact ⟨i, j, rfl, rfl, hz, h0, h1, q _ H1 (Same.refl H1) (is_d.mpr (.str _))⟩
/-- t[i], s[i], xs[i] -/
theorem ev_ixT {ds : List PyData} {i : Nat} (ha : Ev ta σ H (.d (.tuple ds))) (hb : Ev tb σ H (.d (.int (i : Int)))) (hx : ds[i]? = some x) : Ev (tOp (rIxT K) ta tb) σ H (.d x) :=
  ev_op2 ha hb fun u v H1 e hu hv Q q => by
    obtain ⟨a, xs, rfl, h1, h2⟩ := (is_d.mp hu).tupE
    rw [(is_d.mp hv).intE]
    obtain ⟨w, g1, g2⟩ := h2.get hx
    exact ⟨a, xs, _, w, rfl, rfl, SqT.of h1, atI_nat g1, q _ H1 (Same.refl H1) (is_d.mpr g2)⟩
theorem ev_ixL {ds : List PyData} {i : Nat} (ha : Ev ta σ H (.t ds)) (hb : Ev tb σ H (.d (.int (i : Int)))) (hx : ds[i]? = some x) : Ev (tOp (rIxL K) ta tb) σ H (.d x) :=
  ev_op2 ha hb fun u v H1 e hu hv Q q => by
    obtain ⟨a, xs, rfl, h1, h2⟩ := is_t.mp hu
    rw [(is_d.mp hv).intE]
    obtain ⟨w, g1, g2⟩ := h2.get hx
    exact ⟨a, xs, _, w, rfl, rfl, SqL.of h1, atI_nat g1, q _ H1 (Same.refl H1) g2⟩
theorem ev_ixS {z : Str} {i : Nat} {c : Nat} (ha : Ev ta σ H (.d (.str z))) (hb : Ev tb σ H (.d (.int (i : Int)))) (hz : z.length ≤ 100000) (hx : z.cps.toList[i]? = some c) : Ev (tOp rIxS ta tb) σ H (.d (.str ⟨#[c]⟩)) :=
  ev_op2 ha hb fun u v H1 e hu hv Q q => by
    rw [(is_d.mp hu).strE, (is_d.mp hv).intE]
    exact ⟨z, _, c, rfl, rfl, Nat.le_trans hz (by decide), atI_nat hx, q _ H1 (Same.refl H1) (is_d.mpr (.str _))⟩
/-- tests -/
theorem et_test {b : Bool} (h : Ev te σ H (.d (.bool b))) : EvT (tTest te) σ H b := fun H1 e Q q => h H1 e _ fun u H2 e2 hu => ⟨b, (is_d.mp hu).blE, q H2 e2⟩
theorem et_B {b : Bool} (h : Ev te σ H (.d (.bool b))) : EvT (tB te) σ H b := fun H1 e Q q => h H1 e _ fun u H2 e2 hu => ⟨b, (is_d.mp hu).blE, q H2 e2⟩
theorem et_yes : EvT tYes σ H true := fun H1 _ _ q => q H1 (Same.refl H1)
theorem et_not {b : Bool} (h : EvT tt σ H b) : EvT (tNot tt) σ H (!b) := fun H1 e Q q => h H1 e _ fun H2 e2 => q H2 e2
theorem et_and {a b : Bool} (h1 : EvT tt σ H a) (h2 : a = true → EvT tu σ H b) : EvT (tAnd tt tu) σ H (a && b) := fun H1 e Q q => h1 H1 e _ fun H2 e2 => by
  cases a with
  | true => exact h2 rfl H2 (e.trans e2) Q fun H3 e3 => q H3 (e2.trans e3)
  | false => exact q H2 e2
theorem et_or {a b : Bool} (h1 : EvT tt σ H a) (h2 : a = false → EvT tu σ H b) : EvT (tOr tt tu) σ H (a || b) := fun H1 e Q q => h1 H1 e _ fun H2 e2 => by
  cases a with
  | true => exact q H2 e2
  | false => exact h2 rfl H2 (e.trans e2) Q fun H3 e3 => q H3 (e2.trans e3)
theorem ev_not {b : Bool} (h : Ev te σ H (.d (.bool b))) : Ev (tNotV te) σ H (.d (.bool (!b))) := fun H1 e Q q => h H1 e _ fun u H2 e2 hu => ⟨b, (is_d.mp hu).blE, q _ H2 e2 (is_d.mpr (.bl _))⟩
theorem ev_and {a b : Bool} (h1 : Ev ta σ H (.d (.bool a))) (h2 : a = true → Ev tb σ H (.d (.bool b))) : Ev (tAndV ta tb) σ H (.d (.bool (a && b))) := fun H1 e Q q => h1 H1 e _ fun u H2 e2 hu => ⟨a, (is_d.mp hu).blE, by
  cases a with
  | true => exact h2 rfl H2 (e.trans e2) Q fun w H3 e3 hw => q w H3 (e2.trans e3) hw
  | false => exact q _ H2 e2 (is_d.mpr (.bl _))⟩
theorem ev_or {a b : Bool} (h1 : Ev ta σ H (.d (.bool a))) (h2 : a = false → Ev tb σ H (.d (.bool b))) : Ev (tOrV ta tb) σ H (.d (.bool (a || b))) := fun H1 e Q q => h1 H1 e _ fun u H2 e2 hu => ⟨a, (is_d.mp hu).blE, by
  cases a with
  | true => exact q _ H2 e2 (is_d.mpr (.bl _))
  | false => exact h2 rfl H2 (e.trans e2) Q fun w H3 e3 hw => q w H3 (e2.trans e3) hw⟩
theorem ev_if {b : Bool} (h : EvT tt σ H b) (h1 : b = true → Ev ta σ H s) (h2 : b = false → Ev tb σ H s) : Ev (tIf tt ta tb) σ H s := fun H1 e Q q => h H1 e _ fun H2 e2 => by
  cases b with
  | true => exact h1 rfl H2 (e.trans e2) Q fun w H3 e3 hw => q w H3 (e2.trans e3) hw
  | false => exact h2 rfl H2 (e.trans e2) Q fun w H3 e3 hw => q w H3 (e2.trans e3) hw
/-- a < b < c -/
theorem ev_chain {r r' : R2} {a b : Bool} {s1 s2 s3 : Ds} {tc : TE} (ha : Ev ta σ H s1) (hb : Ev tb σ H s2) (hc : a = true → Ev tc σ H s3)
    (hr : ∀ u v H1, Same H H1 → Is H1 s1 u → Is H1 s2 v → ∀ Q : VK, Q (.bl a) H1 → r u v H1 Q) (hr' : a = true → ∀ u v H1, Same H H1 → Is H1 s2 u → Is H1 s3 v → ∀ Q : VK, Q (.bl b) H1 → r' u v H1 Q) : Ev (tChain r r' ta tb tc) σ H (.d (.bool (a && b))) := fun H1 e Q q =>
  ha H1 e _ fun u H2 e2 hu => hb H2 (e.trans e2) _ fun v H3 e3 hv => hr u v H3 ((e.trans e2).trans e3) (Is.same e3 _ _ hu) hv _ ⟨a, rfl, by
    cases a with
    | true => exact hc rfl H3 ((e.trans e2).trans e3) _ fun w H4 e4 hw => hr' rfl v w H4 (((e.trans e2).trans e3).trans e4) (Is.same e4 _ _ hv) hw Q (q _ H4 ((e2.trans e3).trans e4) (is_d.mpr (.bl _)))
    | false => exact q _ H3 (e2.trans e3) (is_d.mpr (.bl _))⟩
theorem ev_chainI {g g' : Int → Int → Bool} {i j k : Int} {tc : TE} (ha : Ev ta σ H (.d (.int i))) (hb : Ev tb σ H (.d (.int j))) (hc : Ev tc σ H (.d (.int k))) :
    Ev (tChain (rI0 fun i j => .bl (g i j)) (rI0 fun i j => .bl (g' i j)) ta tb tc) σ H (.d (.bool (g i j && g' j k))) :=
  ev_chain ha hb (fun _ => hc) (fun u v H1 e hu hv Q q => by rw [(is_d.mp hu).intE, (is_d.mp hv).intE]; exact ⟨i, j, rfl, rfl, q⟩) (fun _ u v H1 e hu hv Q q => by rw [(is_d.mp hu).intE, (is_d.mp hv).intE]; exact ⟨j, k, rfl, rfl, q⟩)
/-- arguments, displays -/
theorem ea_nil : EvA tNil σ H [] := fun H1 _ _ q => q [] H1 (Same.refl H1) (iss_nil.mpr rfl)
theorem ea_cons {tr : TA} {ss : List Ds} (h : Ev te σ H s) (hr : EvA tr σ H ss) : EvA (tCons te tr) σ H (s :: ss) := fun H1 e _ q =>
  h H1 e _ fun u H2 e2 hu => hr H2 (e.trans e2) _ fun us H3 e3 hus => q (u :: us) H3 (e2.trans e3) (iss_cons.mpr ⟨u, us, rfl, Is.same e3 _ _ hu, hus⟩)
theorem ea_nilD : EvA tNil σ H (([] : List PyData).map .d) := ea_nil
theorem ea_consD {tr : TA} {ds : List PyData} (h : Ev te σ H (.d x)) (hr : EvA tr σ H (ds.map .d)) : EvA (tCons te tr) σ H ((x :: ds).map .d) := ea_cons h hr
theorem ev_tup {ta : TA} {ds : List PyData} (h : EvA ta σ H (ds.map .d)) (hl : ds.length ≤ 100000) : Ev (tTup ta) σ H (.d (.tuple ds)) := fun H1 e _ q =>
  h H1 e _ fun us H2 e2 hus => ⟨Nat.le_trans (by rw [Iss.length hus, List.length_map]; exact hl) (show 100000 ≤ sizeLine by decide), fun p hp => q _ _ (e2.trans (same_new hp)) (is_d.mpr (.tup upd_same (Dts.mono (Tp.new hp) (Iss.dts.mp hus))))⟩
theorem ev_lst {ta : TA} {ds : List PyData} (h : EvA ta σ H (ds.map .d)) (hl : ds.length ≤ 100000) : EvF (tLst ta) σ H ds := fun H1 e _ q =>
  h H1 e _ fun us H2 e2 hus => ⟨Nat.le_trans (by rw [Iss.length hus, List.length_map]; exact hl) (show 100000 ≤ sizeLine by decide), fun p hp => q p us _ (e2.trans (same_new hp)) (e2.free hp) upd_same (Dts.mono (Tp.new hp) (Iss.dts.mp hus))⟩
/-- a call by values -/
theorem ev_cb {r : List V → Hp → VK → Prop} {ta : TA} {ss : List Ds} (h : EvA ta σ H ss) (hr : ∀ us H1, Same H H1 → Iss H1 ss us → ∀ Q : VK, (∀ w H2, Same H1 H2 → Is H2 s w → Q w H2) → r us H1 Q) : Ev (tCB r ta) σ H s := fun H1 e Q q =>
  h H1 e _ fun us H2 e2 hus => hr us H2 (e.trans e2) hus Q fun w H3 e3 hw => q w H3 (e2.trans e3) hw
end
end TF
/-! L2x -/
namespace TF
open PySem PySem.Spec PyProof.Rows L2
section
variable {K : PySem.W.Frag} {σ : L2.St} {H H' : Hp} {ta tb te tx : TE} {tt tu : TT} {s s' : Ds} {x y z : PyData} {r : R2} {D : Ends} {t u : TS} {g : TG} {tr : TA}
/-! statements -/
theorem seq (h : t { D with nx := u D } σ H) : tSeq t u D σ H := h
theorem s_asg {i : Nat} (h : Ev te σ H s) (k : ∀ u H1, Same H H1 → Is H1 s u → D.nx (σ.set i (some u)) H1) : tAsg te (gName i) D σ H := h H (Same.refl H) _ fun u H1 e hu => k u H1 e hu
theorem s_asgF {i : Nat} {ds : List PyData} (h : EvF te σ H ds) (k : ∀ p xs H1, Same H H1 → H p = none → H1 p = some (.lst xs) → Dts H1 xs ds → D.nx (σ.set i (some (.ref p))) H1) : tAsg te (gName i) D σ H :=
  h H (Same.refl H) _ fun p xs H1 e h0 h1 h2 => k p xs H1 e h0 h1 h2
theorem g_tup2 {i j : Nat} {u : V} {Q : L2.St → Hp → Prop} (h : Dt H u (.tuple [x, y])) (k : ∀ v w, Dt H v x → Dt H w y → Q ((σ.set i (some v)).set j (some w)) H) : gTup K 2 (gCons (gName i) (gCons (gName j) gNil)) u σ H Q := by
  obtain ⟨a, xs, rfl, h1, h2⟩ := h.tupE
  cases h2 with
  | cons q1 t1 =>
    cases t1 with
    | cons q2 t2 =>
      cases t2
      exact ⟨a, _, rfl, SqT.of h1, rfl, _, _, rfl, _, _, rfl, rfl, k _ _ q1 q2⟩
theorem s_asg2 {i j : Nat} (h : Ev te σ H (.d (.tuple [x, y]))) (k : ∀ v w H1, Same H H1 → Dt H1 v x → Dt H1 w y → D.nx ((σ.set i (some v)).set j (some w)) H1) : tAsg te (gTup K 2 (gCons (gName i) (gCons (gName j) gNil))) D σ H :=
  h H (Same.refl H) _ fun u H1 e hu => g_tup2 (is_d.mp hu) fun v w hv hw => k v w H1 e hv hw
theorem s_asg4 {i j l m : Nat} {x1 x2 x3 x4 : PyData} (h : Ev te σ H (.d (.tuple [x1, x2, x3, x4]))) (k : ∀ v1 v2 v3 v4 H1, Same H H1 → Dt H1 v1 x1 → Dt H1 v2 x2 → Dt H1 v3 x3 → Dt H1 v4 x4 → D.nx ((((σ.set i (some v1)).set j (some v2)).set l (some v3)).set m (some v4)) H1) :
    tAsg te (gTup K 4 (gCons (gName i) (gCons (gName j) (gCons (gName l) (gCons (gName m) gNil))))) D σ H :=
  h H (Same.refl H) _ fun u H1 e hu => by
    obtain ⟨a, xs, rfl, h1, h2⟩ := (is_d.mp hu).tupE
    cases h2 with
    | cons q1 t1 =>
      cases t1 with
      | cons q2 t2 =>
        cases t2 with
        | cons q3 t3 =>
          cases t3 with
          | cons q4 t4 =>
            cases t4
            exact ⟨a, _, rfl, SqT.of h1, rfl, _, _, rfl, _, _, rfl, _, _, rfl, _, _, rfl, rfl, k _ _ _ _ H1 e q1 q2 q3 q4⟩
theorem s_par {i j : Nat} (h : EvA tr σ H [s, s']) (k : ∀ v w H1, Same H H1 → Is H1 s v → Is H1 s' w → D.nx ((σ.set i (some v)).set j (some w)) H1) : tPar i j tr D σ H :=
  h H (Same.refl H) _ fun us H1 e hus => by
    obtain ⟨v, r, rfl, h1, h2⟩ := iss_cons.mp hus
    obtain ⟨w, r, rfl, h3, h4⟩ := iss_cons.mp h2
    rw [iss_nil] at h4
    subst h4
    exact ⟨v, w, rfl, k v w H1 e h1 h3⟩
theorem s_ret (h : Ev te σ H s) (k : ∀ u H1, Same H H1 → Is H1 s u → D.rt u H1) : tRet te D σ H := h H (Same.refl H) _ fun u H1 e hu => k u H1 e hu
theorem s_retF {ds : List PyData} (h : EvF te σ H ds) (k : ∀ p xs H1, Same H H1 → H p = none → H1 p = some (.lst xs) → Dts H1 xs ds → D.rt (.ref p) H1) : tRet te D σ H := h H (Same.refl H) _ fun p xs H1 e h0 h1 h2 => k p xs H1 e h0 h1 h2
theorem s_if {b : Bool} (h : EvT tt σ H b) (h1 : b = true → ∀ H1, Same H H1 → t D σ H1) (h2 : b = false → ∀ H1, Same H H1 → u D σ H1) : tIfS tt t u D σ H := h H (Same.refl H) _ fun H1 e => by
  cases b with
  | true => exact h1 rfl H1 e
  | false => exact h2 rfl H1 e
theorem s_when {b : Bool} (h : EvT tt σ H b) (h1 : b = true → ∀ H1, Same H H1 → t D σ H1) (h2 : b = false → ∀ H1, Same H H1 → D.nx σ H1) : tIfS tt t tNext D σ H := s_if h h1 h2
/-- a test whose answer is known -/
theorem s_no (h : EvT tt σ H false) (h2 : ∀ H1, Same H H1 → u D σ H1) : tIfS tt t u D σ H := s_if h (fun q => nomatch q) fun _ => h2
theorem s_yes (h : EvT tt σ H true) (h1 : ∀ H1, Same H H1 → t D σ H1) : tIfS tt t u D σ H := s_if h (fun _ => h1) (fun q => nomatch q)
theorem s_next (k : D.nx σ H) : tNext D σ H := k
theorem s_app {l : Addr} {xs : List V} (hl : H l = some (.lst xs)) (ha : Ev ta σ H (.v (.ref l))) (h : Ev te σ H s) (hz : xs.length < 100000) (k : ∀ u H1, Same H H1 → Is H1 s u → D.nx σ (upd H1 l (.lst (xs ++ [u])))) :
    tDrop (tBM K "list" rAppend ta (tCons te tNil)) D σ H := ha H (Same.refl H) _ fun a H1 e1 hu => by
  rw [is_v.mp hu]
  refine ⟨Or.inl ⟨rfl, xs, SqL.of (e1 l _ hl)⟩, h H1 e1 _ fun v H2 e2 hv => ⟨l, xs, v, rfl, rfl, e2 l _ (e1 l _ hl), Nat.lt_of_lt_of_le hz (by decide), k v H2 (e1.trans e2) hv⟩⟩
theorem s_ext {l : Addr} {xs : List V} {ds : List PyData} (hl : H l = some (.lst xs)) (ha : Ev ta σ H (.v (.ref l))) (h : EvF te σ H ds) (hz : xs.length + ds.length ≤ 100000) (k : ∀ us H1, Same H H1 → Dts H1 us ds → D.nx σ (upd H1 l (.lst (xs ++ us)))) :
    tDrop (tBM K "list" rExtend ta (tCons te tNil)) D σ H := ha H (Same.refl H) _ fun a H1 e1 hu => by
  rw [is_v.mp hu]
  refine ⟨Or.inl ⟨rfl, xs, SqL.of (e1 l _ hl)⟩, h H1 e1 _ fun p ys H2 e2 h0 h1 h2 => ⟨l, p, xs, ys, rfl, rfl, e2 l _ (e1 l _ hl), h1, Nat.le_trans (by rw [h2.length]; exact hz) (show 100000 ≤ sizeLine by decide), k ys H2 (e1.trans e2) h2⟩⟩
theorem ixN_nat {n j : Nat} (hj : j < n) : ixN n (j : Int) = some j := by
  unfold ixN
  rw [if_pos (by omega), if_pos (by omega)]
  simp
theorem s_setL {l : Addr} {xs : List V} {j : Nat} (hl : H l = some (.lst xs)) (h : Ev te σ H s) (ho : Ev ta σ H (.v (.ref l))) (hi : Ev tb σ H (.d (.int (j : Int)))) (hj : j < xs.length) (k : ∀ u H1, Same H H1 → Is H1 s u → D.nx σ (upd H1 l (.lst (xs.set j u)))) :
    tAsg te (gSub ta tb rSetL) D σ H := h H (Same.refl H) _ fun u H1 e1 hu => ho H1 e1 _ fun o H2 e2 hob => hi H2 (e1.trans e2) _ fun v H3 e3 hv => by
  rw [is_v.mp hob, (is_d.mp hv).intE]
  exact ⟨l, xs, (j : Int), j, rfl, rfl, ((e1.trans e2).trans e3) l _ hl, ixN_nat hj, k u H3 ((e1.trans e2).trans e3) (Is.same e3 _ _ (Is.same e2 _ _ hu))⟩

/-! what is walked: n items, told by it, as long as nothing outside ms changes -/
def YIs (it : Nat → Ds) : Nat → Hp → V → Hp → Prop := fun i Ha x Hb => Same Ha Hb ∧ Is Hb (it i) x
def EvI (ms : List Addr) (wi : TI) (σ : L2.St) (H : Hp) (n : Nat) (it : Nat → Ds) : Prop := ∀ H1, Same H H1 → ∀ R : It → Hp → Prop, (∀ J H2, Same H1 H2 → Walk J n (Ch ms H2) (YIs it) → R J H2) → wi σ H1 R
theorem s_for {ms : List Addr} {wi : TI} {n : Nat} {it : Nat → Ds} (hI : EvI ms wi σ H n it) (k : ∀ Hs, Same H Hs → ∃ Pv : Nat → L2.St → Hp → Prop, Pv 0 σ Hs ∧ (∀ i σ' H', Pv i σ' H' → Ch ms Hs H') ∧
      (∀ i x σ' H0 H', i < n → Pv i σ' H0 → Same H0 H' → Is H' (it i) x → g x σ' H' fun σ2 H2 => t { D with nx := Pv (i + 1), ct := Pv (i + 1), bk := D.nx } σ2 H2) ∧ (∀ σ' H', Pv n σ' H' → D.nx σ' H')) : tFor wi g t D σ H :=
  hI H (Same.refl H) _ fun J Hs e W => by
    obtain ⟨Pv, h0, hG, hs, hd⟩ := k Hs e
    exact for_it W Pv h0 (fun i σ' H' _ h => hG i σ' H' h) (fun i x σ' H0 H' hi hp hy => hs i x σ' H0 H' hi hp hy.1 hy.2) hd
theorem ei_rng1 {ms : List Addr} {n : Nat} (h : EvA tr σ H [.d (.int (n : Int))]) (hn : n ≤ 100000) : EvI ms (iRng1 tr) σ H n (fun i => .d (.int (i : Nat))) := fun H1 e R q => h H1 e _ fun us H2 e2 hus => by
  obtain ⟨u, r, rfl, h1, h2⟩ := iss_cons.mp hus
  rw [iss_nil] at h2
  subst h2
  rw [(is_d.mp h1).intE]
  refine ⟨(n : Int), rfl, by omega, by omega, q _ H2 e2 ?_⟩
  rw [Int.toNat_natCast]
  exact (walk_range (lo := 0) (n := n)).mono (fun _ _ => trivial) fun i Ha x Hb _ _ hy => by
    obtain ⟨rfl, rfl⟩ := hy
    refine ⟨Same.refl _, is_d.mpr ?_⟩
    show Dt _ (.int (0 + (i : Int))) _
    rw [Int.zero_add]
    exact .int _
theorem ei_rng2 {ms : List Addr} {lo hi : Int} (h : EvA tr σ H [.d (.int lo), .d (.int hi)]) (h0 : -100000 ≤ lo ∧ lo ≤ 100000 ∧ -100000 ≤ hi ∧ hi ≤ 100000) : EvI ms (iRng2 tr) σ H (hi - lo).toNat (fun i => .d (.int (lo + (i : Nat)))) := fun H1 e R q => h H1 e _ fun us H2 e2 hus => by
  obtain ⟨u, r, rfl, h1, h2⟩ := iss_cons.mp hus
  obtain ⟨v, r, rfl, h3, h4⟩ := iss_cons.mp h2
  rw [iss_nil] at h4
  subst h4
  rw [(is_d.mp h1).intE, (is_d.mp h3).intE]
  refine ⟨lo, hi, rfl, ⟨by omega, by omega, by omega, by omega⟩, q _ H2 e2 ?_⟩
  exact (walk_range (lo := lo) (n := (hi - lo).toNat)).mono (fun _ _ => trivial) fun i Ha x Hb _ _ hy => by
    obtain ⟨rfl, rfl⟩ := hy
    exact ⟨Same.refl _, is_d.mpr (.int _)⟩
/-- a tuple of data -/
theorem getD_of {ds : List PyData} {i : Nat} {d : PyData} (h : ds[i]? = some d) : ds.getD i .none = d := by
  rw [List.getD_eq_getElem?_getD, h]; rfl
theorem ei_tup {ms : List Addr} {ds : List PyData} (h : Ev te σ H (.d (.tuple ds))) (hm : MsL ms H) : EvI ms (iTup K te) σ H ds.length (fun i => .d (ds.getD i .none)) := fun H1 e R q => h H1 e _ fun u H2 e2 hu => by
  obtain ⟨a, xs, rfl, h1, h2⟩ := (is_d.mp hu).tupE
  have hm2 : MsL ms H2 := fun m hm' => let ⟨o, p1, p2⟩ := hm m hm'; ⟨o, e2 _ _ (e _ _ p1), p2⟩
  have hl := h2.length
  refine ⟨a, rfl, ⟨xs, SqT.of h1⟩, q _ H2 e2 ?_⟩
  rw [← hl]
  exact (walk_tup (K := K) (a := a) (xs := xs)).mono (fun H' hc => SqT.of (hc.tp hm2 a xs h1)) fun i Ha x Hb hi hc hy => by
    obtain ⟨rfl, hx⟩ := hy
    obtain ⟨d, g1, g2⟩ := h2.getV hx
    refine ⟨Same.refl _, ?_⟩
    show Dt _ x (ds.getD i .none)
    rw [getD_of g1]
    exact g2.mono (hc.tp hm2)
/-- a list of data at an address outside ms -/
theorem ei_lstD {ms : List Addr} {ds : List PyData} (h : ∀ H1, Same H H1 → ∀ Q : VK, (∀ p xs H2, Same H1 H2 → p ∉ ms → H2 p = some (.lst xs) → Dts H2 xs ds → Q (.ref p) H2) → te σ H1 Q) (hm : MsL ms H) : EvI ms (iList K te) σ H ds.length (fun i => .d (ds.getD i .none)) := fun H1 e R q => h H1 e _ fun p xs H2 e2 hp h1 h2 => by
  have hm2 : MsL ms H2 := fun m hm' => let ⟨o, p1, p2⟩ := hm m hm'; ⟨o, e2 _ _ (e _ _ p1), p2⟩
  have hl := h2.length
  refine ⟨p, rfl, ⟨xs, SqL.of h1⟩, q _ H2 e2 ?_⟩
  rw [← hl]
  exact (walk_list (K := K) (a := p) (xs := xs)).mono (fun H' hc => SqL.of (hc p _ hp h1)) fun i Ha x Hb hi hc hy => by
    obtain ⟨rfl, hx⟩ := hy
    obtain ⟨d, g1, g2⟩ := h2.getV hx
    refine ⟨Same.refl _, ?_⟩
    show Dt _ x (ds.getD i .none)
    rw [getD_of g1]
    exact g2.mono (hc.tp hm2)
/-- .. a new one -/
theorem ei_lstF {ms : List Addr} {ds : List PyData} (h : EvF te σ H ds) (hm : MsL ms H) : EvI ms (iList K te) σ H ds.length (fun i => .d (ds.getD i .none)) := ei_lstD (fun H1 e Q q => h H1 e Q fun p xs H2 e2 h0 h1 h2 => q p xs H2 e2 (fun hp => by
  obtain ⟨o, p1, _⟩ := hm p hp
  rw [e _ _ p1] at h0; cases h0) h1 h2) hm
/-- a list, nothing changes -/
theorem ei_lst0 {ds : List PyData} (h : Ev te σ H (.t ds)) : EvI [] (iList K te) σ H ds.length (fun i => .d (ds.getD i .none)) := ei_lstD (fun H1 e Q q => h H1 e Q fun u H2 e2 ⟨p, xs, e1, h1, h2⟩ => e1 ▸ q p xs H2 e2 (by simp) h1 h2) (fun _ h => nomatch h)
/-- a pair that was just laid -/
theorem pair_is {Ha Hb : Hp} {v : V} {T : Addr} {a b : V} {dx dy : PyData} (hT : Ha T = none) (ev : v = .ref T) (eb : Hb = upd Ha T (.tup [a, b])) (ha : Dt Ha a dx) (hb : Dt Ha b dy) : Same Ha Hb ∧ Is Hb (.d (.tuple [dx, dy])) v := by
  subst ev eb
  exact ⟨same_new hT, is_d.mpr (.tup upd_same (.cons (ha.mono (Tp.new hT)) (.cons (hb.mono (Tp.new hT)) .nil)))⟩
theorem ei_zipT {ms : List Addr} {ds es : List PyData} (h : EvA tr σ H [.d (.tuple ds), .d (.tuple es)]) (hm : MsL ms H) : EvI ms (RZ.iZipA K tr) σ H (min ds.length es.length) (fun i => .d (.tuple [ds.getD i .none, es.getD i .none])) := fun H1 e R q => h H1 e _ fun us H2 e2 hus => by
  obtain ⟨u, r, rfl, h1, h2⟩ := iss_cons.mp hus
  obtain ⟨v, r, rfl, h3, h4⟩ := iss_cons.mp h2
  rw [iss_nil] at h4
  subst h4
  obtain ⟨a, xs, rfl, a1, a2⟩ := (is_d.mp h1).tupE
  obtain ⟨b, ys, rfl, b1, b2⟩ := (is_d.mp h3).tupE
  have hm2 : MsL ms H2 := fun m hm' => let ⟨o, p1, p2⟩ := hm m hm'; ⟨o, e2 _ _ (e _ _ p1), p2⟩
  refine ⟨a, b, xs, ys, rfl, .inr ⟨SqT.of a1, SqT.of b1, q _ H2 e2 ?_⟩⟩
  rw [← a2.length, ← b2.length]
  exact (walk_zipT (K := K) (a := a) (b := b) (xs := xs) (ys := ys) rfl).mono (fun H' hc => ⟨SqT.of (hc.tp hm2 a xs a1), SqT.of (hc.tp hm2 b ys b1)⟩) fun i Ha x Hb hi hc hy => by
    obtain ⟨T, x1, x2, e1, hT, e3, f1, f2⟩ := hy
    obtain ⟨d, g1, g2⟩ := a2.getV f1
    obtain ⟨d', k1, k2⟩ := b2.getV f2
    show Same Ha Hb ∧ Is Hb (.d (.tuple [ds.getD i .none, es.getD i .none])) x
    rw [getD_of g1, getD_of k1]
    exact pair_is hT e1 e3 (g2.mono (hc.tp hm2)) (k2.mono (hc.tp hm2))
theorem ei_zipL {ds es : List PyData} (h : EvA tr σ H [.t ds, .t es]) : EvI [] (RZ.iZipA K tr) σ H (min ds.length es.length) (fun i => .d (.tuple [ds.getD i .none, es.getD i .none])) := fun H1 e R q => h H1 e _ fun us H2 e2 hus => by
  obtain ⟨u, r, rfl, h1, h2⟩ := iss_cons.mp hus
  obtain ⟨v, r, rfl, h3, h4⟩ := iss_cons.mp h2
  rw [iss_nil] at h4
  subst h4
  obtain ⟨a, xs, rfl, a1, a2⟩ := h1
  obtain ⟨b, ys, rfl, b1, b2⟩ := h3
  refine ⟨a, b, xs, ys, rfl, .inl ⟨SqL.of a1, SqL.of b1, q _ H2 e2 ?_⟩⟩
  rw [← a2.length, ← b2.length]
  exact (walk_zip (K := K) (a := a) (b := b) (xs := xs) (ys := ys) rfl).mono (fun H' hc => ⟨SqL.of (hc.same a _ a1), SqL.of (hc.same b _ b1)⟩) fun i Ha x Hb hi hc hy => by
    obtain ⟨T, x1, x2, e1, hT, e3, f1, f2⟩ := hy
    obtain ⟨d, g1, g2⟩ := a2.getV f1
    obtain ⟨d', k1, k2⟩ := b2.getV f2
    show Same Ha Hb ∧ Is Hb (.d (.tuple [ds.getD i .none, es.getD i .none])) x
    rw [getD_of g1, getD_of k1]
    exact pair_is hT e1 e3 (g2.mono (same_tp hc.same)) (k2.mono (same_tp hc.same))
def sgn (x : Str) (i : Nat) : PyData := .str ⟨#[x.cps.getD i 0]⟩
theorem sgn_of {x : Str} {i c : Nat} (h : x.cps[i]? = some c) : sgn x i = .str ⟨#[c]⟩ := by
  unfold sgn
  rw [Array.getD_eq_getD_getElem?, h]
  rfl
theorem ei_zipS {ms : List Addr} {a b : Str} (h : EvA tr σ H [.d (.str a), .d (.str b)]) : EvI ms (iZipS tr) σ H (min a.cps.size b.cps.size) (fun i => .d (.tuple [sgn a i, sgn b i])) := fun H1 e R q => h H1 e _ fun us H2 e2 hus => by
  obtain ⟨u, r, rfl, h1, h2⟩ := iss_cons.mp hus
  obtain ⟨v, r, rfl, h3, h4⟩ := iss_cons.mp h2
  rw [iss_nil] at h4
  subst h4
  rw [(is_d.mp h1).strE, (is_d.mp h3).strE]
  refine ⟨a, b, rfl, q _ H2 e2 ?_⟩
  exact walk_zipS.mono (fun _ _ => trivial) fun i Ha x Hb hi hc hy => by
    obtain ⟨T, c, d, e1, hT, e3, f1, f2⟩ := hy
    show Same Ha Hb ∧ Is Hb (.d (.tuple [sgn a i, sgn b i])) x
    rw [sgn_of f1, sgn_of f2]
    exact pair_is hT e1 e3 (.str _) (.str _)
theorem ei_enumS {ms : List Addr} {a : Str} (h : EvA tr σ H [.d (.str a)]) : EvI ms (iEnumS tr) σ H a.cps.size (fun i => .d (.tuple [.int (i : Nat), sgn a i])) := fun H1 e R q => h H1 e _ fun us H2 e2 hus => by
  obtain ⟨u, r, rfl, h1, h2⟩ := iss_cons.mp hus
  rw [iss_nil] at h2
  subst h2
  rw [(is_d.mp h1).strE]
  refine ⟨a, rfl, q _ H2 e2 ?_⟩
  exact walk_enumS.mono (fun _ _ => trivial) fun i Ha x Hb hi hc hy => by
    obtain ⟨T, c, e1, hT, e3, f1⟩ := hy
    show Same Ha Hb ∧ Is Hb (.d (.tuple [.int (i : Nat), sgn a i])) x
    rw [sgn_of f1]
    exact pair_is hT e1 e3 (.int _) (.str _)
theorem ei_enumT {ms : List Addr} {ds : List PyData} (h : EvA tr σ H [.d (.tuple ds)]) (hm : MsL ms H) : EvI ms (iEnumT K tr) σ H ds.length (fun i => .d (.tuple [.int (i : Nat), ds.getD i .none])) := fun H1 e R q => h H1 e _ fun us H2 e2 hus => by
  obtain ⟨u, r, rfl, h1, h2⟩ := iss_cons.mp hus
  rw [iss_nil] at h2
  subst h2
  obtain ⟨a, xs, rfl, a1, a2⟩ := (is_d.mp h1).tupE
  have hm2 : MsL ms H2 := fun m hm' => let ⟨o, p1, p2⟩ := hm m hm'; ⟨o, e2 _ _ (e _ _ p1), p2⟩
  refine ⟨a, xs, rfl, SqT.of a1, q _ H2 e2 ?_⟩
  rw [← a2.length]
  exact (walk_enumT (K := K) (a := a) (xs := xs)).mono (fun H' hc => SqT.of (hc.tp hm2 a xs a1)) fun i Ha x Hb hi hc hy => by
    obtain ⟨T, x1, e1, hT, e3, f1⟩ := hy
    obtain ⟨d, g1, g2⟩ := a2.getV f1
    show Same Ha Hb ∧ Is Hb (.d (.tuple [.int (i : Nat), ds.getD i .none])) x
    rw [getD_of g1]
    exact pair_is hT e1 e3 (.int _) (g2.mono (hc.tp hm2))
theorem ei_enumL {ds : List PyData} (h : EvA tr σ H [.t ds]) : EvI [] (iEnum K tr) σ H ds.length (fun i => .d (.tuple [.int (i : Nat), ds.getD i .none])) := fun H1 e R q => h H1 e _ fun us H2 e2 hus => by
  obtain ⟨u, r, rfl, h1, h2⟩ := iss_cons.mp hus
  rw [iss_nil] at h2
  subst h2
  obtain ⟨a, xs, rfl, a1, a2⟩ := h1
  refine ⟨a, xs, rfl, SqL.of a1, q _ H2 e2 ?_⟩
  rw [← a2.length]
  exact (walk_enum (K := K) (a := a) (xs := xs)).mono (fun H' hc => SqL.of (hc.same a _ a1)) fun i Ha x Hb hi hc hy => by
    obtain ⟨T, x1, x2, e1, hT, e3, f1, f2⟩ := hy
    obtain ⟨d, g1, g2⟩ := a2.getV f2
    have ex1 : x1 = .int (i : Nat) := (Option.some.inj f1).symm
    show Same Ha Hb ∧ Is Hb (.d (.tuple [.int (i : Nat), ds.getD i .none])) x
    rw [getD_of g1]
    subst ex1
    exact pair_is hT e1 e3 (.int _) (g2.mono (same_tp hc.same))
theorem ei_str {ms : List Addr} {a : Str} (h : Ev te σ H (.d (.str a))) : EvI ms (iStr te) σ H a.cps.size (fun i => .d (sgn a i)) := fun H1 e R q => h H1 e _ fun u H2 e2 hu => by
  rw [(is_d.mp hu).strE]
  refine ⟨a, rfl, q _ H2 e2 ?_⟩
  exact walk_str.mono (fun _ _ => trivial) fun i Ha x Hb hi hc hy => by
    obtain ⟨rfl, c, f1, rfl⟩ := hy
    refine ⟨Same.refl _, ?_⟩
    show Dt _ _ (sgn a i)
    rw [sgn_of f1]
    exact .str _

/-! comprehensions -/
def given {α : Type} (n : Nat) (f : Nat → Bool) (v : Nat → α) : List α := ((List.range n).filter f).map v
theorem given_yes {α : Type} {n : Nat} {f : Nat → Bool} {v : Nat → α} (h : f n = true) : given (n + 1) f v = given n f v ++ [v n] := by
  unfold given
  rw [List.range_succ, List.filter_append, List.map_append, List.filter_cons, if_pos h] <;> rfl
theorem given_no {α : Type} {n : Nat} {f : Nat → Bool} {v : Nat → α} (h : f n = false) : given (n + 1) f v = given n f v := by
  unfold given
  rw [List.range_succ, List.filter_append, List.map_append, List.filter_cons, if_neg (by rw [h]; decide)]
  show _ ++ [] = _
  rw [List.append_nil]
theorem given_len {α : Type} (n : Nat) (f : Nat → Bool) (v : Nat → α) : (given n f v).length ≤ n := by
  unfold given
  rw [List.length_map]
  have h := List.length_filter_le f (List.range n)
  rw [List.length_range] at h
  exact h
theorem ev_lc {wi : TI} {n : Nat} {it : Nat → Ds} {vs : List Nat} (f : Nat → Bool) (out : Nat → PyData) (hI : EvI [] wi σ H n it) (hn : n ≤ 100000)
    (turn : ∀ i x H1, i < n → Same H H1 → Is H1 (it i) x → ∀ Q : L2.St → Hp → Prop, (∀ σ2, wipe σ2 vs = wipe σ vs → EvT tt σ2 H1 (f i) → (f i = true → Ev te σ2 H1 (.d (out i))) → Q σ2 H1) → g x (wipe σ vs) H1 Q) : EvF (tLc wi g tt te vs) σ H (given n f out) := fun H1 e Q q => hI H1 e _ fun J H2 e2 W Dl hD =>
  lc_it W (fun i H' => Same H2 H' ∧ ∃ acc, H' Dl = some (.lst acc) ∧ Dts H' acc (given i f out)) ⟨same_new hD, [], upd_same, .nil⟩ (fun i H' _ h => same_ch h.1)
    (fun i x H0 H' hi ⟨p1, acc, p2, p3⟩ ⟨y1, y2⟩ => by
      have hn' : i < 100000 := Nat.lt_of_lt_of_le hi hn
      refine turn i x H' hi ((e.trans e2).trans (p1.trans y1)) y2 _ fun σ2 hw ht he => ⟨hw, ht H' (Same.refl _) _ fun H3 e3 => ?_⟩
      have s3 : Same H2 H3 := (p1.trans y1).trans e3
      cases hf : f i with
      | true =>
        show te σ2 H3 _
        refine he hf H3 e3 _ fun u H4 e4 hu => ?_
        have hD4 : H4 Dl = some (.lst acc) := e4 _ _ (e3 _ _ (y1 _ _ p2))
        have tp4 : Tp H4 (upd H4 Dl (.lst (acc ++ [u]))) := Tp.mut hD4 fun xs z => nomatch z
        have a4 : Dts H4 acc (given i f out) := p3.mono (same_tp ((y1.trans e3).trans e4))
        refine ⟨acc, hD4, ?_, same_mut (s3.trans e4) hD, acc ++ [u], upd_same, ?_⟩
        · have l1 := a4.length
          have l2 := given_len i f out
          have : acc.length < 100000 := by omega
          exact Nat.lt_of_lt_of_le this (by decide)
        · rw [given_yes hf]
          exact (a4.snoc hu).mono tp4
      | false =>
        show _ ∧ _
        refine ⟨s3, acc, e3 _ _ (y1 _ _ p2), ?_⟩
        rw [given_no hf]
        exact p3.mono (same_tp (y1.trans e3)))
    (fun H' ⟨p1, acc, p2, p3⟩ => q Dl acc H' (e2.trans p1) (e2.free hD) p2 p3)
/-- .. its target a name -/
theorem ev_lcN {wi : TI} {n j : Nat} {it : Nat → Ds} {vs : List Nat} (f : Nat → Bool) (out : Nat → PyData) (hI : EvI [] wi σ H n it) (hn : n ≤ 100000) (hw : ∀ x, wipe ((wipe σ vs).set j (some x)) vs = wipe σ vs)
    (ht : ∀ i x H1, i < n → Same H H1 → Is H1 (it i) x → EvT tt ((wipe σ vs).set j (some x)) H1 (f i))
    (he : ∀ i x H1, i < n → Same H H1 → Is H1 (it i) x → f i = true → Ev te ((wipe σ vs).set j (some x)) H1 (.d (out i))) : EvF (tLc wi (gName j) tt te vs) σ H (given n f out) :=
  ev_lc f out hI hn fun i x H1 hi e hx Q q => q _ (hw x) (ht i x H1 hi e hx) (he i x H1 hi e hx)
/-- .. two names -/
theorem ev_lc2N {wi : TI} {n j j' : Nat} {it : Nat → Ds} {ix iy : Nat → PyData} {vs : List Nat} (f : Nat → Bool) (out : Nat → PyData) (hI : EvI [] wi σ H n it) (hit : ∀ i, it i = .d (.tuple [ix i, iy i])) (hn : n ≤ 100000) (hw : ∀ x y, wipe (((wipe σ vs).set j (some x)).set j' (some y)) vs = wipe σ vs)
    (ht : ∀ i x y H1, i < n → Same H H1 → Dt H1 x (ix i) → Dt H1 y (iy i) → EvT tt (((wipe σ vs).set j (some x)).set j' (some y)) H1 (f i))
    (he : ∀ i x y H1, i < n → Same H H1 → Dt H1 x (ix i) → Dt H1 y (iy i) → f i = true → Ev te (((wipe σ vs).set j (some x)).set j' (some y)) H1 (.d (out i))) : EvF (tLc wi (gTup K 2 (gCons (gName j) (gCons (gName j') gNil))) tt te vs) σ H (given n f out) :=
  ev_lc f out hI hn fun i x H1 hi e hx Q q => by
    rw [hit i] at hx
    exact g_tup2 hx fun v w hv hw' => q _ (hw v w) (ht i v w H1 hi e hv hw') (he i v w H1 hi e hv hw')

/-! calls -/
/-- a pure def: arguments, premise, answer -/
def PF {α : Type} (args : α → List Ds) (ok : α → Prop) (res : α → Ds) : Sp := fun vs H Q _ => ∃ a, Iss H (args a) vs ∧ ok a ∧ ∀ u H2, Same H H2 → Is H2 (res a) u → Q u H2
/-- .. whose answer is a new list -/
def PL {α : Type} (args : α → List Ds) (ok : α → Prop) (res : α → List PyData) : Sp := fun vs H Q _ => ∃ a, Iss H (args a) vs ∧ ok a ∧ ∀ p xs H2, Same H H2 → H p = none → H2 p = some (.lst xs) → Dts H2 xs (res a) → Q (.ref p) H2
theorem ev_call {α : Type} {args : α → List Ds} {ok : α → Prop} {res : α → Ds} {E : XK} (a : α) (h : EvA tr σ H (args a)) (ha : ok a) : Ev (tCall (PF args ok res) [] E tr) σ H (res a) := fun H1 e Q q =>
  h H1 e _ fun us H2 e2 hus => ⟨a, by rw [List.append_nil]; exact hus, ha, fun u H3 e3 hu => q u H3 (e2.trans e3) hu⟩
theorem ev_callL {α : Type} {args : α → List Ds} {ok : α → Prop} {res : α → List PyData} {E : XK} (a : α) (h : EvA tr σ H (args a)) (ha : ok a) : EvF (tCall (PL args ok res) [] E tr) σ H (res a) := fun H1 e Q q =>
  h H1 e _ fun us H2 e2 hus => ⟨a, by rw [List.append_nil]; exact hus, ha, fun p xs H3 e3 h0 h1 h2 => q p xs H3 (e2.trans e3) (e2.free h0) h1 h2⟩
end
/-- a def of the module -/
structure DefB (K : PySem.W.Frag) (mg : Str → Option Value) (x : Str) (st : Stmt) (ps : List Str) : Prop where
  ex : ∃ f fd, C8.Def K mg x st f fd ∧ Binds K fd ps []
section
variable {P : Program} {w : World} {K : PySem.W.Frag} {mg : Str → Option Value} {base : Heap} {x : Str} {st : Stmt} {N ps : List Str} {k : Nat}
theorem mk_sp {sp : Sp} (F : DefB K mg x st ps) (S : FnScope N ps (C8.fnScope st)) (len : ∀ vs H Q E, sp vs H Q E → vs.length = ps.length)
    (body : ∀ (f : Addr) (cdv : Value) (A : Around) (outer : List Env) (s : Shared) (H : Hp) (vs : List V) (Q : VK) (E : XK), Room k (A.deeper (envOfC x (C8.fnScope st) s.heap.objs.size f cdv)) → sp vs H Q E →
      ∃ t, PSs (cxOf C8.CX0 P w K mg base N x (C8.fnScope st) f cdv A outer s H E).nox (C8.fnBody st) t ∧ t { nx := fun _ H' => Q .non H', rt := Q } (start N vs) H) : C8.Cal P w K mg base (k + 1) x sp [] := by
  obtain ⟨f, fd, D, b⟩ := F.ex
  exact C8.cal0 D b .nil S len (fun cdv A outer s H vs Q E hr h => body f cdv A outer s H vs Q E hr h)
theorem mk_pf {α : Type} {args : α → List Ds} {ok : α → Prop} {res : α → Ds} (F : DefB K mg x st ps) (S : FnScope N ps (C8.fnScope st)) (hl : ∀ a, (args a).length = ps.length)
    (body : ∀ (f : Addr) (cdv : Value) (A : Around) (outer : List Env) (s : Shared) (H : Hp) (vs : List V) (Q : VK) (E : XK) (a : α), Room k (A.deeper (envOfC x (C8.fnScope st) s.heap.objs.size f cdv)) → Iss H (args a) vs → ok a → (∀ u H2, Same H H2 → Is H2 (res a) u → Q u H2) →
      ∃ t, PSs (cxOf C8.CX0 P w K mg base N x (C8.fnScope st) f cdv A outer s H E).nox (C8.fnBody st) t ∧ t { nx := fun _ H' => Q .non H', rt := Q } (start N vs) H) : C8.Cal P w K mg base (k + 1) x (PF args ok res) [] :=
  mk_sp F S (fun vs H Q E ⟨a, h, _⟩ => h.length.trans (hl a)) fun f cdv A outer s H vs Q E hr ⟨a, h, ha, q⟩ => body f cdv A outer s H vs Q E a hr h ha q
theorem mk_pl {α : Type} {args : α → List Ds} {ok : α → Prop} {res : α → List PyData} (F : DefB K mg x st ps) (S : FnScope N ps (C8.fnScope st)) (hl : ∀ a, (args a).length = ps.length)
    (body : ∀ (f : Addr) (cdv : Value) (A : Around) (outer : List Env) (s : Shared) (H : Hp) (vs : List V) (Q : VK) (E : XK) (a : α), Room k (A.deeper (envOfC x (C8.fnScope st) s.heap.objs.size f cdv)) → Iss H (args a) vs → ok a → (∀ p xs H2, Same H H2 → H p = none → H2 p = some (.lst xs) → Dts H2 xs (res a) → Q (.ref p) H2) →
      ∃ t, PSs (cxOf C8.CX0 P w K mg base N x (C8.fnScope st) f cdv A outer s H E).nox (C8.fnBody st) t ∧ t { nx := fun _ H' => Q .non H', rt := Q } (start N vs) H) : C8.Cal P w K mg base (k + 1) x (PL args ok res) [] :=
  mk_sp F S (fun vs H Q E ⟨a, h, _⟩ => h.length.trans (hl a)) fun f cdv A outer s H vs Q E hr ⟨a, h, ha, q⟩ => body f cdv A outer s H vs Q E a hr h ha q
theorem iss1 {H : Hp} {s : Ds} {vs : List V} (h : Iss H [s] vs) : ∃ u, vs = [u] ∧ Is H s u := by
  obtain ⟨u, r, rfl, h1, h2⟩ := h
  rw [iss_nil] at h2; subst h2
  exact ⟨u, rfl, h1⟩
theorem iss2 {H : Hp} {s s' : Ds} {vs : List V} (h : Iss H [s, s'] vs) : ∃ u v, vs = [u, v] ∧ Is H s u ∧ Is H s' v := by
  obtain ⟨u, r, rfl, h1, h2⟩ := h
  obtain ⟨v, rfl, h3⟩ := iss1 h2
  exact ⟨u, v, rfl, h1, h3⟩
theorem iss3 {H : Hp} {s s' s'' : Ds} {vs : List V} (h : Iss H [s, s', s''] vs) : ∃ u v w, vs = [u, v, w] ∧ Is H s u ∧ Is H s' v ∧ Is H s'' w := by
  obtain ⟨u, r, rfl, h1, h2⟩ := h
  obtain ⟨v, w, rfl, h3, h4⟩ := iss2 h2
  exact ⟨u, v, w, rfl, h1, h3, h4⟩
theorem iss4 {H : Hp} {s s' s'' s3 : Ds} {vs : List V} (h : Iss H [s, s', s'', s3] vs) : ∃ u v w z, vs = [u, v, w, z] ∧ Is H s u ∧ Is H s' v ∧ Is H s'' w ∧ Is H s3 z := by
  obtain ⟨u, r, rfl, h1, h2⟩ := h
  obtain ⟨v, w, z, rfl, h3, h4, h5⟩ := iss3 h2
  exact ⟨u, v, w, z, rfl, h1, h3, h4, h5⟩
end
end TF
/-! TXT -/
namespace TF
open PySem PySem.Spec PyProof.Rows L2
def topS (i : Nat) : Stmt := PySem.Challenge.pw_turnfriends_k11_whole_equations.main.body.getD i (.Pass ⟨0, 0, 0, 0⟩)
abbrev s_is_integer : Stmt := topS 6
abbrev n_is_integer : List Str := ["value"]
theorem sc_is_integer : FnScope n_is_integer ["value"] (C8.fnScope s_is_integer) := ⟨rfl, rfl, rfl, by decide +kernel, rfl, by decide +kernel, by decide +kernel⟩
abbrev s_is_from : Stmt := topS 7
abbrev n_is_from : List Str := ["value", "low", "high"]
theorem sc_is_from : FnScope n_is_from ["value", "low", "high"] (C8.fnScope s_is_from) := ⟨rfl, rfl, rfl, by decide +kernel, rfl, by decide +kernel, by decide +kernel⟩
abbrev s_is_pair_of : Stmt := topS 8
abbrev n_is_pair_of : List Str := ["n", "value", "part"]
theorem sc_is_pair_of : FnScope n_is_pair_of ["n", "value"] (C8.fnScope s_is_pair_of) := ⟨rfl, rfl, rfl, by decide +kernel, rfl, by decide +kernel, by decide +kernel⟩
abbrev s_is_hall : Stmt := topS 9
abbrev n_is_hall : List Str := ["value", "n", "pairs", "pair", "one", "other"]
theorem sc_is_hall : FnScope n_is_hall ["value"] (C8.fnScope s_is_hall) := ⟨rfl, rfl, rfl, by decide +kernel, rfl, by decide +kernel, by decide +kernel⟩
abbrev s_need_hall : Stmt := topS 10
abbrev n_need_hall : List Str := ["value"]
theorem sc_need_hall : FnScope n_need_hall ["value"] (C8.fnScope s_need_hall) := ⟨rfl, rfl, rfl, by decide +kernel, rfl, by decide +kernel, by decide +kernel⟩
abbrev s_are_pair : Stmt := topS 11
abbrev n_are_pair : List Str := ["hall", "x", "y"]
theorem sc_are_pair : FnScope n_are_pair ["hall", "x", "y"] (C8.fnScope s_are_pair) := ⟨rfl, rfl, rfl, by decide +kernel, rfl, by decide +kernel, by decide +kernel⟩
abbrev s_friends_of : Stmt := topS 12
abbrev n_friends_of : List Str := ["hall", "x", "y"]
theorem sc_friends_of : FnScope n_friends_of ["hall", "x"] (C8.fnScope s_friends_of) := ⟨rfl, rfl, rfl, by decide +kernel, rfl, by decide +kernel, by decide +kernel⟩
abbrev s_behind_turn : Stmt := topS 13
abbrev n_behind_turn : List Str := ["hall", "x", "circle", "within", "kept", "one", "other", "pair"]
theorem sc_behind_turn : FnScope n_behind_turn ["hall", "x"] (C8.fnScope s_behind_turn) := ⟨rfl, rfl, rfl, by decide +kernel, rfl, by decide +kernel, by decide +kernel⟩
abbrev s_rank_of_rows : Stmt := topS 14
abbrev n_rank_of_rows : List Str := ["rows", "heads", "row", "head"]
theorem sc_rank_of_rows : FnScope n_rank_of_rows ["rows"] (C8.fnScope s_rank_of_rows) := ⟨rfl, rfl, rfl, by decide +kernel, rfl, by decide +kernel, by decide +kernel⟩
abbrev s_sum_of : Stmt := topS 17
abbrev n_sum_of : List Str := ["one", "other", "look"]
theorem sc_sum_of : FnScope n_sum_of ["one", "other"] (C8.fnScope s_sum_of) := ⟨rfl, rfl, rfl, by decide +kernel, rfl, by decide +kernel, by decide +kernel⟩
abbrev s_first_step : Stmt := topS 20
abbrev n_first_step : List Str := ["hall"]
theorem sc_first_step : FnScope n_first_step ["hall"] (C8.fnScope s_first_step) := ⟨rfl, rfl, rfl, by decide +kernel, rfl, by decide +kernel, by decide +kernel⟩
abbrev s_all_steps : Stmt := topS 21
abbrev n_all_steps : List Str := ["hall", "start", "found", "here", "step", "x", "other"]
theorem sc_all_steps : FnScope n_all_steps ["hall"] (C8.fnScope s_all_steps) := ⟨rfl, rfl, rfl, by decide +kernel, rfl, by decide +kernel, by decide +kernel⟩
abbrev s_need_halls : Stmt := topS 23
abbrev n_need_halls : List Str := ["hall", "other"]
theorem sc_need_halls : FnScope n_need_halls ["hall", "other"] (C8.fnScope s_need_halls) := ⟨rfl, rfl, rfl, by decide +kernel, rfl, by decide +kernel, by decide +kernel⟩
abbrev s_change_of : Stmt := topS 24
abbrev n_change_of : List Str := ["step", "found", "choice", "base", "goes", "look"]
theorem sc_change_of : FnScope n_change_of ["step"] (C8.fnScope s_change_of) := ⟨rfl, rfl, rfl, by decide +kernel, rfl, by decide +kernel, by decide +kernel⟩
abbrev s_answers_to : Stmt := topS 25
abbrev n_answers_to : List Str := ["hall", "other", "steps", "choice"]
theorem sc_answers_to : FnScope n_answers_to ["hall", "other"] (C8.fnScope s_answers_to) := ⟨rfl, rfl, rfl, by decide +kernel, rfl, by decide +kernel, by decide +kernel⟩
abbrev s_answers : Stmt := topS 26
abbrev n_answers : List Str := ["hall", "other"]
theorem sc_answers : FnScope n_answers ["hall", "other"] (C8.fnScope s_answers) := ⟨rfl, rfl, rfl, by decide +kernel, rfl, by decide +kernel, by decide +kernel⟩
abbrev s_signs_of : Stmt := topS 27
abbrev n_signs_of : List Str := ["hall", "x", "y"]
theorem sc_signs_of : FnScope n_signs_of ["hall", "x", "y"] (C8.fnScope s_signs_of) := ⟨rfl, rfl, rfl, by decide +kernel, rfl, by decide +kernel, by decide +kernel⟩
abbrev s_equation : Stmt := topS 28
abbrev n_equation : List Str := ["hall", "other", "x", "y", "found", "person", "first", "second", "left", "right"]
theorem sc_equation : FnScope n_equation ["hall", "other", "x", "y"] (C8.fnScope s_equation) := ⟨rfl, rfl, rfl, by decide +kernel, rfl, by decide +kernel, by decide +kernel⟩
abbrev s_all_equations : Stmt := topS 29
abbrev n_all_equations : List Str := ["hall", "other", "found", "x", "y"]
theorem sc_all_equations : FnScope n_all_equations ["hall", "other"] (C8.fnScope s_all_equations) := ⟨rfl, rfl, rfl, by decide +kernel, rfl, by decide +kernel, by decide +kernel⟩
abbrev s_equations : Stmt := topS 30
abbrev n_equations : List Str := ["hall", "other"]
theorem sc_equations : FnScope n_equations ["hall", "other"] (C8.fnScope s_equations) := ⟨rfl, rfl, rfl, by decide +kernel, rfl, by decide +kernel, by decide +kernel⟩
abbrev s_free_signs : Stmt := topS 31
abbrev n_free_signs : List Str := ["hall", "other", "rows", "row", "at", "sign"]
theorem sc_free_signs : FnScope n_free_signs ["hall", "other"] (C8.fnScope s_free_signs) := ⟨rfl, rfl, rfl, by decide +kernel, rfl, by decide +kernel, by decide +kernel⟩
abbrev s_l_taken : Stmt := topS 33
abbrev n_l_taken : List Str := ["_law_row", "_law_many", "_law_found", "_law_cell"]
theorem sc_l_taken : FnScope n_l_taken ["_law_row", "_law_many"] (C8.fnScope s_l_taken) := ⟨rfl, rfl, rfl, by decide +kernel, rfl, by decide +kernel, by decide +kernel⟩
abbrev s_l_pick : Stmt := topS 34
abbrev n_l_pick : List Str := ["_law_row", "_law_things"]
theorem sc_l_pick : FnScope n_l_pick ["_law_row", "_law_things"] (C8.fnScope s_l_pick) := ⟨rfl, rfl, rfl, by decide +kernel, rfl, by decide +kernel, by decide +kernel⟩
abbrev s_l_alike : Stmt := topS 35
abbrev n_l_alike : List Str := ["_law_found", "_law_due", "_law_k", "_law_key"]
theorem sc_l_alike : FnScope n_l_alike ["_law_found", "_law_due"] (C8.fnScope s_l_alike) := ⟨rfl, rfl, rfl, by decide +kernel, rfl, by decide +kernel, by decide +kernel⟩
abbrev s_l_pairs : Stmt := topS 36
abbrev n_l_pairs : List Str := ["_law_n", "_law_found", "_law_x", "_law_y"]
theorem sc_l_pairs : FnScope n_l_pairs ["_law_n"] (C8.fnScope s_l_pairs) := ⟨rfl, rfl, rfl, by decide +kernel, rfl, by decide +kernel, by decide +kernel⟩
abbrev s_l_hall : Stmt := topS 37
abbrev n_l_hall : List Str := ["_law_row", "_law_most", "_law_n", "_law_way", "_law_pairs_here", "_law_pair", "_law_x"]
theorem sc_l_hall : FnScope n_l_hall ["_law_row", "_law_most"] (C8.fnScope s_l_hall) := ⟨rfl, rfl, rfl, by decide +kernel, rfl, by decide +kernel, by decide +kernel⟩
abbrev s_l_friends : Stmt := topS 38
abbrev n_l_friends : List Str := ["_law_hall_here", "_law_x", "_law_y"]
theorem sc_l_friends : FnScope n_l_friends ["_law_hall_here", "_law_x"] (C8.fnScope s_l_friends) := ⟨rfl, rfl, rfl, by decide +kernel, rfl, by decide +kernel, by decide +kernel⟩
abbrev s_l_turn : Stmt := topS 39
abbrev n_l_turn : List Str := ["_law_hall_here", "_law_x", "_law_near", "_law_pairs_here", "_law_pair"]
theorem sc_l_turn : FnScope n_l_turn ["_law_hall_here", "_law_x"] (C8.fnScope s_l_turn) := ⟨rfl, rfl, rfl, by decide +kernel, rfl, by decide +kernel, by decide +kernel⟩
abbrev s_l_turns : Stmt := topS 40
abbrev n_l_turns : List Str := ["_law_hall_here", "_law_told", "_law_x"]
theorem sc_l_turns : FnScope n_l_turns ["_law_hall_here", "_law_told"] (C8.fnScope s_l_turns) := ⟨rfl, rfl, rfl, by decide +kernel, rfl, by decide +kernel, by decide +kernel⟩
abbrev s_l_persons : Stmt := topS 41
abbrev n_l_persons : List Str := ["_law_row", "_law_n", "_law_most", "_law_turn_here"]
theorem sc_l_persons : FnScope n_l_persons ["_law_row", "_law_n", "_law_most"] (C8.fnScope s_l_persons) := ⟨rfl, rfl, rfl, by decide +kernel, rfl, by decide +kernel, by decide +kernel⟩
abbrev s_l_rank : Stmt := topS 42
abbrev n_l_rank : List Str := ["_law_rows", "_law_left", "_law_found", "_law_head", "_law_spots", "_law_one", "_law_at", "_law_sign", "_law_a", "_law_b"]
theorem sc_l_rank : FnScope n_l_rank ["_law_rows"] (C8.fnScope s_l_rank) := ⟨rfl, rfl, rfl, by decide +kernel, rfl, by decide +kernel, by decide +kernel⟩
abbrev s_l_sum : Stmt := topS 43
abbrev n_l_sum : List Str := ["_law_one", "_law_other_here", "_law_found", "_law_left", "_law_right", "_law_look"]
theorem sc_l_sum : FnScope n_l_sum ["_law_one", "_law_other_here"] (C8.fnScope s_l_sum) := ⟨rfl, rfl, rfl, by decide +kernel, rfl, by decide +kernel, by decide +kernel⟩
abbrev s_l_own : Stmt := topS 44
abbrev n_l_own : List Str := ["_law_hall_here", "_law_x", "_law_near", "_law_found", "_law_y"]
theorem sc_l_own : FnScope n_l_own ["_law_hall_here", "_law_x"] (C8.fnScope s_l_own) := ⟨rfl, rfl, rfl, by decide +kernel, rfl, by decide +kernel, by decide +kernel⟩
abbrev s_l_oddly : Stmt := topS 45
abbrev n_l_oddly : List Str := ["_law_one", "_law_other_here", "_law_left", "_law_right"]
theorem sc_l_oddly : FnScope n_l_oddly ["_law_one", "_law_other_here"] (C8.fnScope s_l_oddly) := ⟨rfl, rfl, rfl, by decide +kernel, rfl, by decide +kernel, by decide +kernel⟩
abbrev s_l_other : Stmt := topS 46
abbrev n_l_other : List Str := ["_law_row", "_law_hall_here", "_law_way", "_law_other_here", "_law_pairs_here", "_law_pair", "_law_one"]
theorem sc_l_other : FnScope n_l_other ["_law_row", "_law_hall_here"] (C8.fnScope s_l_other) := ⟨rfl, rfl, rfl, by decide +kernel, rfl, by decide +kernel, by decide +kernel⟩
abbrev s_l_image : Stmt := topS 47
abbrev n_l_image : List Str := ["_law_told", "_law_signs_here", "_law_found", "_law_x", "_law_look", "_law_a", "_law_b", "_law_c", "_law_d", "_law_one", "_law_two"]
theorem sc_l_image : FnScope n_l_image ["_law_told", "_law_signs_here"] (C8.fnScope s_l_image) := ⟨rfl, rfl, rfl, by decide +kernel, rfl, by decide +kernel, by decide +kernel⟩
abbrev s_l_signs : Stmt := topS 48
abbrev n_l_signs : List Str := ["_law_many", "_law_found", "_law_turn_here", "_law_one"]
theorem sc_l_signs : FnScope n_l_signs ["_law_many"] (C8.fnScope s_l_signs) := ⟨rfl, rfl, rfl, by decide +kernel, rfl, by decide +kernel, by decide +kernel⟩
abbrev s_l_solves : Stmt := topS 49
abbrev n_l_solves : List Str := ["_law_told", "_law_signs_here", "_law_one", "_law_x", "_law_a", "_law_b", "_law_c", "_law_d"]
theorem sc_l_solves : FnScope n_l_solves ["_law_told", "_law_signs_here"] (C8.fnScope s_l_solves) := ⟨rfl, rfl, rfl, by decide +kernel, rfl, by decide +kernel, by decide +kernel⟩
abbrev s_law : Stmt := topS 50
abbrev n_law : List Str := ["_law_script", "_law_row", "_law_hall_here", "_law_n", "_law_other_here", "_law_told", "_law_turn_here", "_law_signs_here", "_law_x", "_law_image_here", "_law_y", "_law_value", "_law_found", "_law_texts", "_law_one", "_law_sign", "_law_at", "_law_a", "_law_b"]
theorem sc_law : FnScope n_law ["_law_script"] (C8.fnScope s_law) := ⟨rfl, rfl, rfl, by decide +kernel, rfl, by decide +kernel, by decide +kernel⟩
abbrev s_init : Stmt := inClass (topS 19) 0
abbrev n_init : List Str := ["self", "choice", "bases", "hall"]
theorem sc_init : FnScope n_init ["self", "choice", "bases", "hall"] (C8.fnScope s_init) := ⟨rfl, rfl, rfl, by decide +kernel, rfl, by decide +kernel, by decide +kernel⟩
abbrev s_third : Stmt := inClass (topS 19) 1
abbrev n_third : List Str := ["self", "x", "choice", "bases", "y"]
theorem sc_third : FnScope n_third ["self", "x"] (C8.fnScope s_third) := ⟨rfl, rfl, rfl, by decide +kernel, rfl, by decide +kernel, by decide +kernel⟩
/-- a comprehension's block within another one: no captured names -/
theorem blkOk_nf {N : List Str} {sc scope : Scope} {own : List (Str × Nat)} (h : (blkC N { kind := .function, names := [], isGenerator := false, isCoroutine := false } scope own && scope.names.all fun y => match y.2 with | .free => false | _ => true) = true) : BlkOk N sc scope own := by
  obtain ⟨h1, h2⟩ := Bool.and_eq_true_iff.mp h
  have B := blkOk_by h1
  refine ⟨B.kind, B.uniq, B.ix, fun y hy e => ?_, B.own⟩
  have q := List.all_eq_true.mp h2 y hy
  rw [e] at q
  cases q
theorem hu65 {A : Around} {k : Nat} (hr : Room k A) : A.units + 65 < cLine := by
  have := hr.un
  omega
/-- what the top has left -/
structure Tx (K : PySem.W.Frag) (mg : Str → Option Value) (C : Addr) : Prop where
  d_is_integer : DefB K mg "is_integer" s_is_integer ["value"]
  d_is_from : DefB K mg "is_from" s_is_from ["value", "low", "high"]
  d_is_pair_of : DefB K mg "is_pair_of" s_is_pair_of ["n", "value"]
  d_is_hall : DefB K mg "is_hall" s_is_hall ["value"]
  d_need_hall : DefB K mg "need_hall" s_need_hall ["value"]
  d_are_pair : DefB K mg "are_pair" s_are_pair ["hall", "x", "y"]
  d_friends_of : DefB K mg "friends_of" s_friends_of ["hall", "x"]
  d_behind_turn : DefB K mg "behind_turn" s_behind_turn ["hall", "x"]
  d_rank_of_rows : DefB K mg "rank_of_rows" s_rank_of_rows ["rows"]
  d_sum_of : DefB K mg "sum_of" s_sum_of ["one", "other"]
  d_first_step : DefB K mg "first_step" s_first_step ["hall"]
  d_all_steps : DefB K mg "all_steps" s_all_steps ["hall"]
  d_need_halls : DefB K mg "need_halls" s_need_halls ["hall", "other"]
  d_change_of : DefB K mg "change_of" s_change_of ["step"]
  d_answers_to : DefB K mg "answers_to" s_answers_to ["hall", "other"]
  d_answers : DefB K mg "answers" s_answers ["hall", "other"]
  d_signs_of : DefB K mg "signs_of" s_signs_of ["hall", "x", "y"]
  d_equation : DefB K mg "equation" s_equation ["hall", "other", "x", "y"]
  d_all_equations : DefB K mg "all_equations" s_all_equations ["hall", "other"]
  d_equations : DefB K mg "equations" s_equations ["hall", "other"]
  d_free_signs : DefB K mg "free_signs" s_free_signs ["hall", "other"]
  d_l_taken : DefB K mg "_law_taken" s_l_taken ["_law_row", "_law_many"]
  d_l_pick : DefB K mg "_law_pick" s_l_pick ["_law_row", "_law_things"]
  d_l_alike : DefB K mg "_law_alike" s_l_alike ["_law_found", "_law_due"]
  d_l_pairs : DefB K mg "_law_pairs" s_l_pairs ["_law_n"]
  d_l_hall : DefB K mg "_law_hall" s_l_hall ["_law_row", "_law_most"]
  d_l_friends : DefB K mg "_law_friends" s_l_friends ["_law_hall_here", "_law_x"]
  d_l_turn : DefB K mg "_law_turn" s_l_turn ["_law_hall_here", "_law_x"]
  d_l_turns : DefB K mg "_law_turns" s_l_turns ["_law_hall_here", "_law_told"]
  d_l_persons : DefB K mg "_law_persons" s_l_persons ["_law_row", "_law_n", "_law_most"]
  d_l_rank : DefB K mg "_law_rank" s_l_rank ["_law_rows"]
  d_l_sum : DefB K mg "_law_sum" s_l_sum ["_law_one", "_law_other_here"]
  d_l_own : DefB K mg "_law_own" s_l_own ["_law_hall_here", "_law_x"]
  d_l_oddly : DefB K mg "_law_oddly" s_l_oddly ["_law_one", "_law_other_here"]
  d_l_other : DefB K mg "_law_other" s_l_other ["_law_row", "_law_hall_here"]
  d_l_image : DefB K mg "_law_image" s_l_image ["_law_told", "_law_signs_here"]
  d_l_signs : DefB K mg "_law_signs" s_l_signs ["_law_many"]
  d_l_solves : DefB K mg "_law_solves" s_l_solves ["_law_told", "_law_signs_here"]
  b_all : mg "all" = none
  b_bool : mg "bool" = none
  b_dict : mg "dict" = none
  b_enumerate : mg "enumerate" = none
  b_int : mg "int" = none
  b_isinstance : mg "isinstance" = none
  b_len : mg "len" = none
  b_list : mg "list" = none
  b_max : mg "max" = none
  b_min : mg "min" = none
  b_range : mg "range" = none
  b_sorted : mg "sorted" = none
  b_str : mg "str" = none
  b_sum : mg "sum" = none
  b_tuple : mg "tuple" = none
  b_zip : mg "zip" = none
  c_LOOKS : ∃ u, mg "LOOKS" = some u ∧ RelV (.str "XYZ") u
  c_MOST_PEOPLE : ∃ u, mg "MOST_PEOPLE" = some u ∧ RelV (.int 8) u
  cl : Cls K C
  na_choice : NoAttr K C "choice"
  na_bases : NoAttr K C "bases"
  na_hall : NoAttr K C "hall"
  mgC : mg "Step" = some (.ref C)
  i_mk : ∃ f fd, Mk K C f ∧ C8.Fun K "__init__" "Step.__init__" s_init f fd ∧ Binds K fd ["self", "choice", "bases", "hall"] []
  i_third : ∃ f fd, Meth K C "third" f ∧ C8.Fun K "third" "Step.third" s_third f fd ∧ Binds K fd ["self", "x"] []
end TF
/-! L3 -/
namespace TF
open PySem PySem.Spec PyProof.Rows L2
/-! named readings -/
section
variable {X : Cx}
theorem op_addS : OpR X (binaryOp .Add) rAddS := op_add_str
def rMin2 : List V → Hp → VK → Prop := fun xs H Q => ∃ i j, xs = [.int i, .int j] ∧ Q (.int (if j < i then j else i)) H
def rMax2 : List V → Hp → VK → Prop := fun xs H Q => ∃ i j, xs = [.int i, .int j] ∧ Q (.int (if j > i then j else i)) H
theorem c_min2 (hc : X.calm = true) : CallR X (.builtin "min") rMin2 := call_min2 hc
theorem c_max2 (hc : X.calm = true) : CallR X (.builtin "max") rMax2 := call_max2 hc
def rLenQ (K : PySem.W.Frag) : List V → Hp → VK → Prop := fun xs H Q => ∃ p ys, xs = [.ref p] ∧ (SqL K H p ys ∨ SqT K H p ys) ∧ Q (.int ys.length) H
theorem c_lenQ : CallR X (.builtin "len") (rLenQ X.K) := call_len_seq
def rListQ (K : PySem.W.Frag) : List V → Hp → VK → Prop := fun xs H Q => ∃ p ys, xs = [.ref p] ∧ (SqL K H p ys ∨ SqT K H p ys) ∧ ∀ l, H l = none → Q (.ref l) (upd H l (.lst ys))
theorem c_listQ : CallR X (.type "list") (rListQ X.K) := call_list_of
def rTupQ (K : PySem.W.Frag) : List V → Hp → VK → Prop := fun xs H Q => ∃ p ys, xs = [.ref p] ∧ ((SqL K H p ys ∧ ∀ l, H l = none → Q (.ref l) (upd H l (.tup ys))) ∨ (SqT K H p ys ∧ Q (.ref p) H))
theorem c_tupQ : CallR X (.type "tuple") (rTupQ X.K) := call_tuple_of
def rInt1 : List V → Hp → VK → Prop := fun xs H Q => (∃ i, xs = [.int i] ∧ Q (.int i) H) ∨ ∃ k, xs = [.bl k] ∧ Q (.int (if k then 1 else 0)) H
theorem c_int1 : CallR X (.type "int") rInt1 := call_int1
def rJoin (K : PySem.W.Frag) : V → List V → Hp → VK → Prop := fun x xs H Q => ∃ a p, ∃ ys : List Str, x = .str a ∧ xs = [.ref p] ∧ (SqL K H p (ys.map V.str) ∨ SqT K H p (ys.map V.str)) ∧ (ys.map (·.length)).sum + ys.length * a.length ≤ 16777216 ∧ Q (.str (Txt.join a ys)) H
theorem pe_joinQ {o e : Expr} {to te : TE} {apos pos : Pos} (ho : PE X o to) (he : PE X e te) (hs : starEach [e] X.env = [(false, eval e X.env)] := by rfl) (hbase : attributeBase o "join" X.env (eval o X.env) = eval o X.env := by rfl) (hline : (apos.endLine == pos.line) = true := by rfl) :
    PE X (.Call (.Attribute o "join" apos) [e] [] pos) (tM1 (rJoin X.K) to te) := pe_join ho he hs hbase hline
end
section
variable {K : PySem.W.Frag} {σ : L2.St} {H H' : Hp} {ta tb te tx : TE} {tt tu : TT} {s s' : Ds} {x y z : PyData} {r : R2} {D : Ends} {t u : TS} {g : TG} {tr : TA}
/-! kinds -/
def tyD : PyData → String
  | .int _ => "int"
  | .str _ => "str"
  | .bool _ => "bool"
  | _ => "tuple"
theorem tyD_of {H : Hp} {u : V} : ∀ {x : PyData}, Dt H u x → TyX K H u (.type (tyD x))
  | .int _, .int i => .base (.int i)
  | .str _, .str i => .base (.str i)
  | .bool _, .bl i => .base (.bl i)
  | .tuple _, .tup h _ => .base (.tup h)
/-- neither a bool -/
def okT : PyData → Bool
  | .int _ => true
  | .str _ => true
  | .tuple _ => true
  | _ => false
theorem kit_tab : ∀ a ∈ ["int", "str", "tuple"], ∀ b ∈ ["int", "str", "bool", "tuple", "list", "dict"], kitB a b = some (a == b) := by decide +kernel
theorem kit_of {n : String} : ∀ {x : PyData}, okT x = true → n ∈ ["int", "str", "bool", "tuple", "list", "dict"] → kitB (tyD x) n = some (tyD x == n)
  | .int _, _, h => kit_tab _ (by simp [tyD]) _ h
  | .str _, _, h => kit_tab _ (by simp [tyD]) _ h
  | .tuple _, _, h => kit_tab _ (by simp [tyD]) _ h
theorem ev_isi {n : String} (h : Ev ta σ H (.d x)) (hk : okT x = true) (hn : n ∈ ["int", "str", "bool", "tuple", "list", "dict"]) : Ev (tCB (rIsi K) (tCons ta (tCons (tC (.ty n)) tNil))) σ H (.d (.bool (tyD x == n))) := fun H1 e Q q =>
  h H1 e _ fun u H2 e2 hu => ⟨u, .ty n, _, _, _, rfl, .ty n, tyD_of hu, kit_ty (kit_of hk hn), q _ H2 e2 (is_d.mpr (.bl _))⟩
theorem ev_isi2 {n m : String} (h : Ev ta σ H (.d x)) (hk : okT x = true) (hn : n ∈ ["int", "str", "bool", "tuple", "list", "dict"]) (hm : m ∈ ["int", "str", "bool", "tuple", "list", "dict"]) : Ev (tCB (rIsiT K) (tCons ta (tCons (tTup (tCons (tC (.ty n)) (tCons (tC (.ty m)) tNil))) tNil))) σ H (.d (.bool (tyD x == n || tyD x == m))) := fun H1 e Q q =>
  h H1 e _ fun u H2 e2 hu => ⟨by show 2 ≤ sizeLine; decide, fun p hp => ⟨u, p, [.ty n, .ty m], .type (tyD x), [.type n, .type m], _, rfl, upd_same, .cons (.ty n) (.cons (.ty m) .nil), tyD_of (Dt.mono (Tp.new hp) hu), by
    refine kitAny_cons (kit_ty (kit_of hk hn)) (fun hb => ?_) (fun hb => by rw [hb]; rfl)
    rw [hb]
    exact kitAny_cons (kit_ty (kit_of hk hm)) (fun hc => by rw [hc]; exact kitAny_nil) (fun hc => by rw [hc]; rfl), q _ _ (e2.trans (same_new hp)) (is_d.mpr (.bl _))⟩⟩
/-! sizes, least, greatest, conversions -/
theorem ev_lenT {ds : List PyData} (h : Ev ta σ H (.d (.tuple ds))) : Ev (tCB (rLenQ K) (tCons ta tNil)) σ H (.d (.int (ds.length : Int))) := fun H1 e Q q =>
  h H1 e _ fun u H2 e2 hu => by
    obtain ⟨a, xs, rfl, h1, h2⟩ := (is_d.mp hu).tupE
    exact ⟨a, xs, rfl, .inr (SqT.of h1), q _ H2 e2 (is_d.mpr (by rw [h2.length]; exact .int _))⟩
theorem ev_lenL {ds : List PyData} (h : Ev ta σ H (.t ds)) : Ev (tCB (rLenQ K) (tCons ta tNil)) σ H (.d (.int (ds.length : Int))) := fun H1 e Q q =>
  h H1 e _ fun u H2 e2 hu => by
    obtain ⟨a, xs, rfl, h1, h2⟩ := is_t.mp hu
    exact ⟨a, xs, rfl, .inl (SqL.of h1), q _ H2 e2 (is_d.mpr (by rw [h2.length]; exact .int _))⟩
theorem ev_min2 {i j : Int} (ha : Ev ta σ H (.d (.int i))) (hb : Ev tb σ H (.d (.int j))) : Ev (tCB rMin2 (tCons ta (tCons tb tNil))) σ H (.d (.int (min i j))) := fun H1 e Q q =>
  ha H1 e _ fun u H2 e2 hu => hb H2 (e.trans e2) _ fun v H3 e3 hv => ⟨i, j, by rw [(is_d.mp hu).intE, (is_d.mp hv).intE], by
    have e0 : (if j < i then j else i) = min i j := by
      split <;> omega
    rw [e0]
    exact q _ H3 (e2.trans e3) (is_d.mpr (.int _))⟩
theorem ev_max2 {i j : Int} (ha : Ev ta σ H (.d (.int i))) (hb : Ev tb σ H (.d (.int j))) : Ev (tCB rMax2 (tCons ta (tCons tb tNil))) σ H (.d (.int (max i j))) := fun H1 e Q q =>
  ha H1 e _ fun u H2 e2 hu => hb H2 (e.trans e2) _ fun v H3 e3 hv => ⟨i, j, by rw [(is_d.mp hu).intE, (is_d.mp hv).intE], by
    have e0 : (if j > i then j else i) = max i j := by
      split <;> omega
    rw [e0]
    exact q _ H3 (e2.trans e3) (is_d.mpr (.int _))⟩
theorem ev_intI {i : Int} (ha : Ev ta σ H (.d (.int i))) : Ev (tCB rInt1 (tCons ta tNil)) σ H (.d (.int i)) := fun H1 e Q q =>
  ha H1 e _ fun u H2 e2 hu => .inl ⟨i, by rw [(is_d.mp hu).intE], q _ H2 e2 (is_d.mpr (.int _))⟩
theorem ev_intB {b : Bool} (ha : Ev ta σ H (.d (.bool b))) : Ev (tCB rInt1 (tCons ta tNil)) σ H (.d (.int (if b then 1 else 0))) := fun H1 e Q q =>
  ha H1 e _ fun u H2 e2 hu => .inr ⟨b, by rw [(is_d.mp hu).blE], q _ H2 e2 (is_d.mpr (.int _))⟩
theorem ev_tupL {ds : List PyData} (h : Ev ta σ H (.t ds)) : Ev (tCB (rTupQ K) (tCons ta tNil)) σ H (.d (.tuple ds)) := fun H1 e Q q =>
  h H1 e _ fun u H2 e2 hu => by
    obtain ⟨a, xs, rfl, h1, h2⟩ := is_t.mp hu
    exact ⟨a, xs, rfl, .inl ⟨SqL.of h1, fun l hl => q _ _ (e2.trans (same_new hl)) (is_d.mpr (.tup upd_same (h2.mono (Tp.new hl))))⟩⟩
theorem ev_listT {ds : List PyData} (h : Ev ta σ H (.d (.tuple ds))) : EvF (tCB (rListQ K) (tCons ta tNil)) σ H ds := fun H1 e Q q =>
  h H1 e _ fun u H2 e2 hu => by
    obtain ⟨a, xs, rfl, h1, h2⟩ := (is_d.mp hu).tupE
    exact ⟨a, xs, rfl, .inr (SqT.of h1), fun l hl => q _ _ _ (e2.trans (same_new hl)) (e2.free hl) upd_same (h2.mono (Tp.new hl))⟩
theorem ev_sum {ns : List Int} (h : Ev ta σ H (.t (ns.map .int))) : Ev (tCB (rSum K) (tCons ta tNil)) σ H (.d (.int ns.sum)) := fun H1 e Q q =>
  h H1 e _ fun u H2 e2 hu => by
    obtain ⟨a, xs, rfl, h1, h2⟩ := is_t.mp hu
    rw [h2.intsE] at h1
    exact ⟨a, ns, rfl, SqL.of h1, q _ H2 e2 (is_d.mpr (.int _))⟩
theorem Dts.blsE : ∀ {H : Hp} {vs : List V} {bs : List Bool}, Dts H vs (bs.map PyData.bool) → vs = bs.map V.bl
  | _, _, [], h => by cases h; rfl
  | _, _, n :: ns, h => by
    cases h with
    | cons h1 h2 => rw [h1.blE, Dts.blsE h2]; rfl
theorem ev_all {bs : List Bool} (h : Ev ta σ H (.t (bs.map .bool))) : Ev (tCB (rAll K) (tCons ta tNil)) σ H (.d (.bool (bs.all id))) := fun H1 e Q q =>
  h H1 e _ fun u H2 e2 hu => by
    obtain ⟨a, xs, rfl, h1, h2⟩ := is_t.mp hu
    rw [h2.blsE] at h1
    exact ⟨a, bs, rfl, SqL.of h1, q _ H2 e2 (is_d.mpr (.bl _))⟩
theorem ev_sorted {ds : List PyData} (h : Ev ta σ H (.t ds)) (h1 : PySem.W.AllAlike ds) (h2 : PySem.W.Sortable ds) (h3 : ∀ d ∈ ds, d.depth ≤ 8) : EvF (tCB (rSortedD K) (tCons ta tNil)) σ H (ds.mergeSort (PySem.W.dataLe false id)) := fun H1 e Q q =>
  h H1 e _ fun u H2 e2 hu => by
    obtain ⟨a, xs, rfl, g1, g2⟩ := is_t.mp hu
    exact ⟨a, xs, ds, rfl, SqL.of g1, g2, h1, h2, h3, fun p ys hp hy _ => q p ys _ (e2.trans (same_new hp)) (e2.free hp) upd_same (hy.mono (Tp.new hp))⟩
/-! two lists, two tuples, slices -/
theorem ev_cat {ds es : List PyData} (ha : Ev ta σ H (.t ds)) (hb : Ev tb σ H (.t es)) (hl : ds.length + es.length ≤ 100000) : EvF (tOp rCat ta tb) σ H (ds ++ es) := fun H1 e Q q =>
  ha H1 e _ fun u H2 e2 hu => hb H2 (e.trans e2) _ fun v H3 e3 hv => by
    obtain ⟨a, xs, rfl, g1, g2⟩ := is_t.mp hu
    obtain ⟨b, ys, rfl, k1, k2⟩ := is_t.mp hv
    exact ⟨a, b, xs, ys, rfl, rfl, e3 _ _ g1, k1, Nat.le_trans (by rw [g2.length, k2.length]; exact hl) (show 100000 ≤ sizeLine by decide), fun p hp =>
      q p _ _ ((e2.trans e3).trans (same_new hp)) ((e2.trans e3).free hp) upd_same (((g2.mono (same_tp e3)).append k2).mono (Tp.new hp))⟩
theorem ev_catT {ds es : List PyData} (ha : Ev ta σ H (.d (.tuple ds))) (hb : Ev tb σ H (.d (.tuple es))) (hl : ds.length + es.length ≤ 100000) : Ev (tOp (rCatA K) ta tb) σ H (.d (.tuple (ds ++ es))) := fun H1 e Q q =>
  ha H1 e _ fun u H2 e2 hu => hb H2 (e.trans e2) _ fun v H3 e3 hv => by
    obtain ⟨a, xs, rfl, g1, g2⟩ := (is_d.mp hu).tupE
    obtain ⟨b, ys, rfl, k1, k2⟩ := (is_d.mp hv).tupE
    have g2' := g2.mono (same_tp e3)
    refine ⟨a, b, xs, ys, rfl, rfl, SqT.of (e3 _ _ g1), SqT.of k1, Nat.le_trans (by rw [g2.length, k2.length]; exact hl) (show 100000 ≤ sizeLine by decide), fun h => ?_, fun h h' => ?_, fun h h' p hp => ?_⟩
    · subst h
      cases g2
      exact q _ H3 (e2.trans e3) (is_d.mpr (.tup k1 k2))
    · subst h'
      cases k2
      rw [List.append_nil] at q
      exact q _ H3 (e2.trans e3) (is_d.mpr (.tup (e3 _ _ g1) g2'))
    · exact q _ _ ((e2.trans e3).trans (same_new hp)) (is_d.mpr (.tup upd_same ((g2'.append k2).mono (Tp.new hp))))
theorem eo_none : EvO tNoPart σ H none := fun H1 _ _ q => q H1 (Same.refl H1)
theorem eo_some {i : Int} (h : Ev te σ H (.d (.int i))) : EvO (tPart te) σ H (some i) := fun H1 e _ q => h H1 e _ fun u H2 e2 hu => ⟨i, (is_d.mp hu).intE, q H2 e2⟩
def cutD (xs : List PyData) (lo hi : Option Int) : List PyData := (xs.drop (HT.sIx xs.length 0 lo)).take (HT.sIx xs.length xs.length hi - HT.sIx xs.length 0 lo)
theorem cut_dts {xs : List V} {ds : List PyData} {lo hi : Option Int} (h : Dts H xs ds) : Dts H (cutV xs lo hi) (cutD ds lo hi) := by
  unfold cutV cutD
  rw [h.length]
  exact (h.drop _).take _
theorem ev_slT {tl th : TO} {ds : List PyData} {lo hi : Option Int} (h : Ev te σ H (.d (.tuple ds))) (h1 : EvO tl σ H lo) (h2 : EvO th σ H hi) : Ev (tSl (rSlA K) te tl th) σ H (.d (.tuple (cutD ds lo hi))) := fun H1 e Q q =>
  h H1 e _ fun u H2 e2 hu => h1 H2 (e.trans e2) _ fun H3 e3 => h2 H3 ((e.trans e2).trans e3) _ fun H4 e4 => by
    obtain ⟨a, xs, rfl, g1, g2⟩ := (is_d.mp hu).tupE
    have g1' := e4 _ _ (e3 _ _ g1)
    have g2' := g2.mono (same_tp (e3.trans e4))
    refine ⟨a, xs, rfl, SqT.of g1', fun hw => ?_, fun _ p hp => ?_⟩
    · have ec : cutD ds lo hi = ds := by
        unfold cutD
        rw [g2.length] at hw
        rw [hw.1, hw.2]
        simp
      rw [ec] at q
      exact q _ H4 ((e2.trans e3).trans e4) (is_d.mpr (.tup g1' g2'))
    · exact q _ _ (((e2.trans e3).trans e4).trans (same_new hp)) (is_d.mpr (.tup upd_same ((cut_dts g2').mono (Tp.new hp))))
theorem ev_slL {tl th : TO} {ds : List PyData} {lo hi : Option Int} (h : Ev te σ H (.t ds)) (h1 : EvO tl σ H lo) (h2 : EvO th σ H hi) : EvF (tSl (rSlL K) te tl th) σ H (cutD ds lo hi) := fun H1 e Q q =>
  h H1 e _ fun u H2 e2 hu => h1 H2 (e.trans e2) _ fun H3 e3 => h2 H3 ((e.trans e2).trans e3) _ fun H4 e4 => by
    obtain ⟨a, xs, rfl, g1, g2⟩ := is_t.mp hu
    have g1' := e4 _ _ (e3 _ _ g1)
    have g2' := g2.mono (same_tp (e3.trans e4))
    exact ⟨a, xs, rfl, SqL.of g1', fun p hp => q p _ _ (((e2.trans e3).trans e4).trans (same_new hp)) (((e2.trans e3).trans e4).free hp) upd_same ((cut_dts g2').mono (Tp.new hp))⟩
theorem cutD_from (ds : List PyData) (k : Nat) : cutD ds (some (k : Int)) none = ds.drop k := by
  unfold cutD
  rw [HT.sIx_nat, HT.sIx_none]
  rcases Nat.lt_or_ge ds.length k with h | h
  · rw [Nat.min_eq_right (by omega), List.drop_of_length_le (Nat.le_refl _), List.drop_of_length_le (by omega)]
    simp
  · rw [Nat.min_eq_left h]
    exact List.take_of_length_le (by rw [List.length_drop]; omega)
theorem cutD_both (ds : List PyData) (k j : Nat) (h : j ≤ ds.length) : cutD ds (some (k : Int)) (some (j : Int)) = (ds.drop k).take (j - k) := by
  unfold cutD
  rw [HT.sIx_nat, HT.sIx_nat, Nat.min_eq_left h]
  rcases Nat.lt_or_ge ds.length k with g | g
  · rw [Nat.min_eq_right (by omega), List.drop_of_length_le (Nat.le_refl _), List.drop_of_length_le (show ds.length ≤ k by omega)]
    simp
  · rw [Nat.min_eq_left g]
/-! membership -/
theorem ev_inT {ds : List PyData} (ha : Ev ta σ H (.d x)) (hb : Ev tb σ H (.d (.tuple ds))) (h1 : SeqAt.shaped x = true) (h2 : SeqAt.shaped (.tuple ds) = true) : Ev (tOp (rInT K) ta tb) σ H (.d (.bool (ds.any fun z => PyData.eqv z x))) :=
  ev_op2 ha hb fun u v H1 e hu hv Q q => ⟨x, ds, (is_d.mp hu).dp, (is_d.mp hv).dp, h1, h2, q _ H1 (Same.refl _) (is_d.mpr (.bl _))⟩
theorem ev_notInT {ds : List PyData} (ha : Ev ta σ H (.d x)) (hb : Ev tb σ H (.d (.tuple ds))) (h1 : SeqAt.shaped x = true) (h2 : SeqAt.shaped (.tuple ds) = true) : Ev (tOp (rNotInT K) ta tb) σ H (.d (.bool (!ds.any fun z => PyData.eqv z x))) :=
  ev_op2 ha hb fun u v H1 e hu hv Q q => ⟨x, ds, (is_d.mp hu).dp, (is_d.mp hv).dp, h1, h2, q _ H1 (Same.refl _) (is_d.mpr (.bl _))⟩
theorem ev_notInL {ds : List PyData} (ha : Ev ta σ H (.d x)) (hb : Ev tb σ H (.t ds)) (h1 : SeqAt.shaped x = true) (h2 : SeqAt.shaped (.list ds) = true) : Ev (tOp (rNotInD K) ta tb) σ H (.d (.bool (!ds.any fun z => PyData.eqv z x))) :=
  ev_op2 ha hb fun u v H1 e hu hv Q q => by
    obtain ⟨b, ys, rfl, k1, k2⟩ := is_t.mp hv
    exact ⟨x, ds, (is_d.mp hu).dp, .lst (SqL.of k1) k2.dp, h1, h2, q _ H1 (Same.refl _) (is_d.mpr (.bl _))⟩
/-- two data compared -/
theorem ev_eqD (ha : Ev ta σ H (.d x)) (hb : Ev tb σ H (.d y)) (h1 : SeqAt.shaped x = true) (h2 : SeqAt.shaped y = true) : Ev (tOp (rEqD K) ta tb) σ H (.d (.bool (PyData.eqv x y))) :=
  ev_op2 ha hb fun u v H1 e hu hv Q q => ⟨x, y, (is_d.mp hu).dp, (is_d.mp hv).dp, h1, h2, q _ H1 (Same.refl _) (is_d.mpr (.bl _))⟩
/-- a list beside [] -/
theorem ev_neNil {ds : List PyData} (ha : Ev ta σ H (.t ds)) : Ev (tOp (rNeNil K) ta (tLst tNil)) σ H (.d (.bool (!ds.isEmpty))) := fun H1 e Q q =>
  ha H1 e _ fun u H2 e2 hu => ⟨Nat.zero_le _, fun p hp => by
    obtain ⟨a, xs, rfl, g1, g2⟩ := is_t.mp hu
    refine ⟨a, p, xs, rfl, rfl, SqL.of (same_new hp _ _ g1), SqL.of upd_same, ?_⟩
    have el : xs.isEmpty = ds.isEmpty := by
      cases g2 <;> rfl
    rw [el]
    exact q _ _ (e2.trans (same_new hp)) (is_d.mpr (.bl _))⟩
theorem ev_eqNil {ds : List PyData} (ha : Ev ta σ H (.t ds)) : Ev (tOp (rEqNil K) ta (tLst tNil)) σ H (.d (.bool ds.isEmpty)) := fun H1 e Q q =>
  ha H1 e _ fun u H2 e2 hu => ⟨Nat.zero_le _, fun p hp => by
    obtain ⟨a, xs, rfl, g1, g2⟩ := is_t.mp hu
    refine ⟨a, p, xs, rfl, rfl, SqL.of (same_new hp _ _ g1), SqL.of upd_same, ?_⟩
    have el : xs.isEmpty = ds.isEmpty := by
      cases g2 <;> rfl
    rw [el]
    exact q _ _ (e2.trans (same_new hp)) (is_d.mpr (.bl _))⟩
/-- flat things -/
def flatD : PyData → Bool
  | .int _ => true
  | .str _ => true
  | _ => false
theorem flat_of {u : V} : ∀ {x : PyData}, Dt H u x → flatD x = true → flatV u = true
  | .int _, .int _, _ => rfl
  | .str _, .str _, _ => rfl
theorem flats_of : ∀ {ds : List PyData} {us : List V}, Dts H us ds → ds.all flatD = true → us.all flatV = true
  | [], _, .nil, _ => rfl
  | d :: ds, _, .cons h t, e => by
    rw [List.all_cons, Bool.and_eq_true] at e
    rw [List.all_cons, flat_of h e.1, flats_of t e.2]
    rfl
def eqF : PyData → PyData → Bool
  | .int a, .int b => a == b
  | .str a, .str b => a == b
  | _, _ => false
theorem eqF_of {u v : V} : ∀ {x y : PyData}, Dt H u x → Dt H v y → flatD x = true → flatD y = true → eqV u v = eqF x y
  | .int _, .int _, .int _, .int _, _, _ => rfl
  | .str _, .str _, .str _, .str _, _, _ => rfl
  | .int _, .str _, .int _, .str _, _, _ => rfl
  | .str _, .int _, .str _, .int _, _, _ => rfl
theorem inF_of {v : V} {x : PyData} (hv : Dt H v x) (fx : flatD x = true) : ∀ {ds : List PyData} {us : List V}, Dts H us ds → ds.all flatD = true → inV v us = ds.any fun z => eqF z x
  | [], _, .nil, _ => rfl
  | d :: ds, _, .cons h t, e => by
    rw [List.all_cons, Bool.and_eq_true] at e
    have ih := inF_of hv fx t e.2
    unfold inV at ih ⊢
    rw [List.any_cons, List.any_cons, ih, eqF_of h hv e.1 fx]
theorem ev_inF {ds : List PyData} (ha : Ev ta σ H (.d x)) (hb : Ev tb σ H (.d (.tuple ds))) (h1 : flatD x = true) (h2 : ds.all flatD = true) : Ev (tOp (rIn K false) ta tb) σ H (.d (.bool (ds.any fun z => eqF z x))) :=
  ev_op2 ha hb fun u v H1 e hu hv Q q => by
    obtain ⟨b, ys, rfl, k1, k2⟩ := (is_d.mp hv).tupE
    exact ⟨b, ys, rfl, .inr (SqT.of k1), flat_of hu h1, flats_of k2 h2, q _ H1 (Same.refl _) (is_d.mpr (by rw [inF_of hu h1 k2 h2]; exact .bl _))⟩
theorem ev_notInF {ds : List PyData} (ha : Ev ta σ H (.d x)) (hb : Ev tb σ H (.d (.tuple ds))) (h1 : flatD x = true) (h2 : ds.all flatD = true) : Ev (tOp (rIn K true) ta tb) σ H (.d (.bool (!ds.any fun z => eqF z x))) :=
  ev_op2 ha hb fun u v H1 e hu hv Q q => by
    obtain ⟨b, ys, rfl, k1, k2⟩ := (is_d.mp hv).tupE
    exact ⟨b, ys, rfl, .inr (SqT.of k1), flat_of hu h1, flats_of k2 h2, q _ H1 (Same.refl _) (is_d.mpr (by rw [inF_of hu h1 k2 h2]; exact .bl _))⟩
theorem ev_inFL {ds : List PyData} (ha : Ev ta σ H (.d x)) (hb : Ev tb σ H (.t ds)) (h1 : flatD x = true) (h2 : ds.all flatD = true) : Ev (tOp (rIn K false) ta tb) σ H (.d (.bool (ds.any fun z => eqF z x))) :=
  ev_op2 ha hb fun u v H1 e hu hv Q q => by
    obtain ⟨b, ys, rfl, k1, k2⟩ := is_t.mp hv
    exact ⟨b, ys, rfl, .inl (SqL.of k1), flat_of hu h1, flats_of k2 h2, q _ H1 (Same.refl _) (is_d.mpr (by rw [inF_of hu h1 k2 h2]; exact .bl _))⟩
/-- t < u of tuples of ints -/
theorem ev_ltT {ns ms : List Int} (ha : Ev ta σ H (.d (.tuple (ns.map .int)))) (hb : Ev tb σ H (.d (.tuple (ms.map .int)))) : Ev (tOp (rLtT K) ta tb) σ H (.d (.bool (HT.lexLt ns ms))) :=
  ev_op2 ha hb fun u v H1 e hu hv Q q => by
    obtain ⟨a, xs, rfl, g1, g2⟩ := (is_d.mp hu).tupE
    obtain ⟨b, ys, rfl, k1, k2⟩ := (is_d.mp hv).tupE
    rw [g2.intsE] at g1
    rw [k2.intsE] at k1
    exact ⟨a, b, ns, ms, rfl, rfl, SqT.of g1, SqT.of k1, q _ H1 (Same.refl _) (is_d.mpr (.bl _))⟩
/-- sep.join(texts) -/
theorem ev_join {a : Str} {ys : List Str} (ha : Ev ta σ H (.d (.str a))) (hb : Ev tb σ H (.t (ys.map .str))) (hz : (ys.map (·.length)).sum + ys.length * a.length ≤ 16777216) : Ev (tM1 (rJoin K) ta tb) σ H (.d (.str (Txt.join a ys))) := fun H1 e Q q =>
  ha H1 e _ fun u H2 e2 hu => ⟨⟨a, (is_d.mp hu).strE⟩, hb H2 (e.trans e2) _ fun v H3 e3 hv => by
    obtain ⟨b, xs, rfl, k1, k2⟩ := is_t.mp hv
    rw [k2.strsE] at k1
    exact ⟨a, b, ys, (is_d.mp hu).strE, rfl, .inl (SqL.of k1), hz, q _ H3 (e2.trans e3) (is_d.mpr (.str _))⟩⟩
end
end TF
namespace TF
open PySem PySem.Spec PyProof.Rows L2
section
variable {σ : L2.St} {H : Hp} {te : TE} {tt : TT} {s s' : Ds} {D : Ends} {t u : TS}
theorem s_retE (h : Ev te σ H s) (e : s = s') (k : ∀ u H1, Same H H1 → Is H1 s' u → D.rt u H1) : tRet te D σ H := s_ret (h.to e) k
theorem s_retFE {ds es : List PyData} (h : EvF te σ H ds) (e : ds = es) (k : ∀ p xs H1, Same H H1 → H p = none → H1 p = some (.lst xs) → Dts H1 xs es → D.rt (.ref p) H1) : tRet te D σ H := s_retF (h.to e) k
theorem s_asgE {i : Nat} (h : Ev te σ H s) (e : s = s') (k : ∀ u H1, Same H H1 → Is H1 s' u → D.nx (σ.set i (some u)) H1) : tAsg te (gName i) D σ H := s_asg (h.to e) k
theorem s_asgFE {i : Nat} {ds es : List PyData} (h : EvF te σ H ds) (e : ds = es) (k : ∀ p xs H1, Same H H1 → H p = none → H1 p = some (.lst xs) → Dts H1 xs es → D.nx (σ.set i (some (.ref p))) H1) : tAsg te (gName i) D σ H := s_asgF (h.to e) k
theorem s_noE {b : Bool} (h : EvT tt σ H b) (e : b = false) (h2 : ∀ H1, Same H H1 → u D σ H1) : tIfS tt t u D σ H := s_no (h.to e) h2
theorem s_yesE {b : Bool} (h : EvT tt σ H b) (e : b = true) (h2 : ∀ H1, Same H H1 → t D σ H1) : tIfS tt t u D σ H := s_yes (h.to e) h2
theorem s_ifE {b c : Bool} (h : EvT tt σ H b) (e : b = c) (h1 : c = true → ∀ H1, Same H H1 → t D σ H1) (h2 : c = false → ∀ H1, Same H H1 → u D σ H1) : tIfS tt t u D σ H := s_if (h.to e) h1 h2
end
end TF
namespace TF
open PySem PySem.Spec PyProof.Rows L2
/-! the rules that speak of the written part, K told -/
section
variable {X : Cx} (K : PySem.W.Frag) (hK : X.K = K)
include hK
theorem k_op_ltT (hu : X.A.units < cLine) : OpR X (compareOp .Lt) (rLtT K) := hK ▸ op_ltT hu
theorem k_ix_list : IxR X (rIxL K) := hK ▸ ix_list
theorem k_ix_tup : IxR X (rIxT K) := hK ▸ ix_tup
theorem k_lenQ : CallR X (.builtin "len") (rLenQ K) := hK ▸ c_lenQ
theorem k_listQ : CallR X (.type "list") (rListQ K) := hK ▸ c_listQ
theorem k_tupQ : CallR X (.type "tuple") (rTupQ K) := hK ▸ c_tupQ
theorem k_sum (hc : X.calm = true) : CallR X (.builtin "sum") (rSum K) := hK ▸ cr_sum hc
theorem k_all (hc : X.calm = true) : CallR X (.builtin "all") (rAll K) := hK ▸ cr_all hc
theorem k_sortedD (hu : X.A.units + 64 < cLine) : CallR X (.builtin "sorted") (rSortedD K) := hK ▸ cr_sortedD hu
theorem k_op_inT (hu : X.A.units + 65 < cLine) : OpR X (compareOp .In) (rInT K) := hK ▸ op_inT hu
theorem k_op_notInT (hu : X.A.units + 65 < cLine) : OpR X (compareOp .NotIn) (rNotInT K) := hK ▸ op_notInT hu
theorem k_op_inD (hu : X.A.units + 65 < cLine) : OpR X (compareOp .In) (rInD K) := hK ▸ op_inD hu
theorem k_op_notInD (hu : X.A.units + 65 < cLine) : OpR X (compareOp .NotIn) (rNotInD K) := hK ▸ op_notInD hu
theorem k_op_eqD (hu : X.A.units + 64 < cLine) : OpR X (compareOp .Eq) (rEqD K) := hK ▸ op_eqD hu
theorem k_op_neD (hu : X.A.units + 64 < cLine) : OpR X (compareOp .NotEq) (rNeD K) := hK ▸ op_neD hu
theorem k_op_eqNil (hu : X.A.units < cLine) : OpR X (compareOp .Eq) (rEqNil K) := hK ▸ op_eqNil hu
theorem k_op_neNil (hu : X.A.units < cLine) : OpR X (compareOp .NotEq) (rNeNil K) := hK ▸ op_neNil hu
theorem k_op_in_seq : OpR X (compareOp .In) (rIn K false) := hK ▸ op_in_seq
theorem k_op_notIn_seq : OpR X (compareOp .NotIn) (rIn K true) := hK ▸ op_notIn_seq
theorem k_op_catA : OpR X (binaryOp .Add) (rCatA K) := hK ▸ op_catA
theorem k_sl_tupA : SlR X (rSlA K) := hK ▸ sl_tupA
theorem k_sl_list : SlR X (rSlL K) := hK ▸ sl_list
theorem k_isi : CallR X (.builtin "isinstance") (rIsi K) := hK ▸ call_isi
theorem k_isiT : CallR X (.builtin "isinstance") (rIsiT K) := hK ▸ call_isiT
variable {tg e e2 o : Expr} {es : List Expr} {te to : TE} {ta t : TA} {p pos tpos apos cpos : Pos} {elts : List Expr} {kk : Nat}
theorem k_pi_list (hl : PE X e te) : PI X tg e (iList K te) := hK ▸ pi_list hl
theorem k_pi_tup (hl : PE X e te) : PI X tg e (iTup K te) := hK ▸ pi_tup hl
theorem k_pi_zipA (hg : Gl X "zip") (hm : X.mg "zip" = none) (ha : PA X [e, e2] ta) (hs : starEach [e, e2] X.env = (false, eval e X.env) :: starEach [e2] X.env := by rfl) (hpl : (backTo pos (starEach [e2] X.env)).any (·.1) = false := by rfl) :
    PI X (.Tuple elts kk tpos) (.Call (.Name "zip" p) [e, e2] [] pos) (RZ.iZipA K ta) := hK ▸ RZ.pi_zipA hg hm ha hs hpl
theorem k_pi_enum (hg : Gl X "enumerate") (hm : X.mg "enumerate" = none) (ha : PA X [e] ta) (hs : starEach [e] X.env = [(false, eval e X.env)] := by rfl) : PI X (.Tuple elts kk tpos) (.Call (.Name "enumerate" p) [e] [] pos) (iEnum K ta) := hK ▸ pi_enum hg hm ha hs
theorem k_pi_enumT (hg : Gl X "enumerate") (hm : X.mg "enumerate" = none) (ha : PA X [e] ta) (hs : starEach [e] X.env = [(false, eval e X.env)] := by rfl) : PI X (.Tuple elts kk tpos) (.Call (.Name "enumerate" p) [e] [] pos) (iEnumT K ta) := hK ▸ pi_enumT hg hm ha hs
theorem k_pg_tup {k : Nat} {gs : TGs} {n : Nat} (hc : X.calm = true) (h : PGs X es gs) (hn : (assignEach es X.env).length = n := by rfl) (hst : (assignEach es X.env).findIdx? (·.1) = none := by rfl) : PG X (.Tuple es k pos) (gTup K n gs) := hK ▸ pg_tup hc h hn hst
theorem k_fld {f : Str} (he : PE X e te) (hb : attributeBase e f X.env (eval e X.env) = eval e X.env) : PE X (.Attribute e f pos) (tFld K te f) := hK ▸ pe_fld he hb
theorem k_ps_fld {f : Str} {value : Expr} {tv : TE} {pos' : Pos} (ha : PE X o to) (hv : PE X value tv) (hs : swapsWith value (some (.Attribute o f pos')) pos.line X.env = pure false) : PS X (.Assign [.Attribute o f pos'] value pos) (sFld K to tv f) := hK ▸ ps_fld ha hv hs
theorem k_joinQ (ho : PE X o to) (he : PE X e te) (hs : starEach [e] X.env = [(false, eval e X.env)] := by rfl) (hbase : attributeBase o "join" X.env (eval o X.env) = eval o X.env := by rfl) (hline : (apos.endLine == pos.line) = true := by rfl) :
    PE X (.Call (.Attribute o "join" apos) [e] [] pos) (tM1 (rJoin K) to te) := hK ▸ pe_joinQ ho he hs hbase hline
theorem k_bm {T id : String} {name : Str} {r : V → List V → Hp → VK → Prop} (pa : PlainAttrs T) (slot : Slot T name id) (hty : typeOf (.builtin id) = pure (.type "method_descriptor")) (hm : MtR X id r) (ho : PE X o to) (ha : PA X (e :: es) t)
    (hbase : attributeBase o name X.env (eval o X.env) = eval o X.env := by rfl)
    (hfew : ((backTo cpos (starEach (e :: es) X.env)).all (fun x => !x.1) && (backToKw cpos (keywordEach [] X.env)).all (fun x => x.1.isSome)
      && decide ((e :: es).length + ([] : List Keyword).length + (if ([] : List Keyword).isEmpty then 0 else 1) < 30)) = true := by rfl)
    (hline : (apos.endLine == cpos.line) = true := by rfl) (hs : starEach (e :: es) X.env = (false, eval e X.env) :: starEach es X.env := by rfl) (hplain : (backTo cpos (starEach es X.env)).any (·.1) = false := by rfl) :
    PE X (.Call (.Attribute o name apos) (e :: es) [] cpos) (tBM K T r to t) := hK ▸ pe_bm pa slot hty hm ho ha hbase hfew hline hs hplain
theorem k_bm0 {T id : String} {name : Str} {r : V → List V → Hp → VK → Prop} (pa : PlainAttrs T) (slot : Slot T name id) (hty : typeOf (.builtin id) = pure (.type "method_descriptor")) (hm : MtR X id r) (ho : PE X o to)
    (hbase : attributeBase o name X.env (eval o X.env) = eval o X.env := by rfl) (hline : (apos.endLine == cpos.line) = true := by rfl) : PE X (.Call (.Attribute o name apos) [] [] cpos) (tBM0 K T r to) := hK ▸ pe_bm0 pa slot hty hm ho hbase hline
end
end TF
/-! M0 -/
/-! halls, in plain Lean -/
namespace TF
open PySem
def pr (p : Nat × Nat) : PyData := .tuple [.int (p.1 : Int), .int (p.2 : Int)]
def hallD (n : Nat) (ps : List (Nat × Nat)) : PyData := .tuple [.int (n : Int), .tuple (ps.map pr)]
/-- the pairs with x in front -/
def rowP (n x : Nat) : List (Nat × Nat) := (List.range (n - (x + 1))).map fun i => (x, x + 1 + i)
def upP (n : Nat) : Nat → List (Nat × Nat)
  | 0 => []
  | k + 1 => upP n k ++ rowP n k
def allP (n : Nat) : List (Nat × Nat) := upP n n
def Hall (n : Nat) (ps : List (Nat × Nat)) : Prop := 1 ≤ n ∧ n ≤ 4 ∧ ps.Sublist (allP n)
def ltP (p q : Nat × Nat) : Bool := decide (p.1 < q.1) || (decide (p.1 = q.1) && decide (p.2 < q.2))
theorem allP_sorted : ∀ n ≤ 4, (allP n).Pairwise (fun p q => ltP p q = true) := by decide +kernel
theorem allP_in : ∀ n ≤ 4, ∀ p ∈ allP n, p.1 < p.2 ∧ p.2 < n := by decide +kernel
theorem allP_nodup : ∀ n ≤ 4, (allP n).Nodup := by decide +kernel
theorem allP_len : ∀ n ≤ 4, (allP n).length ≤ 6 := by decide +kernel
theorem allP_has' : ∀ n < 5, ∀ x < 4, ∀ y < 4, (!(decide (y < n) && decide (x < y)) || (allP n).contains (x, y)) = true := by decide +kernel
theorem allP_has {n x y : Nat} (hn : n ≤ 4) (hy : y < n) (h : x < y) : (x, y) ∈ allP n := by
  have q := allP_has' n (by omega) x (by omega) y (by omega)
  rw [decide_eq_true hy, decide_eq_true h] at q
  simpa using q
section
variable {n : Nat} {ps : List (Nat × Nat)}
theorem Hall.sorted (h : Hall n ps) : ps.Pairwise (fun p q => ltP p q = true) := (allP_sorted n h.2.1).sublist h.2.2
theorem Hall.in (h : Hall n ps) {p : Nat × Nat} (hp : p ∈ ps) : p.1 < p.2 ∧ p.2 < n := allP_in n h.2.1 p (h.2.2.subset hp)
theorem Hall.nodup (h : Hall n ps) : ps.Nodup := (allP_nodup n h.2.1).sublist h.2.2
theorem Hall.len (h : Hall n ps) : ps.length ≤ 6 := Nat.le_trans h.2.2.length_le (allP_len n h.2.1)
end
theorem pr_inj {p q : Nat × Nat} (h : pr p = pr q) : p = q := by
  obtain ⟨a, b⟩ := p
  obtain ⟨c, d⟩ := q
  unfold pr at h
  injection h with h
  injection h with h1 h2
  injection h2 with h2 _
  injection h1 with h1
  injection h2 with h2
  have e1 : a = c := by exact_mod_cast h1
  have e2 : b = d := by exact_mod_cast h2
  rw [e1, e2]
theorem pr_eqv (p q : Nat × Nat) : PyData.eqv (pr p) (pr q) = decide (p = q) := by
  obtain ⟨a, b⟩ := p
  obtain ⟨c, d⟩ := q
  simp only [pr, PyData.eqv, PyData.eqvAll, Bool.and_true]
  by_cases h1 : a = c
  · by_cases h2 : b = d
    · subst h1 h2; simp
    · have : ¬ ((b : Int) = d) := by omega
      simp [h1, h2, this]
  · have : ¬ ((a : Int) = c) := by omega
    simp [h1, this]
theorem any_eqv (ps : List (Nat × Nat)) (q : Nat × Nat) : ((ps.map pr).any fun z => PyData.eqv z (pr q)) = decide (q ∈ ps) := by
  induction ps with
  | nil => rfl
  | cons p ps ih =>
    rw [List.map_cons, List.any_cons, ih, pr_eqv]
    by_cases h1 : q ∈ ps <;> by_cases h2 : p = q
    · simp [h1]
    · simp [h1]
    · subst h2; simp
    · have h3 : ¬ q = p := fun z => h2 z.symm
      simp [h1, h2, h3]
theorem canLay_prs : ∀ ps : List (Nat × Nat), PyData.canLayAll0 (ps.map pr) = true
  | [] => rfl
  | p :: ps => by
    rw [List.map_cons, PyData.canLayAll0, canLay_prs ps]
    rfl
theorem depth_pr (p : Nat × Nat) : (pr p).depth = 1 := rfl
theorem depth_prs : ∀ ps : List (Nat × Nat), PyData.depthAll (ps.map pr) ≤ 1
  | [] => Nat.zero_le _
  | p :: ps => by
    rw [List.map_cons, PyData.depthAll, depth_pr]
    have := depth_prs ps
    omega
theorem shaped_pr (p : Nat × Nat) : SeqAt.shaped (pr p) = true := rfl
theorem shaped_prs (ps : List (Nat × Nat)) : SeqAt.shaped (.tuple (ps.map pr)) = true := by
  unfold SeqAt.shaped
  rw [Bool.and_eq_true]
  refine ⟨canLay_prs ps, decide_eq_true ?_⟩
  have := depth_prs ps
  rw [PyData.depth]
  omega
theorem shaped_prsL (ps : List (Nat × Nat)) : SeqAt.shaped (.list (ps.map pr)) = true := by
  unfold SeqAt.shaped
  rw [Bool.and_eq_true]
  refine ⟨canLay_prs ps, decide_eq_true ?_⟩
  have := depth_prs ps
  rw [PyData.depth]
  omega
def adj (ps : List (Nat × Nat)) (x y : Nat) : Bool := decide ((min x y, max x y) ∈ ps)
end TF
/-! P1 -/
namespace TF
open PySem PySem.Spec PyProof.Rows L2
local macro_rules | `(tactic| walk_at "tfev") => `(tactic| first
  | assumption
  | with_reducible exact ev_int
  | with_reducible exact ev_str
  | with_reducible exact ev_bl
  | with_reducible exact et_yes
  | ((with_reducible apply ev_varD); rfl; assumption)
  | ((with_reducible apply ev_var); rfl; assumption)
  | ((with_reducible apply ea_cons) <;> walk_at "tfev")
  | with_reducible exact ea_nil
  | ((with_reducible apply ev_I0) <;> walk_at "tfev")
  | ((with_reducible apply ev_B0) <;> walk_at "tfev")
  | ((with_reducible apply ev_eqI) <;> walk_at "tfev")
  | ((with_reducible apply ev_neI) <;> walk_at "tfev")
  | ((with_reducible apply ev_min2) <;> walk_at "tfev")
  | ((with_reducible apply ev_max2) <;> walk_at "tfev")
  | ((with_reducible apply ev_lenT) <;> walk_at "tfev")
  | ((with_reducible apply ev_lenL) <;> walk_at "tfev")
  | ((with_reducible apply ev_isi); walk_at "tfev"; rfl; decide)
  | ((with_reducible apply et_not) <;> walk_at "tfev")
  | ((with_reducible apply et_B) <;> walk_at "tfev")
  | ((with_reducible apply et_test) <;> walk_at "tfev")
  | ((with_reducible apply ev_not) <;> walk_at "tfev")
  | ((with_reducible apply ev_and) <;> walk_at "tfev")
  | ((with_reducible apply et_and) <;> walk_at "tfev")
  | ((with_reducible apply et_or) <;> walk_at "tfev")
  | ((with_reducible apply ev_chainI) <;> walk_at "tfev")
  | ((with_reducible intro _); walk_at "tfev")
  | (trace_state; fail))

section
variable {P : Program} {w : World} {K : PySem.W.Frag} {mg : Str → Option Value} {base : Heap} {C : Addr} {σ : L2.St} {H : Hp} {ta tb tc td : TE}
def sp_is_integer : Sp := PF (fun i : Int => [.d (.int i)]) (fun _ => True) (fun _ => .d (.bool true))
theorem e_is_integer {i : Int} (h : Ev ta σ H (.d (.int i))) : Ev (tCall sp_is_integer [] C8.E0 (tCons ta tNil)) σ H (.d (.bool true)) := ev_call (α := Int) i (ea_cons h ea_nil) trivial
theorem c_is_integer (T : Tx K mg C) : C8.Cal P w K mg base 1 "is_integer" sp_is_integer [] := by
  refine mk_pf T.d_is_integer sc_is_integer (fun _ => rfl) (fun f cdv A outer s H vs Q E i hr h _ q => ?_)
  obtain ⟨u, rfl, h⟩ := iss1 h
  refine ⟨_, (pss_one (ps_ret (pe_and (pe_callB (k_isi K rfl) (by rfl) T.b_isinstance (by decide +kernel) (pa_cons (pv 0) (pa_cons (pe_bltn (v := .ty "int") (by rfl) T.b_int (by decide +kernel) rfl) pa_nil))) (pe_one (pe_not (pe_callB (k_isi K rfl) (by rfl) T.b_isinstance (by decide +kernel) (pa_cons (pv 0) (pa_cons (pe_bltn (v := .ty "bool") (by rfl) T.b_bool (by decide +kernel) rfl) pa_nil)))))))), ?_⟩
  refine' s_retE ?e ?c q
  case e => walk_at "tfev"
  case c => rfl
local macro_rules | `(tactic| walk_at "tfev") => `(tactic| ((with_reducible apply e_is_integer) <;> walk_at "tfev"))
def sp_is_from : Sp := PF (fun i : Int × Int × Int => [.d (.int i.1), .d (.int i.2.1), .d (.int i.2.2)]) (fun _ => True) (fun i => .d (.bool (decide (i.2.1 ≤ i.1) && decide (i.1 ≤ i.2.2))))
theorem e_is_from {i j k : Int} (h : Ev ta σ H (.d (.int i))) (h1 : Ev tb σ H (.d (.int j))) (h2 : Ev tc σ H (.d (.int k))) : Ev (tCall sp_is_from [] C8.E0 (tCons ta (tCons tb (tCons tc tNil)))) σ H (.d (.bool (decide (j ≤ i) && decide (i ≤ k)))) :=
  ev_call (α := Int × Int × Int) (i, j, k) (ea_cons h (ea_cons h1 (ea_cons h2 ea_nil))) trivial
theorem c_is_from (T : Tx K mg C) : C8.Cal P w K mg base 2 "is_from" sp_is_from [] := by
  refine mk_pf T.d_is_from sc_is_from (fun _ => rfl) (fun f cdv A outer s H vs Q E a hr h _ q => ?_)
  obtain ⟨i, j, l⟩ := a
  obtain ⟨u1, u2, u3, rfl, h1, h2, h3⟩ := iss3 h
  replace h1 : Dt H u1 (.int i) := h1
  replace h2 : Dt H u2 (.int j) := h2
  replace h3 : Dt H u3 (.int l) := h3
  refine ⟨_, (pss_one (ps_ret (pe_and (C8.pe_c (c_is_integer T) hr (by decide) (by rfl) (pa_cons (pv 0) pa_nil)) (pe_one (pe_chain op_le op_le (pv 1) (pv 0) (pv 2)))))), ?_⟩
  refine' s_retE ?e ?c q
  case e => walk_at "tfev"
  case c => rfl
end
end TF
/-! P2 -/
namespace TF
open PySem PySem.Spec PyProof.Rows L2
local macro_rules | `(tactic| walk_at "tfev") => `(tactic| first
  | assumption
  | with_reducible exact ev_int
  | with_reducible exact ev_str
  | with_reducible exact ev_bl
  | with_reducible exact et_yes
  | ((with_reducible apply ev_varD); rfl; assumption)
  | ((with_reducible apply ev_var); rfl; assumption)
  | ((with_reducible apply ea_cons) <;> walk_at "tfev")
  | with_reducible exact ea_nil
  | ((with_reducible apply ev_I0) <;> walk_at "tfev")
  | ((with_reducible apply ev_B0) <;> walk_at "tfev")
  | ((with_reducible apply ev_eqI) <;> walk_at "tfev")
  | ((with_reducible apply ev_neI) <;> walk_at "tfev")
  | ((with_reducible apply ev_min2) <;> walk_at "tfev")
  | ((with_reducible apply ev_max2) <;> walk_at "tfev")
  | ((with_reducible apply ev_lenT) <;> walk_at "tfev")
  | ((with_reducible apply ev_lenL) <;> walk_at "tfev")
  | ((with_reducible apply ev_isi); walk_at "tfev"; rfl; decide)
  | ((with_reducible apply et_not) <;> walk_at "tfev")
  | ((with_reducible apply et_B) <;> walk_at "tfev")
  | ((with_reducible apply et_test) <;> walk_at "tfev")
  | ((with_reducible apply ev_not) <;> walk_at "tfev")
  | ((with_reducible apply ev_and) <;> walk_at "tfev")
  | ((with_reducible apply et_and) <;> walk_at "tfev")
  | ((with_reducible apply et_or) <;> walk_at "tfev")
  | ((with_reducible apply ev_chainI) <;> walk_at "tfev")
  | ((with_reducible intro _); walk_at "tfev")
  | (trace_state; fail))

local macro_rules | `(tactic| walk_at "tfev") => `(tactic| ((with_reducible apply e_is_integer) <;> walk_at "tfev"))
local macro_rules | `(tactic| walk_at "tfev") => `(tactic| ((with_reducible apply e_is_from) <;> walk_at "tfev"))
section
variable {P : Program} {w : World} {K : PySem.W.Frag} {mg : Str → Option Value} {base : Heap} {C : Addr} {σ : L2.St} {H : Hp} {ta tb tc td : TE}
def sp_is_pair_of : Sp := PF (fun a : Nat × (Nat × Nat) => [.d (.int (a.1 : Int)), .d (pr a.2)]) (fun a => a.2.1 < a.2.2 ∧ a.2.2 < a.1) (fun _ => .d (.bool true))
theorem e_is_pair_of {n : Nat} {p : Nat × Nat} (h : Ev ta σ H (.d (.int (n : Int)))) (h1 : Ev tb σ H (.d (pr p))) (h2 : p.1 < p.2 ∧ p.2 < n) : Ev (tCall sp_is_pair_of [] C8.E0 (tCons ta (tCons tb tNil))) σ H (.d (.bool true)) :=
  ev_call (α := Nat × (Nat × Nat)) (n, p) (ea_cons h (ea_cons h1 ea_nil)) h2
theorem c_is_pair_of (T : Tx K mg C) : C8.Cal P w K mg base 3 "is_pair_of" sp_is_pair_of [] := by
  refine mk_pf T.d_is_pair_of sc_is_pair_of (fun _ => rfl) (fun f cdv A outer s H vs Q E a hr h ok q => ?_)
  obtain ⟨n, p⟩ := a
  obtain ⟨u1, u2, rfl, h1, h2⟩ := iss2 h
  replace h1 : Dt H u1 (.int (n : Int)) := h1
  replace h2 : Dt H u2 (.tuple [.int (p.1 : Int), .int (p.2 : Int)]) := h2
  replace ok : p.1 < p.2 ∧ p.2 < n := ok
  refine ⟨_, (pss_cons (ps_if (PW.pt (pw_or (pt_not (pt_val (pe_callB (k_isi K rfl) (by rfl) T.b_isinstance (by decide +kernel) (pa_cons (pv 1) (pa_cons (pe_bltn (v := .ty "tuple") (by rfl) T.b_tuple (by decide +kernel) rfl) pa_nil))))) (pw_or (pt_cmpR op_ne (pe_callB (k_lenQ K rfl) (by rfl) T.b_len (by decide +kernel) (pa_cons (pv 1) pa_nil)) pe_int (by rfl)) (pw_or1 (pt_not (pt_val (pe_callB (k_all K rfl rfl) (by rfl) T.b_all (by decide +kernel) (pa_cons (pe_lc (own := [("part", 2)]) rfl sc_is_pair_of.nd (k_pi_tup K rfl (pv 1)) (blkOk_by (own := [("part", 2)]) (N := n_is_pair_of) (sc := C8.fnScope s_is_pair_of) (by decide +kernel)) (fun _ _ _ _ _ => (pg_name (i := 2) sc_is_pair_of.nd rfl (Or.inl rfl))) (fun _ _ _ _ _ => pts_nil) (fun _ _ _ _ _ => (C8.pe_c (c_is_from T) hr (by decide) (by rfl) (pa_cons (pv 2) (pa_cons pe_int (pa_cons (pe_op op_sub (pv 0) pe_int) pa_nil)))))) pa_nil))))))))
      (pss_one (ps_ret pe_bl))
      pss_nil)
      (pss_one (ps_ret (pe_cmpR op_lt (pe_ix (k_ix_tup K rfl) (pv 1) pe_int (fun _ _ => rfl)) (pe_ix (k_ix_tup K rfl) (pv 1) pe_int (fun _ _ => rfl)) (by rfl))))), ?_⟩
  refine seq ?_
  refine' s_noE ?e ?c (fun H1 e1 => ?_)
  case e =>
    apply et_or
    · walk_at "tfev"
    · intro _
      apply et_or
      · walk_at "tfev"
      · intro _
        apply et_not
        apply et_B
        apply ev_all (bs := [true, true])
        refine EvF.ev (EvF.to (ev_lcN (fun _ => true) (fun _ => .bool true) (ei_tup (ev_varD rfl h2) (fun _ h => nomatch h)) (by show 2 ≤ 100000; omega) (fun _ => rfl) (fun i x H1 hi e hx => et_yes) (fun i x H1 hi e hx _ => ?_)) rfl)
        have hx' : ∃ v : Nat, v < n ∧ Dt H1 x (.int (v : Int)) := by
          have hi2 : i < 2 := hi
          rcases (show i = 0 ∨ i = 1 by omega) with r | r
          · subst r; exact ⟨p.1, by omega, hx⟩
          · subst r; exact ⟨p.2, by omega, hx⟩
        obtain ⟨v, hv, hx'⟩ := hx'
        replace h1 := h1.mono (same_tp e)
        refine' Ev.to ?e1 ?c1
        case e1 => walk_at "tfev"
        case c1 =>
          have a1 : decide ((0 : Int) ≤ (v : Int)) = true := decide_eq_true (by omega)
          have a2 : decide ((v : Int) ≤ (n : Int) - 1) = true := decide_eq_true (by omega)
          rw [a1, a2]; rfl
  case c => rfl
  have h1' := h1.mono (same_tp e1)
  have h2' := h2.mono (same_tp e1)
  refine' s_retE (ev_B0 (ev_ixT (i := 0) (ev_varD rfl h2') ev_int rfl) (ev_ixT (i := 1) (ev_varD rfl h2') ev_int rfl)) ?c (fun u H2 e2 hu => q u H2 (e1.trans e2) hu)
  case c =>
    have a1 : decide ((p.1 : Int) < (p.2 : Int)) = true := decide_eq_true (by omega)
    show Ds.d (.bool (decide ((p.1 : Int) < (p.2 : Int)))) = _
    rw [a1]
def sp_is_hall : Sp := PF (fun a : Nat × List (Nat × Nat) => [.d (hallD a.1 a.2)]) (fun a => Hall a.1 a.2) (fun _ => .d (.bool true))
theorem e_is_hall {n : Nat} {ps : List (Nat × Nat)} (h : Ev ta σ H (.d (hallD n ps))) (h2 : Hall n ps) : Ev (tCall sp_is_hall [] C8.E0 (tCons ta tNil)) σ H (.d (.bool true)) :=
  ev_call (α := Nat × List (Nat × Nat)) (n, ps) (ea_cons h ea_nil) h2
theorem getD_pr {ps : List (Nat × Nat)} {i : Nat} (h : i < ps.length) : (ps.map pr).getD i .none = pr ps[i] := getD_of (by rw [List.getElem?_map, List.getElem?_eq_getElem h]; rfl)
theorem lexLt_pr {p q : Nat × Nat} (h : ltP p q = true) : HT.lexLt [(p.1 : Int), (p.2 : Int)] [(q.1 : Int), (q.2 : Int)] = true := by
  unfold ltP at h
  rw [Bool.or_eq_true, Bool.and_eq_true, decide_eq_true_eq, decide_eq_true_eq, decide_eq_true_eq] at h
  rw [HT.lexLt_cons, HT.lexLt_cons]
  rcases h with h | ⟨h1, h2⟩
  · rw [if_neg (by omega)]
    exact decide_eq_true (by omega)
  · rw [if_pos (by omega), if_neg (by omega)]
    exact decide_eq_true (by omega)
theorem all_given (n : Nat) : ((given n (fun _ => true) (fun _ => true)).all id) = true := by
  unfold given
  simp
theorem map_given {α β : Type} (n : Nat) (f : Nat → Bool) (v : Nat → α) (g : α → β) : (given n f v).map g = given n f (fun i => g (v i)) := by
  unfold given
  rw [List.map_map]
  rfl
theorem c_is_hall (T : Tx K mg C) : C8.Cal P w K mg base 4 "is_hall" sp_is_hall [] := by
  refine mk_pf T.d_is_hall sc_is_hall (fun _ => rfl) (fun f cdv A outer s H vs Q E a hr h ok q => ?_)
  obtain ⟨n, ps⟩ := a
  obtain ⟨u1, rfl, h1⟩ := iss1 h
  replace h1 : Dt H u1 (.tuple [.int (n : Int), .tuple (ps.map pr)]) := h1
  replace ok : Hall n ps := ok
  refine ⟨_, (pss_cons (ps_if (PW.pt (pw_or (pt_not (pt_val (pe_callB (k_isi K rfl) (by rfl) T.b_isinstance (by decide +kernel) (pa_cons (pv 0) (pa_cons (pe_bltn (v := .ty "tuple") (by rfl) T.b_tuple (by decide +kernel) rfl) pa_nil))))) (pw_or (pt_cmpR op_ne (pe_callB (k_lenQ K rfl) (by rfl) T.b_len (by decide +kernel) (pa_cons (pv 0) pa_nil)) pe_int (by rfl)) (pw_or1 (pt_not (pt_val (C8.pe_c (c_is_from T) hr (by decide) (by rfl) (pa_cons (pe_ix (k_ix_tup K rfl) (pv 0) pe_int (fun _ _ => rfl)) (pa_cons pe_int (pa_cons (C8.pe_gc (by rfl) T.c_MOST_PEOPLE) pa_nil))))))))))
      (pss_one (ps_ret pe_bl))
      pss_nil)
      (pss_cons (ps_asg (pv 0) (k_pg_tup K rfl (n := 2) rfl (pgs_cons (pg_name (i := 1) sc_is_hall.nd rfl (Or.inr rfl)) (pgs_cons (pg_name (i := 2) sc_is_hall.nd rfl (Or.inl rfl)) pgs_nil))))
      (pss_cons (ps_if (PW.pt (pw_or (pt_not (pt_val (pe_callB (k_isi K rfl) (by rfl) T.b_isinstance (by decide +kernel) (pa_cons (pv 2) (pa_cons (pe_bltn (v := .ty "tuple") (by rfl) T.b_tuple (by decide +kernel) rfl) pa_nil))))) (pw_or1 (pt_not (pt_val (pe_callB (k_all K rfl rfl) (by rfl) T.b_all (by decide +kernel) (pa_cons (pe_lc (own := [("pair", 3)]) rfl sc_is_hall.nd (k_pi_tup K rfl (pv 2)) (blkOk_by (own := [("pair", 3)]) (N := n_is_hall) (sc := C8.fnScope s_is_hall) (by decide +kernel)) (fun _ _ _ _ _ => (pg_name (i := 3) sc_is_hall.nd rfl (Or.inl rfl))) (fun _ _ _ _ _ => pts_nil) (fun _ _ _ _ _ => (C8.pe_c (c_is_pair_of T) hr (by decide) (by rfl) (pa_cons (pv 1) (pa_cons (pv 3) pa_nil))))) pa_nil)))))))
      (pss_one (ps_ret pe_bl))
      pss_nil)
      (pss_one (ps_ret (pe_callB (k_all K rfl rfl) (by rfl) T.b_all (by decide +kernel) (pa_cons (pe_lc (own := [("one", 4), ("other", 5)]) rfl sc_is_hall.nd (k_pi_zipA K rfl (by rfl) T.b_zip (pa_cons (pv 2) (pa_cons (pe_slice (k_sl_tupA K rfl) (pv 2) (po_some pe_int) po_none) pa_nil))) (blkOk_by (own := [("one", 4), ("other", 5)]) (N := n_is_hall) (sc := C8.fnScope s_is_hall) (by decide +kernel)) (fun _ _ _ _ _ => (k_pg_tup K rfl (n := 2) rfl (pgs_cons (pg_name (i := 4) sc_is_hall.nd rfl (Or.inl rfl)) (pgs_cons (pg_name (i := 5) sc_is_hall.nd rfl (Or.inl rfl)) pgs_nil)))) (fun _ _ _ _ _ => pts_nil) (fun _ _ _ _ _ => (pe_cmpR (k_op_ltT K rfl hr.units0) (pv 4) (pv 5) (by rfl)))) pa_nil))))))), ?_⟩
  refine seq ?_
  refine' s_noE ?e ?c (fun H1 e1 => ?_)
  case e =>
    apply et_or
    · walk_at "tfev"
    · intro _
      apply et_or
      · walk_at "tfev"
      · intro _
        apply et_not
        apply et_B
        exact e_is_from (ev_ixT (i := 0) (ev_varD rfl h1) ev_int rfl) ev_int (ev_c fun _ => .int 8)
  case c =>
    have a1 : decide ((1 : Int) ≤ (n : Int)) = true := decide_eq_true (by have := ok.1; omega)
    have a2 : decide ((n : Int) ≤ 8) = true := decide_eq_true (by have := ok.2.1; omega)
    rw [a1, a2]; rfl
  refine seq ?_
  refine s_asg2 (ev_varD rfl (h1.mono (same_tp e1))) (fun v1 v2 H2 e2 hv1 hv2 => ?_)
  dsimp only
  refine seq ?_
  refine' s_noE ?e ?c (fun H3 e3 => ?_)
  case e =>
    apply et_or
    · walk_at "tfev"
    · intro _
      apply et_not
      apply et_B
      apply ev_all (bs := given ps.length (fun _ => true) (fun _ => true))
      rw [map_given]
      refine EvF.ev (EvF.to (ev_lcN (fun _ => true) (fun _ => .bool true) (ei_tup (ev_varD rfl hv2) (fun _ h => nomatch h)) (by rw [List.length_map]; have := ok.len; omega) (fun _ => rfl) (fun i x H1 hi e hx => et_yes) (fun i x H1 hi e hx _ => ?_)) (by rw [List.length_map]))
      have hi' : i < ps.length := by rw [List.length_map] at hi; exact hi
      have hx' : Dt H1 x (pr ps[i]) := by
        have : Dt H1 x ((ps.map pr).getD i .none) := hx
        rw [getD_pr hi'] at this
        exact this
      exact e_is_pair_of (ev_varD rfl (hv1.mono (same_tp e))) (ev_varD rfl hx') (ok.in (List.getElem_mem hi'))
  case c =>
    rw [all_given]; rfl
  refine' s_retE (ev_all (bs := given (ps.length - 1) (fun _ => true) (fun _ => true)) (EvF.ev (EvF.to (ev_lc2N (fun _ => true) (fun _ => .bool true) (ei_zipT (ea_cons (ev_varD rfl (hv2.mono (same_tp e3))) (ea_cons (ev_slT (ev_varD rfl (hv2.mono (same_tp e3))) (eo_some ev_int) eo_none) ea_nil)) (fun _ h => nomatch h)) (fun _ => rfl) ?n (fun _ _ => rfl) (fun i x y H1 hi e hx hy => et_yes) (fun i x y H1 hi e hx hy _ => ?t)) ?l))) ?c (fun u H4 e4 hu => q u H4 (((e1.trans e2).trans e3).trans e4) hu)
  case n =>
    rw [List.length_map]
    have := ok.len
    omega
  case c => rw [all_given]
  case l =>
    rw [map_given, show (1 : Int) = ((1 : Nat) : Int) from rfl, cutD_from, List.length_drop, List.length_map, Nat.min_eq_right (by omega)]
  case t =>
    rw [show (1 : Int) = ((1 : Nat) : Int) from rfl, cutD_from, List.length_drop, List.length_map] at hi
    have hi' : i + 1 < ps.length := by omega
    rw [getD_pr (show i < ps.length by omega)] at hx
    have hy' : Dt H1 y (pr ps[i + 1]) := by
      have e5 : (cutD (ps.map pr) (some (1 : Int)) none).getD i .none = pr ps[i + 1] := by
        rw [show (1 : Int) = ((1 : Nat) : Int) from rfl, cutD_from]
        refine getD_of ?_
        rw [List.getElem?_drop, Nat.add_comm 1 i, List.getElem?_map, List.getElem?_eq_getElem hi']
        rfl
      rw [e5] at hy
      exact hy
    refine Ev.to (ev_ltT (ns := [(ps[i].1 : Int), (ps[i].2 : Int)]) (ms := [(ps[i + 1].1 : Int), (ps[i + 1].2 : Int)]) (ev_varD rfl hx) (ev_varD rfl hy')) ?_
    have hs := ok.sorted
    rw [lexLt_pr (List.pairwise_iff_getElem.mp hs i (i + 1) (by omega) hi' (by omega))]
end
end TF
/-! P3 -/
namespace TF
open PySem PySem.Spec PyProof.Rows L2

section
variable {σ : L2.St} {H : Hp} {te : TE} {s : Ds} {D : Ends}
theorem s_drop (h : Ev te σ H s) (k : ∀ H1, Same H H1 → D.nx σ H1) : tDrop te D σ H := h H (Same.refl H) _ fun u H1 e hu => k H1 e
theorem given_all {α : Type} (n : Nat) (v : Nat → α) : given n (fun _ => true) v = (List.range n).map v := by
  unfold given
  rw [List.filter_eq_self.mpr (fun _ _ => rfl)]
theorem Ch.tp1 {p : Addr} {H H' : Hp} {xs : List V} (e : Ch [p] H H') (h : H p = some (.lst xs)) : Tp H H' := e.tp fun m hm => by
  rw [List.mem_singleton] at hm
  subst hm
  exact ⟨_, h, fun _ z => nomatch z⟩
end
section
variable {P : Program} {w : World} {K : PySem.W.Frag} {mg : Str → Option Value} {base : Heap} {C : Addr} {σ : L2.St} {H : Hp} {ta tb tc td : TE}
abbrev HallA := Nat × List (Nat × Nat)
def hD (h : HallA) : PyData := hallD h.1 h.2
def HOk (h : HallA) : Prop := Hall h.1 h.2
def bit (b : Bool) : Int := if b then 1 else 0
def sp_need_hall : Sp := PF (fun h : HallA => [.d (hD h)]) HOk (fun _ => .v .non)
theorem e_need_hall {h : HallA} (h1 : Ev ta σ H (.d (hD h))) (h2 : HOk h) : Ev (tCall sp_need_hall [] C8.E0 (tCons ta tNil)) σ H (.v .non) := ev_call h (ea_cons h1 ea_nil) h2
theorem c_need_hall (T : Tx K mg C) : C8.Cal P w K mg base 5 "need_hall" sp_need_hall [] := by
  refine mk_pf T.d_need_hall sc_need_hall (fun _ => rfl) (fun f cdv A outer s H vs Q E a hr h ok q => ?_)
  obtain ⟨u1, rfl, h1⟩ := iss1 h
  replace h1 : Dt H u1 (hD a) := h1
  refine ⟨_, (pss_one (ps_if (pt_not (pt_val (C8.pe_c (c_is_hall T) hr (by decide) (by rfl) (pa_cons (pv 0) pa_nil))))
      (pss_one ps_never)
      pss_nil)), ?_⟩
  refine' s_noE ?e ?c (fun H1 e1 => ?_)
  case e =>
    apply et_not
    apply et_B
    exact e_is_hall (ev_varD rfl h1) ok
  case c => rfl
  exact s_next (q _ _ e1 (is_v.mpr rfl))
def sp_need_halls : Sp := PF (fun a : HallA × HallA => [.d (hD a.1), .d (hD a.2)]) (fun a => HOk a.1 ∧ HOk a.2 ∧ a.1.1 = a.2.1) (fun _ => .v .non)
theorem e_need_halls {h g : HallA} (h1 : Ev ta σ H (.d (hD h))) (h2 : Ev tb σ H (.d (hD g))) (ok : HOk h ∧ HOk g ∧ h.1 = g.1) : Ev (tCall sp_need_halls [] C8.E0 (tCons ta (tCons tb tNil))) σ H (.v .non) := ev_call (h, g) (ea_cons h1 (ea_cons h2 ea_nil)) ok
theorem ev_hn {h : HallA} (h1 : Ev ta σ H (.d (hD h))) : Ev (tOp (rIxT K) ta (tC (.int 0))) σ H (.d (.int (h.1 : Int))) := ev_ixT (i := 0) h1 ev_int rfl
theorem ev_hp {h : HallA} (h1 : Ev ta σ H (.d (hD h))) : Ev (tOp (rIxT K) ta (tC (.int 1))) σ H (.d (.tuple (h.2.map pr))) := ev_ixT (i := 1) h1 ev_int rfl
theorem c_need_halls (T : Tx K mg C) : C8.Cal P w K mg base 6 "need_halls" sp_need_halls [] := by
  refine mk_pf T.d_need_halls sc_need_halls (fun _ => rfl) (fun f cdv A outer s H vs Q E a hr h ok q => ?_)
  obtain ⟨a, b⟩ := a
  obtain ⟨u1, u2, rfl, h1, h2⟩ := iss2 h
  replace h1 : Dt H u1 (hD a) := h1
  replace h2 : Dt H u2 (hD b) := h2
  obtain ⟨ok1, ok2, ok3⟩ := ok
  replace ok3 : a.1 = b.1 := ok3
  refine ⟨_, (pss_cons (ps_expr (C8.pe_c (c_need_hall T) hr (by decide) (by rfl) (pa_cons (pv 0) pa_nil)))
      (pss_cons (ps_expr (C8.pe_c (c_need_hall T) hr (by decide) (by rfl) (pa_cons (pv 1) pa_nil)))
      (pss_one (ps_if (pt_cmpR op_ne (pe_ix (k_ix_tup K rfl) (pv 0) pe_int (fun _ _ => rfl)) (pe_ix (k_ix_tup K rfl) (pv 1) pe_int (fun _ _ => rfl)) (by rfl))
      (pss_one ps_never)
      pss_nil)))), ?_⟩
  refine seq ?_
  refine s_drop (e_need_hall (ev_varD rfl h1) ok1) (fun H1 e1 => ?_)
  dsimp only
  refine seq ?_
  refine s_drop (e_need_hall (ev_varD rfl (h2.mono (same_tp e1))) ok2) (fun H2 e2 => ?_)
  have h1' := h1.mono (same_tp (e1.trans e2))
  have h2' := h2.mono (same_tp (e1.trans e2))
  dsimp only
  refine' s_noE ?e ?c (fun H3 e3 => ?_)
  case e =>
    apply et_test
    exact ev_neI (ev_hn (ev_varD rfl h1')) (ev_hn (ev_varD rfl h2'))
  case c =>
    rw [ok3, decide_eq_true rfl]; rfl
  exact s_next (q _ _ ((e1.trans e2).trans e3) (is_v.mpr rfl))
def sp_are_pair : Sp := PF (fun a : HallA × Nat × Nat => [.d (hD a.1), .d (.int (a.2.1 : Int)), .d (.int (a.2.2 : Int))]) (fun _ => True) (fun a => .d (.bool (adj a.1.2 a.2.1 a.2.2)))
theorem e_are_pair {h : HallA} {x y : Nat} (h1 : Ev ta σ H (.d (hD h))) (h2 : Ev tb σ H (.d (.int (x : Int)))) (h3 : Ev tc σ H (.d (.int (y : Int)))) : Ev (tCall sp_are_pair [] C8.E0 (tCons ta (tCons tb (tCons tc tNil)))) σ H (.d (.bool (adj h.2 x y))) :=
  ev_call (α := HallA × Nat × Nat) (h, x, y) (ea_cons h1 (ea_cons h2 (ea_cons h3 ea_nil))) trivial
theorem ev_mm {x y : Nat} (h2 : Ev tb σ H (.d (.int (x : Int)))) (h3 : Ev tc σ H (.d (.int (y : Int)))) : Ev (tTup (tCons (tCB rMin2 (tCons tb (tCons tc tNil))) (tCons (tCB rMax2 (tCons tb (tCons tc tNil))) tNil))) σ H (.d (pr (min x y, max x y))) := by
  refine Ev.to (ev_tup (ds := [.int (min (x : Int) y), .int (max (x : Int) y)]) (ea_consD (ev_min2 h2 h3) (ea_consD (ev_max2 h2 h3) ea_nilD)) (by show 2 ≤ 100000; omega)) ?_
  have a1 : min (x : Int) y = ((min x y : Nat) : Int) := by omega
  have a2 : max (x : Int) y = ((max x y : Nat) : Int) := by omega
  rw [a1, a2]
  rfl
theorem c_are_pair (T : Tx K mg C) : C8.Cal P w K mg base 1 "are_pair" sp_are_pair [] := by
  refine mk_pf T.d_are_pair sc_are_pair (fun _ => rfl) (fun f cdv A outer s H vs Q E a hr h ok q => ?_)
  obtain ⟨a, x, y⟩ := a
  obtain ⟨u1, u2, u3, rfl, h1, h2, h3⟩ := iss3 h
  replace h1 : Dt H u1 (hD a) := h1
  replace h2 : Dt H u2 (.int (x : Int)) := h2
  replace h3 : Dt H u3 (.int (y : Int)) := h3
  refine ⟨_, (pss_one (ps_ret (pe_cmpR (k_op_inT K rfl (hu65 hr)) (pe_tup (pa_cons (pe_callB (c_min2 rfl) (by rfl) T.b_min (by decide +kernel) (pa_cons (pv 1) (pa_cons (pv 2) pa_nil))) (pa_cons (pe_callB (c_max2 rfl) (by rfl) T.b_max (by decide +kernel) (pa_cons (pv 1) (pa_cons (pv 2) pa_nil))) pa_nil))) (pe_ix (k_ix_tup K rfl) (pv 0) pe_int (fun _ _ => rfl)) (by rfl)))), ?_⟩
  refine' s_retE (ev_inT (ev_mm (ev_varD rfl h2) (ev_varD rfl h3)) (ev_hp (ev_varD rfl h1)) (shaped_pr _) (shaped_prs _)) ?c q
  case c => rw [any_eqv]; rfl
def sp_friends_of : Sp := PL (fun a : HallA × Nat => [.d (hD a.1), .d (.int (a.2 : Int))]) (fun a => HOk a.1) (fun a => given a.1.1 (fun y => adj a.1.2 a.2 y) (fun y => .int (y : Nat)))
theorem e_friends_of {h : HallA} {x : Nat} (h1 : Ev ta σ H (.d (hD h))) (h2 : Ev tb σ H (.d (.int (x : Int)))) (ok : HOk h) : EvF (tCall sp_friends_of [] C8.E0 (tCons ta (tCons tb tNil))) σ H (given h.1 (fun y => adj h.2 x y) (fun y => .int (y : Nat))) :=
  ev_callL (α := HallA × Nat) (h, x) (ea_cons h1 (ea_cons h2 ea_nil)) ok
theorem c_friends_of (T : Tx K mg C) : C8.Cal P w K mg base 2 "friends_of" sp_friends_of [] := by
  refine mk_pl T.d_friends_of sc_friends_of (fun _ => rfl) (fun f cdv A outer s H vs Q E a hr h ok q => ?_)
  obtain ⟨a, x⟩ := a
  obtain ⟨u1, u2, rfl, h1, h2⟩ := iss2 h
  replace h1 : Dt H u1 (hD a) := h1
  replace h2 : Dt H u2 (.int (x : Int)) := h2
  replace ok : HOk a := ok
  refine ⟨_, (pss_one (ps_ret (pe_lc (own := [("y", 2)]) rfl sc_friends_of.nd (pi_range1 (by rfl) T.b_range (pa_cons (pe_ix (k_ix_tup K rfl) (pv 0) pe_int (fun _ _ => rfl)) pa_nil)) (blkOk_by (own := [("y", 2)]) (N := n_friends_of) (sc := C8.fnScope s_friends_of) (by decide +kernel)) (fun _ _ _ _ _ => (pg_name (i := 2) sc_friends_of.nd rfl (Or.inl rfl))) (fun _ _ _ _ _ => pts_one (pt_val (C8.pe_c (c_are_pair T) hr (by decide) (by rfl) (pa_cons (pv 0) (pa_cons (pv 1) (pa_cons (pv 2) pa_nil)))))) (fun _ _ _ _ _ => (pv 2))))), ?_⟩
  refine s_retF (ev_lcN _ _ (ei_rng1 (ea_cons (ev_hn (ev_varD rfl h1)) ea_nil) (by have := ok.2.1; omega)) (by have := ok.2.1; omega) (fun _ => rfl) (fun i z H1 hi e hx => ?_) (fun i z H1 hi e hx _ => ev_varD rfl hx)) q
  exact et_B (e_are_pair (ev_varD rfl (h1.mono (same_tp e))) (ev_varD rfl (h2.mono (same_tp e))) (ev_varD rfl hx))
def sp_signs_of : Sp := PF (fun a : HallA × Nat × Nat => [.d (hD a.1), .d (.int (a.2.1 : Int)), .d (.int (a.2.2 : Int))]) (fun _ => True) (fun a => .d (.tuple [.int (bit (decide (a.2.1 = a.2.2))), .int (bit (adj a.1.2 a.2.1 a.2.2))]))
theorem e_signs_of {h : HallA} {x y : Nat} (h1 : Ev ta σ H (.d (hD h))) (h2 : Ev tb σ H (.d (.int (x : Int)))) (h3 : Ev tc σ H (.d (.int (y : Int)))) : Ev (tCall sp_signs_of [] C8.E0 (tCons ta (tCons tb (tCons tc tNil)))) σ H (.d (.tuple [.int (bit (decide (x = y))), .int (bit (adj h.2 x y))])) :=
  ev_call (α := HallA × Nat × Nat) (h, x, y) (ea_cons h1 (ea_cons h2 (ea_cons h3 ea_nil))) trivial
theorem dec_nat (x y : Nat) : decide ((x : Int) = (y : Int)) = decide (x = y) := by
  by_cases h : x = y
  · rw [h]; simp
  · rw [decide_eq_false h]; exact decide_eq_false (by omega)
theorem c_signs_of (T : Tx K mg C) : C8.Cal P w K mg base 2 "signs_of" sp_signs_of [] := by
  refine mk_pf T.d_signs_of sc_signs_of (fun _ => rfl) (fun f cdv A outer s H vs Q E a hr h ok q => ?_)
  obtain ⟨a, x, y⟩ := a
  obtain ⟨u1, u2, u3, rfl, h1, h2, h3⟩ := iss3 h
  replace h1 : Dt H u1 (hD a) := h1
  replace h2 : Dt H u2 (.int (x : Int)) := h2
  replace h3 : Dt H u3 (.int (y : Int)) := h3
  refine ⟨_, (pss_one (ps_ret (pe_tup (pa_cons (pe_callTy c_int1 (by rfl) T.b_int (by decide +kernel) (pa_cons (pe_cmpR op_eq (pv 1) (pv 2) (by rfl)) pa_nil)) (pa_cons (pe_callTy c_int1 (by rfl) T.b_int (by decide +kernel) (pa_cons (C8.pe_c (c_are_pair T) hr (by decide) (by rfl) (pa_cons (pv 0) (pa_cons (pv 1) (pa_cons (pv 2) pa_nil)))) pa_nil)) pa_nil))))), ?_⟩
  refine' s_retE (ev_tup (ds := [.int (bit (decide ((x : Int) = (y : Int)))), .int (bit (adj a.2 x y))]) (ea_consD (ev_intB (ev_eqI (ev_varD rfl h2) (ev_varD rfl h3))) (ea_consD (ev_intB (e_are_pair (ev_varD rfl h1) (ev_varD rfl h2) (ev_varD rfl h3))) ea_nilD)) (by show 2 ≤ 100000; omega)) ?c q
  case c => rw [dec_nat]
end
end TF
/-! P4 -/
namespace TF
open PySem PySem.Spec PyProof.Rows L2

theorem cmul_bit (b : Bool) (j : Int) : CMul (bit b) j := by
  left
  cases b <;> exact ⟨by decide, by decide⟩
def EQp (h g : HallA) (x y p : Nat) : List Int := [bit (decide (x = p)) * bit (adj g.2 y p), bit (decide (x = p)) * bit (decide (y = p)), bit (adj h.2 x p) * bit (adj g.2 y p), bit (adj h.2 x p) * bit (decide (y = p))]
def EQn (h g : HallA) (x y : Nat) (n : Nat) : List Int := (List.range n).flatMap (EQp h g x y)
def EQ (h g : HallA) (x y : Nat) : List Int := EQn h g x y h.1
theorem EQn_succ (h g : HallA) (x y n : Nat) : EQn h g x y (n + 1) = EQn h g x y n ++ EQp h g x y n := by
  unfold EQn
  rw [List.range_succ, List.flatMap_append, List.flatMap_singleton]
theorem EQn_len (h g : HallA) (x y n : Nat) : (EQn h g x y n).length = 4 * n := by
  induction n with
  | zero => rfl
  | succ n ih => rw [EQn_succ, List.length_append, ih]; show 4 * n + 4 = _; omega
def rowD (r : List Int) : PyData := .tuple (r.map .int)
def AEn (h g : HallA) (n : Nat) : List (List Int) := (List.range n).flatMap fun x => (List.range h.1).map fun y => EQ h g x y
def AE (h g : HallA) : List (List Int) := AEn h g h.1
theorem AEn_succ (h g : HallA) (n : Nat) : AEn h g (n + 1) = AEn h g n ++ (List.range h.1).map fun y => EQ h g n y := by
  unfold AEn
  rw [List.range_succ, List.flatMap_append, List.flatMap_singleton]
theorem AEn_len (h g : HallA) (n : Nat) : (AEn h g n).length = n * h.1 := by
  induction n with
  | zero => simp [AEn]
  | succ n ih => rw [AEn_succ, List.length_append, ih, List.length_map, List.length_range, Nat.succ_mul]
section
variable {P : Program} {w : World} {K : PySem.W.Frag} {mg : Str → Option Value} {base : Heap} {C : Addr} {σ : L2.St} {H : Hp} {ta tb tc td : TE}
def sp_equation : Sp := PL (fun a : HallA × HallA × Nat × Nat => [.d (hD a.1), .d (hD a.2.1), .d (.int (a.2.2.1 : Int)), .d (.int (a.2.2.2 : Int))]) (fun a => HOk a.1) (fun a => (EQ a.1 a.2.1 a.2.2.1 a.2.2.2).map .int)
theorem e_equation {h g : HallA} {x y : Nat} (h1 : Ev ta σ H (.d (hD h))) (h2 : Ev tb σ H (.d (hD g))) (h3 : Ev tc σ H (.d (.int (x : Int)))) (h4 : Ev td σ H (.d (.int (y : Int)))) (ok : HOk h) : EvF (tCall sp_equation [] C8.E0 (tCons ta (tCons tb (tCons tc (tCons td tNil))))) σ H ((EQ h g x y).map .int) :=
  ev_callL (α := HallA × HallA × Nat × Nat) (h, g, x, y) (ea_cons h1 (ea_cons h2 (ea_cons h3 (ea_cons h4 ea_nil)))) ok
theorem c_equation (T : Tx K mg C) : C8.Cal P w K mg base 3 "equation" sp_equation [] := by
  refine mk_pl T.d_equation sc_equation (fun _ => rfl) (fun f cdv A outer s H vs Q E a hr h ok q => ?_)
  obtain ⟨a, b, x, y⟩ := a
  obtain ⟨u1, u2, u3, u4, rfl, h1, h2, h3, h4⟩ := iss4 h
  replace h1 : Dt H u1 (hD a) := h1
  replace h2 : Dt H u2 (hD b) := h2
  replace h3 : Dt H u3 (.int (x : Int)) := h3
  replace h4 : Dt H u4 (.int (y : Int)) := h4
  replace ok : HOk a := ok
  refine ⟨_, (pss_cons (ps_set (i := 4) sc_equation.nd rfl (Or.inl rfl) (pe_lst pa_nil))
      (pss_cons (ps_for PassesOwn.never rfl (pi_range1 (by rfl) T.b_range (pa_cons (pe_ix (k_ix_tup K rfl) (pv 0) pe_int (fun _ _ => rfl)) pa_nil)) (pg_name (i := 5) sc_equation.nd rfl (Or.inl rfl))
      (pss_cons (ps_asg (C8.pe_c (c_signs_of T) hr (by decide) (by rfl) (pa_cons (pv 0) (pa_cons (pv 2) (pa_cons (pv 5) pa_nil)))) (k_pg_tup K rfl (n := 2) rfl (pgs_cons (pg_name (i := 6) sc_equation.nd rfl (Or.inl rfl)) (pgs_cons (pg_name (i := 7) sc_equation.nd rfl (Or.inl rfl)) pgs_nil))))
      (pss_cons (ps_asg (C8.pe_c (c_signs_of T) hr (by decide) (by rfl) (pa_cons (pv 1) (pa_cons (pv 3) (pa_cons (pv 5) pa_nil)))) (k_pg_tup K rfl (n := 2) rfl (pgs_cons (pg_name (i := 8) sc_equation.nd rfl (Or.inl rfl)) (pgs_cons (pg_name (i := 9) sc_equation.nd rfl (Or.inl rfl)) pgs_nil))))
      (pss_one (ps_expr (k_bm K rfl PySem.F.plainAttrs_list PySem.F.slot_list_extend PySem.F.type_list_extend mt_extend (pv 4) (pa_cons (pe_lst (pa_cons (pe_op op_mul (pv 6) (pv 9)) (pa_cons (pe_op op_mul (pv 6) (pv 8)) (pa_cons (pe_op op_mul (pv 7) (pv 9)) (pa_cons (pe_op op_mul (pv 7) (pv 8)) pa_nil))))) pa_nil)))))))
      (pss_one (ps_ret (pv 4))))), ?_⟩
  refine seq ?_
  refine s_asgF (ev_lst (ds := []) ea_nilD (Nat.zero_le _)) (fun p xs H1 e1 hp0 hp1 hp2 => ?_)
  have hp2' : xs = [] := by cases hp2; rfl
  subst hp2'
  dsimp only
  refine seq ?_
  have h1' := h1.mono (same_tp e1)
  refine s_for (ms := [p]) (ei_rng1 (n := a.1) (ea_cons (ev_hn (ev_varD rfl h1')) ea_nil) (by have := ok.2.1; omega)) (fun Hs es => ?_)
  have hps := es _ _ hp1
  refine ⟨fun i σ' H' => ∃ j5 j6 j7 j8 j9, σ' = [some u1, some u2, some u3, some u4, some (.ref p), j5, j6, j7, j8, j9] ∧ Ch [p] Hs H' ∧ ∃ acc, H' p = some (.lst acc) ∧ Dts H' acc ((EQn a b x y i).map .int), ?_, ?_, ?_, ?_⟩
  · exact ⟨_, _, _, _, _, rfl, Ch.refl _ _, [], hps, .nil⟩
  · rintro i σ' H' ⟨j5, j6, j7, j8, j9, rfl, c, _⟩
    exact c
  · rintro i z σ' H0 H' hi ⟨j5, j6, j7, j8, j9, rfl, c, acc, g1, g2⟩ e hz
    have tp : Tp H H' := ((same_tp (e1.trans es)).trans (c.tp1 hps)).trans (same_tp e)
    have k1 := h1.mono tp
    have k2 := h2.mono tp
    have k3 := h3.mono tp
    have k4 := h4.mono tp
    have g1' := e _ _ g1
    have g2' := g2.mono (same_tp e)
    have c' := c.then e
    replace hz : Dt H' z (.int (i : Int)) := hz
    show tSeq _ _ _ _ _
    refine seq ?_
    refine s_asg2 (e_signs_of (ev_varD rfl k1) (ev_varD rfl k3) (ev_varD rfl hz)) (fun v1 v2 H2 e2 hv1 hv2 => ?_)
    dsimp only
    refine seq ?_
    refine s_asg2 (e_signs_of (ev_varD rfl (k2.mono (same_tp e2))) (ev_varD rfl (k4.mono (same_tp e2))) (ev_varD rfl (hz.mono (same_tp e2)))) (fun v3 v4 H3 e3 hv3 hv4 => ?_)
    dsimp only
    have hv1' := hv1.mono (same_tp e3)
    have hv2' := hv2.mono (same_tp e3)
    have hl := g2'.length
    rw [List.length_map, EQn_len] at hl
    have ok4 := ok.2.1
    refine s_ext (xs := acc) (ds := (EQp a b x y i).map .int) ((e2.trans e3) _ _ g1') (ev_varV rfl) (ev_lst (ea_consD (ev_I (ev_varD rfl hv1') (ev_varD rfl hv4) (cmul_bit _ _)) (ea_consD (ev_I (ev_varD rfl hv1') (ev_varD rfl hv3) (cmul_bit _ _)) (ea_consD (ev_I (ev_varD rfl hv2') (ev_varD rfl hv4) (cmul_bit _ _)) (ea_consD (ev_I (ev_varD rfl hv2') (ev_varD rfl hv3) (cmul_bit _ _)) ea_nilD)))) (by show 4 ≤ 100000; omega)) (by show _ + 4 ≤ 100000; omega) (fun us H4 e4 hus => ?_)
    have hp4 := e4 _ _ ((e2.trans e3) _ _ g1')
    have tp4 : Tp H4 (upd H4 p (.lst (acc ++ us))) := Tp.mut hp4 fun _ z => nomatch z
    refine ⟨_, _, _, _, _, rfl, ((c'.then (e2.trans e3)).then e4).upd (List.mem_singleton.mpr rfl), acc ++ us, upd_same, ?_⟩
    rw [EQn_succ, List.map_append]
    exact ((g2'.mono (same_tp ((e2.trans e3).trans e4))).append hus).mono tp4
  · rintro σ' H' ⟨j5, j6, j7, j8, j9, rfl, c, acc, g1, g2⟩
    dsimp only
    refine s_ret (s := .v (.ref p)) (ev_varV rfl) (fun u H2 e2 hu => ?_)
    have hu' : u = .ref p := hu
    subst hu'
    refine q p acc H2 (Same.trans ?_ e2) hp0 (e2 _ _ g1) (g2.mono (same_tp e2))
    exact c.back (e1.trans es) (fun m hm => by rw [List.mem_singleton] at hm; subst hm; exact hp0)
def sp_all_equations : Sp := PL (fun a : HallA × HallA => [.d (hD a.1), .d (hD a.2)]) (fun a => HOk a.1) (fun a => (AE a.1 a.2).map rowD)
theorem e_all_equations {h g : HallA} (h1 : Ev ta σ H (.d (hD h))) (h2 : Ev tb σ H (.d (hD g))) (ok : HOk h) : EvF (tCall sp_all_equations [] C8.E0 (tCons ta (tCons tb tNil))) σ H ((AE h g).map rowD) :=
  ev_callL (α := HallA × HallA) (h, g) (ea_cons h1 (ea_cons h2 ea_nil)) ok
theorem c_all_equations (T : Tx K mg C) : C8.Cal P w K mg base 4 "all_equations" sp_all_equations [] := by
  refine mk_pl T.d_all_equations sc_all_equations (fun _ => rfl) (fun f cdv A outer s H vs Q E a hr h ok q => ?_)
  obtain ⟨a, b⟩ := a
  obtain ⟨u1, u2, rfl, h1, h2⟩ := iss2 h
  replace h1 : Dt H u1 (hD a) := h1
  replace h2 : Dt H u2 (hD b) := h2
  replace ok : HOk a := ok
  have ok4 := ok.2.1
  refine ⟨_, (pss_cons (ps_set (i := 2) sc_all_equations.nd rfl (Or.inl rfl) (pe_lst pa_nil))
      (pss_cons (ps_for PassesOwn.never rfl (pi_range1 (by rfl) T.b_range (pa_cons (pe_ix (k_ix_tup K rfl) (pv 0) pe_int (fun _ _ => rfl)) pa_nil)) (pg_name (i := 3) sc_all_equations.nd rfl (Or.inr rfl))
      (pss_one (ps_expr (k_bm K rfl PySem.F.plainAttrs_list PySem.F.slot_list_extend PySem.F.type_list_extend mt_extend (pv 2) (pa_cons (pe_lc (own := [("y", 4)]) rfl sc_all_equations.nd (pi_range1 (by rfl) T.b_range (pa_cons (pe_ix (k_ix_tup K rfl) (pv 0) pe_int (fun _ _ => rfl)) pa_nil)) (blkOk_by (own := [("y", 4)]) (N := n_all_equations) (sc := C8.fnScope s_all_equations) (by decide +kernel)) (fun _ _ _ _ _ => (pg_name (i := 4) sc_all_equations.nd rfl (Or.inl rfl))) (fun _ _ _ _ _ => pts_nil) (fun _ _ _ _ _ => (pe_callTy (k_tupQ K rfl) (by rfl) T.b_tuple (by decide +kernel) (pa_cons (C8.pe_c (c_equation T) hr (by decide) (by rfl) (pa_cons (pv 0) (pa_cons (pv 1) (pa_cons (pv 3) (pa_cons (pv 4) pa_nil))))) pa_nil)))) pa_nil)))))
      (pss_one (ps_ret (pv 2))))), ?_⟩
  refine seq ?_
  refine s_asgF (ev_lst (ds := []) ea_nilD (Nat.zero_le _)) (fun p xs H1 e1 hp0 hp1 hp2 => ?_)
  have hp2' : xs = [] := by cases hp2; rfl
  subst hp2'
  dsimp only
  refine seq ?_
  have h1' := h1.mono (same_tp e1)
  refine s_for (ms := [p]) (ei_rng1 (n := a.1) (ea_cons (ev_hn (ev_varD rfl h1')) ea_nil) (by omega)) (fun Hs es => ?_)
  have hps := es _ _ hp1
  refine ⟨fun i σ' H' => ∃ j3, σ' = [some u1, some u2, some (.ref p), j3, none] ∧ Ch [p] Hs H' ∧ ∃ acc, H' p = some (.lst acc) ∧ Dts H' acc ((AEn a b i).map rowD), ?_, ?_, ?_, ?_⟩
  · exact ⟨_, rfl, Ch.refl _ _, [], hps, .nil⟩
  · rintro i σ' H' ⟨j3, rfl, c, _⟩
    exact c
  · rintro i z σ' H0 H' hi ⟨j3, rfl, c, acc, g1, g2⟩ e hz
    have tp : Tp H H' := ((same_tp (e1.trans es)).trans (c.tp1 hps)).trans (same_tp e)
    have k1 := h1.mono tp
    have k2 := h2.mono tp
    have g1' := e _ _ g1
    have g2' := g2.mono (same_tp e)
    have c' := c.then e
    replace hz : Dt H' z (.int (i : Int)) := hz
    have hl := g2'.length
    rw [List.length_map, AEn_len] at hl
    have hm : i * a.1 ≤ 4 * 4 := Nat.mul_le_mul (by omega) ok4
    refine s_ext (xs := acc) (ds := ((List.range a.1).map fun y => EQ a b i y).map rowD) g1' (ev_varV rfl) ?_ (by rw [List.length_map, List.length_map, List.length_range]; omega) (fun us H4 e4 hus => ?_)
    · refine EvF.to (ev_lcN (fun _ => true) (fun y => rowD (EQ a b i y)) (ei_rng1 (n := a.1) (ea_cons (ev_hn (ev_varD rfl k1)) ea_nil) (by omega)) (by omega) (fun _ => rfl) (fun i z H1 hi e hx => et_yes) (fun y v H1 hi e hv _ => ?_)) (by rw [given_all, List.map_map]; rfl)
      exact ev_tupL (EvF.ev (e_equation (ev_varD rfl (k1.mono (same_tp e))) (ev_varD rfl (k2.mono (same_tp e))) (ev_varD rfl (hz.mono (same_tp e))) (ev_varD rfl hv) ok))
    · have hp4 := e4 _ _ g1'
      have tp4 : Tp H4 (upd H4 p (.lst (acc ++ us))) := Tp.mut hp4 fun _ z => nomatch z
      refine ⟨_, rfl, (c'.then e4).upd (List.mem_singleton.mpr rfl), acc ++ us, upd_same, ?_⟩
      rw [AEn_succ, List.map_append]
      exact ((g2'.mono (same_tp e4)).append hus).mono tp4
  · rintro σ' H' ⟨j3, rfl, c, acc, g1, g2⟩
    dsimp only
    refine s_ret (s := .v (.ref p)) (ev_varV rfl) (fun u H2 e2 hu => ?_)
    have hu' : u = .ref p := hu
    subst hu'
    refine q p acc H2 (Same.trans ?_ e2) hp0 (e2 _ _ g1) (g2.mono (same_tp e2))
    exact c.back (e1.trans es) (fun m hm => by rw [List.mem_singleton] at hm; subst hm; exact hp0)
def twoOk (a : HallA × HallA) : Prop := HOk a.1 ∧ HOk a.2 ∧ a.1.1 = a.2.1
def sp_equations : Sp := PF (fun a : HallA × HallA => [.d (hD a.1), .d (hD a.2)]) twoOk (fun a => .d (.tuple ((AE a.1 a.2).map rowD)))
theorem e_equations {h g : HallA} (h1 : Ev ta σ H (.d (hD h))) (h2 : Ev tb σ H (.d (hD g))) (ok : twoOk (h, g)) : Ev (tCall sp_equations [] C8.E0 (tCons ta (tCons tb tNil))) σ H (.d (.tuple ((AE h g).map rowD))) :=
  ev_call (α := HallA × HallA) (h, g) (ea_cons h1 (ea_cons h2 ea_nil)) ok
theorem c_equations (T : Tx K mg C) : C8.Cal P w K mg base 7 "equations" sp_equations [] := by
  refine mk_pf T.d_equations sc_equations (fun _ => rfl) (fun f cdv A outer s H vs Q E a hr h ok q => ?_)
  obtain ⟨a, b⟩ := a
  obtain ⟨u1, u2, rfl, h1, h2⟩ := iss2 h
  replace h1 : Dt H u1 (hD a) := h1
  replace h2 : Dt H u2 (hD b) := h2
  refine ⟨_, (pss_cons (ps_expr (C8.pe_c (c_need_halls T) hr (by decide) (by rfl) (pa_cons (pv 0) (pa_cons (pv 1) pa_nil))))
      (pss_one (ps_ret (pe_callTy (k_tupQ K rfl) (by rfl) T.b_tuple (by decide +kernel) (pa_cons (C8.pe_c (c_all_equations T) hr (by decide) (by rfl) (pa_cons (pv 0) (pa_cons (pv 1) pa_nil))) pa_nil))))), ?_⟩
  refine seq ?_
  refine s_drop (e_need_halls (ev_varD rfl h1) (ev_varD rfl h2) ok) (fun H1 e1 => ?_)
  dsimp only
  exact s_ret (ev_tupL (EvF.ev (e_all_equations (ev_varD rfl (h1.mono (same_tp e1))) (ev_varD rfl (h2.mono (same_tp e1))) ok.1))) (fun u H2 e2 hu => q u H2 (e1.trans e2) hu)
end
end TF
/-! P5 -/
namespace TF
open PySem PySem.Spec PyProof.Rows L2

/-! bits -/
theorem bitAnd_nat (n m : Nat) : Builtin.bitAnd (n : Int) (m : Int) = ((n &&& m : Nat) : Int) := by
  unfold Builtin.bitAnd
  rw [decide_eq_true (show (0 : Int) ≤ n by omega), decide_eq_true (show (0 : Int) ≤ m by omega)]
  rfl
theorem bitOr_nat (n m : Nat) : Builtin.bitOr (n : Int) (m : Int) = ((n ||| m : Nat) : Int) := by
  have e1 : Builtin.bitNot (n : Int) = -(n : Int) - 1 := rfl
  have e2 : Builtin.bitNot (m : Int) = -(m : Int) - 1 := rfl
  unfold Builtin.bitOr Builtin.bitAnd
  rw [decide_eq_false (show ¬ (0 : Int) ≤ Builtin.bitNot (n : Int) by omega), decide_eq_false (show ¬ (0 : Int) ≤ Builtin.bitNot (m : Int) by omega)]
  show Builtin.bitNot (Builtin.bitNot ((_ : Nat) : Int)) = _
  have e3 : ∀ x : Int, Builtin.bitNot (Builtin.bitNot x) = x := fun x => by show -(-x - 1) - 1 = x; omega
  rw [e3, e3, e3, Int.toNat_natCast, Int.toNat_natCast]
theorem and_mod2 (n m : Nat) : (n &&& m) % 2 = (n % 2) * (m % 2) := by
  have h : (n &&& m) % 2 = (n % 2) &&& (m % 2) := Nat.and_mod_two_pow (n := 1)
  rw [h]
  rcases Nat.mod_two_eq_zero_or_one n with a | a <;> rcases Nat.mod_two_eq_zero_or_one m with b | b <;> rw [a, b] <;> rfl
theorem or_mod2 (n m : Nat) : (n ||| m) % 2 + (n % 2) * (m % 2) = n % 2 + m % 2 := by
  have h : (n ||| m) % 2 = (n % 2) ||| (m % 2) := Nat.or_mod_two_pow (n := 1)
  rw [h]
  rcases Nat.mod_two_eq_zero_or_one n with a | a <;> rcases Nat.mod_two_eq_zero_or_one m with b | b <;> rw [a, b] <;> rfl
theorem xor_mod2 (n m : Nat) : (n ^^^ m) % 2 + 2 * ((n % 2) * (m % 2)) = n % 2 + m % 2 := by
  have h : (n ^^^ m) % 2 = (n % 2) ^^^ (m % 2) := Nat.xor_mod_two_pow (n := 1)
  rw [h]
  rcases Nat.mod_two_eq_zero_or_one n with a | a <;> rcases Nat.mod_two_eq_zero_or_one m with b | b <;> rw [a, b] <;> rfl
theorem or_and_xor (n : Nat) : ∀ m : Nat, (n ||| m) = (n ^^^ m) + (n &&& m) := by
  induction n using Nat.strongRecOn with
  | _ n ih =>
    intro m
    by_cases h : n = 0
    · subst h; simp
    · have i1 := ih (n / 2) (by omega) (m / 2)
      have a1 : (n ||| m) / 2 = (n / 2) ||| (m / 2) := Nat.or_div_two
      have a2 : (n ^^^ m) / 2 = (n / 2) ^^^ (m / 2) := Nat.xor_div_two
      have a3 : (n &&& m) / 2 = (n / 2) &&& (m / 2) := Nat.and_div_two
      have b1 := or_mod2 n m
      have b2 := xor_mod2 n m
      have b3 := and_mod2 n m
      rw [← a1, ← a2, ← a3] at i1
      rw [← b3] at b1 b2
      omega
theorem bitXor_nat (n m : Nat) : Builtin.bitXor (n : Int) (m : Int) = ((n ^^^ m : Nat) : Int) := by
  unfold Builtin.bitXor
  rw [bitOr_nat, bitAnd_nat, or_and_xor]
  omega
def redP (hs : List Nat) (r : Nat) : Nat := hs.foldl (fun r h => min r (r ^^^ h)) r
def stepP (hs : List Nat) (r : Nat) : List Nat := if redP hs r = 0 then hs else hs ++ [redP hs r]
def headsP (ns : List Nat) : List Nat := ns.foldl stepP []
theorem stepP_len (hs : List Nat) (r : Nat) : (stepP hs r).length ≤ hs.length + 1 := by
  unfold stepP
  split
  · omega
  · rw [List.length_append]; exact Nat.le_refl _
theorem take_foldl {α β : Type} (f : β → α → β) (b : β) (xs : List α) (i : Nat) (h : i < xs.length) : (xs.take (i + 1)).foldl f b = f ((xs.take i).foldl f b) xs[i] := by
  rw [← List.take_append_getElem h, List.foldl_append]
  rfl
theorem headsP_len (ns : List Nat) (i : Nat) (h : i ≤ ns.length) : (headsP (ns.take i)).length ≤ i := by
  induction i with
  | zero => exact Nat.le_refl _
  | succ i ih =>
    unfold headsP
    rw [take_foldl _ _ _ _ h]
    have := stepP_len ((ns.take i).foldl stepP []) ns[i]
    have := ih (by omega)
    unfold headsP at this
    omega
def natsD (ns : List Nat) : List PyData := ns.map fun n : Nat => .int (n : Int)
theorem natsD_get {ns : List Nat} {i : Nat} (h : i < ns.length) : (natsD ns).getD i .none = .int ((ns[i] : Nat) : Int) := getD_of (by unfold natsD; rw [List.getElem?_map, List.getElem?_eq_getElem h]; rfl)
section
variable {P : Program} {w : World} {K : PySem.W.Frag} {mg : Str → Option Value} {base : Heap} {C : Addr} {σ : L2.St} {H : Hp} {ta tb tc td : TE}
/-- a list known by a name -/
theorem ei_lstV {ms : List Addr} {i : Nat} {a : Addr} {xs : List V} {ds : List PyData} (hσ : σ[i]? = some (some (.ref a))) (h : H a = some (.lst xs)) (hd : Dts H xs ds) (ha : a ∉ ms) (hm : MsL ms H) : EvI ms (iList K (tVar i)) σ H ds.length (fun i => .d (ds.getD i .none)) :=
  ei_lstD (fun H1 e Q q => ⟨_, hσ, q a xs H1 (Same.refl _) ha (e _ _ h) (hd.mono (same_tp e))⟩) hm
theorem ms_one {p : Addr} {H : Hp} {xs : List V} (h : H p = some (.lst xs)) : MsL [p] H := fun m hm => by
  rw [List.mem_singleton] at hm
  subst hm
  exact ⟨_, h, fun _ z => nomatch z⟩
def sp_rank_of_rows : Sp := PF (fun ns : List Nat => [.t (natsD ns)]) (fun ns => ns.length ≤ 1000) (fun ns => .d (.int (((headsP ns).length : Nat) : Int)))
theorem e_rank_of_rows {ns : List Nat} (h : Ev ta σ H (.t (natsD ns))) (hn : ns.length ≤ 1000) : Ev (tCall sp_rank_of_rows [] C8.E0 (tCons ta tNil)) σ H (.d (.int (((headsP ns).length : Nat) : Int))) := ev_call ns (ea_cons h ea_nil) hn
theorem c_rank_of_rows (T : Tx K mg C) : C8.Cal P w K mg base 1 "rank_of_rows" sp_rank_of_rows [] := by
  refine mk_pf T.d_rank_of_rows sc_rank_of_rows (fun _ => rfl) (fun f cdv A outer s H vs Q E a hr h ok q => ?_)
  obtain ⟨u1, rfl, h1⟩ := iss1 h
  obtain ⟨r, rs, rfl, h2, h3⟩ := is_t.mp h1
  replace ok : a.length ≤ 1000 := ok
  refine ⟨_, (pss_cons (ps_set (i := 1) sc_rank_of_rows.nd rfl (Or.inl rfl) (pe_lst pa_nil))
      (pss_cons (ps_for PassesOwn.never rfl (k_pi_list K rfl (pv 0)) (pg_name (i := 2) sc_rank_of_rows.nd rfl (Or.inl rfl))
      (pss_cons (ps_for PassesOwn.never rfl (k_pi_list K rfl (pv 1)) (pg_name (i := 3) sc_rank_of_rows.nd rfl (Or.inl rfl))
      (pss_one (ps_set (i := 2) sc_rank_of_rows.nd rfl (Or.inl rfl) (pe_callB (c_min2 rfl) (by rfl) T.b_min (by decide +kernel) (pa_cons (pv 2) (pa_cons (pe_op op_xor (pv 2) (pv 3)) pa_nil))))))
      (pss_one (ps_if (pt_cmpR op_ne (pv 2) pe_int (by rfl))
      (pss_one (ps_expr (k_bm K rfl PySem.F.plainAttrs_list PySem.F.slot_list_append PySem.F.type_list_append mt_append (pv 1) (pa_cons (pv 2) pa_nil))))
      pss_nil))))
      (pss_one (ps_ret (pe_callB (k_lenQ K rfl) (by rfl) T.b_len (by decide +kernel) (pa_cons (pv 1) pa_nil)))))), ?_⟩
  refine seq ?_
  refine s_asgF (ev_lst (ds := []) ea_nilD (Nat.zero_le _)) (fun p xs H1 e1 hp0 hp1 hp2 => ?_)
  have hp2' : xs = [] := by cases hp2; rfl
  subst hp2'
  dsimp only
  refine seq ?_
  have hrp : r ∉ [p] := fun z => by
    rw [List.mem_singleton] at z
    subst z
    rw [h2] at hp0; cases hp0
  have hlen : (natsD a).length = a.length := List.length_map _
  refine s_for (ms := [p]) (ei_lstV rfl (e1 _ _ h2) (h3.mono (same_tp e1)) hrp (ms_one hp1)) (fun Hs es => ?_)
  have hps := es _ _ hp1
  refine ⟨fun i σ' H' => ∃ j2 j3, σ' = [some (.ref r), some (.ref p), j2, j3] ∧ Ch [p] Hs H' ∧ ∃ acc, H' p = some (.lst acc) ∧ Dts H' acc (natsD (headsP (a.take i))), ?_, ?_, ?_, ?_⟩
  · exact ⟨_, _, rfl, Ch.refl _ _, [], hps, .nil⟩
  · rintro i σ' H' ⟨j2, j3, rfl, c, _⟩
    exact c
  · rintro i z σ' H0 H' hi ⟨j2, j3, rfl, c, acc, g1, g2⟩ e hz
    have hi' : i < a.length := by rw [hlen] at hi; exact hi
    have g1' := e _ _ g1
    have g2' := g2.mono (same_tp e)
    have c' := c.then e
    have hz' : Dt H' z ((natsD a).getD i .none) := hz
    rw [natsD_get hi'] at hz'
    have ez := hz'.intE
    subst ez
    have hhl := headsP_len a i (by omega)
    show tSeq _ _ _ _ _
    refine seq ?_
    refine s_for (ms := []) (ei_lstV rfl g1' g2' (fun z => nomatch z) (fun _ h => nomatch h)) (fun Ht et => ?_)
    refine ⟨fun k σ' H' => ∃ j3, σ' = [some (.ref r), some (.ref p), some (.int ((redP ((headsP (a.take i)).take k) a[i] : Nat) : Int)), j3] ∧ Same Ht H', ?_, ?_, ?_, ?_⟩
    · exact ⟨_, rfl, Same.refl _⟩
    · rintro k σ' H' ⟨j3, rfl, c⟩
      exact same_ch c
    · rintro k y σ' H0 H'' hk ⟨j3, rfl, c2⟩ e2 hy
      have hk' : k < (headsP (a.take i)).length := by
        have : (natsD (headsP (a.take i))).length = (headsP (a.take i)).length := List.length_map _
        rw [this] at hk
        exact hk
      have hy' : Dt H'' y ((natsD (headsP (a.take i))).getD k .none) := hy
      rw [natsD_get hk'] at hy'
      refine s_asgE (ev_min2 (ev_varD rfl (.int _)) (ev_I0 (ev_varD rfl (.int _)) (ev_varD rfl hy'))) (s' := .d (.int ((redP ((headsP (a.take i)).take (k + 1)) a[i] : Nat) : Int))) ?_ (fun u H3 e3 hu => ?_)
      · rw [bitXor_nat]
        unfold redP
        rw [take_foldl _ _ _ _ hk']
        have e5 : ∀ n m : Nat, min (n : Int) (m : Int) = ((min n m : Nat) : Int) := fun n m => by omega
        rw [e5]
      · have hu' : u = _ := Dt.intE hu
        subst hu'
        exact ⟨_, rfl, (c2.trans e2).trans e3⟩
    · rintro σ' H'' ⟨j3, rfl, c2⟩
      have el : (natsD (headsP (a.take i))).length = (headsP (a.take i)).length := List.length_map _
      rw [el, List.take_length]
      dsimp only
      have g1'' := c2 _ _ (et _ _ g1')
      have g2'' := g2'.mono (same_tp (et.trans c2))
      have ehs : headsP (a.take (i + 1)) = stepP (headsP (a.take i)) a[i] := by
        unfold headsP
        rw [take_foldl _ _ _ _ hi']
      refine s_ifE (c := !decide (redP (headsP (a.take i)) a[i] = 0)) (et_test (ev_neI (ev_varD rfl (.int _)) ev_int)) (by rw [show (0 : Int) = ((0 : Nat) : Int) from rfl, dec_nat]) (fun hb H3 e3 => ?_) (fun hb H3 e3 => ?_)
      · have hl := g2''.length
        rw [el] at hl
        refine s_app (xs := acc) (e3 _ _ g1'') (ev_varV rfl) (ev_varD rfl (.int _)) (by omega) (fun u H4 e4 hu => ?_)
        have hp4 := e4 _ _ (e3 _ _ g1'')
        have tp4 : Tp H4 (upd H4 p (.lst (acc ++ [u]))) := Tp.mut hp4 fun _ z => nomatch z
        refine ⟨_, _, rfl, (((c'.then (et.trans c2)).then e3).then e4).upd (List.mem_singleton.mpr rfl), acc ++ [u], upd_same, ?_⟩
        have hb' : ¬ redP (headsP (a.take i)) a[i] = 0 := by simpa using hb
        have en : natsD (stepP (headsP (a.take i)) a[i]) = natsD (headsP (a.take i)) ++ [.int ((redP (headsP (a.take i)) a[i] : Nat) : Int)] := by
          unfold stepP
          rw [if_neg hb']
          exact List.map_append
        rw [ehs, en]
        exact ((g2''.mono (same_tp (e3.trans e4))).snoc hu).mono tp4
      · refine s_next ⟨_, _, rfl, ((c'.then (et.trans c2)).then e3), acc, e3 _ _ g1'', ?_⟩
        have hb' : redP (headsP (a.take i)) a[i] = 0 := by simpa using hb
        have en : stepP (headsP (a.take i)) a[i] = headsP (a.take i) := by
          unfold stepP
          rw [if_pos hb']
        rw [ehs, en]
        exact g2''.mono (same_tp e3)
  · rintro σ' H' ⟨j2, j3, rfl, c, acc, g1, g2⟩
    dsimp only
    rw [hlen, List.take_length] at g2
    have cb : Same H H' := c.back (e1.trans es) (fun m hm => by rw [List.mem_singleton] at hm; subst hm; exact hp0)
    refine s_retE (ev_lenL (ds := natsD (headsP a)) (ev_var rfl (is_t.mpr ⟨p, acc, rfl, g1, g2⟩))) ?_ (fun u H2 e2 hu => q u H2 (cb.trans e2) hu)
    have : (natsD (headsP a)).length = (headsP a).length := List.length_map _
    rw [this]
end
end TF
/-! P6 -/
namespace TF
open PySem PySem.Spec PyProof.Rows L2

def EQbp (h g : HallA) (x y p : Nat) : List Bool := [decide (x = p) && adj g.2 y p, decide (x = p) && decide (y = p), adj h.2 x p && adj g.2 y p, adj h.2 x p && decide (y = p)]
def EQb (h g : HallA) (x y : Nat) : List Bool := (List.range h.1).flatMap (EQbp h g x y)
def AEb (h g : HallA) : List (List Bool) := (List.range h.1).flatMap fun x => (List.range h.1).map fun y => EQb h g x y
theorem bit_and (a b : Bool) : bit a * bit b = bit (a && b) := by cases a <;> cases b <;> rfl
theorem EQ_bits (h g : HallA) (x y : Nat) : EQ h g x y = (EQb h g x y).map bit := by
  unfold EQ EQn EQb
  rw [List.map_flatMap]
  congr 1
  funext p
  unfold EQp EQbp
  rw [bit_and, bit_and, bit_and, bit_and]
  rfl
theorem AE_bits (h g : HallA) : AE h g = (AEb h g).map fun r => r.map bit := by
  unfold AE AEn AEb
  rw [List.map_flatMap]
  congr 1
  funext x
  rw [List.map_map]
  congr 1
  funext y
  exact EQ_bits h g x y
def enc : List Bool → Nat
  | [] => 0
  | b :: bs => b.toNat + 2 * enc bs
theorem EQb_len (h g : HallA) (x y : Nat) : (EQb h g x y).length = 4 * h.1 := by
  have e := EQn_len h g x y h.1
  have e2 : (EQ h g x y).length = ((EQb h g x y).map bit).length := by rw [EQ_bits]
  rw [List.length_map] at e2
  rw [← e2]
  exact e
theorem AEb_row {h g : HallA} {r : List Bool} (hr : r ∈ AEb h g) : r.length = 4 * h.1 := by
  unfold AEb at hr
  rw [List.mem_flatMap] at hr
  obtain ⟨x, _, hx⟩ := hr
  rw [List.mem_map] at hx
  obtain ⟨y, _, rfl⟩ := hx
  exact EQb_len h g x y
theorem AEb_len (h g : HallA) : (AEb h g).length = h.1 * h.1 := by
  have e := AEn_len h g h.1
  have e2 : (AE h g).length = ((AEb h g).map fun r => r.map bit).length := by rw [AE_bits]
  rw [List.length_map] at e2
  rw [← e2]
  exact e
theorem enc_sum (bs : List Bool) : ((List.range bs.length).map fun i : Nat => bit (bs.getD i false) * 2 ^ i).sum = ((enc bs : Nat) : Int) := by
  induction bs with
  | nil => rfl
  | cons b bs ih =>
    rw [List.length_cons, List.range_succ_eq_map, List.map_cons, List.sum_cons, List.map_map]
    have e : ((List.range bs.length).map ((fun i : Nat => bit ((b :: bs).getD i false) * 2 ^ i) ∘ Nat.succ)) = (List.range bs.length).map fun i : Nat => 2 * (bit (bs.getD i false) * 2 ^ i) := by
      refine List.map_congr_left fun i _ => ?_
      show bit (bs.getD i false) * 2 ^ (i + 1) = _
      rw [Int.pow_succ, ← Int.mul_assoc, Int.mul_comm _ (2 : Int)]
    rw [e]
    have e2 : ∀ l : List Nat, (l.map fun i : Nat => 2 * (bit (bs.getD i false) * 2 ^ i)).sum = 2 * (l.map fun i : Nat => bit (bs.getD i false) * 2 ^ i).sum := fun l => by
      induction l with
      | nil => rfl
      | cons a l ih => rw [List.map_cons, List.map_cons, List.sum_cons, List.sum_cons, ih, Int.mul_add]
    rw [e2, ih]
    show bit b * 2 ^ 0 + 2 * (enc bs : Int) = ((b.toNat + 2 * enc bs : Nat) : Int)
    cases b <;> simp [bit]
theorem rowD_get {bs : List Bool} {i : Nat} (h : i < bs.length) : ((bs.map bit).map PyData.int).getD i .none = .int (bit (bs.getD i false)) := getD_of (by
  rw [List.getElem?_map, List.getElem?_map, List.getElem?_eq_getElem h, List.getD_eq_getElem?_getD, List.getElem?_eq_getElem h]
  rfl)
section
variable {P : Program} {w : World} {K : PySem.W.Frag} {mg : Str → Option Value} {base : Heap} {C : Addr} {σ : L2.St} {H : Hp} {ta tb tc td : TE}
def freeN (h g : HallA) : Nat := (headsP ((AEb h g).map enc)).length
def sp_free_signs : Sp := PF (fun a : HallA × HallA => [.d (hD a.1), .d (hD a.2)]) twoOk (fun a => .d (.int (4 * (a.1.1 : Int) - ((freeN a.1 a.2 : Nat) : Int))))
theorem e_free_signs {h g : HallA} (h1 : Ev ta σ H (.d (hD h))) (h2 : Ev tb σ H (.d (hD g))) (ok : twoOk (h, g)) : Ev (tCall sp_free_signs [] C8.E0 (tCons ta (tCons tb tNil))) σ H (.d (.int (4 * (h.1 : Int) - ((freeN h g : Nat) : Int)))) :=
  ev_call (α := HallA × HallA) (h, g) (ea_cons h1 (ea_cons h2 ea_nil)) ok
theorem cshl (b : Bool) (i : Nat) (h : i ≤ 1000) : CPow (bit b) (i : Int) := ⟨by omega, by omega, by cases b <;> decide⟩
theorem c_free_signs (T : Tx K mg C) : C8.Cal P w K mg base 7 "free_signs" sp_free_signs [] := by
  refine mk_pf T.d_free_signs sc_free_signs (fun _ => rfl) (fun f cdv A outer s H vs Q E a hr h ok q => ?_)
  obtain ⟨a, b⟩ := a
  obtain ⟨u1, u2, rfl, h1, h2⟩ := iss2 h
  replace h1 : Dt H u1 (hD a) := h1
  replace h2 : Dt H u2 (hD b) := h2
  replace ok : twoOk (a, b) := ok
  have ok4 : a.1 ≤ 4 := ok.1.2.1
  have hn16 : a.1 * a.1 ≤ 4 * 4 := Nat.mul_le_mul ok4 ok4
  refine ⟨_, (pss_cons (ps_expr (C8.pe_c (c_need_halls T) hr (by decide) (by rfl) (pa_cons (pv 0) (pa_cons (pv 1) pa_nil))))
      (pss_cons (ps_setLc (own := [("row", 3)]) (i := 2) rfl sc_free_signs.nd rfl rfl (sw_true rfl rfl rfl (by decide +kernel)) (k_pi_list K rfl (C8.pe_c (c_all_equations T) hr (by decide) (by rfl) (pa_cons (pv 0) (pa_cons (pv 1) pa_nil)))) (blkOk_by (own := [("row", 3)]) (N := n_free_signs) (sc := C8.fnScope s_free_signs) (by decide +kernel)) (fun _ _ _ _ _ => (pg_name (i := 3) sc_free_signs.nd rfl (Or.inl rfl))) (fun _ _ _ _ _ => pts_nil) (fun _ _ _ _ _ => (pe_callB (k_sum K rfl rfl) (by rfl) T.b_sum (by decide +kernel) (pa_cons (pe_lc (own := [("at", 4), ("sign", 5)]) rfl sc_free_signs.nd (k_pi_enumT K rfl (by rfl) T.b_enumerate (pa_cons (pv 3) pa_nil)) (blkOk_nf (own := [("at", 4), ("sign", 5)]) (N := n_free_signs) (by decide +kernel)) (fun _ _ _ _ _ => (k_pg_tup K rfl (n := 2) rfl (pgs_cons (pg_name (i := 4) sc_free_signs.nd rfl (Or.inl rfl)) (pgs_cons (pg_name (i := 5) sc_free_signs.nd rfl (Or.inl rfl)) pgs_nil)))) (fun _ _ _ _ _ => pts_nil) (fun _ _ _ _ _ => (pe_op op_shl (pv 5) (pv 4)))) pa_nil))))
      (pss_one (ps_ret (pe_op op_sub (pe_op op_mul pe_int (pe_ix (k_ix_tup K rfl) (pv 0) pe_int (fun _ _ => rfl))) (C8.pe_c (c_rank_of_rows T) hr (by decide) (by rfl) (pa_cons (pv 2) pa_nil))))))), ?_⟩
  refine seq ?_
  refine s_drop (e_need_halls (ev_varD rfl h1) (ev_varD rfl h2) ok) (fun H1 e1 => ?_)
  dsimp only
  refine seq ?_
  have hlen : ((AE a b).map rowD).length = a.1 * a.1 := by rw [List.length_map, AE_bits, List.length_map, AEb_len]
  refine s_asgFE (es := natsD ((AEb a b).map enc)) (ev_lcN (fun _ => true) (fun i => .int (((enc ((AEb a b).getD i []) : Nat) : Int))) (ei_lstF (e_all_equations (ev_varD rfl (h1.mono (same_tp e1))) (ev_varD rfl (h2.mono (same_tp e1))) ok.1) (fun _ h => nomatch h)) (by rw [hlen]; omega) (fun _ => rfl) (fun i z H1 hi e hx => et_yes) (fun i z H2 hi e hz _ => ?_)) ?_ (fun p xs H2 e2 h20 h21 h22 => ?_)
  · rw [hlen] at hi
    have hi' : i < (AEb a b).length := by rw [AEb_len]; exact hi
    have er : (AEb a b).getD i [] = (AEb a b)[i] := by rw [List.getD_eq_getElem?_getD, List.getElem?_eq_getElem hi']; rfl
    have hl := AEb_row (List.getElem_mem hi')
    have hz' : Dt H2 z (rowD ((AEb a b)[i].map bit)) := by
      have : Dt H2 z (((AE a b).map rowD).getD i .none) := hz
      rw [getD_of (d := rowD ((AEb a b)[i].map bit)) (by rw [AE_bits, List.map_map, List.getElem?_map, List.getElem?_eq_getElem hi']; rfl)] at this
      exact this
    rw [er]
    generalize (AEb a b)[i] = r at hl hz'
    have hl2 : ((r.map bit).map PyData.int).length = r.length := by rw [List.length_map, List.length_map]
    refine Ev.to (ev_sum (ns := (List.range r.length).map fun i : Nat => bit (r.getD i false) * 2 ^ i) (EvF.ev (EvF.to (ev_lc2N (ix := fun i => .int (i : Nat)) (iy := fun i => ((r.map bit).map PyData.int).getD i .none) (fun _ => true) (fun i => .int (bit (r.getD i false) * 2 ^ i)) (ei_enumT (ea_cons (ev_varD rfl hz') ea_nil) (fun _ h => nomatch h)) (fun _ => rfl) (by rw [hl2]; omega) (fun _ _ => rfl) (fun i x y H1 hi e hx hy => et_yes) (fun i x y H1 hi e hx hy _ => ?_)) ?_))) (by rw [enc_sum])
    · rw [hl2] at hi
      rw [rowD_get hi] at hy
      exact Ev.to (ev_I (ev_varD rfl hy) (ev_varD rfl hx) (cshl _ _ (by omega))) rfl
    · rw [given_all, hl2, List.map_map]
      rfl
  · rw [given_all, hlen]
    unfold natsD
    rw [List.map_map]
    have e : a.1 * a.1 = (AEb a b).length := (AEb_len a b).symm
    rw [e]
    refine List.ext_getElem (by rw [List.length_map, List.length_map, List.length_range]) fun i h1 h2 => ?_
    rw [List.getElem_map, List.getElem_map, List.getElem_range]
    have hi : i < (AEb a b).length := by rw [List.length_map] at h2; exact h2
    rw [List.getD_eq_getElem?_getD, List.getElem?_eq_getElem hi]
    rfl
  · dsimp only
    have h1' := h1.mono (same_tp (e1.trans e2))
    refine s_retE (ev_I0 (ev_I ev_int (ev_hn (ev_varD rfl h1')) (by left; exact ⟨by decide, by decide⟩)) (e_rank_of_rows (ns := (AEb a b).map enc) (ev_var rfl (is_t.mpr ⟨p, xs, rfl, h21, h22⟩)) (by rw [List.length_map, AEb_len]; omega))) rfl (fun u H3 e3 hu => q u H3 ((e1.trans e2).trans e3) hu)
end
end TF
/-! P7 -/
namespace TF
open PySem PySem.Spec PyProof.Rows L2

/-- the row of the draws; S: the written part, and where the script stands -/
abbrev Scr := PySem.W.Frag × Addr
def InK (S : Scr) : Prop := ∃ ns : List Int, ∀ H, SqL S.1 H S.2 (ns.map V.int)
theorem sqL_cases {S : Scr} {H : Hp} {ns : List Int} (h : SqL S.1 H S.2 (ns.map V.int)) : Rd H S.2 (.lst (ns.map V.int)) ∨ InK S := h.elim .inl fun z => .inr ⟨ns, fun _ => .inr z⟩
theorem sqL_same {K : PySem.W.Frag} {a : Addr} {xs : List V} {H H' : Hp} (h : SqL K H a xs) (e : Same H H') : SqL K H' a xs := by
  rcases h with (h | ⟨o, h⟩) | h
  · exact .inl (.inl (e _ _ h))
  · exact .inl (.inr ⟨o, e _ _ h⟩)
  · exact .inr h
def RowOk (S : Scr) (r : Addr) (H : Hp) : Prop := ∃ i s g, ∃ ns : List Int, H r = some (.lst [.ref S.2, .int i, .int s, .int g]) ∧ 0 ≤ i ∧ SqL S.1 H S.2 (ns.map V.int)
theorem RowOk.same {S : Scr} {r : Addr} {H H' : Hp} (h : RowOk S r H) (e : Same H H') : RowOk S r H' := by
  obtain ⟨i, s, g, ns, h1, h2, h3⟩ := h
  exact ⟨i, s, g, ns, e _ _ h1, h2, sqL_same h3 e⟩
theorem RowOk.ms {S : Scr} {r : Addr} {H : Hp} (h : RowOk S r H) : MsL [r] H := by
  obtain ⟨i, s, g, ns, h1, h2, h3⟩ := h
  exact ms_one h1
theorem sqL_mut {S : Scr} {H : Hp} {ns : List Int} (h : SqL S.1 H S.2 (ns.map V.int)) {D : Addr} {o : HO} (h2 : S.2 ≠ D ∨ InK S) : ∃ ns' : List Int, SqL S.1 (upd H D o) S.2 (ns'.map V.int) := by
  rcases h2 with h2 | ⟨ns', h2⟩
  · refine ⟨ns, ?_⟩
    rcases h with (h | ⟨o, h⟩) | h
    · exact .inl (.inl (by rw [upd_ne h2]; exact h))
    · exact .inl (.inr ⟨o, by rw [upd_ne h2]; exact h⟩)
    · exact .inr h
  · exact ⟨ns', h2 _⟩
theorem RowOk.mut {S : Scr} {r : Addr} {H : Hp} (h : RowOk S r H) {D : Addr} {o : HO} (h1 : r ≠ D) (h2 : S.2 ≠ D ∨ InK S) : RowOk S r (upd H D o) := by
  obtain ⟨i, s, g, ns, k1, k2, k3⟩ := h
  obtain ⟨ns', k4⟩ := sqL_mut (o := o) k3 h2
  exact ⟨i, s, g, ns', by rw [upd_ne h1]; exact k1, k2, k4⟩
theorem RowOk.ne0 {S : Scr} {r : Addr} {H : Hp} (h : RowOk S r H) {D : Addr} (hD : H D = none) : r ≠ D ∧ (S.2 ≠ D ∨ InK S) := by
  obtain ⟨i, s, g, ns, k1, k2, k3⟩ := h
  refine ⟨ne_of_none k1 hD, ?_⟩
  rcases sqL_cases k3 with (h | ⟨o, h⟩) | h
  · exact .inl (ne_of_none h hD)
  · exact .inl (ne_of_none h hD)
  · exact .inr h
theorem RowOk.ne {S : Scr} {r : Addr} {H : Hp} {i s g : Int} {ns : List Int} (h1 : H r = some (.lst [.ref S.2, .int i, .int s, .int g])) (h3 : SqL S.1 H S.2 (ns.map V.int)) : S.2 ≠ r ∨ InK S := by
  rcases sqL_cases h3 with (h | ⟨o, h⟩) | h
  · left
    intro e
    rw [e, h1] at h
    injection h with h
    injection h with h
    cases ns with
    | nil => cases h
    | cons n ns => rw [List.map_cons] at h; injection h with h _; cases h
  · left
    intro e
    rw [e, h1] at h
    injection h with h
    cases h
  · exact .inr h
section
variable {P : Program} {w : World} {K : PySem.W.Frag} {mg : Str → Option Value} {base : Heap} {C : Addr} {σ : L2.St} {H : Hp} {ta tb tc td : TE}
theorem ev_ixR {r : Addr} {xs : List V} {i : Nat} {v : V} {s : Ds} (hr : H r = some (.lst xs)) (ha : Ev ta σ H (.v (.ref r))) (hb : Ev tb σ H (.d (.int (i : Int)))) (hx : xs[i]? = some v) (hs : Is H s v) : Ev (tOp (rIxL K) ta tb) σ H s :=
  ev_op2 ha hb fun u z H1 e hu hv Q q => by
    rw [is_v.mp hu, (is_d.mp hv).intE]
    exact ⟨r, xs, _, v, rfl, rfl, SqL.of (e _ _ hr), atI_nat hx, q _ H1 (Same.refl H1) (Is.same e _ _ hs)⟩
/-- a def that draws from the row, its first argument -/
def PM (K : PySem.W.Frag) {α : Type} (args : α → List Ds) (ok : α → Prop) (p : α → PyData → Prop) : Sp := fun vs H Q _ => ∃ S r : Addr, ∃ a, ∃ us, vs = .ref r :: us ∧ Iss H (args a) us ∧ ok a ∧ RowOk (K, S) r H ∧ ∀ u d H2, Ch [r] H H2 → RowOk (K, S) r H2 → p a d → Dt H2 u d → Q u H2
theorem mk_pm {N ps : List Str} {x : Str} {st : Stmt} {k : Nat} {α : Type} {args : α → List Ds} {ok : α → Prop} {p : α → PyData → Prop} (F : DefB K mg x st ps) (S : FnScope N ps (C8.fnScope st)) (hl : ∀ a, (args a).length + 1 = ps.length)
    (body : ∀ (f : Addr) (cdv : Value) (A : Around) (outer : List Env) (s : Shared) (H : Hp) (vs : List V) (Q : VK) (E : XK) (S r : Addr) (a : α) (us : List V), vs = .ref r :: us → Room k (A.deeper (envOfC x (C8.fnScope st) s.heap.objs.size f cdv)) → Iss H (args a) us → ok a → RowOk (K, S) r H → (∀ u d H2, Ch [r] H H2 → RowOk (K, S) r H2 → p a d → Dt H2 u d → Q u H2) →
      ∃ t, PSs (cxOf C8.CX0 P w K mg base N x (C8.fnScope st) f cdv A outer s H E).nox (C8.fnBody st) t ∧ t { nx := fun _ H' => Q .non H', rt := Q } (start N vs) H) : C8.Cal P w K mg base (k + 1) x (PM K args ok p) [] :=
  mk_sp F S (fun vs H Q E ⟨S, r, a, us, e, h, _⟩ => by rw [e, List.length_cons, h.length, hl a]) fun f cdv A outer s H vs Q E hr ⟨S, r, a, us, e, h, ha, hR, q⟩ => body f cdv A outer s H vs Q E S r a us e hr h ha hR q
def sp_taken (K : PySem.W.Frag) : Sp := PM K (fun m : Nat => [.d (.int (m : Int))]) (fun m => 1 ≤ m ∧ m ≤ 1000) (fun m d => ∃ k : Nat, k < m ∧ d = .int (k : Int))
theorem ev_lenK {S : Scr} {ns : List Int} (hK : S.1 = K) (h3 : SqL S.1 H S.2 (ns.map V.int)) (h : Ev ta σ H (.v (.ref S.2))) : Ev (tCB (rLenQ K) (tCons ta tNil)) σ H (.d (.int (ns.length : Int))) := fun H1 e Q q =>
  h H1 e _ fun u H2 e2 hu => by
    rw [is_v.mp hu]
    subst hK
    exact ⟨S.2, _, rfl, .inl (sqL_same h3 (e.trans e2)), q _ H2 e2 (is_d.mpr (by rw [List.length_map]; exact .int _))⟩
theorem ev_ixK {S : Scr} {ns : List Int} {j : Nat} (hK : S.1 = K) (h3 : SqL S.1 H S.2 (ns.map V.int)) (ha : Ev ta σ H (.v (.ref S.2))) (hb : Ev tb σ H (.d (.int (j : Int)))) (hj : j < ns.length) : Ev (tOp (rIxL K) ta tb) σ H (.d (.int ns[j])) :=
  ev_op2 ha hb fun u z H1 e hu hv Q q => by
    rw [is_v.mp hu, (is_d.mp hv).intE]
    subst hK
    exact ⟨S.2, _, _, .int ns[j], rfl, rfl, sqL_same h3 e, atI_nat (by rw [List.getElem?_map, List.getElem?_eq_getElem hj]; rfl), q _ H1 (Same.refl H1) (is_d.mpr (.int _))⟩
theorem set_row {S : Scr} {r : Addr} {H : Hp} {i s g : Int} {ns : List Int} {i' s' g' : Int} (h1 : H r = some (.lst [.ref S.2, .int i, .int s, .int g])) (h3 : SqL S.1 H S.2 (ns.map V.int)) (h0 : 0 ≤ i') :
    RowOk S r (upd H r (.lst [.ref S.2, .int i', .int s', .int g'])) ∧ Ch [r] H (upd H r (.lst [.ref S.2, .int i', .int s', .int g'])) := by
  obtain ⟨ns', k⟩ := sqL_mut (o := HO.lst [.ref S.2, .int i', .int s', .int g']) h3 (RowOk.ne h1 h3)
  exact ⟨⟨i', s', g', ns', upd_same, h0, k⟩, (Ch.refl _ _).upd (List.mem_singleton.mpr rfl)⟩
theorem mod_nat (g : Int) (m : Nat) (h : 1 ≤ m) : ∃ d : Nat, d < m ∧ g % (m : Int) = (d : Int) := by
  have h0 := Int.emod_nonneg g (b := (m : Int)) (by omega)
  have h1 := Int.emod_lt_of_pos g (b := (m : Int)) (by omega)
  exact ⟨(g % (m : Int)).toNat, by omega, by omega⟩
theorem c_l_taken (T : Tx K mg C) : C8.Cal P w K mg base 1 "_law_taken" (sp_taken K) [] := by
  refine mk_pm T.d_l_taken sc_l_taken (fun _ => rfl) (fun f cdv A outer s H vs Q E S0 r m us evs hr hus ok hR q0 => ?_)
  generalize hS : ((K, S0) : Scr) = S at hR q0
  have hK : S.1 = K := by rw [← hS]
  obtain ⟨u1, rfl, hu1⟩ := iss1 hus
  have eu1 : u1 = _ := Dt.intE hu1
  subst eu1 evs
  obtain ⟨m1, m2⟩ := ok
  have q : ∀ (d : Nat) H2, d < m → Ch [r] H H2 → RowOk S r H2 → Q (.int (d : Int)) H2 := fun d H2 hd c R => q0 _ _ H2 c R ⟨d, hd, rfl⟩ (.int _)
  refine ⟨_, (pss_cons (ps_if (pt_cmpR op_gt (pe_ix (k_ix_list K rfl) (pv 0) pe_int (fun _ _ => rfl)) pe_int (by rfl))
      (pss_cons (ps_set (i := 2) sc_l_taken.nd rfl (Or.inl rfl) (pe_op op_mod (pe_callTy c_int1 (by rfl) T.b_int (by decide +kernel) (pa_cons (pe_ix (k_ix_list K rfl) (pv 0) pe_int (fun _ _ => rfl)) pa_nil)) (pv 1)))
      (pss_cons (ps_asg (pe_op op_fdiv (pe_ix (k_ix_list K rfl) (pv 0) pe_int (fun _ _ => rfl)) (pv 1)) (pg_sub (pv 0) pe_int set_list))
      (pss_one (ps_ret (pv 2)))))
      pss_nil)
      (pss_cons (ps_asg (pe_op op_add (pe_ix (k_ix_list K rfl) (pv 0) pe_int (fun _ _ => rfl)) pe_int) (pg_sub (pv 0) pe_int set_list))
      (pss_cons (ps_if (pt_cmpR op_gt (pe_ix (k_ix_list K rfl) (pv 0) pe_int (fun _ _ => rfl)) (pe_callB (k_lenQ K rfl) (by rfl) T.b_len (by decide +kernel) (pa_cons (pe_ix (k_ix_list K rfl) (pv 0) pe_int (fun _ _ => rfl)) pa_nil)) (by rfl))
      (pss_cons (ps_asg (pe_op op_mod (pe_callTy c_int1 (by rfl) T.b_int (by decide +kernel) (pa_cons (pe_op op_add (pe_op op_mul (pe_ix (k_ix_list K rfl) (pv 0) pe_int (fun _ _ => rfl)) pe_int) pe_int) pa_nil)) pe_int) (pg_sub (pv 0) pe_int set_list))
      (pss_one (ps_ret (pe_op op_mod (pe_callTy c_int1 (by rfl) T.b_int (by decide +kernel) (pa_cons (pe_op op_fdiv (pe_ix (k_ix_list K rfl) (pv 0) pe_int (fun _ _ => rfl)) pe_int) pa_nil)) (pv 1)))))
      pss_nil)
      (pss_cons (ps_set (i := 3) sc_l_taken.nd rfl (Or.inl rfl) (pe_ix (k_ix_list K rfl) (pe_ix (k_ix_list K rfl) (pv 0) pe_int (fun _ _ => rfl)) (pe_op op_sub (pe_ix (k_ix_list K rfl) (pv 0) pe_int (fun _ _ => rfl)) pe_int) (fun _ _ => rfl)))
      (pss_cons (ps_asg (pe_op op_mod (pe_callTy c_int1 (by rfl) T.b_int (by decide +kernel) (pa_cons (pe_op op_add (pe_op op_add (pe_op op_mul (pe_ix (k_ix_list K rfl) (pv 0) pe_int (fun _ _ => rfl)) pe_int) (pv 3)) pe_int) pa_nil)) pe_int) (pg_sub (pv 0) pe_int set_list))
      (pss_cons (ps_if (pt_cmpR op_ge (pv 3) (pe_op op_pow pe_int pe_int) (by rfl))
      (pss_one (ps_asg (pe_op op_fdiv (pv 3) (pv 1)) (pg_sub (pv 0) pe_int set_list)))
      pss_nil)
      (pss_one (ps_ret (pe_op op_mod (pe_callTy c_int1 (by rfl) T.b_int (by decide +kernel) (pa_cons (pv 3) pa_nil)) (pv 1)))))))))), ?_⟩
  obtain ⟨i, sd, g, ns, h1, h0, h3⟩ := hR
  refine seq ?_
  have G3 : ∀ {σ : L2.St} {H1 : Hp} {i sd g : Int}, σ[0]? = some (some (.ref r)) → H1 r = some (.lst [.ref S.2, .int i, .int sd, .int g]) → Ev (tOp (rIxL K) (tVar 0) (tC (.int 3))) σ H1 (.d (.int g)) := fun hs hh => ev_ixR (i := 3) hh (ev_varV hs) ev_int rfl (is_d.mpr (.int _))
  have G2 : ∀ {σ : L2.St} {H1 : Hp} {i sd g : Int}, σ[0]? = some (some (.ref r)) → H1 r = some (.lst [.ref S.2, .int i, .int sd, .int g]) → Ev (tOp (rIxL K) (tVar 0) (tC (.int 2))) σ H1 (.d (.int sd)) := fun hs hh => ev_ixR (i := 2) hh (ev_varV hs) ev_int rfl (is_d.mpr (.int _))
  have G1 : ∀ {σ : L2.St} {H1 : Hp} {i sd g : Int}, σ[0]? = some (some (.ref r)) → H1 r = some (.lst [.ref S.2, .int i, .int sd, .int g]) → Ev (tOp (rIxL K) (tVar 0) (tC (.int 1))) σ H1 (.d (.int i)) := fun hs hh => ev_ixR (i := 1) hh (ev_varV hs) ev_int rfl (is_d.mpr (.int _))
  have G0 : ∀ {σ : L2.St} {H1 : Hp} {i sd g : Int}, σ[0]? = some (some (.ref r)) → H1 r = some (.lst [.ref S.2, .int i, .int sd, .int g]) → Ev (tOp (rIxL K) (tVar 0) (tC (.int 0))) σ H1 (.v (.ref S.2)) := fun hs hh => ev_ixR (i := 0) hh (ev_varV hs) ev_int rfl (is_v.mpr rfl)
  refine s_when (et_test (ev_B0 (G3 rfl h1) ev_int)) (fun hb H1 e1 => ?_) (fun hb H1 e1 => ?_)
  · refine seq ?_
    refine s_asg (ev_I (ev_intI (G3 rfl (e1 _ _ h1))) (ev_varD rfl (.int _)) (show (0 : Int) < (m : Int) by omega)) (fun u H2 e2 hu => ?_)
    have hu' : u = _ := Dt.intE hu
    subst hu'
    dsimp only
    refine seq ?_
    refine s_setL (j := 3) (s := .d (.int (g / (m : Int)))) (e2 _ _ (e1 _ _ h1)) (ev_I (G3 rfl (e2 _ _ (e1 _ _ h1))) (ev_varD rfl (.int _)) (by exact ⟨by omega, by omega⟩)) (ev_varV rfl) ev_int (by show 3 < 4; omega) (fun u H3 e3 hu => ?_)
    have hu' : u = _ := Dt.intE hu
    subst hu'
    dsimp only
    have a1 := e3 _ _ (e2 _ _ (e1 _ _ h1))
    have a3 := sqL_same (sqL_same (sqL_same h3 e1) e2) e3
    obtain ⟨k1, k2⟩ := set_row (i' := i) (s' := sd) (g' := g / (m : Int)) a1 a3 h0
    refine s_ret (s := .d (.int (g % (m : Int)))) (ev_varD rfl (.int _)) (fun u H4 e4 hu => ?_)
    have hu' : u = _ := Dt.intE hu
    subst hu'
    obtain ⟨d, d1, d2⟩ := mod_nat g m m1
    dsimp only
    rw [d2]
    exact q d H4 d1 ((same_ch ((e1.trans e2).trans e3)).trans (k2.then e4)) (k1.same e4)
  · dsimp only
    refine seq ?_
    refine s_setL (j := 1) (s := .d (.int (i + 1))) (e1 _ _ h1) (ev_I0 (G1 rfl (e1 _ _ h1)) ev_int) (ev_varV rfl) ev_int (by show 1 < 4; omega) (fun u H3 e3 hu => ?_)
    have hu' : u = _ := Dt.intE hu
    subst hu'
    have a1 := e3 _ _ (e1 _ _ h1)
    have a3 := sqL_same (sqL_same h3 e1) e3
    obtain ⟨k1, k2⟩ := set_row (i' := i + 1) (s' := sd) (g' := g) a1 a3 (by omega)
    have kc : Ch [r] H (upd H3 r (.lst [.ref S.2, .int (i + 1), .int sd, .int g])) := (same_ch (e1.trans e3)).trans k2
    have b1 : (upd H3 r (.lst [.ref S.2, .int (i + 1), .int sd, .int g])) r = some (.lst [.ref S.2, .int (i + 1), .int sd, .int g]) := upd_same
    obtain ⟨ns, b3⟩ := sqL_mut (o := HO.lst [.ref S.2, .int (i + 1), .int sd, .int g]) a3 (RowOk.ne a1 a3)
    dsimp only
    show tSeq _ _ _ _ (upd H3 r (.lst [.ref S.2, .int (i + 1), .int sd, .int g]))
    generalize upd H3 r (.lst [.ref S.2, .int (i + 1), .int sd, .int g]) = H3' at k1 k2 kc b1 b3 ⊢
    refine seq ?_
    refine s_when (et_test (ev_B0 (G1 rfl b1) (ev_lenK hK b3 (G0 rfl b1)))) (fun hb H4 e4 => ?_) (fun hb H4 e4 => ?_)
    · have c1 := e4 _ _ b1
      have c3 := sqL_same b3 e4
      refine seq ?_
      refine s_setL (j := 2) (s := .d (.int ((sd * 48271 + 11) % 2147483647))) c1 (ev_I (ev_intI (ev_I0 (ev_I (G2 rfl c1) ev_int (by right; exact ⟨by decide, by decide⟩)) ev_int)) ev_int (by show (0 : Int) < 2147483647; decide)) (ev_varV rfl) ev_int (by show 2 < 4; omega) (fun u H5 e5 hu => ?_)
      have hu' : u = _ := Dt.intE hu
      subst hu'
      have d1 := e5 _ _ c1
      have d3 := sqL_same c3 e5
      obtain ⟨l1, l2⟩ := set_row (i' := i + 1) (s' := (sd * 48271 + 11) % 2147483647) (g' := g) d1 d3 (by omega)
      dsimp only
      refine s_ret (s := .d (.int ((sd * 48271 + 11) % 2147483647 / 7 % (m : Int)))) (ev_I (ev_intI (ev_I (G2 rfl upd_same) ev_int (by exact ⟨by decide, by decide⟩))) (ev_varD rfl (.int _)) (show (0 : Int) < (m : Int) by omega)) (fun u H6 e6 hu => ?_)
      have hu' : u = _ := Dt.intE hu
      subst hu'
      obtain ⟨d, f1, f2⟩ := mod_nat ((sd * 48271 + 11) % 2147483647 / 7) m m1
      dsimp only
      rw [f2]
      exact q d H6 f1 ((kc.then (e4.trans e5)).trans (l2.then e6)) (l1.same e6)
    · have c1 := e4 _ _ b1
      have c3 := sqL_same b3 e4
      have hb' : ¬ (ns.length : Int) < i + 1 := by simpa using hb
      dsimp only
      refine seq ?_
      obtain ⟨j, hj⟩ : ∃ j : Nat, i = (j : Int) := ⟨i.toNat, by omega⟩
      have hjl : j < ns.length := by omega
      refine s_asg (s := .d (.int ns[j])) (ev_ixK (j := j) hK c3 (G0 rfl c1) (Ev.to (ev_I0 (G1 rfl c1) ev_int) (by rw [hj, show ((j : Int) + 1 - 1) = (j : Int) by omega])) hjl) (fun u H5 e5 hu => ?_)
      have hu' : u = _ := Dt.intE hu
      subst hu'
      have d1 := e5 _ _ c1
      have d3 := sqL_same c3 e5
      dsimp only
      refine seq ?_
      refine s_setL (j := 2) (s := .d (.int ((sd * 48271 + ns[j] + 11) % 2147483647))) d1 (ev_I (ev_intI (ev_I0 (ev_I0 (ev_I (G2 rfl d1) ev_int (by right; exact ⟨by decide, by decide⟩)) (ev_varD rfl (.int _))) ev_int)) ev_int (by show (0 : Int) < 2147483647; decide)) (ev_varV rfl) ev_int (by show 2 < 4; omega) (fun u H6 e6 hu => ?_)
      have hu' : u = _ := Dt.intE hu
      subst hu'
      have f1 := e6 _ _ d1
      have f3 := sqL_same d3 e6
      obtain ⟨l1, l2⟩ := set_row (i' := i + 1) (s' := (sd * 48271 + ns[j] + 11) % 2147483647) (g' := g) f1 f3 (by omega)
      have lc : Ch [r] H (upd H6 r (.lst [.ref S.2, .int (i + 1), .int ((sd * 48271 + ns[j] + 11) % 2147483647), .int g])) := (kc.then ((e4.trans e5).trans e6)).trans l2
      have g1 : (upd H6 r (.lst [.ref S.2, .int (i + 1), .int ((sd * 48271 + ns[j] + 11) % 2147483647), .int g])) r = some (.lst [.ref S.2, .int (i + 1), .int ((sd * 48271 + ns[j] + 11) % 2147483647), .int g]) := upd_same
      obtain ⟨ms, g3⟩ := sqL_mut (o := HO.lst [.ref S.2, .int (i + 1), .int ((sd * 48271 + ns[j] + 11) % 2147483647), .int g]) f3 (RowOk.ne f1 f3)
      dsimp only
      show tSeq _ _ _ _ (upd H6 r (.lst [.ref S.2, .int (i + 1), .int ((sd * 48271 + ns[j] + 11) % 2147483647), .int g]))
      generalize upd H6 r (.lst [.ref S.2, .int (i + 1), .int ((sd * 48271 + ns[j] + 11) % 2147483647), .int g]) = H6' at l1 l2 lc g1 g3 ⊢
      have fin : ∀ H7, Ch [r] H H7 → RowOk S r H7 → tRet (tOp (rI (fun _ j => 0 < j) fun i j => .int (i % j)) (tCB rInt1 (tCons (tVar 3) tNil)) (tVar 1)) { nx := fun _ H' => Q .non H', rt := Q } ([some (.ref r), some (.int (m : Int)), none, some (.int ns[j])]) H7 := fun H7 z1 z2 => by
        refine s_ret (s := .d (.int (ns[j] % (m : Int)))) (ev_I (ev_intI (ev_varD rfl (.int _))) (ev_varD rfl (.int _)) (show (0 : Int) < (m : Int) by omega)) (fun u H8 e8 hu => ?_)
        have hu' : u = _ := Dt.intE hu
        subst hu'
        obtain ⟨d, y1, y2⟩ := mod_nat ns[j] m m1
        dsimp only
        rw [y2]
        exact q d H8 y1 (z1.then e8) (z2.same e8)
      refine seq ?_
      refine s_when (et_test (ev_B0 (ev_varD rfl (.int _)) (ev_I ev_int ev_int (by exact ⟨by decide, by decide, by decide⟩)))) (fun hb H7 e7 => ?_) (fun hb H7 e7 => ?_)
      · refine s_setL (j := 3) (s := .d (.int (ns[j] / (m : Int)))) (e7 _ _ g1) (ev_I (ev_varD rfl (.int _)) (ev_varD rfl (.int _)) (by exact ⟨by omega, by omega⟩)) (ev_varV rfl) ev_int (by show 3 < 4; omega) (fun u H8 e8 hu => ?_)
        have hu' : u = _ := Dt.intE hu
        subst hu'
        obtain ⟨n1, n2⟩ := set_row (i' := i + 1) (s' := (sd * 48271 + ns[j] + 11) % 2147483647) (g' := ns[j] / (m : Int)) (e8 _ _ (e7 _ _ g1)) (sqL_same (sqL_same g3 e7) e8) (by omega)
        exact fin _ ((lc.then (e7.trans e8)).trans n2) n1
      · exact fin _ (lc.then e7) (l1.same e7)
end
end TF
/-! P8 -/
namespace TF
open PySem PySem.Spec PyProof.Rows L2
/-! what evaluates with draws -/
def EvM (S : Scr) (r : Addr) (te : TE) (σ : L2.St) (H : Hp) (p : PyData → Prop) : Prop := ∀ H1, Ch [r] H H1 → RowOk S r H1 → ∀ Q : VK, (∀ u d H2, Ch [r] H1 H2 → RowOk S r H2 → p d → Dt H2 u d → Q u H2) → te σ H1 Q
def EvMF (S : Scr) (r : Addr) (te : TE) (σ : L2.St) (H : Hp) (p : List PyData → Prop) : Prop := ∀ H1, Ch [r] H H1 → RowOk S r H1 → ∀ Q : VK, (∀ a xs ds H2, Ch [r] H1 H2 → RowOk S r H2 → H1 a = none → H2 a = some (.lst xs) → p ds → Dts H2 xs ds → Q (.ref a) H2) → te σ H1 Q
def EvMT (S : Scr) (r : Addr) (tt : TT) (σ : L2.St) (H : Hp) (p : Bool → Prop) : Prop := ∀ H1, Ch [r] H H1 → RowOk S r H1 → ∀ Q : Bool → Hp → Prop, (∀ b H2, Ch [r] H1 H2 → RowOk S r H2 → p b → Q b H2) → tt σ H1 Q
def EvMA (S : Scr) (r : Addr) (ta : TA) (σ : L2.St) (H : Hp) (p : List PyData → Prop) : Prop := ∀ H1, Ch [r] H H1 → RowOk S r H1 → ∀ Q : List V → Hp → Prop, (∀ us ds H2, Ch [r] H1 H2 → RowOk S r H2 → p ds → Dts H2 us ds → Q us H2) → ta σ H1 Q
section
variable {K : PySem.W.Frag} {σ : L2.St} {H H' : Hp} {ta tb te tx : TE} {tt tu : TT} {s s' : Ds} {x y z : PyData} {D : Ends} {t u : TS} {g : TG} {tr : TA} {S : Scr} {r : Addr} {p p' : PyData → Prop}
theorem Ch.free1 {H1 : Hp} (c : Ch [r] H H1) {a : Addr} (h : H1 a = none) (ha : a ≠ r) : H a = none := by
  cases e : H a with
  | none => rfl
  | some o =>
    rw [c a o (by simpa using ha) e] at h
    cases h
theorem EvM.mono (h : EvM S r te σ H p) (hp : ∀ d, p d → p' d) : EvM S r te σ H p' := fun H1 c R Q q => h H1 c R Q fun u d H2 c2 R2 pd hu => q u d H2 c2 R2 (hp d pd) hu
theorem EvMF.mono {p p' : List PyData → Prop} (h : EvMF S r te σ H p) (hp : ∀ d, p d → p' d) : EvMF S r te σ H p' := fun H1 c R Q q => h H1 c R Q fun a xs ds H2 c2 R2 h0 h1 pd hu => q a xs ds H2 c2 R2 h0 h1 (hp ds pd) hu
/-- no draw at all -/
theorem m_of (hm : MsL [r] H) (h : ∀ H1, Ch [r] H H1 → RowOk S r H1 → Tp H H1 → Ev te σ H1 (.d x)) : EvM S r te σ H (fun d => d = x) := fun H1 c R Q q => h H1 c R (c.tp hm) H1 (Same.refl _) Q fun u H2 e2 hu => q u x H2 (same_ch e2) (R.same e2) rfl hu
theorem m_ofF {ds : List PyData} (hm : MsL [r] H) (h : ∀ H1, Ch [r] H H1 → RowOk S r H1 → Tp H H1 → EvF te σ H1 ds) : EvMF S r te σ H (fun d => d = ds) := fun H1 c R Q q => h H1 c R (c.tp hm) H1 (Same.refl _) Q fun a xs H2 e2 h0 h1 hu => q a xs ds H2 (same_ch e2) (R.same e2) h0 h1 rfl hu
theorem m_call {α : Type} {args : α → List Ds} {ok : α → Prop} {pp : α → PyData → Prop} {E : XK} {i : Nat} (a : α) (hr : σ[i]? = some (some (.ref r))) (hm : MsL [r] H) (h : ∀ H1, Ch [r] H H1 → RowOk S r H1 → Tp H H1 → EvA tr σ H1 (args a)) (ha : ok a) : EvM S r (tCall (PM S.1 args ok pp) [] E (tCons (tVar i) tr)) σ H (pp a) := fun H1 c R Q q =>
  ⟨_, hr, h H1 c R (c.tp hm) H1 (Same.refl _) _ fun us H2 e2 hus => ⟨S.2, r, a, us, by rw [List.append_nil], hus, ha, R.same e2, fun u d H3 c3 R3 pd hu => q u d H3 ((same_ch e2).trans c3) R3 pd hu⟩⟩
theorem m_taken {E : XK} {i : Nat} {m : Nat} (hr : σ[i]? = some (some (.ref r))) (hm : MsL [r] H) (h : ∀ H1, Ch [r] H H1 → RowOk S r H1 → Tp H H1 → Ev tb σ H1 (.d (.int (m : Int)))) (h1 : 1 ≤ m) (h2 : m ≤ 1000) : EvM S r (tCall (sp_taken S.1) [] E (tCons (tVar i) (tCons tb tNil))) σ H (fun d => ∃ k : Nat, k < m ∧ d = .int (k : Int)) :=
  m_call m hr hm (fun H1 c R t => ea_cons (h H1 c R t) ea_nil) ⟨h1, h2⟩
/-- an operation on ints -/
theorem m_I0 {f : Int → Int → Int} {q1 q2 : Int → Prop} (hm : MsL [r] H) (ha : EvM S r ta σ H (fun d => ∃ i, q1 i ∧ d = .int i)) (hb : EvM S r tb σ H (fun d => ∃ i, q2 i ∧ d = .int i)) : EvM S r (tOp (rI0 fun i j => .int (f i j)) ta tb) σ H (fun d => ∃ i j, q1 i ∧ q2 j ∧ d = .int (f i j)) := fun H1 c R Q q =>
  ha H1 c R _ fun u d H2 c2 R2 ⟨i, qi, ed⟩ hu => hb H2 (c.trans c2) R2 _ fun v d2 H3 c3 R3 ⟨j, qj, ed2⟩ hv => by
    subst ed ed2
    rw [hu.intE, hv.intE]
    exact ⟨i, j, rfl, rfl, q _ _ H3 (c2.trans c3) R3 ⟨i, j, qi, qj, rfl⟩ (.int _)⟩
/-- a test on ints -/
theorem mt_I0 {f : Int → Int → Bool} {q1 q2 : Int → Prop} (ha : EvM S r ta σ H (fun d => ∃ i, q1 i ∧ d = .int i)) (hb : EvM S r tb σ H (fun d => ∃ i, q2 i ∧ d = .int i)) : EvMT S r (tTest (tOp (rI0 fun i j => .bl (f i j)) ta tb)) σ H (fun _ => True) := fun H1 c R Q q =>
  ha H1 c R _ fun u d H2 c2 R2 ⟨i, qi, ed⟩ hu => hb H2 (c.trans c2) R2 _ fun v d2 H3 c3 R3 ⟨j, qj, ed2⟩ hv => by
    subst ed ed2
    rw [hu.intE, hv.intE]
    exact ⟨i, j, rfl, rfl, _, rfl, q _ H3 (c2.trans c3) R3 trivial⟩
theorem mt_eq {q1 q2 : Int → Prop} (ha : EvM S r ta σ H (fun d => ∃ i, q1 i ∧ d = .int i)) (hb : EvM S r tb σ H (fun d => ∃ i, q2 i ∧ d = .int i)) : EvMT S r (tTest (tOp rEq ta tb)) σ H (fun _ => True) := fun H1 c R Q q =>
  ha H1 c R _ fun u d H2 c2 R2 ⟨i, qi, ed⟩ hu => hb H2 (c.trans c2) R2 _ fun v d2 H3 c3 R3 ⟨j, qj, ed2⟩ hv => by
    subst ed ed2
    rw [hu.intE, hv.intE]
    exact ⟨rfl, _, rfl, q _ H3 (c2.trans c3) R3 trivial⟩
theorem mt_yes : EvMT S r tYes σ H (fun b => b = true) := fun H1 c R Q q => q true H1 (Ch.refl _ _) R rfl
/-- displays -/
theorem ma_nil : EvMA S r tNil σ H (fun ds => ds = []) := fun H1 c R Q q => q [] [] H1 (Ch.refl _ _) R rfl .nil
theorem ma_cons {ps : List PyData → Prop} (hm : MsL [r] H) (h : EvM S r te σ H p) (hr : EvMA S r tr σ H ps) : EvMA S r (tCons te tr) σ H (fun ds => ∃ d es, p d ∧ ps es ∧ ds = d :: es) := fun H1 c R Q q =>
  h H1 c R _ fun u d H2 c2 R2 pd hu => hr H2 (c.trans c2) R2 _ fun us es H3 c3 R3 pe hus => by
    have m2 : MsL [r] H2 := R2.ms
    exact q (u :: us) (d :: es) H3 (c2.trans c3) R3 ⟨d, es, pd, pe, rfl⟩ (.cons (hu.mono (c3.tp m2)) hus)
theorem m_tup {ps : List PyData → Prop} (h : EvMA S r tr σ H ps) (hz : ∀ ds, ps ds → ds.length ≤ 100000) : EvM S r (tTup tr) σ H (fun d => ∃ ds, ps ds ∧ d = .tuple ds) := fun H1 c R Q q =>
  h H1 c R _ fun us ds H2 c2 R2 pd hus => ⟨Nat.le_trans (by rw [hus.length]; exact hz ds pd) (show 100000 ≤ sizeLine by decide), fun l hl =>
    q _ _ _ (c2.then (same_new hl)) (R2.same (same_new hl)) ⟨ds, pd, rfl⟩ (.tup upd_same (hus.mono (Tp.new hl)))⟩
/-- a pure call of such arguments -/
theorem m_pf {α : Type} {args : α → List Ds} {ok : α → Prop} {res : α → PyData} {E : XK} {ps : List PyData → Prop} (h : EvMA S r tr σ H ps) (ha : ∀ ds, ps ds → ∃ a, args a = ds.map .d ∧ ok a ∧ p (res a)) : EvM S r (tCall (PF args ok fun a => .d (res a)) [] E tr) σ H p := fun H1 c R Q q =>
  h H1 c R _ fun us ds H2 c2 R2 pd hus => by
    obtain ⟨a, e1, e2, e3⟩ := ha ds pd
    exact ⟨a, by rw [List.append_nil, e1]; exact Iss.dts.mpr hus, e2, fun u H3 e4 hu => q u _ H3 (c2.then e4) (R2.same e4) e3 (is_d.mp hu)⟩
theorem m_tupL {ps : List PyData → Prop} (h : EvMF S r ta σ H ps) : EvM S r (tCB (rTupQ K) (tCons ta tNil)) σ H (fun d => ∃ ds, ps ds ∧ d = .tuple ds) := fun H1 c R Q q =>
  h H1 c R _ fun a xs ds H2 c2 R2 h0 h1 pd hu => ⟨a, xs, rfl, .inl ⟨SqL.of h1, fun l hl => q _ _ _ (c2.then (same_new hl)) (R2.same (same_new hl)) ⟨ds, pd, rfl⟩ (.tup upd_same (hu.mono (Tp.new hl)))⟩⟩
/-! statements -/
theorem m_asg {i : Nat} (hR : RowOk S r H) (h : EvM S r te σ H p) (k : ∀ u d H1, Ch [r] H H1 → RowOk S r H1 → Tp H H1 → p d → Dt H1 u d → D.nx (σ.set i (some u)) H1) : tAsg te (gName i) D σ H := h H (Ch.refl _ _) hR _ fun u d H2 c2 R2 pd hu => k u d H2 c2 R2 (c2.tp hR.ms) pd hu
theorem m_asgF {i : Nat} {ps : List PyData → Prop} (hR : RowOk S r H) (h : EvMF S r te σ H ps) (k : ∀ a xs ds H1, Ch [r] H H1 → RowOk S r H1 → Tp H H1 → H a = none → H1 a = some (.lst xs) → ps ds → Dts H1 xs ds → D.nx (σ.set i (some (.ref a))) H1) : tAsg te (gName i) D σ H :=
  h H (Ch.refl _ _) hR _ fun a xs ds H2 c2 R2 h0 h1 pd hu => k a xs ds H2 c2 R2 (c2.tp hR.ms) h0 h1 pd hu
theorem m_ret (hR : RowOk S r H) (h : EvM S r te σ H p) (k : ∀ u d H1, Ch [r] H H1 → RowOk S r H1 → Tp H H1 → p d → Dt H1 u d → D.rt u H1) : tRet te D σ H := h H (Ch.refl _ _) hR _ fun u d H2 c2 R2 pd hu => k u d H2 c2 R2 (c2.tp hR.ms) pd hu
/-- a, b, c = draw, draw, [] -/
theorem m_asg3 {i j l : Nat} (hR : RowOk S r H) (h1 : EvM S r ta σ H p) (h2 : EvM S r tb σ H p') (k : ∀ u1 d1 u2 d2 a H1, Ch [r] H H1 → RowOk S r H1 → Tp H H1 → p d1 → Dt H1 u1 d1 → p' d2 → Dt H1 u2 d2 → H a = none → H1 a = some (.lst []) → D.nx (((σ.set i (some u1)).set j (some u2)).set l (some (.ref a))) H1) :
    tAsg (tTup (tCons ta (tCons tb (tCons (tLst tNil) tNil)))) (gTup K 3 (gCons (gName i) (gCons (gName j) (gCons (gName l) gNil)))) D σ H :=
  h1 H (Ch.refl _ _) hR _ fun u1 d1 H2 c2 R2 pd1 hu1 => h2 H2 c2 R2 _ fun u2 d2 H3 c3 R3 pd2 hu2 => ⟨Nat.zero_le _, fun a ha => ⟨by show 3 ≤ sizeLine; decide, fun q hq => by
    have e3 : Same H3 (upd H3 a (.lst [])) := same_new ha
    have e4 : Same (upd H3 a (.lst [])) (upd (upd H3 a (.lst [])) q (.tup [u1, u2, .ref a])) := same_new hq
    have e5 := e3.trans e4
    refine ⟨q, _, rfl, SqT.of upd_same, rfl, _, _, rfl, _, _, rfl, _, _, rfl, rfl, k u1 d1 u2 d2 a _ ((c2.trans c3).then e5) (R3.same e5) (((c2.trans c3).then e5).tp hR.ms) pd1 (hu1.mono ((c3.then e5).tp R2.ms)) pd2 (hu2.mono (same_tp e5)) ?_ (e4 _ _ upd_same)⟩
    exact (c2.trans c3).free1 ha (fun z => (R3.ne0 ha).1 z.symm)⟩⟩
/-! comprehensions -/
inductive Sel (sk : Bool) (p : Nat → PyData → Prop) : Nat → List PyData → Prop
  | nil : Sel sk p 0 []
  | skip {n : Nat} {ds : List PyData} : Sel sk p n ds → sk = true → Sel sk p (n + 1) ds
  | take {n : Nat} {ds : List PyData} {d : PyData} : Sel sk p n ds → p n d → Sel sk p (n + 1) (ds ++ [d])
theorem Sel.len {sk : Bool} {p : Nat → PyData → Prop} {n : Nat} {ds : List PyData} (h : Sel sk p n ds) : ds.length ≤ n := by
  induction h with
  | nil => exact Nat.le_refl _
  | skip _ _ ih => omega
  | take _ _ ih => rw [List.length_append]; show _ + 1 ≤ _; omega
theorem Sel.full {p : Nat → PyData → Prop} {n : Nat} {ds : List PyData} (h : Sel false p n ds) : ds.length = n := by
  induction h with
  | nil => rfl
  | skip _ e _ => cases e
  | take _ _ ih => rw [List.length_append, ih]; rfl
theorem Sel.all {sk : Bool} {p : Nat → PyData → Prop} {n : Nat} {ds : List PyData} (h : Sel sk p n ds) : ∀ d ∈ ds, ∃ i, i < n ∧ p i d := by
  induction h with
  | nil => intro d hd; cases hd
  | skip _ _ ih => intro d hd; obtain ⟨i, h1, h2⟩ := ih d hd; exact ⟨i, by omega, h2⟩
  | @take n ds d0 _ h2 ih =>
    intro d hd
    rw [List.mem_append, List.mem_singleton] at hd
    rcases hd with hd | hd
    · obtain ⟨i, h1, h2⟩ := ih d hd; exact ⟨i, by omega, h2⟩
    · subst hd; exact ⟨_, Nat.lt_succ_self _, h2⟩
theorem Sel.sub {sk : Bool} {f : Nat → PyData} {n : Nat} {ds : List PyData} (h : Sel sk (fun i d => d = f i) n ds) : ds.Sublist ((List.range n).map f) := by
  induction h with
  | nil => exact List.Sublist.refl _
  | skip _ _ ih =>
    rw [List.range_succ, List.map_append]
    exact ih.trans (List.sublist_append_left _ _)
  | take _ e ih =>
    rw [List.range_succ, List.map_append, e]
    exact ih.append (List.Sublist.refl _)
def MI (S : Scr) (r : Addr) (wi : TI) (σ : L2.St) (H : Hp) (ok : Nat → Prop) (it : Nat → Ds) : Prop := ∀ H1, Ch [r] H H1 → RowOk S r H1 → ∀ R : It → Hp → Prop, (∀ J n H2, ok n → Ch [r] H1 H2 → RowOk S r H2 → Walk J n (Ch [r] H2) (YIs it) → R J H2) → wi σ H1 R
theorem mi_of {wi : TI} {n : Nat} {it : Nat → Ds} (hm : MsL [r] H) (h : ∀ H1, Ch [r] H H1 → RowOk S r H1 → Tp H H1 → EvI [r] wi σ H1 n it) : MI S r wi σ H (fun m => m = n) it := fun H1 c R Q q =>
  h H1 c R (c.tp hm) H1 (Same.refl _) Q fun J H2 e2 W => q J n H2 rfl (same_ch e2) (R.same e2) W
theorem m_lc {wi : TI} {ok : Nat → Prop} {it : Nat → Ds} {vs : List Nat} (sk : Bool) (pp : Nat → PyData → Prop) (hI : MI S r wi σ H ok it) (hok : ∀ n, ok n → n ≤ 100000)
    (turn : ∀ i n x H1, ok n → i < n → Ch [r] H H1 → RowOk S r H1 → Is H1 (it i) x → ∀ Q : L2.St → Hp → Prop, (∀ σ2, wipe σ2 vs = wipe σ vs → EvMT S r tt σ2 H1 (fun b => b = false → sk = true) → EvM S r te σ2 H1 (pp i) → Q σ2 H1) → g x (wipe σ vs) H1 Q) :
    EvMF S r (tLc wi g tt te vs) σ H (fun ds => ∃ n, ok n ∧ Sel sk pp n ds) := fun H1 c R Q q => hI H1 c R _ fun J n H2 hn c2 R2 W Dl hD => by
  obtain ⟨n1, n2⟩ := R2.ne0 hD
  refine lc_it W (fun i H' => Ch [r] H2 H' ∧ RowOk S r H' ∧ ∃ acc ds, H' Dl = some (.lst acc) ∧ Dts H' acc ds ∧ Sel sk pp i ds) ⟨same_ch (same_new hD), R2.same (same_new hD), [], [], upd_same, .nil, .nil⟩ (fun i H' _ h => h.1)
    (fun i x H0 H' hi ⟨p1, pR, acc, ds, p2, p3, p4⟩ ⟨y1, y2⟩ => ?_) (fun H' ⟨p1, pR, acc, ds, p2, p3, p4⟩ => ?_)
  · have hn' : i < 100000 := Nat.lt_of_lt_of_le hi (hok n hn)
    have R' := pR.same y1
    refine turn i n x H' hn hi ((c.trans c2).trans (p1.then y1)) R' y2 _ fun σ2 hw ht he => ⟨hw, ht H' (Ch.refl _ _) R' _ fun b H3 c3 R3 hb => ?_⟩
    have s3 : Ch [r] H2 H3 := (p1.then y1).trans c3
    have d3 : H3 Dl = some (.lst acc) := c3 Dl _ (by simpa using fun z => n1 z.symm) (y1 _ _ p2)
    have tp3 : Tp H0 H3 := (same_tp y1).trans (c3.tp R'.ms)
    cases b with
    | true =>
      show te σ2 H3 _
      refine he H3 c3 R3 _ fun u d H4 c4 R4 pd hu => ?_
      have d4 : H4 Dl = some (.lst acc) := c4 Dl _ (by simpa using fun z => n1 z.symm) d3
      have tp4 : Tp H4 (upd H4 Dl (.lst (acc ++ [u]))) := Tp.mut d4 fun xs z => nomatch z
      have a4 : Dts H4 acc ds := p3.mono (tp3.trans (c4.tp R3.ms))
      refine ⟨acc, d4, ?_, ?_, R4.mut n1 n2, acc ++ [u], ds ++ [d], upd_same, (a4.snoc hu).mono tp4, p4.take pd⟩
      · have l1 := a4.length
        have l2 := p4.len
        have : acc.length < 100000 := by omega
        exact Nat.lt_of_lt_of_le this (by decide)
      · intro a o ha hao
        have : a ≠ Dl := fun z => by subst z; rw [hD] at hao; cases hao
        rw [upd_ne this]
        exact c4 a o ha (s3 a o ha hao)
    | false =>
      show _ ∧ _
      exact ⟨s3, R3, acc, ds, d3, p3.mono tp3, p4.skip (hb rfl)⟩
  · exact q Dl acc ds H' (c2.trans p1) pR (c2.free1 hD (fun z => n1 z.symm)) p2 ⟨n, hn, p4⟩ p3
theorem m_lcN {wi : TI} {ok : Nat → Prop} {it : Nat → Ds} {vs : List Nat} {j : Nat} (sk : Bool) (pp : Nat → PyData → Prop) (hI : MI S r wi σ H ok it) (hok : ∀ n, ok n → n ≤ 100000) (hw : ∀ x, wipe ((wipe σ vs).set j (some x)) vs = wipe σ vs)
    (ht : ∀ i n x H1, ok n → i < n → Ch [r] H H1 → RowOk S r H1 → Is H1 (it i) x → EvMT S r tt ((wipe σ vs).set j (some x)) H1 (fun b => b = false → sk = true))
    (he : ∀ i n x H1, ok n → i < n → Ch [r] H H1 → RowOk S r H1 → Is H1 (it i) x → EvM S r te ((wipe σ vs).set j (some x)) H1 (pp i)) : EvMF S r (tLc wi (gName j) tt te vs) σ H (fun ds => ∃ n, ok n ∧ Sel sk pp n ds) :=
  m_lc sk pp hI hok fun i n x H1 hn hi c R hx Q q => q _ (hw x) (ht i n x H1 hn hi c R hx) (he i n x H1 hn hi c R hx)
end
end TF
/-! P9 -/
namespace TF
open PySem PySem.Spec PyProof.Rows L2

/-! pairs, sorted -/
def leP (p q : Nat × Nat) : Bool := decide ((p.1 : Int) < (q.1 : Int) ∨ ((p.1 : Int) = (q.1 : Int) ∧ (p.2 : Int) ≤ (q.2 : Int)))
theorem dataLe_pr (p q : Nat × Nat) : PySem.W.dataLe false id (pr p) (pr q) = leP p q :=
  congrFun (congrFun (PySem.W.dataLe_ii (β := Nat × Nat) (fun p => (p.1 : Int)) (fun p => (p.2 : Int))) p) q
theorem alike_prs (ps : List (Nat × Nat)) : PySem.W.AllAlike (ps.map pr) := fun d hd d' hd' => by
  rw [List.mem_map] at hd hd'
  obtain ⟨p, _, rfl⟩ := hd
  obtain ⟨q, _, rfl⟩ := hd'
  simp [pr, PySem.W.alike, PySem.W.alikeAll]
theorem sortable_prs (ps : List (Nat × Nat)) : PySem.W.Sortable (ps.map pr) := .inl fun d hd => by
  rw [List.mem_map] at hd
  obtain ⟨p, _, rfl⟩ := hd
  exact ⟨_, _, rfl⟩
theorem deep_prs (ps : List (Nat × Nat)) : ∀ d ∈ ps.map pr, d.depth ≤ 8 := fun d hd => by
  rw [List.mem_map] at hd
  obtain ⟨p, _, rfl⟩ := hd
  rw [depth_pr]; omega
theorem leP_trans (x y z : Nat × Nat) (h : leP x y = true) (h' : leP y z = true) : leP x z = true := by
  unfold leP at *
  rw [decide_eq_true_eq] at *
  omega
theorem leP_total (x y : Nat × Nat) : (leP x y || leP y x) = true := by
  unfold leP
  rw [Bool.or_eq_true, decide_eq_true_eq, decide_eq_true_eq]
  omega
theorem leP_anti (x y : Nat × Nat) (h : leP x y = true) (h' : leP y x = true) : x = y := by
  unfold leP at *
  rw [decide_eq_true_eq] at *
  obtain ⟨a, b⟩ := x
  obtain ⟨c, d⟩ := y
  have h1 : a = c := by dsimp only at h h'; omega
  have h2 : b = d := by dsimp only at h h'; omega
  rw [h1, h2]
theorem hall_sorted {n : Nat} {ps : List (Nat × Nat)} (h1 : 1 ≤ n) (h4 : n ≤ 4) (nd : ps.Nodup) (hs : ∀ p ∈ ps, p ∈ allP n) : ∃ qs, Hall n qs ∧ (ps.map pr).mergeSort (PySem.W.dataLe false id) = qs.map pr := by
  refine ⟨(allP n).filter fun p => decide (p ∈ ps), ⟨h1, h4, List.filter_sublist⟩, ?_⟩
  rw [← List.map_mergeSort (r := leP) (fun a _ b _ => (dataLe_pr a b).symm)]
  congr 1
  symm
  refine PySem.W.Srt.the_of_perm leP leP_trans leP_total leP_anti ?_ ?_
  · refine (List.perm_ext_iff_of_nodup ((allP_nodup n h4).sublist List.filter_sublist) nd).mpr fun p => ?_
    rw [List.mem_filter, decide_eq_true_eq]
    exact ⟨fun h => h.2, fun h => ⟨hs p h, h⟩⟩
  · refine ((allP_sorted n h4).sublist List.filter_sublist).imp fun {p q} h => ?_
    unfold ltP at h
    unfold leP
    rw [Bool.or_eq_true, Bool.and_eq_true, decide_eq_true_eq, decide_eq_true_eq, decide_eq_true_eq] at h
    rw [decide_eq_true_eq]
    omega
theorem range_getD (ds : List PyData) : (List.range ds.length).map (fun i => ds.getD i .none) = ds := by
  refine List.ext_getElem (by rw [List.length_map, List.length_range]) fun i h1 h2 => ?_
  rw [List.getElem_map, List.getElem_range, List.getD_eq_getElem?_getD, List.getElem?_eq_getElem h2]
  rfl
theorem sub_prs {ps : List (Nat × Nat)} {ds : List PyData} (h : ds.Sublist (ps.map pr)) : ∃ qs : List (Nat × Nat), qs.Sublist ps ∧ ds = qs.map pr := by
  obtain ⟨qs, h1, h2⟩ := List.sublist_map_iff.mp h
  exact ⟨qs, h1, h2⟩
section
variable {P : Program} {w : World} {K : PySem.W.Frag} {mg : Str → Option Value} {base : Heap} {C : Addr} {σ : L2.St} {H : Hp} {ta tb tc td : TE} {S : Scr} {r : Addr}
/-! _law_pairs -/
def sp_l_pairs : Sp := PL (fun n : Nat => [.d (.int (n : Int))]) (fun n => n ≤ 4) (fun n => (allP n).map pr)
theorem e_l_pairs {n : Nat} (h : Ev ta σ H (.d (.int (n : Int)))) (hn : n ≤ 4) : EvF (tCall sp_l_pairs [] C8.E0 (tCons ta tNil)) σ H ((allP n).map pr) := ev_callL n (ea_cons h ea_nil) hn
theorem rowP_len (n x : Nat) : (rowP n x).length = n - (x + 1) := by unfold rowP; rw [List.length_map, List.length_range]
theorem upP_len' : ∀ n ≤ 4, ∀ k ≤ 4, (upP n k).length ≤ 16 := by decide +kernel
theorem upP_len {n k : Nat} (hn : n ≤ 4) (hk : k ≤ 4) : (upP n k).length ≤ 16 := upP_len' n hn k hk
theorem c_l_pairs (T : Tx K mg C) : C8.Cal P w K mg base 1 "_law_pairs" sp_l_pairs [] := by
  refine mk_pl T.d_l_pairs sc_l_pairs (fun _ => rfl) (fun f cdv A outer s H vs Q E n hr h ok q => ?_)
  obtain ⟨u1, rfl, h1⟩ := iss1 h
  have eu1 : u1 = _ := Dt.intE h1
  subst eu1
  replace ok : n ≤ 4 := ok
  refine ⟨_, (pss_cons (ps_set (i := 1) sc_l_pairs.nd rfl (Or.inl rfl) (pe_lst pa_nil))
      (pss_cons (ps_for PassesOwn.never rfl (pi_range1 (by rfl) T.b_range (pa_cons (pv 0) pa_nil)) (pg_name (i := 2) sc_l_pairs.nd rfl (Or.inr rfl))
      (pss_one (ps_set (i := 1) sc_l_pairs.nd rfl (Or.inl rfl) (pe_op op_cat (pv 1) (pe_lc (own := [("_law_y", 3)]) rfl sc_l_pairs.nd (pi_range2 (by rfl) T.b_range (pa_cons (pe_op op_add (pv 2) pe_int) (pa_cons (pv 0) pa_nil))) (blkOk_by (own := [("_law_y", 3)]) (N := n_l_pairs) (sc := C8.fnScope s_l_pairs) (by decide +kernel)) (fun _ _ _ _ _ => (pg_name (i := 3) sc_l_pairs.nd rfl (Or.inl rfl))) (fun _ _ _ _ _ => pts_nil) (fun _ _ _ _ _ => (pe_tup (pa_cons (pv 2) (pa_cons (pv 3) pa_nil)))))))))
      (pss_one (ps_ret (pv 1))))), ?_⟩
  refine seq ?_
  refine s_asgF (ev_lst (ds := []) ea_nilD (Nat.zero_le _)) (fun p xs H1 e1 hp0 hp1 hp2 => ?_)
  have hp2' : xs = [] := by cases hp2; rfl
  subst hp2'
  dsimp only
  refine seq ?_
  refine s_for (ms := []) (ei_rng1 (n := n) (ea_cons (ev_varD rfl (.int _)) ea_nil) (by omega)) (fun Hs es => ?_)
  refine ⟨fun i σ' H' => ∃ l xs j2, σ' = [some (.int (n : Int)), some (.ref l), j2, none] ∧ Same Hs H' ∧ H l = none ∧ H' l = some (.lst xs) ∧ Dts H' xs ((upP n i).map pr), ?_, ?_, ?_, ?_⟩
  · exact ⟨p, _, _, rfl, Same.refl _, hp0, es _ _ hp1, .nil⟩
  · rintro i σ' H' ⟨l, xs, j2, rfl, c, _⟩
    exact same_ch c
  · rintro i z σ' H0 H' hi ⟨l, xs, j2, rfl, c, l0, l1, l2⟩ e hz
    have ez : z = .int (i : Nat) := Dt.intE hz
    subst ez
    have m1 := e _ _ l1
    have m2 := l2.mono (same_tp e)
    refine s_asgFE (es := (upP n (i + 1)).map pr) (ev_cat (ds := (upP n i).map pr) (es := (rowP n i).map pr) (ev_var rfl (is_t.mpr ⟨l, xs, rfl, m1, m2⟩)) (EvF.ev (EvF.to (ev_lcN (fun _ => true) (fun j => pr (i, i + 1 + j)) (ei_rng2 (lo := (i : Int) + 1) (hi := (n : Int)) (ea_cons (ev_I0 (ev_varD rfl (.int _)) ev_int) (ea_cons (ev_varD rfl (.int _)) ea_nil)) (by omega)) (by omega) (fun _ => rfl) (fun j y H3 hj e3 hy => et_yes) (fun j y H3 hj e3 hy _ => ?_)) ?_)) ?_) ?_ (fun a ys H3 e3 a0 a1 a2 => ?_)
    · refine Ev.to (ev_tup (ds := [.int (i : Int), .int ((i : Int) + 1 + (j : Nat))]) (ea_consD (ev_varD rfl (.int _)) (ea_consD (ev_varD rfl hy) ea_nilD)) (by show 2 ≤ 100000; omega)) ?_
      unfold pr
      have : (i : Int) + 1 + (j : Int) = ((i + 1 + j : Nat) : Int) := by omega
      rw [this]
    · rw [given_all]
      unfold rowP
      rw [List.map_map]
      have : ((n : Int) - ((i : Int) + 1)).toNat = n - (i + 1) := by omega
      rw [this]
      rfl
    · rw [List.length_map, List.length_map, rowP_len]
      have := upP_len (n := n) (k := i) ok (by omega)
      omega
    · rw [← List.map_append]
      rfl
    · exact ⟨a, ys, _, rfl, (c.trans e).trans e3, (e1.trans es).free (c.free (e.free a0)), a1, a2⟩
  · rintro σ' H' ⟨l, xs, j2, rfl, c, l0, l1, l2⟩
    dsimp only
    refine s_ret (s := .v (.ref l)) (ev_varV rfl) (fun u H2 e2 hu => ?_)
    have hu' : u = .ref l := hu
    subst hu'
    exact q l xs H2 (((e1.trans es).trans c).trans e2) l0 (e2 _ _ l1) (l2.mono (same_tp e2))
/-! _law_pick -/
def sp_l_pick (K : PySem.W.Frag) : Sp := PM K (fun ds : List PyData => [.t ds]) (fun ds => 1 ≤ ds.length ∧ ds.length ≤ 1000 ∧ ∀ d ∈ ds, ∃ es, d = .tuple es) (fun ds d => d ∈ ds)
theorem c_l_pick (T : Tx K mg C) : C8.Cal P w K mg base 2 "_law_pick" (sp_l_pick K) [] := by
  refine mk_pm T.d_l_pick sc_l_pick (fun _ => rfl) (fun f cdv A outer s H vs Q E S r ds us evs hr hus ok hR q => ?_)
  obtain ⟨u1, rfl, h1⟩ := iss1 hus
  obtain ⟨b, xs, rfl, h2, h3⟩ := is_t.mp h1
  subst evs
  refine ⟨_, (pss_one (ps_ret (pe_ix (k_ix_list K rfl) (pv 1) (C8.pe_c (c_l_taken T) hr (by decide) (by rfl) (pa_cons (pv 0) (pa_cons (pe_callB (k_lenQ K rfl) (by rfl) T.b_len (by decide +kernel) (pa_cons (pv 1) pa_nil)) pa_nil))) (fun _ _ => rfl)))), ?_⟩
  have hbr : b ∉ [r] := fun z => by
    rw [List.mem_singleton] at z
    subst z
    obtain ⟨i, sd, g, ns, k1, k2, k3⟩ := hR
    rw [h2] at k1
    injection k1 with k1
    injection k1 with k1
    subst k1
    cases h3 with
    | cons _ t =>
      cases t with
      | cons d2 _ =>
        obtain ⟨es, he⟩ := ok.2.2 _ (List.mem_cons_of_mem _ List.mem_cons_self)
        rw [he] at d2
        cases d2
  have hm := hR.ms
  refine m_ret hR (p := fun d => d ∈ ds) (fun H1 c R Q q => ?_) (fun u d H1 c R t pd hu => q u d H1 c R pd hu)
  have b1 := c b _ hbr h2
  have b2 := h3.mono (c.tp hm)
  refine ⟨_, rfl, ?_⟩
  refine m_taken (S := (K, S)) (H := H1) (m := ds.length) rfl R.ms (fun H2 c2 R2 t2 => ev_lenL (ev_var rfl (is_t.mpr ⟨b, xs, rfl, c2 b _ hbr b1, b2.mono t2⟩))) ok.1 ok.2.1 H1 (Ch.refl _ _) R _ (fun u d H2 c2 R2 ⟨k, k1, k2⟩ hu => ?_)
  subst k2
  have b1' := c2 b _ hbr b1
  have b2' := b2.mono (c2.tp R.ms)
  have hk : ds[k]? = some ds[k] := List.getElem?_eq_getElem k1
  obtain ⟨v, g1, g2⟩ := b2'.get hk
  rw [hu.intE]
  exact ⟨b, xs, _, v, rfl, rfl, SqL.of b1', atI_nat g1, q v _ H2 c2 R2 (List.getElem_mem k1) g2⟩
/-! _law_persons -/
theorem natsD_of {n : Nat} {ds : List PyData} (h : ∀ d ∈ ds, ∃ k : Nat, k < n ∧ d = .int (k : Int)) : ∃ ks : List Nat, (∀ k ∈ ks, k < n) ∧ ds = natsD ks := by
  induction ds with
  | nil => exact ⟨[], (fun _ h => nomatch h), rfl⟩
  | cons d ds ih =>
    obtain ⟨ks, h1, h2⟩ := ih (fun e he => h e (List.mem_cons_of_mem _ he))
    obtain ⟨k, k1, k2⟩ := h d List.mem_cons_self
    refine ⟨k :: ks, fun x hx => ?_, ?_⟩
    · rw [List.mem_cons] at hx
      rcases hx with e | e
      · subst e; exact k1
      · exact h1 x e
    · rw [h2, k2]; rfl
def sp_l_persons (K : PySem.W.Frag) : Sp := PM K (fun a : Nat × Nat => [.d (.int (a.1 : Int)), .d (.int (a.2 : Int))]) (fun a => 1 ≤ a.1 ∧ a.1 ≤ 900 ∧ a.2 ≤ 900) (fun a d => ∃ ks : List Nat, (∀ k ∈ ks, k < a.1) ∧ ks.length ≤ a.2 ∧ d = .tuple (natsD ks))
theorem c_l_persons (T : Tx K mg C) : C8.Cal P w K mg base 2 "_law_persons" (sp_l_persons K) [] := by
  refine mk_pm T.d_l_persons sc_l_persons (fun _ => rfl) (fun f cdv A outer s H vs Q E S r a us evs hr hus ok hR q => ?_)
  obtain ⟨n, m⟩ := a
  obtain ⟨u1, u2, rfl, h1, h2⟩ := iss2 hus
  have eu1 : u1 = .int (n : Int) := Dt.intE h1
  have eu2 : u2 = .int (m : Int) := Dt.intE h2
  subst eu1 eu2 evs
  obtain ⟨ok1, ok2, ok3⟩ := ok
  replace ok1 : 1 ≤ n := ok1
  replace ok2 : n ≤ 900 := ok2
  replace ok3 : m ≤ 900 := ok3
  refine ⟨_, (pss_one (ps_ret (pe_callTy (k_tupQ K rfl) (by rfl) T.b_tuple (by decide +kernel) (pa_cons (pe_lc (own := [("_law_turn_here", 3)]) rfl sc_l_persons.nd (pi_range1 (by rfl) T.b_range (pa_cons (C8.pe_c (c_l_taken T) hr (by decide) (by rfl) (pa_cons (pv 0) (pa_cons (pe_op op_add (pv 2) pe_int) pa_nil))) pa_nil)) (blkOk_by (own := [("_law_turn_here", 3)]) (N := n_l_persons) (sc := C8.fnScope s_l_persons) (by decide +kernel)) (fun _ _ _ _ _ => (pg_name (i := 3) sc_l_persons.nd rfl (Or.inl rfl))) (fun _ _ _ _ _ => pts_nil) (fun _ _ _ _ _ => (C8.pe_c (c_l_taken T) hr (by decide) (by rfl) (pa_cons (pv 0) (pa_cons (pv 1) pa_nil))))) pa_nil)))), ?_⟩
  have hm := hR.ms
  refine m_ret hR (m_tupL (m_lcN (ok := fun k => k < m + 1) (it := fun i => .d (.int (i : Nat))) false (fun _ d => ∃ k : Nat, k < n ∧ d = .int (k : Int)) ?_ (fun k hk => by omega) (fun _ => rfl) (fun i k x H1 hk hi c R hx => ?_) (fun i k x H1 hk hi c R hx => ?_))) (fun u d H1 c R t pd hu => ?_)
  · intro H1 c R R2 q2
    refine m_taken (S := (K, S)) (H := H1) (m := m + 1) rfl R.ms (fun H2 c2 R2 t2 => Ev.to (ev_I0 (ev_varD rfl (.int _)) ev_int) ?_) (by omega) (by omega) H1 (Ch.refl _ _) R _ (fun u d H2 c2 R2' ⟨k, k1, k2⟩ hu => ?_)
    · rw [show ((m : Int) + 1) = ((m + 1 : Nat) : Int) by omega]
    · subst k2
      rw [hu.intE]
      refine ⟨(k : Int), rfl, by omega, by omega, ?_⟩
      rw [Int.toNat_natCast]
      refine q2 _ k H2 k1 c2 R2' ((walk_range (lo := 0) (n := k)).mono (fun _ _ => trivial) fun i Ha x Hb _ _ hy => ?_)
      obtain ⟨rfl, rfl⟩ := hy
      refine ⟨Same.refl _, is_d.mpr ?_⟩
      show Dt _ (.int (0 + (i : Int))) _
      rw [Int.zero_add]
      exact .int _
  · exact fun H2 c2 R2 Q q => q true H2 (Ch.refl _ _) R2 (fun z => nomatch z)
  · exact m_taken rfl R.ms (fun H2 c2 R2 t2 => ev_varD rfl (.int _)) ok1 (by omega)
  · obtain ⟨ds, ⟨k, hk, hs⟩, rfl⟩ := pd
    have hl := hs.full
    obtain ⟨ks, k1, rfl⟩ := natsD_of (n := n) (fun d hd => by obtain ⟨i, _, h⟩ := hs.all d hd; exact h)
    refine q u _ H1 c R ⟨ks, k1, ?_, rfl⟩ hu
    have : (natsD ks).length = ks.length := List.length_map _
    show ks.length ≤ m
    omega
end
end TF
/-! P10 -/
namespace TF
open PySem PySem.Spec PyProof.Rows L2

section
variable {P : Program} {w : World} {K : PySem.W.Frag} {mg : Str → Option Value} {base : Heap} {C : Addr} {σ : L2.St} {H : Hp} {ta tb tc td : TE} {S : Scr} {r : Addr}
theorem m_cat {p p' : List PyData → Prop} (ha : EvMF S r ta σ H p) (hb : EvMF S r tb σ H p') (hz : ∀ d e, p d → p' e → d.length + e.length ≤ 100000) : EvMF S r (tOp rCat ta tb) σ H (fun ds => ∃ d e, p d ∧ p' e ∧ ds = d ++ e) := fun H1 c R Q q =>
  ha H1 c R _ fun a xs d H2 c2 R2 a0 a1 pd hd => hb H2 (c.trans c2) R2 _ fun b ys e H3 c3 R3 b0 b1 pe he => by
    have har : a ∉ [r] := fun z => by
      rw [List.mem_singleton] at z
      subst z
      obtain ⟨i, sd, g, ns, k1, k2, k3⟩ := R
      rw [a0] at k1; cases k1
    have a1' := c3 a _ har a1
    have hd' := hd.mono (c3.tp R2.ms)
    refine ⟨a, b, xs, ys, rfl, rfl, a1', b1, Nat.le_trans (by rw [hd.length, he.length]; exact hz d e pd pe) (show 100000 ≤ sizeLine by decide), fun q0 hq => ?_⟩
    have s4 := same_new (o := HO.lst (xs ++ ys)) hq
    exact q q0 _ _ _ ((c2.trans c3).then s4) (R3.same s4) ((c2.trans c3).free1 hq (fun z => (R3.ne0 hq).1 z.symm)) upd_same ⟨d, e, pd, pe, rfl⟩ ((hd'.append he).mono (Tp.new hq))
/-- what the ways draw from -/
def L3 (n : Nat) : List (Nat × Nat) := ((List.range (n - 1)).map fun i => (i, i + 1)) ++ (if 2 < n then [(0, n - 1)] else [])
def L5 (n : Nat) : List (Nat × Nat) := ((List.range (n - 1)).map fun i => (0, 1 + i)) ++ ((List.range (n - 2)).map fun i => (1 + i, 1 + i + 1))
def Fine (n : Nat) (ps : List (Nat × Nat)) : Prop := ps.Nodup ∧ ∀ p ∈ ps, p ∈ allP n
theorem fine_l3' : ∀ n ≤ 4, (L3 n).Nodup ∧ ∀ p ∈ L3 n, p ∈ allP n := by decide +kernel
theorem fine_l5' : ∀ n ≤ 4, (L5 n).Nodup ∧ ∀ p ∈ L5 n, p ∈ allP n := by decide +kernel
theorem Fine.sub {n : Nat} {ps qs : List (Nat × Nat)} (h : Fine n ps) (s : qs.Sublist ps) : Fine n qs := ⟨h.1.sublist s, fun p hp => h.2 p (s.subset hp)⟩
theorem sel4 {m : Nat} {ds : List PyData} (h : Sel false (fun i d => ∃ k : Nat, k < 1 + i ∧ d = pr (k, 1 + i)) m ds) : ∃ ps : List (Nat × Nat), ds = ps.map pr ∧ ps.Nodup ∧ ∀ p ∈ ps, p.1 < p.2 ∧ p.2 < 1 + m := by
  induction h with
  | nil => exact ⟨[], rfl, .nil, fun _ h => nomatch h⟩
  | skip _ e _ => cases e
  | @take m ds d _ pd ih =>
    obtain ⟨ps, rfl, h2, h3⟩ := ih
    obtain ⟨k, k1, rfl⟩ := pd
    refine ⟨ps ++ [(k, 1 + m)], by rw [List.map_append]; rfl, ?_, ?_⟩
    · rw [List.nodup_append]
      refine ⟨h2, by simp, fun a ha b hb => ?_⟩
      rw [List.mem_singleton] at hb
      subst hb
      intro z
      have := (h3 a ha).2
      rw [z] at this
      dsimp only at this
      omega
    · intro p hp
      rw [List.mem_append, List.mem_singleton] at hp
      rcases hp with hp | hp
      · have := h3 p hp
        exact ⟨this.1, by omega⟩
      · subst hp
        exact ⟨k1, by dsimp only; omega⟩
def sp_l_hall (K : PySem.W.Frag) : Sp := PM K (fun _ : Unit => [.d (.int 4)]) (fun _ => True) (fun _ d => ∃ h : HallA, HOk h ∧ d = hD h)
theorem c_l_hall (T : Tx K mg C) : C8.Cal P w K mg base 2 "_law_hall" (sp_l_hall K) [] := by
  refine mk_pm T.d_l_hall sc_l_hall (fun _ => rfl) (fun f cdv A outer s H vs Q E S r a us evs hr hus ok hR q => ?_)
  obtain ⟨u1, rfl, h1⟩ := iss1 hus
  have eu1 : u1 = .int 4 := Dt.intE h1
  subst eu1 evs
  refine ⟨_, (pss_cons (ps_asg (pe_tup (pa_cons (pe_op op_add pe_int (C8.pe_c (c_l_taken T) hr (by decide) (by rfl) (pa_cons (pv 0) (pa_cons (pv 1) pa_nil)))) (pa_cons (C8.pe_c (c_l_taken T) hr (by decide) (by rfl) (pa_cons (pv 0) (pa_cons pe_int pa_nil))) (pa_cons (pe_lst pa_nil) pa_nil)))) (k_pg_tup K rfl (n := 3) rfl (pgs_cons (pg_name (i := 2) sc_l_hall.nd rfl (Or.inl rfl)) (pgs_cons (pg_name (i := 3) sc_l_hall.nd rfl (Or.inr rfl)) (pgs_cons (pg_name (i := 4) sc_l_hall.nd rfl (Or.inl rfl)) pgs_nil)))))
      (pss_cons (ps_if (pt_cmpR op_lt (pv 3) pe_int (by rfl))
      (pss_one (ps_setLc (own := [("_law_pair", 5)]) (i := 4) rfl sc_l_hall.nd rfl rfl (sw_true rfl rfl rfl (by decide +kernel)) (k_pi_list K rfl (C8.pe_c (c_l_pairs T) hr (by decide) (by rfl) (pa_cons (pv 2) pa_nil))) (blkOk_by (own := [("_law_pair", 5)]) (N := n_l_hall) (sc := C8.fnScope s_l_hall) (by decide +kernel)) (fun _ _ _ _ _ => (pg_name (i := 5) sc_l_hall.nd rfl (Or.inl rfl))) (fun _ _ _ _ _ => pts_one (pt_cmpR op_le (C8.pe_c (c_l_taken T) hr (by decide) (by rfl) (pa_cons (pv 0) (pa_cons pe_int pa_nil))) (pv 3) (by rfl))) (fun _ _ _ _ _ => (pv 5))))
      (pss_one (ps_if (pt_cmpR op_eq (pv 3) pe_int (by rfl))
      (pss_one (ps_set (i := 4) sc_l_hall.nd rfl (Or.inl rfl) (pe_op op_cat (pe_lc (own := [("_law_x", 6)]) rfl sc_l_hall.nd (pi_range1 (by rfl) T.b_range (pa_cons (pe_op op_sub (pv 2) pe_int) pa_nil)) (blkOk_by (own := [("_law_x", 6)]) (N := n_l_hall) (sc := C8.fnScope s_l_hall) (by decide +kernel)) (fun _ _ _ _ _ => (pg_name (i := 6) sc_l_hall.nd rfl (Or.inl rfl))) (fun _ _ _ _ _ => pts_nil) (fun _ _ _ _ _ => (pe_tup (pa_cons (pv 6) (pa_cons (pe_op op_add (pv 6) pe_int) pa_nil))))) (pe_ifExp (pt_cmpR op_gt (pv 2) pe_int (by rfl)) (pe_lst (pa_cons (pe_tup (pa_cons pe_int (pa_cons (pe_op op_sub (pv 2) pe_int) pa_nil))) pa_nil)) (pe_lst pa_nil)))))
      (pss_one (ps_if (pt_cmpR op_eq (pv 3) pe_int (by rfl))
      (pss_one (ps_setLc (own := [("_law_x", 6)]) (i := 4) rfl sc_l_hall.nd rfl rfl (sw_true rfl rfl rfl (by decide +kernel)) (pi_range2 (by rfl) T.b_range (pa_cons pe_int (pa_cons (pv 2) pa_nil))) (blkOk_by (own := [("_law_x", 6)]) (N := n_l_hall) (sc := C8.fnScope s_l_hall) (by decide +kernel)) (fun _ _ _ _ _ => (pg_name (i := 6) sc_l_hall.nd rfl (Or.inl rfl))) (fun _ _ _ _ _ => pts_nil) (fun _ _ _ _ _ => (pe_tup (pa_cons (C8.pe_c (c_l_taken T) hr (by decide) (by rfl) (pa_cons (pv 0) (pa_cons (pv 6) pa_nil))) (pa_cons (pv 6) pa_nil))))))
      (pss_one (ps_set (i := 4) sc_l_hall.nd rfl (Or.inl rfl) (pe_op op_cat (pe_lc (own := [("_law_x", 6)]) rfl sc_l_hall.nd (pi_range2 (by rfl) T.b_range (pa_cons pe_int (pa_cons (pv 2) pa_nil))) (blkOk_by (own := [("_law_x", 6)]) (N := n_l_hall) (sc := C8.fnScope s_l_hall) (by decide +kernel)) (fun _ _ _ _ _ => (pg_name (i := 6) sc_l_hall.nd rfl (Or.inl rfl))) (fun _ _ _ _ _ => pts_nil) (fun _ _ _ _ _ => (pe_tup (pa_cons pe_int (pa_cons (pv 6) pa_nil))))) (pe_lc (own := [("_law_x", 6)]) rfl sc_l_hall.nd (pi_range2 (by rfl) T.b_range (pa_cons pe_int (pa_cons (pe_op op_sub (pv 2) pe_int) pa_nil))) (blkOk_by (own := [("_law_x", 6)]) (N := n_l_hall) (sc := C8.fnScope s_l_hall) (by decide +kernel)) (fun _ _ _ _ _ => (pg_name (i := 6) sc_l_hall.nd rfl (Or.inl rfl))) (fun _ _ _ _ _ => pts_one (pt_cmpR op_eq (C8.pe_c (c_l_taken T) hr (by decide) (by rfl) (pa_cons (pv 0) (pa_cons pe_int pa_nil))) pe_int (by rfl))) (fun _ _ _ _ _ => (pe_tup (pa_cons (pv 6) (pa_cons (pe_op op_add (pv 6) pe_int) pa_nil)))))))))))))
      (pss_one (ps_ret (pe_tup (pa_cons (pv 2) (pa_cons (pe_callTy (k_tupQ K rfl) (by rfl) T.b_tuple (by decide +kernel) (pa_cons (pe_callB (k_sortedD K rfl hr.units) (by rfl) T.b_sorted (by decide +kernel) (pa_cons (pv 4) pa_nil)) pa_nil)) pa_nil))))))), ?_⟩
  have hm := hR.ms
  refine seq ?_
  refine m_asg3 (p := fun d => ∃ n : Nat, 1 ≤ n ∧ n ≤ 4 ∧ d = .int (n : Int)) (p' := fun d => ∃ k : Nat, k < 6 ∧ d = .int (k : Int)) hR ?_ ?_ (fun u1 d1 u2 d2 l H1 c1 R1 t1 pd1 hu1 pd2 hu2 hl0 hl1 => ?_)
  · refine (m_I0 (q1 := fun i => i = 1) (q2 := fun i => ∃ k : Nat, k < 4 ∧ i = (k : Int)) hm ((m_of hm (fun H1 c R t => ev_int)).mono (fun d hd => ⟨1, rfl, hd⟩)) ((m_taken (m := 4) rfl hm (fun H1 c R t => ev_varD rfl (.int 4)) (by omega) (by omega)).mono (fun d ⟨k, k1, k2⟩ => ⟨(k : Int), ⟨k, k1, rfl⟩, k2⟩))).mono (fun d ⟨i, j, hi, ⟨k, k1, k2⟩, e⟩ => ⟨1 + k, by omega, by omega, ?_⟩)
    subst hi k2
    rw [e]
    rfl
  · exact m_taken (m := 6) rfl hm (fun H1 c R t => ev_int) (by omega) (by omega)
  obtain ⟨n, n1, n4, rfl⟩ := pd1
  obtain ⟨k, k6, rfl⟩ := pd2
  rw [hu1.intE, hu2.intE]
  dsimp only
  have fin : ∀ a xs ps H2, Ch [r] H H2 → RowOk (K, S) r H2 → H2 a = some (.lst xs) → Dts H2 xs (ps.map pr) → Fine n ps →
      tRet (tTup (tCons (tVar 2) (tCons (tCB (rTupQ K) (tCons (tCB (rSortedD K) (tCons (tVar 4) tNil)) tNil)) tNil))) { nx := fun _ H' => Q .non H', rt := Q } [some (.ref r), some (.int 4), some (.int (n : Int)), some (.int (k : Int)), some (.ref a), none, none] H2 := fun a xs ps H2 c2 R2 a1 a2 hf => by
    obtain ⟨qs, g1, g2⟩ := hall_sorted n1 n4 hf.1 hf.2
    refine s_ret (s := .d (hD (n, qs))) (ev_tup (ds := [.int (n : Int), .tuple (qs.map pr)]) (ea_consD (ev_varD rfl (.int _)) (ea_consD (ev_tupL (EvF.ev (EvF.to (ev_sorted (ds := ps.map pr) (ev_var rfl (is_t.mpr ⟨a, xs, rfl, a1, a2⟩)) (alike_prs ps) (sortable_prs ps) (deep_prs ps)) g2))) ea_nilD)) (by show 2 ≤ 100000; omega)) (fun u H3 e3 hu => ?_)
    exact q u _ H3 (c2.then e3) (R2.same e3) ⟨(n, qs), g1, rfl⟩ hu
  have fin2 : ∀ (a : Addr) (xs : List V) (ds : List PyData) (H1 H2 : Hp), Ch [r] H H1 → Ch [r] H1 H2 → RowOk (K, S) r H2 → H2 a = some (.lst xs) → Dts H2 xs ds → (∃ ps : List (Nat × Nat), ds = ps.map pr ∧ Fine n ps) →
      tRet (tTup (tCons (tVar 2) (tCons (tCB (rTupQ K) (tCons (tCB (rSortedD K) (tCons (tVar 4) tNil)) tNil)) tNil))) { nx := fun _ H' => Q .non H', rt := Q } [some (.ref r), some (.int 4), some (.int (n : Int)), some (.int (k : Int)), some (.ref a), none, none] H2 := fun a xs ds H1 H2 c1 c2 R2 a1 a2 ⟨ps, e, hf⟩ => by
    subst e
    exact fin a xs ps H2 (c1.trans c2) R2 a1 a2 hf
  refine seq ?_
  refine s_if (et_test (ev_B0 (ev_varD rfl (.int _)) ev_int)) (fun _ H2 e2 => ?_) (fun _ H2 e2 => ?_)
  · have R2 := R1.same e2
    have hN : ((allP n).map pr).length ≤ 6 := by rw [List.length_map]; exact allP_len n n4
    refine m_asgF R2 (m_lcN (ok := fun m => m = ((allP n).map pr).length) (it := fun i => .d (((allP n).map pr).getD i .none)) true (fun i d => d = ((allP n).map pr).getD i .none) (mi_of R2.ms (fun H3 c3 R3 t3 => ei_lstF (e_l_pairs (ev_varD rfl (.int _)) n4) R3.ms)) (fun m hm => by omega) (fun _ => rfl) (fun i m x H3 hm hi c R hx => ?_) (fun i m x H3 hm hi c R hx => ?_)) (fun a xs ds H3 c3 R3 t3 a0 a1 pd hd => ?_)
    · refine fun H4 c4 R4 Q q => mt_I0 (q1 := fun i => True) (q2 := fun i => True) ((m_taken (m := 4) rfl R.ms (fun H1 c R t => ev_int) (by omega) (by omega)).mono (fun d ⟨k, k1, k2⟩ => ⟨(k : Int), trivial, k2⟩)) ((m_of R.ms (fun H1 c R t => ev_varD rfl (.int _))).mono (fun d hd => ⟨_, trivial, hd⟩)) H4 c4 R4 Q (fun b H5 c5 R5 _ => q b H5 c5 R5 (fun _ => rfl))
    · exact m_of R.ms (fun H4 c4 R4 t4 => ev_varD rfl (hx.mono t4))
    · obtain ⟨m, rfl, hs⟩ := pd
      have hsub := hs.sub
      rw [range_getD] at hsub
      obtain ⟨qs, q1, q2⟩ := sub_prs hsub
      exact fin2 a xs ds H1 H3 c1 ((same_ch e2).trans c3) R3 a1 hd ⟨qs, q2, ⟨(allP_nodup n n4).sublist q1, fun p hp => q1.subset hp⟩⟩
  · refine s_if (et_test (ev_eqI (ev_varD rfl (.int _)) ev_int)) (fun _ H3 e3 => ?_) (fun _ H3 e3 => ?_)
    · refine s_asgFE (es := (L3 n).map pr) (ev_cat (ds := ((List.range (n - 1)).map fun i => (i, i + 1)).map pr) (es := (if 2 < n then [(0, n - 1)] else [] : List (Nat × Nat)).map pr) (EvF.ev (EvF.to (ev_lcN (fun _ => true) (fun i => pr (i, i + 1)) (ei_rng1 (n := n - 1) (ea_cons (Ev.to (ev_I0 (ev_varD rfl (.int _)) ev_int) ?_) ea_nil) (by omega)) (by omega) (fun _ => rfl) (fun j y H3 hj e3 hy => et_yes) (fun j y H3 hj e3 hy _ => ?_)) ?_)) (ev_if (b := decide (2 < n)) (EvT.to (et_test (ev_B0 (ev_varD rfl (.int _)) ev_int)) ?_) (fun h => ?_) (fun h => ?_)) ?_) ?_ (fun a xs H4 e4 a0 a1 a2 => ?_)
      · rw [show ((n : Int) - 1) = ((n - 1 : Nat) : Int) by omega]
      · refine Ev.to (ev_tup (ds := [.int (j : Int), .int ((j : Int) + 1)]) (ea_consD (ev_varD rfl hy) (ea_consD (ev_I0 (ev_varD rfl hy) ev_int) ea_nilD)) (by show 2 ≤ 100000; omega)) rfl
      · rw [given_all, List.map_map]; rfl
      · by_cases h : 2 < n
        · rw [decide_eq_true h]; exact decide_eq_true (by omega)
        · rw [decide_eq_false h]; exact decide_eq_false (by omega)
      · have h' : 2 < n := by simpa using h
        rw [if_pos h']
        refine EvF.ev (ev_lst (ds := [pr (0, n - 1)]) (ea_consD (Ev.to (ev_tup (ds := [.int 0, .int ((n : Int) - 1)]) (ea_consD ev_int (ea_consD (ev_I0 (ev_varD rfl (.int _)) ev_int) ea_nilD)) (by show 2 ≤ 100000; omega)) ?_) ea_nilD) (by show 1 ≤ 100000; omega))
        rw [show ((n : Int) - 1) = ((n - 1 : Nat) : Int) by omega]
        rfl
      · have h' : ¬ 2 < n := by simpa using h
        rw [if_neg h']
        exact EvF.ev (ev_lst (ds := []) ea_nilD (Nat.zero_le _))
      · rw [List.length_map, List.length_map, List.length_map, List.length_range]
        split
        · show n - 1 + 1 ≤ _; omega
        · show n - 1 + 0 ≤ _; omega
      · rw [← List.map_append]; rfl
      · exact fin2 a xs _ H1 H4 c1 (same_ch ((e2.trans e3).trans e4)) (((R1.same e2).same e3).same e4) a1 a2 ⟨L3 n, rfl, fine_l3' n n4⟩
    · refine s_if (et_test (ev_eqI (ev_varD rfl (.int _)) ev_int)) (fun _ H4 e4 => ?_) (fun _ H4 e4 => ?_)
      · have R4 := ((R1.same e2).same e3).same e4
        have el : ((n : Int) - 1).toNat = n - 1 := by omega
        refine m_asgF R4 (m_lcN (ok := fun m => m = n - 1) (it := fun i => .d (.int (1 + (i : Nat)))) false (fun i d => ∃ k : Nat, k < 1 + i ∧ d = pr (k, 1 + i)) (mi_of R4.ms (fun H3 c3 R3 t3 => ?_)) (fun m hm => by omega) (fun _ => rfl) (fun i m x H3 hm hi c R hx => ?_) (fun i m x H3 hm hi c R hx => ?_)) (fun a xs ds H3 c3 R3 t3 a0 a1 pd hd => ?_)
        · rw [← el]
          exact ei_rng2 (lo := 1) (hi := (n : Int)) (ea_cons ev_int (ea_cons (ev_varD rfl (.int _)) ea_nil)) (by omega)
        · exact fun H2 c2 R2 Q q => q true H2 (Ch.refl _ _) R2 (fun z => nomatch z)
        · refine EvM.mono (m_tup (ma_cons R.ms (m_taken (m := 1 + i) rfl R.ms (fun H5 c5 R5 t5 => Ev.to (ev_varD rfl (hx.mono t5)) ?_) (by omega) (by omega)) (ma_cons R.ms (m_of R.ms (fun H5 c5 R5 t5 => ev_varD rfl (hx.mono t5))) ma_nil)) (fun ds ⟨d, es, _, ⟨d', es', _, h2, h3⟩, h4⟩ => ?_)) (fun d ⟨ds, ⟨d1, es, ⟨k, k1, k2⟩, ⟨d2, es', h2, h3, h4⟩, h5⟩, e⟩ => ⟨k, k1, ?_⟩)
          · show Ds.d (.int (1 + (i : Int))) = _
            rw [show (1 + (i : Int)) = ((1 + i : Nat) : Int) by omega]
          · rw [h4, h3, h2]; show 2 ≤ 100000; omega
          · rw [e, h5, h4, h3, h2, k2]
            unfold pr
            rw [show (1 + (i : Int)) = ((1 + i : Nat) : Int) by omega]
        · obtain ⟨m, rfl, hs⟩ := pd
          obtain ⟨ps, e, p1, p2⟩ := sel4 hs
          refine fin2 a xs ds H1 H3 c1 ((same_ch ((e2.trans e3).trans e4)).trans c3) R3 a1 hd ⟨ps, e, p1, fun p hp => ?_⟩
          obtain ⟨z1, z2⟩ := p2 p hp
          exact allP_has n4 (by omega) z1
      · have R4 := ((R1.same e2).same e3).same e4
        have el : ((n : Int) - 1).toNat = n - 1 := by omega
        have el2 : ((n : Int) - 1 - 1).toNat = n - 2 := by omega
        refine m_asgF R4 (m_cat (m_ofF (ds := ((List.range (n - 1)).map fun i => (0, 1 + i)).map pr) R4.ms (fun H3 c3 R3 t3 => ?_)) (m_lcN (ok := fun m => m = n - 2) (it := fun i => .d (.int (1 + (i : Nat)))) true (fun i d => d = pr (1 + i, 1 + i + 1)) (mi_of R4.ms (fun H3 c3 R3 t3 => ?_)) (fun m hm => by omega) (fun _ => rfl) (fun i m x H3 hm hi c R hx => ?_) (fun i m x H3 hm hi c R hx => ?_)) (fun d e hd ⟨m, hm, he⟩ => ?_)) (fun a xs ds H3 c3 R3 t3 a0 a1 pd hd => ?_)
        · refine EvF.to (ev_lcN (fun _ => true) (fun i => pr (0, 1 + i)) (ei_rng2 (lo := 1) (hi := (n : Int)) (ea_cons ev_int (ea_cons (ev_varD rfl (.int _)) ea_nil)) (by omega)) (by omega) (fun _ => rfl) (fun j y H3 hj e3 hy => et_yes) (fun j y H3 hj e3 hy _ => ?_)) ?_
          · refine Ev.to (ev_tup (ds := [.int 0, .int (1 + (j : Nat))]) (ea_consD ev_int (ea_consD (ev_varD rfl hy) ea_nilD)) (by show 2 ≤ 100000; omega)) ?_
            unfold pr
            rw [show (1 + (j : Int)) = ((1 + j : Nat) : Int) by omega]
            rfl
          · rw [given_all, List.map_map, el]; rfl
        · rw [← el2]
          exact ei_rng2 (lo := 1) (hi := (n : Int) - 1) (ea_cons ev_int (ea_cons (ev_I0 (ev_varD rfl (.int _)) ev_int) ea_nil)) (by omega)
        · refine fun H4 c4 R4 Q q => mt_eq (q1 := fun i => True) (q2 := fun i => True) ((m_taken (m := 2) rfl R.ms (fun H1 c R t => ev_int) (by omega) (by omega)).mono (fun d ⟨k, k1, k2⟩ => ⟨(k : Int), trivial, k2⟩)) ((m_of R.ms (fun H1 c R t => ev_int)).mono (fun d hd => ⟨_, trivial, hd⟩)) H4 c4 R4 Q (fun b H5 c5 R5 _ => q b H5 c5 R5 (fun _ => rfl))
        · refine m_of R.ms (fun H4 c4 R4 t4 => Ev.to (ev_tup (ds := [.int (1 + (i : Nat)), .int (1 + (i : Nat) + 1)]) (ea_consD (ev_varD rfl (hx.mono t4)) (ea_consD (ev_I0 (ev_varD rfl (hx.mono t4)) ev_int) ea_nilD)) (by show 2 ≤ 100000; omega)) ?_)
          unfold pr
          rw [show (1 + (i : Int) + 1) = ((1 + i + 1 : Nat) : Int) by omega, show (1 + (i : Int)) = ((1 + i : Nat) : Int) by omega]
        · have := he.len
          rw [hd, List.length_map, List.length_map, List.length_range]
          omega
        · obtain ⟨d, e, rfl, ⟨m, rfl, he⟩, rfl⟩ := pd
          have hs : (((List.range (n - 1)).map fun i => (0, 1 + i)).map pr ++ e).Sublist ((L5 n).map pr) := by
            unfold L5
            rw [List.map_append]
            refine (List.Sublist.refl _).append ?_
            rw [List.map_map]
            exact he.sub
          obtain ⟨qs, q1, q2⟩ := sub_prs hs
          exact fin2 a xs _ H1 H3 c1 ((same_ch ((e2.trans e3).trans e4)).trans c3) R3 a1 hd ⟨qs, q2, (show Fine n (L5 n) from fine_l5' n n4).sub q1⟩
end
end TF
/-! P11 -/
namespace TF
open PySem PySem.Spec PyProof.Rows L2

section
variable {P : Program} {w : World} {K : PySem.W.Frag} {mg : Str → Option Value} {base : Heap} {C : Addr} {σ : L2.St} {H : Hp} {ta tb tc td : TE} {S : Scr} {r : Addr} {D : Ends}
theorem s_parFF {i j : Nat} {ds es : List PyData} (h1 : EvF ta σ H ds) (h2 : EvF tb σ H es) (k : ∀ p xs q ys H1, Same H H1 → H p = none → H q = none → p ≠ q → H1 p = some (.lst xs) → Dts H1 xs ds → H1 q = some (.lst ys) → Dts H1 ys es → D.nx ((σ.set i (some (.ref p))).set j (some (.ref q))) H1) : tPar i j (tCons ta (tCons tb tNil)) D σ H :=
  h1 H (Same.refl _) _ fun p xs H2 e2 p0 p1 p2 => h2 H2 e2 _ fun q ys H3 e3 q0 q1 q2 => ⟨_, _, rfl, k p xs q ys H3 (e2.trans e3) p0 (e2.free q0) (ne_of_none p1 q0) (e3 _ _ p1) (p2.mono (same_tp e3)) q1 q2⟩
def sp_l_friends : Sp := PL (fun a : HallA × Nat => [.d (hD a.1), .d (.int (a.2 : Int))]) (fun a => HOk a.1) (fun a => given a.1.1 (fun y => adj a.1.2 a.2 y) (fun y => .int (y : Nat)))
theorem e_l_friends {h : HallA} {x : Nat} (h1 : Ev ta σ H (.d (hD h))) (h2 : Ev tb σ H (.d (.int (x : Int)))) (ok : HOk h) : EvF (tCall sp_l_friends [] C8.E0 (tCons ta (tCons tb tNil))) σ H (given h.1 (fun y => adj h.2 x y) (fun y => .int (y : Nat))) :=
  ev_callL (α := HallA × Nat) (h, x) (ea_cons h1 (ea_cons h2 ea_nil)) ok
theorem c_l_friends (T : Tx K mg C) : C8.Cal P w K mg base 1 "_law_friends" sp_l_friends [] := by
  refine mk_pl T.d_l_friends sc_l_friends (fun _ => rfl) (fun f cdv A outer s H vs Q E a hr h ok q => ?_)
  obtain ⟨a, x⟩ := a
  obtain ⟨u1, u2, rfl, h1, h2⟩ := iss2 h
  replace h1 : Dt H u1 (hD a) := h1
  replace h2 : Dt H u2 (.int (x : Int)) := h2
  replace ok : HOk a := ok
  have ok4 : a.1 ≤ 4 := ok.2.1
  refine ⟨_, (pss_one (ps_ret (pe_lc (own := [("_law_y", 2)]) rfl sc_l_friends.nd (pi_range1 (by rfl) T.b_range (pa_cons (pe_ix (k_ix_tup K rfl) (pv 0) pe_int (fun _ _ => rfl)) pa_nil)) (blkOk_by (own := [("_law_y", 2)]) (N := n_l_friends) (sc := C8.fnScope s_l_friends) (by decide +kernel)) (fun _ _ _ _ _ => (pg_name (i := 2) sc_l_friends.nd rfl (Or.inl rfl))) (fun _ _ _ _ _ => pts_one (pt_cmpR (k_op_inT K rfl (hu65 hr)) (pe_tup (pa_cons (pe_callB (c_min2 rfl) (by rfl) T.b_min (by decide +kernel) (pa_cons (pv 1) (pa_cons (pv 2) pa_nil))) (pa_cons (pe_callB (c_max2 rfl) (by rfl) T.b_max (by decide +kernel) (pa_cons (pv 1) (pa_cons (pv 2) pa_nil))) pa_nil))) (pe_ix (k_ix_tup K rfl) (pv 0) pe_int (fun _ _ => rfl)) (by rfl))) (fun _ _ _ _ _ => (pv 2))))), ?_⟩
  refine s_retF (ev_lcN _ _ (ei_rng1 (ea_cons (ev_hn (ev_varD rfl h1)) ea_nil) (by omega)) (by omega) (fun _ => rfl) (fun i z H1 hi e hx => ?_) (fun i z H1 hi e hx _ => ev_varD rfl hx)) q
  refine et_test (Ev.to (ev_inT (ev_mm (ev_varD rfl (h2.mono (same_tp e))) (ev_varD rfl hx)) (ev_hp (ev_varD rfl (h1.mono (same_tp e)))) (shaped_pr _) (shaped_prs _)) ?_)
  rw [any_eqv]; rfl
def nearD (h : HallA) (x : Nat) : List PyData := given h.1 (fun y => adj h.2 x y) (fun y => .int (y : Nat))
theorem nearD_flat (h : HallA) (x : Nat) : (nearD h x).all flatD = true := by
  unfold nearD given
  rw [List.all_map]
  exact List.all_eq_true.mpr fun _ _ => rfl
def fT (h : HallA) (x : Nat) (p : Nat × Nat) : Bool := !(decide (p ∈ h.2) == (((nearD h x).any fun z => eqF z (.int (p.1 : Int))) && ((nearD h x).any fun z => eqF z (.int (p.2 : Int)))))
def turnH (h : HallA) (x : Nat) : HallA := (h.1, (allP h.1).filter (fT h x))
theorem turnH_ok {h : HallA} (x : Nat) (ok : HOk h) : HOk (turnH h x) := ⟨ok.1, ok.2.1, List.filter_sublist⟩
theorem take_filter {α : Type} (xs : List α) (f : α → Bool) (i : Nat) (h : i < xs.length) : (xs.take (i + 1)).filter f = (xs.take i).filter f ++ (if f xs[i] = true then [xs[i]] else []) := by
  rw [← List.take_append_getElem h, List.filter_append]
  congr 1
  split <;> simp_all
def sp_l_turn : Sp := PF (fun a : HallA × Nat => [.d (hD a.1), .d (.int (a.2 : Int))]) (fun a => HOk a.1) (fun a => .d (hD (turnH a.1 a.2)))
theorem e_l_turn {h : HallA} {x : Nat} (h1 : Ev ta σ H (.d (hD h))) (h2 : Ev tb σ H (.d (.int (x : Int)))) (ok : HOk h) : Ev (tCall sp_l_turn [] C8.E0 (tCons ta (tCons tb tNil))) σ H (.d (hD (turnH h x))) :=
  ev_call (α := HallA × Nat) (h, x) (ea_cons h1 (ea_cons h2 ea_nil)) ok
theorem c_l_turn (T : Tx K mg C) : C8.Cal P w K mg base 2 "_law_turn" sp_l_turn [] := by
  refine mk_pf T.d_l_turn sc_l_turn (fun _ => rfl) (fun f cdv A outer s H vs Q E a hr h ok q => ?_)
  obtain ⟨a, x⟩ := a
  obtain ⟨u1, u2, rfl, h1, h2⟩ := iss2 h
  replace h1 : Dt H u1 (hD a) := h1
  replace h2 : Dt H u2 (.int (x : Int)) := h2
  replace ok : HOk a := ok
  have ok4 : a.1 ≤ 4 := ok.2.1
  refine ⟨_, (pss_cons (ps_par (i := 2) (j := 3) (by rfl) sc_l_turn.nd rfl rfl (by decide) rfl rfl (pa_cons (C8.pe_c (c_l_friends T) hr (by decide) (by rfl) (pa_cons (pv 0) (pa_cons (pv 1) pa_nil))) (pa_cons (pe_lst pa_nil) pa_nil)) (by rfl))
      (pss_cons (ps_for PassesOwn.never rfl (k_pi_list K rfl (C8.pe_c (c_l_pairs T) hr (by decide) (by rfl) (pa_cons (pe_ix (k_ix_tup K rfl) (pv 0) pe_int (fun _ _ => rfl)) pa_nil))) (pg_name (i := 4) sc_l_turn.nd rfl (Or.inl rfl))
      (pss_one (ps_if (pt_cmpR op_ne (pe_cmpR (k_op_inT K rfl (hu65 hr)) (pv 4) (pe_ix (k_ix_tup K rfl) (pv 0) pe_int (fun _ _ => rfl)) (by rfl)) (pe_and (pe_cmpR (k_op_in_seq K rfl) (pe_ix (k_ix_tup K rfl) (pv 4) pe_int (fun _ _ => rfl)) (pv 2) (by rfl)) (pe_one (pe_cmpR (k_op_in_seq K rfl) (pe_ix (k_ix_tup K rfl) (pv 4) pe_int (fun _ _ => rfl)) (pv 2) (by rfl)))) (by rfl))
      (pss_one (ps_expr (k_bm K rfl PySem.F.plainAttrs_list PySem.F.slot_list_append PySem.F.type_list_append mt_append (pv 3) (pa_cons (pv 4) pa_nil))))
      pss_nil)))
      (pss_one (ps_ret (pe_tup (pa_cons (pe_ix (k_ix_tup K rfl) (pv 0) pe_int (fun _ _ => rfl)) (pa_cons (pe_callTy (k_tupQ K rfl) (by rfl) T.b_tuple (by decide +kernel) (pa_cons (pv 3) pa_nil)) pa_nil))))))), ?_⟩
  refine seq ?_
  refine s_parFF (e_l_friends (ev_varD rfl h1) (ev_varD rfl h2) ok) (ev_lst (ds := []) ea_nilD (Nat.zero_le _)) (fun p xs l ys H1 e1 p0 l0 hpl p1 p2 l1 l2 => ?_)
  have l2' : ys = [] := by cases l2; rfl
  subst l2'
  dsimp only
  refine seq ?_
  refine s_for (ms := [l]) (ei_lstF (e_l_pairs (ev_hn (ev_varD rfl (h1.mono (same_tp e1)))) ok4) (ms_one l1)) (fun Hs es => ?_)
  have ls := es _ _ l1
  have hlen : ((allP a.1).map pr).length = (allP a.1).length := List.length_map _
  refine ⟨fun i σ' H' => ∃ j4, σ' = [some u1, some u2, some (.ref p), some (.ref l), j4] ∧ Ch [l] Hs H' ∧ ∃ acc, H' l = some (.lst acc) ∧ Dts H' acc ((((allP a.1).take i).filter (fT a x)).map pr), ?_, ?_, ?_, ?_⟩
  · exact ⟨_, rfl, Ch.refl _ _, [], ls, .nil⟩
  · rintro i σ' H' ⟨j4, rfl, c, _⟩
    exact c
  · rintro i z σ' H0 H' hi ⟨j4, rfl, c, acc, g1, g2⟩ e hz
    have hi' : i < (allP a.1).length := by rw [hlen] at hi; exact hi
    have tp : Tp H1 H' := ((same_tp es).trans (c.tp1 ls)).trans (same_tp e)
    have k1 := h1.mono ((same_tp e1).trans tp)
    have c' := c.then e
    have pn : p ∉ [l] := by simpa using hpl
    have p1' := c' p _ pn (es _ _ p1)
    have p2' := p2.mono tp
    have g1' := e _ _ g1
    have g2' := g2.mono (same_tp e)
    have hz' : Dt H' z (pr (allP a.1)[i]) := by
      have : Dt H' z (((allP a.1).map pr).getD i .none) := hz
      rw [getD_pr hi'] at this
      exact this
    have hl := g2'.length
    have hl2 : ((((allP a.1).take i).filter (fT a x)).map pr).length ≤ 6 := by
      rw [List.length_map]
      have e1 := List.length_filter_le (fT a x) ((allP a.1).take i)
      have e2 := List.length_take_le i (allP a.1)
      have e3 := allP_len a.1 ok4
      rw [List.length_take] at e1
      omega
    have inN : ∀ (k : Nat) {te : TE} {σ1 : L2.St}, Ev te σ1 H' (.d (.int (k : Int))) → σ1[2]? = some (some (.ref p)) → Ev (tOp (rIn K false) te (tVar 2)) σ1 H' (.d (.bool ((nearD a x).any fun z => eqF z (.int (k : Int))))) := fun k te σ1 hk hs =>
      ev_inFL hk (ev_var hs (is_t.mpr ⟨p, xs, rfl, p1', p2'⟩)) rfl (nearD_flat a x)
    refine s_ifE (c := fT a x (allP a.1)[i]) (et_test (ev_neB (ev_inT (ev_varD rfl hz') (ev_hp (ev_varD rfl k1)) (shaped_pr _) (shaped_prs _)) (ev_and (inN (allP a.1)[i].1 (ev_ixT (i := 0) (ev_varD rfl hz') ev_int rfl) rfl) (fun _ => inN (allP a.1)[i].2 (ev_ixT (i := 1) (ev_varD rfl hz') ev_int rfl) rfl)))) ?_ (fun hb H3 e3 => ?_) (fun hb H3 e3 => ?_)
    · rw [any_eqv]; rfl
    · refine s_app (xs := acc) (e3 _ _ g1') (ev_varV rfl) (ev_varD rfl (hz'.mono (same_tp e3))) (by omega) (fun u H4 e4 hu => ?_)
      have hp4 := e4 _ _ (e3 _ _ g1')
      have tp4 : Tp H4 (upd H4 l (.lst (acc ++ [u]))) := Tp.mut hp4 fun _ z => nomatch z
      refine ⟨_, rfl, ((c'.then e3).then e4).upd (List.mem_singleton.mpr rfl), acc ++ [u], upd_same, ?_⟩
      rw [take_filter _ _ _ hi', if_pos hb, List.map_append]
      exact ((g2'.mono (same_tp (e3.trans e4))).snoc hu).mono tp4
    · refine s_next ⟨_, rfl, c'.then e3, acc, e3 _ _ g1', ?_⟩
      rw [take_filter _ _ _ hi', if_neg (by rw [hb]; decide), List.append_nil]
      exact g2'.mono (same_tp e3)
  · rintro σ' H' ⟨j4, rfl, c, acc, g1, g2⟩
    dsimp only
    rw [hlen, List.take_length] at g2
    have cb : Same H H' := c.back (e1.trans es) (fun m hm => by rw [List.mem_singleton] at hm; subst hm; exact l0)
    refine s_ret (s := .d (hD (turnH a x))) (ev_tup (ds := [.int (a.1 : Int), .tuple (((allP a.1).filter (fT a x)).map pr)]) (ea_consD (ev_hn (ev_varD rfl (h1.mono (same_tp cb)))) (ea_consD (ev_tupL (ev_var rfl (is_t.mpr ⟨l, acc, rfl, g1, g2⟩))) ea_nilD)) (by show 2 ≤ 100000; omega)) (fun u H2 e2 hu => q u H2 (cb.trans e2) hu)
def turnsH (h : HallA) (ks : List Nat) : HallA := ks.foldl turnH h
theorem turnsH_ok {h : HallA} (ks : List Nat) (ok : HOk h) : HOk (turnsH h ks) ∧ (turnsH h ks).1 = h.1 := by
  unfold turnsH
  induction ks generalizing h with
  | nil => exact ⟨ok, rfl⟩
  | cons k ks ih => exact ih (turnH_ok k ok)
def sp_l_turns : Sp := PF (fun a : HallA × List Nat => [.d (hD a.1), .d (.tuple (natsD a.2))]) (fun a => HOk a.1) (fun a => .d (hD (turnsH a.1 a.2)))
theorem c_l_turns (T : Tx K mg C) : C8.Cal P w K mg base 3 "_law_turns" sp_l_turns [] := by
  refine mk_pf T.d_l_turns sc_l_turns (fun _ => rfl) (fun f cdv A outer s H vs Q E a hr h ok q => ?_)
  obtain ⟨a, ks⟩ := a
  obtain ⟨u1, u2, rfl, h1, h2⟩ := iss2 h
  replace h1 : Dt H u1 (hD a) := h1
  replace h2 : Dt H u2 (.tuple (natsD ks)) := h2
  replace ok : HOk a := ok
  refine ⟨_, (pss_cons (ps_for PassesOwn.never rfl (k_pi_tup K rfl (pv 1)) (pg_name (i := 2) sc_l_turns.nd rfl (Or.inl rfl))
      (pss_one (ps_set (i := 0) sc_l_turns.nd rfl (Or.inl rfl) (C8.pe_c (c_l_turn T) hr (by decide) (by rfl) (pa_cons (pv 0) (pa_cons (pv 2) pa_nil))))))
      (pss_one (ps_ret (pv 0)))), ?_⟩
  refine seq ?_
  refine s_for (ms := []) (ei_tup (ev_varD rfl h2) (fun _ h => nomatch h)) (fun Hs es => ?_)
  have hlen : (natsD ks).length = ks.length := List.length_map _
  refine ⟨fun i σ' H' => ∃ v j2, σ' = [some v, some u2, j2] ∧ Same Hs H' ∧ Dt H' v (hD (turnsH a (ks.take i))), ?_, ?_, ?_, ?_⟩
  · exact ⟨_, _, rfl, Same.refl _, h1.mono (same_tp es)⟩
  · rintro i σ' H' ⟨v, j2, rfl, c, _⟩
    exact same_ch c
  · rintro i z σ' H0 H' hi ⟨v, j2, rfl, c, g1⟩ e hz
    have hi' : i < ks.length := by rw [hlen] at hi; exact hi
    have hz' : Dt H' z ((natsD ks).getD i .none) := hz
    rw [natsD_get hi'] at hz'
    refine s_asg (e_l_turn (ev_varD rfl (g1.mono (same_tp e))) (ev_varD rfl hz') (turnsH_ok _ ok).1) (fun u H3 e3 hu => ⟨_, _, rfl, (c.trans e).trans e3, ?_⟩)
    have : turnsH a (ks.take (i + 1)) = turnH (turnsH a (ks.take i)) ks[i] := by
      unfold turnsH
      rw [take_foldl _ _ _ _ hi']
    rw [this]
    exact hu
  · rintro σ' H' ⟨v, j2, rfl, c, g1⟩
    dsimp only
    rw [hlen, List.take_length] at g1
    exact s_ret (ev_varD rfl g1) (fun u H2 e2 hu => q u H2 ((es.trans c).trans e2) hu)
def sp_l_other (K : PySem.W.Frag) : Sp := PM K (fun h : HallA => [.d (hD h)]) HOk (fun h d => ∃ g : HallA, HOk g ∧ g.1 = h.1 ∧ d = hD g)
theorem given_sub {α : Type} (n : Nat) (f : Nat → Bool) (v : Nat → α) : (given n f v).Sublist ((List.range n).map v) := List.filter_sublist.map v
theorem c_l_other (T : Tx K mg C) : C8.Cal P w K mg base 4 "_law_other" (sp_l_other K) [] := by
  refine mk_pm T.d_l_other sc_l_other (fun _ => rfl) (fun f cdv A outer s H vs Q E S r a us evs hr hus ok hR q => ?_)
  obtain ⟨u1, rfl, h1⟩ := iss1 hus
  subst evs
  replace h1 : Dt H u1 (hD a) := h1
  replace ok : HOk a := ok
  have ok1 : 1 ≤ a.1 := ok.1
  have ok4 : a.1 ≤ 4 := ok.2.1
  refine ⟨_, (pss_cons (ps_set (i := 2) sc_l_other.nd rfl (Or.inl rfl) (C8.pe_c (c_l_taken T) hr (by decide) (by rfl) (pa_cons (pv 0) (pa_cons pe_int pa_nil))))
      (pss_cons (ps_set (i := 3) sc_l_other.nd rfl (Or.inr rfl) (C8.pe_c (c_l_turns T) hr (by decide) (by rfl) (pa_cons (pv 1) (pa_cons (C8.pe_c (c_l_persons T) hr (by decide) (by rfl) (pa_cons (pv 0) (pa_cons (pe_ix (k_ix_tup K rfl) (pv 1) pe_int (fun _ _ => rfl)) (pa_cons pe_int pa_nil)))) pa_nil))))
      (pss_cons (ps_if (pt_cmpR op_eq (pv 2) pe_int (by rfl))
      (pss_cons (ps_setLc (own := [("_law_pair", 5)]) (i := 4) rfl sc_l_other.nd rfl rfl (sw_true rfl rfl rfl (by decide +kernel)) (k_pi_list K rfl (C8.pe_c (c_l_pairs T) hr (by decide) (by rfl) (pa_cons (pe_ix (k_ix_tup K rfl) (pv 1) pe_int (fun _ _ => rfl)) pa_nil))) (blkOk_by (own := [("_law_pair", 5)]) (N := n_l_other) (sc := C8.fnScope s_l_other) (by decide +kernel)) (fun _ _ _ _ _ => (pg_name (i := 5) sc_l_other.nd rfl (Or.inl rfl))) (fun _ _ _ _ _ => pts_one (pt_cmpR op_eq (C8.pe_c (c_l_taken T) hr (by decide) (by rfl) (pa_cons (pv 0) (pa_cons pe_int pa_nil))) pe_int (by rfl))) (fun _ _ _ _ _ => (pv 5)))
      (pss_one (ps_ret (pe_tup (pa_cons (pe_ix (k_ix_tup K rfl) (pv 1) pe_int (fun _ _ => rfl)) (pa_cons (pe_callTy (k_tupQ K rfl) (by rfl) T.b_tuple (by decide +kernel) (pa_cons (pv 4) pa_nil)) pa_nil))))))
      pss_nil)
      (pss_cons (ps_if (PW.pt (pw_and (pt_cmpR op_eq (pv 2) pe_int (by rfl)) (pw_and1 (pt_cmpR op_gt (pe_ix (k_ix_tup K rfl) (pv 1) pe_int (fun _ _ => rfl)) pe_int (by rfl)))))
      (pss_cons (ps_set (i := 5) sc_l_other.nd rfl (Or.inr rfl) (C8.pe_c (c_l_pick T) hr (by decide) (by rfl) (pa_cons (pv 0) (pa_cons (C8.pe_c (c_l_pairs T) hr (by decide) (by rfl) (pa_cons (pe_ix (k_ix_tup K rfl) (pv 1) pe_int (fun _ _ => rfl)) pa_nil)) pa_nil))))
      (pss_cons (ps_setLc (own := [("_law_one", 6)]) (i := 4) rfl sc_l_other.nd rfl rfl (sw_true rfl rfl rfl (by decide +kernel)) (k_pi_list K rfl (C8.pe_c (c_l_pairs T) hr (by decide) (by rfl) (pa_cons (pe_ix (k_ix_tup K rfl) (pv 1) pe_int (fun _ _ => rfl)) pa_nil))) (blkOk_by (own := [("_law_one", 6)]) (N := n_l_other) (sc := C8.fnScope s_l_other) (by decide +kernel)) (fun _ _ _ _ _ => (pg_name (i := 6) sc_l_other.nd rfl (Or.inl rfl))) (fun _ _ _ _ _ => pts_one (pt_cmpR op_ne (pe_cmpR (k_op_inT K rfl (hu65 hr)) (pv 6) (pe_ix (k_ix_tup K rfl) (pv 3) pe_int (fun _ _ => rfl)) (by rfl)) (pe_cmpR (k_op_eqD K rfl hr.units) (pv 6) (pv 5) (by rfl)) (by rfl))) (fun _ _ _ _ _ => (pv 6)))
      (pss_one (ps_ret (pe_tup (pa_cons (pe_ix (k_ix_tup K rfl) (pv 1) pe_int (fun _ _ => rfl)) (pa_cons (pe_callTy (k_tupQ K rfl) (by rfl) T.b_tuple (by decide +kernel) (pa_cons (pv 4) pa_nil)) pa_nil)))))))
      pss_nil)
      (pss_one (ps_ret (pv 3))))))), ?_⟩
  refine seq ?_
  refine m_asg hR (m_taken (m := 4) rfl hR.ms (fun H1 c R t => ev_int) (by omega) (by omega)) (fun u2 d2 H1 c1 R1 t1 ⟨k, k4, e2⟩ hu2 => ?_)
  subst e2
  have eu2 := hu2.intE
  subst eu2
  dsimp only
  refine seq ?_
  refine m_asg (p := fun d => ∃ g : HallA, HOk g ∧ g.1 = a.1 ∧ d = hD g) R1 ?_ (fun u3 d3 H2 c2 R2 t2 pd3 hu3 => ?_)
  · refine m_pf (ps := fun ds => ∃ ks : List Nat, ds = [hD a, .tuple (natsD ks)]) ?_ (fun ds ⟨ks, e⟩ => ⟨(a, ks), by rw [e]; rfl, ok, turnsH a ks, (turnsH_ok ks ok).1, (turnsH_ok ks ok).2, rfl⟩)
    have q1 : EvMA (K, S) r (tCons (tVar 1) (tCons (tCall (sp_l_persons K) [] C8.E0 (tCons (tVar 0) (tCons (tOp (rIxT K) (tVar 1) (tC (.int 0))) (tCons (tC (.int 7)) tNil)))) tNil)) [some (.ref r), some u1, some (.int (k : Int)), none, none, none, none] H1 _ := ma_cons R1.ms (m_of R1.ms (fun H2 c2 R2 t2 => ev_varD rfl (h1.mono (t1.trans t2)))) (ma_cons R1.ms (m_call (a.1, 7) rfl R1.ms (fun H2 c2 R2 t2 => ea_cons (ev_hn (ev_varD rfl (h1.mono (t1.trans t2)))) (ea_cons ev_int ea_nil)) ⟨ok1, by show a.1 ≤ 900; omega, by show 7 ≤ 900; omega⟩) ma_nil)
    exact fun H2 c2 R2 Q q => q1 H2 c2 R2 Q (fun us ds H3 c3 R3 ⟨d, es, hd, ⟨d', es', ⟨ks, _, _, k3⟩, hn, h4⟩, h5⟩ hus => q us ds H3 c3 R3 ⟨ks, by rw [h5, h4, hn, hd, k3]⟩ hus)
  obtain ⟨g, g1, g2, rfl⟩ := pd3
  have a2 := h1.mono (t1.trans t2)
  have c02 := c1.trans c2
  dsimp only
  have hN : ((allP a.1).map pr).length ≤ 6 := by rw [List.length_map]; exact allP_len a.1 ok4
  have fin : ∀ (j5 : Option V) (l : Addr) (xs : List V) (ds : List PyData) (H3 : Hp), Ch [r] H2 H3 → RowOk (K, S) r H3 → H3 l = some (.lst xs) → Dts H3 xs ds → ds.Sublist ((allP a.1).map pr) → ∀ nx,
      tRet (tTup (tCons (tOp (rIxT K) (tVar 1) (tC (.int 0))) (tCons (tCB (rTupQ K) (tCons (tVar 4) tNil)) tNil))) { nx := nx, rt := Q } [some (.ref r), some u1, some (.int (k : Int)), some u3, some (.ref l), j5, none] H3 := fun j5 l xs ds H3 c3 R3 l1 l2 hs nx => by
    obtain ⟨qs, q1, q2⟩ := sub_prs hs
    subst q2
    refine s_ret (s := .d (hD (a.1, qs))) (ev_tup (ds := [.int (a.1 : Int), .tuple (qs.map pr)]) (ea_consD (ev_hn (ev_varD rfl (a2.mono (c3.tp R2.ms)))) (ea_consD (ev_tupL (ev_var rfl (is_t.mpr ⟨l, xs, rfl, l1, l2⟩))) ea_nilD)) (by show 2 ≤ 100000; omega)) (fun u H4 e4 hu => ?_)
    exact q u _ H4 ((c02.trans c3).then e4) (R3.same e4) ⟨(a.1, qs), ⟨ok1, ok4, q1⟩, rfl, rfl⟩ hu
  refine seq ?_
  refine s_when (et_test (ev_eqI (ev_varD rfl (.int _)) ev_int)) (fun _ H3 e3 => ?_) (fun _ H3 e3 => ?_)
  · refine seq ?_
    have R3 := R2.same e3
    have a3 := a2.mono (same_tp e3)
    refine m_asgF R3 (m_lcN (ok := fun m => m = ((allP a.1).map pr).length) (it := fun i => .d (((allP a.1).map pr).getD i .none)) true (fun i d => d = ((allP a.1).map pr).getD i .none) (mi_of R3.ms (fun H3 c3 R3 t3 => ei_lstF (e_l_pairs (ev_hn (ev_varD rfl (a3.mono t3))) ok4) R3.ms)) (fun m hm => by omega) (fun _ => rfl) (fun i m x H3 hm hi c R hx => ?_) (fun i m x H3 hm hi c R hx => ?_)) (fun l xs ds H4 c4 R4 t4 l0 l1 pd hd => ?_)
    · refine fun H4 c4 R4 Q q => mt_eq (q1 := fun i => True) (q2 := fun i => True) ((m_taken (m := 2) rfl R.ms (fun H1 c R t => ev_int) (by omega) (by omega)).mono (fun d ⟨k, k1, k2⟩ => ⟨(k : Int), trivial, k2⟩)) ((m_of R.ms (fun H1 c R t => ev_int)).mono (fun d hd => ⟨_, trivial, hd⟩)) H4 c4 R4 Q (fun b H5 c5 R5 _ => q b H5 c5 R5 (fun _ => rfl))
    · exact m_of R.ms (fun H4 c4 R4 t4 => ev_varD rfl (hx.mono t4))
    · obtain ⟨m, rfl, hs⟩ := pd
      have hsub := hs.sub
      rw [range_getD] at hsub
      exact fin none l xs ds H4 ((same_ch e3).trans c4) R4 l1 hd hsub _
  · dsimp only
    refine seq ?_
    have R3 := R2.same e3
    have a3 := a2.mono (same_tp e3)
    have g3 := hu3.mono (same_tp e3)
    refine s_when (et_and (et_test (ev_eqI (ev_varD rfl (.int _)) ev_int)) (fun _ => et_test (ev_B0 (ev_hn (ev_varD rfl a3)) ev_int))) (fun hb H4 e4 => ?_) (fun _ H4 e4 => ?_)
    · have hn : 1 < a.1 := by
        rw [Bool.and_eq_true, decide_eq_true_eq, decide_eq_true_eq] at hb
        omega
      have R4 := R3.same e4
      have a4 := a3.mono (same_tp e4)
      have g4 := g3.mono (same_tp e4)
      refine seq ?_
      have hpos : 1 ≤ ((allP a.1).map pr).length := by
        have := List.length_pos_of_mem (allP_has (x := 0) (y := 1) ok4 hn (by omega))
        rw [List.length_map]
        omega
      refine m_asg R4 (m_call ((allP a.1).map pr) rfl R4.ms (fun H5 c5 R5 t5 => ea_cons (EvF.ev (e_l_pairs (ev_hn (ev_varD rfl (a4.mono t5))) ok4)) ea_nil) ⟨hpos, by omega, fun d hd => by obtain ⟨pq, _, rfl⟩ := List.mem_map.mp hd; exact ⟨_, rfl⟩⟩) (fun u5 d5 H5 c5 R5 t5 pd hu5 => ?_)
      obtain ⟨pp, _, rfl⟩ := List.mem_map.mp pd
      dsimp only
      refine seq ?_
      have a5 := a4.mono t5
      have g5 := g4.mono t5
      refine s_asgF (ev_lcN (fun i => !(decide ((allP a.1).getD i (0, 0) ∈ g.2) == decide ((allP a.1).getD i (0, 0) = pp))) (fun i => ((allP a.1).map pr).getD i .none) (ei_lstF (e_l_pairs (ev_hn (ev_varD rfl a5)) ok4) (fun _ h => nomatch h)) (by omega) (fun _ => rfl) (fun i x H6 hi e6 hx => ?_) (fun i x H6 hi e6 hx _ => ev_varD rfl hx)) (fun l xs H6 e6 l0 l1 l2 => ?_)
      · have hi' : i < (allP a.1).length := by rw [List.length_map] at hi; exact hi
        have hx' : Dt H6 x (pr ((allP a.1).getD i (0, 0))) := by
          have : Dt H6 x (((allP a.1).map pr).getD i .none) := hx
          rw [getD_pr hi'] at this
          rw [List.getD_eq_getElem?_getD, List.getElem?_eq_getElem hi']
          exact this
        refine et_test (Ev.to (ev_neB (ev_inT (ev_varD rfl hx') (ev_hp (ev_varD rfl (g5.mono (same_tp e6)))) (shaped_pr _) (shaped_prs _)) (ev_eqD (ev_varD rfl hx') (ev_varD rfl (hu5.mono (same_tp e6))) (shaped_pr _) (shaped_pr _))) ?_)
        rw [any_eqv, pr_eqv]
      · have hs := given_sub ((allP a.1).map pr).length (fun i => !(decide ((allP a.1).getD i (0, 0) ∈ g.2) == decide ((allP a.1).getD i (0, 0) = pp))) (fun i => ((allP a.1).map pr).getD i .none)
        rw [range_getD] at hs
        exact fin (some u5) l xs _ H6 ((((same_ch e3).then e4).trans c5).then e6) (R5.same e6) l1 l2 hs _
    · refine s_ret (s := .d (hD g)) (ev_varD rfl (g3.mono (same_tp e4))) (fun u H5 e5 hu => ?_)
      exact q u _ H5 (c02.then ((e3.trans e4).trans e5)) (((R3.same e4).same e5)) ⟨g, g1, g2, rfl⟩ hu
end
end TF
/-! P12 -/
namespace TF
open PySem PySem.Spec PyProof.Rows L2

/-! looks: '.', X, Z, Y as two bits -/
abbrev Look := Bool × Bool
def chr : Look → Nat
  | (false, false) => 46
  | (true, false) => 88
  | (false, true) => 90
  | (true, true) => 89
def txt (ls : List Look) : Str := ⟨(ls.map chr).toArray⟩
abbrev dot : Look := (false, false)
def addL (a b : Look) : Look := (a.1 ^^ b.1, a.2 ^^ b.2)
theorem txt_append (ls ms : List Look) : txt ls ++ txt ms = txt (ls ++ ms) := by
  show (⟨(ls.map chr).toArray ++ (ms.map chr).toArray⟩ : Str) = _
  unfold txt
  rw [List.map_append, List.append_toArray]
theorem lit_dot : Str.ofString "." = txt [(false, false)] := by decide +kernel
theorem lit_X : Str.ofString "X" = txt [(true, false)] := by decide +kernel
theorem lit_Z : Str.ofString "Z" = txt [(false, true)] := by decide +kernel
theorem lit_Y : Str.ofString "Y" = txt [(true, true)] := by decide +kernel
theorem lit_nil : Str.ofString "" = txt [] := by decide +kernel
theorem lit_XYZ : Str.ofString "XYZ" = txt [(true, false), (true, true), (false, true)] := by decide +kernel
theorem lit_all : Str.ofString ".XZY" = txt [(false, false), (true, false), (false, true), (true, true)] := by decide +kernel
theorem txt_size (ls : List Look) : (txt ls).cps.size = ls.length := by
  show ((ls.map chr).toArray).size = _
  rw [List.size_toArray, List.length_map]
theorem txt_len (ls : List Look) : (txt ls).length = ls.length := txt_size ls
theorem chr_inj' : ∀ a1 a2 b1 b2 : Bool, chr (a1, a2) = chr (b1, b2) → (a1, a2) = (b1, b2) := by decide
theorem chr_inj (a b : Look) (h : chr a = chr b) : a = b := chr_inj' a.1 a.2 b.1 b.2 h
theorem txt1 (a b : Look) : decide (txt [a] = txt [b]) = decide (a = b) := by
  by_cases h : a = b
  · rw [h]; simp
  · rw [decide_eq_false h]
    refine decide_eq_false fun z => h ?_
    unfold txt at z
    injection z with z
    injection z with z
    injection z with z _
    exact chr_inj _ _ z
theorem sgn_txt {ls : List Look} {i : Nat} (h : i < ls.length) : sgn (txt ls) i = .str (txt [ls.getD i dot]) := by
  have h2 : (txt ls).cps[i]? = some (chr ls[i]) := by
    show ((ls.map chr).toArray)[i]? = _
    rw [List.getElem?_toArray, List.getElem?_map, List.getElem?_eq_getElem h]
    rfl
  rw [sgn_of h2, List.getD_eq_getElem?_getD, List.getElem?_eq_getElem h]
  rfl
def nearB (h : HallA) (x y : Nat) : Bool := (nearD h x).any fun z => eqF z (.int (y : Int))
def ownC (h : HallA) (x y : Nat) : Look := if y = x then (true, false) else if nearB h x y = true then (false, true) else (false, false)
def ownL (h : HallA) (x : Nat) : List Look := (List.range h.1).map (ownC h x)
def oddAt (ls ms : List Look) (i : Nat) : Bool := !decide (ls.getD i dot = ms.getD i dot) && (!decide (ls.getD i dot = dot) && !decide (ms.getD i dot = dot))
def oddL (ls ms : List Look) : Bool := decide ((((List.range (min ls.length ms.length)).filter (oddAt ls ms)).length : Int) % 2 = 1)
section
variable {P : Program} {w : World} {K : PySem.W.Frag} {mg : Str → Option Value} {base : Heap} {C : Addr} {σ : L2.St} {H : Hp} {ta tb tc td : TE} {S r : Addr} {D : Ends}
theorem ev_addT {ls ms : List Look} (h : Ev ta σ H (.d (.str (txt ls)))) (h2 : Ev tb σ H (.d (.str (txt ms)))) (hz : ls.length + ms.length ≤ 100000) : Ev (tOp rAddS ta tb) σ H (.d (.str (txt (ls ++ ms)))) :=
  Ev.to (ev_addS h h2 (by rw [txt_len, txt_len]; exact hz)) (by rw [txt_append])
theorem ev_eqT {a b : Look} (h : Ev ta σ H (.d (.str (txt [a])))) (h2 : Ev tb σ H (.d (.str (txt [b])))) : Ev (tOp rEq ta tb) σ H (.d (.bool (decide (a = b)))) := Ev.to (ev_eqS h h2) (by rw [txt1])
theorem ev_neT {a b : Look} (h : Ev ta σ H (.d (.str (txt [a])))) (h2 : Ev tb σ H (.d (.str (txt [b])))) : Ev (tOp rNe ta tb) σ H (.d (.bool (!decide (a = b)))) := Ev.to (ev_neS h h2) (by rw [txt1])
theorem ev_litT {s : String} {ls : List Look} (h : Str.ofString s = txt ls) : Ev (tC (.str (Str.ofString s))) σ H (.d (.str (txt ls))) := Ev.to ev_str (by rw [h])
def sp_l_sum : Sp := PF (fun a : Look × Look => [.d (.str (txt [a.1])), .d (.str (txt [a.2]))]) (fun _ => True) (fun a => .d (.str (txt [addL a.1 a.2])))
theorem e_l_sum {a b : Look} (h : Ev ta σ H (.d (.str (txt [a])))) (h2 : Ev tb σ H (.d (.str (txt [b])))) : Ev (tCall sp_l_sum [] C8.E0 (tCons ta (tCons tb tNil))) σ H (.d (.str (txt [addL a b]))) := ev_call (α := Look × Look) (a, b) (ea_cons h (ea_cons h2 ea_nil)) trivial
theorem sum_else' : ∀ a1 a2 b1 b2 : Bool, (a1, a2) ≠ (b1, b2) → (a1, a2) ≠ dot → (b1, b2) ≠ dot → (((List.range 3).filter fun i => !decide (([(true, false), (true, true), (false, true)] : List Look).getD i dot = (a1, a2)) && !decide (([(true, false), (true, true), (false, true)] : List Look).getD i dot = (b1, b2)))[0]?).map (fun i => ([(true, false), (true, true), (false, true)] : List Look).getD i dot) = some (addL (a1, a2) (b1, b2)) := by decide
theorem sum_else (a b : Look) (h1 : a ≠ b) (h2 : a ≠ dot) (h3 : b ≠ dot) : (((List.range 3).filter fun i => !decide (([(true, false), (true, true), (false, true)] : List Look).getD i dot = a) && !decide (([(true, false), (true, true), (false, true)] : List Look).getD i dot = b))[0]?).map (fun i => ([(true, false), (true, true), (false, true)] : List Look).getD i dot) = some (addL a b) := sum_else' a.1 a.2 b.1 b.2 h1 h2 h3
theorem c_l_sum (T : Tx K mg C) : C8.Cal P w K mg base 1 "_law_sum" sp_l_sum [] := by
  refine mk_pf T.d_l_sum sc_l_sum (fun _ => rfl) (fun f cdv A outer s H vs Q E a hr h ok q => ?_)
  obtain ⟨a, b⟩ := a
  obtain ⟨u1, u2, rfl, h1, h2⟩ := iss2 h
  have eu1 : u1 = .str (txt [a]) := Dt.strE h1
  have eu2 : u2 = .str (txt [b]) := Dt.strE h2
  subst eu1 eu2
  refine ⟨_, (pss_cons (ps_set (i := 2) sc_l_sum.nd rfl (Or.inl rfl) pe_str)
      (pss_cons (ps_for PassesOwn.never rfl (pi_zipS (by rfl) T.b_zip (pa_cons (pv 0) (pa_cons (pv 1) pa_nil))) (k_pg_tup K rfl (n := 2) rfl (pgs_cons (pg_name (i := 3) sc_l_sum.nd rfl (Or.inr rfl)) (pgs_cons (pg_name (i := 4) sc_l_sum.nd rfl (Or.inr rfl)) pgs_nil)))
      (pss_one (ps_if (pt_cmpR op_eq (pv 3) (pv 4) (by rfl))
      (pss_one (ps_set (i := 2) sc_l_sum.nd rfl (Or.inl rfl) (pe_op op_addS (pv 2) pe_str)))
      (pss_one (ps_if (pt_cmpR (k_op_in_seq K rfl) pe_str (pe_tup (pa_cons (pv 3) (pa_cons (pv 4) pa_nil))) (by rfl))
      (pss_one (ps_set (i := 2) sc_l_sum.nd rfl (Or.inl rfl) (pe_op op_addS (pv 2) (pe_ifExp (pt_cmpR op_eq (pv 3) pe_str (by rfl)) (pv 4) (pv 3)))))
      (pss_one (ps_set (i := 2) sc_l_sum.nd rfl (Or.inl rfl) (pe_op op_addS (pv 2) (pe_ix (k_ix_list K rfl) (pe_lc (own := [("_law_look", 5)]) rfl sc_l_sum.nd (pi_str pe_str) (blkOk_by (own := [("_law_look", 5)]) (N := n_l_sum) (sc := C8.fnScope s_l_sum) (by decide +kernel)) (fun _ _ _ _ _ => (pg_name (i := 5) sc_l_sum.nd rfl (Or.inl rfl))) (fun _ _ _ _ _ => pts_one (PW.pt (pw_and (pt_cmpR op_ne (pv 5) (pv 3) (by rfl)) (pw_and1 (pt_cmpR op_ne (pv 5) (pv 4) (by rfl)))))) (fun _ _ _ _ _ => (pv 5))) pe_int (fun _ _ => rfl))))))))))
      (pss_one (ps_ret (pv 2))))), ?_⟩
  refine seq ?_
  refine s_asg (ev_litT lit_nil) (fun u H1 e1 hu => ?_)
  have eu := Dt.strE hu
  subst eu
  dsimp only
  refine seq ?_
  refine s_for (ms := []) (ei_zipS (ea_cons (ev_varD rfl (.str _)) (ea_cons (ev_varD rfl (.str _)) ea_nil))) (fun Hs es => ?_)
  refine ⟨fun i σ' H' => ∃ j3 j4, σ' = [some (.str (txt [a])), some (.str (txt [b])), some (.str (if i = 0 then txt [] else txt [addL a b])), j3, j4, none] ∧ Same Hs H', ?_, ?_, ?_, ?_⟩
  · exact ⟨_, _, rfl, Same.refl _⟩
  · rintro i σ' H' ⟨j3, j4, rfl, c⟩
    exact same_ch c
  · rintro i z σ' H0 H' hi ⟨j3, j4, rfl, c⟩ e hz
    have hi' : i < 1 := by
      have : min (txt [a]).cps.size (txt [b]).cps.size = 1 := by rw [txt_size, txt_size]; rfl
      omega
    have i0 : i = 0 := by omega
    subst i0
    have hz' : Dt H' z (.tuple [.str (txt [a]), .str (txt [b])]) := by
      have : Dt H' z (.tuple [sgn (txt [a]) 0, sgn (txt [b]) 0]) := hz
      rw [sgn_txt (show 0 < 1 by omega), sgn_txt (show 0 < 1 by omega)] at this
      exact this
    refine g_tup2 hz' (fun v3 v4 hv3 hv4 => ?_)
    rw [if_pos rfl]
    have ev3 := hv3.strE
    have ev4 := hv4.strE
    subst ev3 ev4
    have fin : ∀ H2, Same H' H2 → ∃ j3 j4, ([some (.str (txt [a])), some (.str (txt [b])), some (.str (txt [addL a b])), some (.str (txt [a])), some (.str (txt [b])), none] : L2.St) = [some (.str (txt [a])), some (.str (txt [b])), some (.str (if 0 + 1 = 0 then txt [] else txt [addL a b])), j3, j4, none] ∧ Same Hs H2 := fun H2 e2 => ⟨_, _, rfl, (c.trans e).trans e2⟩
    refine s_if (et_test (ev_eqT (ev_varD rfl (.str _)) (ev_varD rfl (.str _)))) (fun hb H2 e2 => ?_) (fun hb H2 e2 => ?_)
    · have hab : a = b := by simpa using hb
      refine s_asgE (s' := .d (.str (txt [addL a b]))) (ev_addT (ev_varD rfl (.str _)) (ev_litT lit_dot) (by show 0 + 1 ≤ 100000; omega)) ?_ (fun u H3 e3 hu => ?_)
      · subst hab
        unfold addL
        simp
      · have eu := Dt.strE hu
        subst eu
        exact fin H3 (e2.trans e3)
    · have hab : a ≠ b := by simpa using hb
      refine s_ifE (c := decide (a = dot) || decide (b = dot)) (et_test (ev_inF (ds := [.str (txt [a]), .str (txt [b])]) (ev_litT lit_dot) (ev_tup (ea_consD (ev_varD rfl (.str _)) (ea_consD (ev_varD rfl (.str _)) ea_nilD)) (by show 2 ≤ 100000; omega)) rfl rfl)) ?_ (fun hb2 H3 e3 => ?_) (fun hb2 H3 e3 => ?_)
      · show (decide (txt [a] = txt [dot]) || (decide (txt [b] = txt [dot]) || false)) = _
        rw [Bool.or_false, txt1, txt1]
      · refine s_asgE (s' := .d (.str (txt [addL a b]))) (ev_addT (ms := [addL a b]) (ev_varD rfl (.str _)) (ev_if (et_test (ev_eqT (ev_varD rfl (.str _)) (ev_litT lit_dot))) (fun hc => ?_) (fun hc => ?_)) (by show 0 + 1 ≤ 100000; omega)) rfl (fun u H4 e4 hu => ?_)
        · have : a = dot := by simpa using hc
          refine Ev.to (ev_varD rfl (.str _)) ?_
          subst this
          unfold addL
          simp
        · have h1 : a ≠ dot := by simpa using hc
          have : b = dot := by
            rw [Bool.or_eq_true, decide_eq_true_eq, decide_eq_true_eq] at hb2
            exact hb2.resolve_left h1
          refine Ev.to (ev_varD rfl (.str _)) ?_
          subst this
          unfold addL
          simp
        · have eu := Dt.strE hu
          subst eu
          exact fin H4 ((e2.trans e3).trans e4)
      · rw [Bool.or_eq_false_iff, decide_eq_false_iff_not, decide_eq_false_iff_not] at hb2
        refine s_asgE (s' := .d (.str (txt [addL a b]))) (ev_addT (ms := [addL a b]) (ev_varD rfl (.str _)) (ev_ixL (i := 0) (ds := given 3 (fun i => !decide (([(true, false), (true, true), (false, true)] : List Look).getD i dot = a) && !decide (([(true, false), (true, true), (false, true)] : List Look).getD i dot = b)) (fun i => .str (txt [([(true, false), (true, true), (false, true)] : List Look).getD i dot]))) (EvF.ev (ev_lcN _ _ (ei_str (ev_litT lit_XYZ)) (by decide) (fun _ => rfl) (fun i x H5 hi e5 hx => ?_) (fun i x H5 hi e5 hx _ => ?_))) ev_int ?_) (by show 0 + 1 ≤ 100000; omega)) rfl (fun u H4 e4 hu => ?_)
        · have hi3 : i < 3 := hi
          have hx' : Dt H5 x (sgn (txt [(true, false), (true, true), (false, true)]) i) := hx
          rw [sgn_txt hi3] at hx'
          exact et_and (et_test (ev_neT (ev_varD rfl hx') (ev_varD rfl (.str _)))) (fun _ => et_test (ev_neT (ev_varD rfl hx') (ev_varD rfl (.str _))))
        · have hi3 : i < 3 := hi
          have hx' : Dt H5 x (sgn (txt [(true, false), (true, true), (false, true)]) i) := hx
          rw [sgn_txt hi3] at hx'
          exact ev_varD rfl hx'
        · have hs := sum_else a b hab hb2.1 hb2.2
          unfold given
          rw [List.getElem?_map]
          revert hs
          generalize ((List.range 3).filter _)[0]? = o
          intro hs
          cases o with
          | none => cases hs
          | some i =>
            have hs' : ([(true, false), (true, true), (false, true)] : List Look).getD i dot = addL a b := Option.some.inj hs
            show some (PyData.str (txt [_])) = _
            rw [hs']
        · have eu := Dt.strE hu
          subst eu
          exact fin H4 ((e2.trans e3).trans e4)
  · rintro σ' H' ⟨j3, j4, rfl, c⟩
    dsimp only
    have : min (txt [a]).cps.size (txt [b]).cps.size = 1 := by rw [txt_size, txt_size]; rfl
    rw [this]
    exact s_ret (s := .d (.str (txt [addL a b]))) (ev_varD rfl (.str _)) (fun u H2 e2 hu => q u H2 (((e1.trans es).trans c).trans e2) hu)
def sp_l_own : Sp := PF (fun a : HallA × Nat => [.d (hD a.1), .d (.int (a.2 : Int))]) (fun a => HOk a.1) (fun a => .d (.str (txt (ownL a.1 a.2))))
theorem e_l_own {h : HallA} {x : Nat} (h1 : Ev ta σ H (.d (hD h))) (h2 : Ev tb σ H (.d (.int (x : Int)))) (ok : HOk h) : Ev (tCall sp_l_own [] C8.E0 (tCons ta (tCons tb tNil))) σ H (.d (.str (txt (ownL h x)))) :=
  ev_call (α := HallA × Nat) (h, x) (ea_cons h1 (ea_cons h2 ea_nil)) ok
theorem c_l_own (T : Tx K mg C) : C8.Cal P w K mg base 2 "_law_own" sp_l_own [] := by
  refine mk_pf T.d_l_own sc_l_own (fun _ => rfl) (fun f cdv A outer s H vs Q E a hr h ok q => ?_)
  obtain ⟨a, x⟩ := a
  obtain ⟨u1, u2, rfl, h1, h2⟩ := iss2 h
  replace h1 : Dt H u1 (hD a) := h1
  have eu2 : u2 = .int (x : Int) := Dt.intE h2
  subst eu2
  replace ok : HOk a := ok
  have ok4 : a.1 ≤ 4 := ok.2.1
  refine ⟨_, (pss_cons (ps_par (i := 2) (j := 3) (by rfl) sc_l_own.nd rfl rfl (by decide) rfl rfl (pa_cons (C8.pe_c (c_l_friends T) hr (by decide) (by rfl) (pa_cons (pv 0) (pa_cons (pv 1) pa_nil))) (pa_cons pe_str pa_nil)) (by rfl))
      (pss_cons (ps_for PassesOwn.never rfl (pi_range1 (by rfl) T.b_range (pa_cons (pe_ix (k_ix_tup K rfl) (pv 0) pe_int (fun _ _ => rfl)) pa_nil)) (pg_name (i := 4) sc_l_own.nd rfl (Or.inl rfl))
      (pss_one (ps_set (i := 3) sc_l_own.nd rfl (Or.inl rfl) (pe_op op_addS (pv 3) (pe_ifExp (pt_cmpR op_eq (pv 4) (pv 1) (by rfl)) pe_str (pe_ifExp (pt_cmpR (k_op_in_seq K rfl) (pv 4) (pv 2) (by rfl)) pe_str pe_str))))))
      (pss_one (ps_ret (pv 3))))), ?_⟩
  refine seq ?_
  refine s_par (s := .t (nearD a x)) (s' := .d (.str (txt []))) (ea_cons (EvF.ev (e_l_friends (ev_varD rfl h1) (ev_varD rfl (.int _)) ok)) (ea_cons (ev_litT lit_nil) ea_nil)) (fun v w H1 e1 hv hw => ?_)
  have ew := Dt.strE hw
  subst ew
  dsimp only
  refine seq ?_
  refine s_for (ms := []) (ei_rng1 (n := a.1) (ea_cons (ev_hn (ev_varD rfl (h1.mono (same_tp e1)))) ea_nil) (by omega)) (fun Hs es => ?_)
  refine ⟨fun i σ' H' => ∃ j4, σ' = [some u1, some (.int (x : Int)), some v, some (.str (txt ((List.range i).map (ownC a x)))), j4] ∧ Same Hs H', ?_, ?_, ?_, ?_⟩
  · exact ⟨_, rfl, Same.refl _⟩
  · rintro i σ' H' ⟨j4, rfl, c⟩
    exact same_ch c
  · rintro i z σ' H0 H' hi ⟨j4, rfl, c⟩ e hz
    have ez : z = .int (i : Nat) := Dt.intE hz
    subst ez
    have hv' := Is.same ((es.trans c).trans e) _ _ hv
    refine s_asgE (s' := .d (.str (txt ((List.range (i + 1)).map (ownC a x))))) (ev_addT (ms := [ownC a x i]) (ev_varD rfl (.str _)) (ev_if (et_test (ev_eqI (ev_varD rfl (.int _)) (ev_varD rfl (.int _)))) (fun hb => ?_) (fun hb => ev_if (b := nearB a x i) (et_test (ev_inFL (ev_varD rfl (.int _)) (ev_var rfl hv') rfl (nearD_flat a x))) (fun hc => ?_) (fun hc => ?_))) ?_) ?_ (fun u H3 e3 hu => ?_)
    · rw [dec_nat, decide_eq_true_eq] at hb
      unfold ownC
      rw [if_pos hb]
      exact ev_litT lit_X
    · rw [dec_nat, decide_eq_false_iff_not] at hb
      unfold ownC
      rw [if_neg hb, if_pos hc]
      exact ev_litT lit_Z
    · rw [dec_nat, decide_eq_false_iff_not] at hb
      unfold ownC
      rw [if_neg hb, if_neg (by rw [hc]; decide)]
      exact ev_litT lit_dot
    · rw [List.length_map, List.length_range]
      show i + 1 ≤ 100000
      omega
    · rw [List.range_succ, List.map_append]; rfl
    · have eu := Dt.strE hu
      subst eu
      exact ⟨_, rfl, (c.trans e).trans e3⟩
  · rintro σ' H' ⟨j4, rfl, c⟩
    exact s_ret (s := .d (.str (txt (ownL a x)))) (ev_varD rfl (.str _)) (fun u H2 e2 hu => q u H2 (((e1.trans es).trans c).trans e2) hu)
def sp_l_oddly : Sp := PF (fun a : List Look × List Look => [.d (.str (txt a.1)), .d (.str (txt a.2))]) (fun a => a.1.length ≤ 1000) (fun a => .d (.bool (oddL a.1 a.2)))
theorem e_l_oddly {a b : List Look} (h1 : Ev ta σ H (.d (.str (txt a)))) (h2 : Ev tb σ H (.d (.str (txt b)))) (ok : a.length ≤ 1000) : Ev (tCall sp_l_oddly [] C8.E0 (tCons ta (tCons tb tNil))) σ H (.d (.bool (oddL a b))) :=
  ev_call (α := List Look × List Look) (a, b) (ea_cons h1 (ea_cons h2 ea_nil)) ok
theorem c_l_oddly (T : Tx K mg C) : C8.Cal P w K mg base 1 "_law_oddly" sp_l_oddly [] := by
  refine mk_pf T.d_l_oddly sc_l_oddly (fun _ => rfl) (fun f cdv A outer s H vs Q E a hr h ok q => ?_)
  obtain ⟨a, b⟩ := a
  obtain ⟨u1, u2, rfl, h1, h2⟩ := iss2 h
  have eu1 : u1 = .str (txt a) := Dt.strE h1
  have eu2 : u2 = .str (txt b) := Dt.strE h2
  subst eu1 eu2
  replace ok : a.length ≤ 1000 := ok
  refine ⟨_, (pss_one (ps_ret (pe_cmpR op_eq (pe_op op_mod (pe_callB (k_lenQ K rfl) (by rfl) T.b_len (by decide +kernel) (pa_cons (pe_lc (own := [("_law_left", 2), ("_law_right", 3)]) rfl sc_l_oddly.nd (pi_zipS (by rfl) T.b_zip (pa_cons (pv 0) (pa_cons (pv 1) pa_nil))) (blkOk_by (own := [("_law_left", 2), ("_law_right", 3)]) (N := n_l_oddly) (sc := C8.fnScope s_l_oddly) (by decide +kernel)) (fun _ _ _ _ _ => (k_pg_tup K rfl (n := 2) rfl (pgs_cons (pg_name (i := 2) sc_l_oddly.nd rfl (Or.inl rfl)) (pgs_cons (pg_name (i := 3) sc_l_oddly.nd rfl (Or.inl rfl)) pgs_nil)))) (fun _ _ _ _ _ => pts_one (PW.pt (pw_and (pt_cmpR op_ne (pv 2) (pv 3) (by rfl)) (pw_and (pt_cmpR op_ne (pv 2) pe_str (by rfl)) (pw_and1 (pt_cmpR op_ne (pv 3) pe_str (by rfl))))))) (fun _ _ _ _ _ => pe_int)) pa_nil)) pe_int) pe_int (by rfl)))), ?_⟩
  have hmin : min (txt a).cps.size (txt b).cps.size = min a.length b.length := by rw [txt_size, txt_size]
  refine s_retE (ev_eqI (ev_I (ev_lenL (EvF.ev (ev_lc2N (ix := fun i => sgn (txt a) i) (iy := fun i => sgn (txt b) i) (oddAt a b) (fun _ => .int 1) (ei_zipS (ea_cons (ev_varD rfl (.str _)) (ea_cons (ev_varD rfl (.str _)) ea_nil))) (fun _ => rfl) (by rw [hmin]; omega) (fun _ _ => rfl) (fun i x y H1 hi e hx hy => ?_) (fun i x y H1 hi e hx hy _ => ev_int)))) ev_int (show (0 : Int) < 2 by decide)) ev_int) ?_ q
  · rw [hmin] at hi
    rw [sgn_txt (by omega)] at hx hy
    exact et_and (et_test (ev_neT (ev_varD rfl hx) (ev_varD rfl hy))) (fun _ => et_and (et_test (ev_neT (ev_varD rfl hx) (ev_litT lit_dot))) (fun _ => et_test (ev_neT (ev_varD rfl hy) (ev_litT lit_dot))))
  · unfold given oddL
    rw [List.length_map, hmin]
end
end TF
/-! P13 -/
namespace TF
open PySem PySem.Spec PyProof.Rows L2

def imgC (l : Look) (a b c d : Bool) : Look := addL (if l.1 then (a, b) else dot) (if l.2 then (c, d) else dot)
def imgAt (ls : List Look) (bs : List Bool) (i : Nat) : Look := imgC (ls.getD i dot) (bs.getD (4 * i) false) (bs.getD (4 * i + 1) false) (bs.getD (4 * i + 2) false) (bs.getD (4 * i + 3) false)
def imgL (ls : List Look) (bs : List Bool) : List Look := (List.range ls.length).map (imgAt ls bs)
def bitsD (bs : List Bool) : PyData := rowD (bs.map bit)
theorem bitsD_eq (bs : List Bool) : bitsD bs = .tuple ((bs.map bit).map .int) := rfl
def signsL : Nat → List (List Bool)
  | 0 => [[]]
  | k + 1 => (signsL k).map (· ++ [false]) ++ (signsL k).map (· ++ [true])
def dotI (r bs : List Bool) : Int := ((List.range (min r.length bs.length)).map fun i => bit (r.getD i false) * bit (bs.getD i false)).sum
def detI (bs : List Bool) (x : Nat) : Int := bit (bs.getD (4 * x) false) * bit (bs.getD (4 * x + 3) false) + bit (bs.getD (4 * x + 1) false) * bit (bs.getD (4 * x + 2) false)
def solves (rows : List (List Bool)) (bs : List Bool) : Bool := rows.all (fun r => !decide (dotI r bs % 2 = 1)) && (List.range (bs.length / 4)).all (fun x => !decide (detI bs x % 2 = 0))
theorem take4 : ∀ (k : Nat) (ds : List PyData), k + 4 ≤ ds.length → (ds.drop k).take 4 = [ds.getD k .none, ds.getD (k + 1) .none, ds.getD (k + 2) .none, ds.getD (k + 3) .none]
  | 0, a :: b :: c :: d :: r, _ => rfl
  | k + 1, a :: r, h => by
    have := take4 k r (by rw [List.length_cons] at h; omega)
    rw [List.drop_succ_cons, this]
    rfl
theorem signsL_len (k : Nat) : (signsL k).length = 2 ^ k := by
  induction k with
  | zero => rfl
  | succ k ih =>
    show ((signsL k).map (· ++ [false]) ++ (signsL k).map (· ++ [true])).length = _
    rw [List.length_append, List.length_map, List.length_map, ih, Nat.pow_succ]
    omega
theorem signsL_row {k : Nat} {bs : List Bool} (h : bs ∈ signsL k) : bs.length = k := by
  induction k generalizing bs with
  | zero => 
    rw [show signsL 0 = [[]] from rfl, List.mem_singleton] at h
    subst h; rfl
  | succ k ih =>
    rw [show signsL (k + 1) = (signsL k).map (· ++ [false]) ++ (signsL k).map (· ++ [true]) from rfl, List.mem_append, List.mem_map, List.mem_map] at h
    rcases h with ⟨a, ha, rfl⟩ | ⟨a, ha, rfl⟩ <;> rw [List.length_append, ih ha] <;> rfl
theorem all_take {α : Type} (xs : List α) (f : α → Bool) (i : Nat) (h : i < xs.length) : (xs.take (i + 1)).all f = ((xs.take i).all f && f xs[i]) := by
  rw [← List.take_append_getElem h, List.all_append]
  simp
section
variable {P : Program} {w : World} {K : PySem.W.Frag} {mg : Str → Option Value} {base : Heap} {C : Addr} {σ : L2.St} {H : Hp} {ta tb tc td te ty : TE} {S r : Addr} {D : Ends}
/-! a dict of texts, looked up at once -/
def EvPs (trs : List (TE × TE)) (σ : L2.St) (H : Hp) (kvs : List (Str × Str)) : Prop := ∀ H1, Same H H1 → ∀ Q : List (V × V) → Hp → Prop, (∀ H2, Same H1 H2 → Q (kvs.map fun p => (.str p.1, .str p.2)) H2) → tPairs trs σ H1 Q
theorem eps_nil : EvPs [] σ H [] := fun H1 _ Q q => q H1 (Same.refl _)
theorem eps_cons {trs : List (TE × TE)} {k v : Str} {kvs : List (Str × Str)} (hk : Ev ta σ H (.d (.str k))) (hv : Ev tb σ H (.d (.str v))) (h : EvPs trs σ H kvs) : EvPs ((ta, tb) :: trs) σ H ((k, v) :: kvs) := fun H1 e Q q =>
  hk H1 e _ fun u H2 e2 hu => hv H2 (e.trans e2) _ fun u' H3 e3 hu' => h H3 ((e.trans e2).trans e3) _ fun H4 e4 => by
    rw [(is_d.mp hu).strE, (is_d.mp hu').strE]
    exact q H4 ((e2.trans e3).trans e4)
def kvD (kvs : List (Str × Str)) : List (Key × V) := kvs.map fun p => (.inr p.1, .str p.2)
theorem ev_dictget {trs : List (TE × TE)} {kvs : List (Str × Str)} {k v : Str} (h : EvPs trs σ H kvs) (hl : kvs.length ≤ 15) (hy : Ev ty σ H (.d (.str k))) (hv : valV (mergeK [] (kvD kvs)) (.inr k) = some (.str v)) : Ev (tDGet (tDisp trs) ty) σ H (.d (.str v)) := fun H1 e Q q => fun p hp =>
  h _ (e.trans (same_new hp)) _ fun H2 e2 => by
    have hp2 := e2 _ _ (upd_same (H := H1) (a := p) (o := HO.dK []))
    have s2 : Same H1 H2 := (same_new hp).trans e2
    have s3 : Same H1 (upd H2 p (.dK (mergeK [] (kvD kvs)))) := same_mut s2 hp
    refine ⟨hp2, kvD kvs, ?_, by unfold kvD; rw [List.length_map]; exact hl, ?_⟩
    · unfold kvD
      rw [List.map_map]
      rfl
    · refine hy _ (e.trans s3) _ fun u H3 e3 hu => ?_
      rw [(is_d.mp hu).strE]
      have hp3 := e3 _ _ (upd_same (H := H2) (a := p) (o := HO.dK (mergeK [] (kvD kvs))))
      refine ⟨p, .str v, rfl, ?_, q _ H3 (s3.trans e3) (is_d.mpr (.str v))⟩
      have := DGet.k (k := .inr k) hp3
      rw [hv] at this
      exact this
theorem look_val (l : Look) (v1 v2 v3 v4 : Str) : valV (mergeK [] (kvD [(txt [dot], v1), (txt [(true, false)], v2), (txt [(false, true)], v3), (txt [(true, true)], v4)])) (.inr (txt [l])) = some (.str (match l with | (false, false) => v1 | (true, false) => v2 | (false, true) => v3 | (true, true) => v4)) := by
  obtain ⟨a, b⟩ := l
  cases a <;> cases b <;> rfl
theorem ev_bitX {a b : Bool} (ha : Ev ta σ H (.d (.int (bit a)))) (hb : Ev tb σ H (.d (.int (bit b)))) : Ev (tOp rIxS (tC (.str (Str.ofString ".XZY"))) (tOp (rI0 fun i j => .int (i + j)) ta (tOp (rI CMul fun i j => .int (i * j)) (tC (.int 2)) tb))) σ H (.d (.str (txt [(a, b)]))) := by
  refine Ev.to (ev_ixS (i := a.toNat + 2 * b.toNat) (c := chr (a, b)) (ev_litT lit_all) (Ev.to (ev_I0 ha (ev_I ev_int hb (by left; exact ⟨by decide, by decide⟩))) ?_) (by rw [txt_len]; show 4 ≤ 100000; omega) ?_) rfl
  · cases a <;> cases b <;> rfl
  · cases a <;> cases b <;> rfl
theorem bits_get {bs : List Bool} {i : Nat} (h : i < bs.length) : ((bs.map bit).map PyData.int).getD i .none = .int (bit (bs.getD i false)) := rowD_get h
theorem ev_four {bs : List Bool} {x : Nat} {tl th : TO} (h : Ev te σ H (.d (bitsD bs))) (h1 : EvO tl σ H (some ((4 * x : Nat) : Int))) (h2 : EvO th σ H (some ((4 * x + 4 : Nat) : Int))) (hx : 4 * x + 4 ≤ bs.length) :
    Ev (tSl (rSlA K) te tl th) σ H (.d (.tuple [.int (bit (bs.getD (4 * x) false)), .int (bit (bs.getD (4 * x + 1) false)), .int (bit (bs.getD (4 * x + 2) false)), .int (bit (bs.getD (4 * x + 3) false))])) := by
  have hl : ((bs.map bit).map PyData.int).length = bs.length := by rw [List.length_map, List.length_map]
  refine Ev.to (ev_slT h h1 h2) ?_
  rw [cutD_both _ _ _ (by rw [hl]; exact hx), show 4 * x + 4 - 4 * x = 4 by omega, take4 _ _ (by rw [hl]; exact hx), bits_get (by omega), bits_get (by omega), bits_get (by omega), bits_get (by omega)]
theorem eo_4x {x : Nat} (h : Ev te σ H (.d (.int (x : Int)))) : EvO (tPart (tOp (rI CMul fun i j => .int (i * j)) (tC (.int 4)) te)) σ H (some ((4 * x : Nat) : Int)) := by
  have := eo_some (ev_I ev_int h (by left; exact ⟨by decide, by decide⟩) : Ev (tOp (rI CMul fun i j => .int (i * j)) (tC (.int 4)) te) σ H (.d (.int (4 * (x : Int)))))
  rw [show (4 * (x : Int)) = ((4 * x : Nat) : Int) by omega] at this
  exact this
theorem eo_4x4 {x : Nat} (h : Ev te σ H (.d (.int (x : Int)))) : EvO (tPart (tOp (rI0 fun i j => .int (i + j)) (tOp (rI CMul fun i j => .int (i * j)) (tC (.int 4)) te) (tC (.int 4)))) σ H (some ((4 * x + 4 : Nat) : Int)) := by
  have := eo_some (ev_I0 (ev_I ev_int h (by left; exact ⟨by decide, by decide⟩)) ev_int : Ev (tOp (rI0 fun i j => .int (i + j)) (tOp (rI CMul fun i j => .int (i * j)) (tC (.int 4)) te) (tC (.int 4))) σ H (.d (.int (4 * (x : Int) + 4))))
  rw [show (4 * (x : Int) + 4) = ((4 * x + 4 : Nat) : Int) by omega] at this
  exact this
def sp_l_image : Sp := PF (fun a : List Look × List Bool => [.d (.str (txt a.1)), .d (bitsD a.2)]) (fun a => a.2.length = 4 * a.1.length ∧ a.1.length ≤ 100) (fun a => .d (.str (txt (imgL a.1 a.2))))
theorem e_l_image {ls : List Look} {bs : List Bool} (h1 : Ev ta σ H (.d (.str (txt ls)))) (h2 : Ev tb σ H (.d (bitsD bs))) (ok : bs.length = 4 * ls.length ∧ ls.length ≤ 100) : Ev (tCall sp_l_image [] C8.E0 (tCons ta (tCons tb tNil))) σ H (.d (.str (txt (imgL ls bs)))) :=
  ev_call (α := List Look × List Bool) (ls, bs) (ea_cons h1 (ea_cons h2 ea_nil)) ok
theorem c_l_image (T : Tx K mg C) : C8.Cal P w K mg base 2 "_law_image" sp_l_image [] := by
  refine mk_pf T.d_l_image sc_l_image (fun _ => rfl) (fun f cdv A outer s H vs Q E a hr h ok q => ?_)
  obtain ⟨ls, bs⟩ := a
  obtain ⟨u1, u2, rfl, h1, h2⟩ := iss2 h
  have eu1 : u1 = .str (txt ls) := Dt.strE h1
  subst eu1
  replace h2 : Dt H u2 (bitsD bs) := h2
  obtain ⟨ok1, ok2⟩ := ok
  replace ok1 : bs.length = 4 * ls.length := ok1
  replace ok2 : ls.length ≤ 100 := ok2
  have hu := hu_of hr
  refine ⟨_, (pss_cons (ps_set (i := 2) sc_l_image.nd rfl (Or.inl rfl) pe_str)
      (pss_cons (ps_for PassesOwn.never rfl (pi_enumS (by rfl) T.b_enumerate (pa_cons (pv 0) pa_nil)) (k_pg_tup K rfl (n := 2) rfl (pgs_cons (pg_name (i := 3) sc_l_image.nd rfl (Or.inl rfl)) (pgs_cons (pg_name (i := 4) sc_l_image.nd rfl (Or.inl rfl)) pgs_nil)))
      (pss_cons (ps_asg (pe_slice (k_sl_tupA K rfl) (pv 1) (po_some (pe_op op_mul pe_int (pv 3))) (po_some (pe_op op_add (pe_op op_mul pe_int (pv 3)) pe_int))) (k_pg_tup K rfl (n := 4) rfl (pgs_cons (pg_name (i := 5) sc_l_image.nd rfl (Or.inl rfl)) (pgs_cons (pg_name (i := 6) sc_l_image.nd rfl (Or.inl rfl)) (pgs_cons (pg_name (i := 7) sc_l_image.nd rfl (Or.inl rfl)) (pgs_cons (pg_name (i := 8) sc_l_image.nd rfl (Or.inl rfl)) pgs_nil))))))
      (pss_cons (ps_set (i := 9) sc_l_image.nd rfl (Or.inl rfl) (pe_ix ix_str pe_str (pe_op op_add (pv 5) (pe_op op_mul pe_int (pv 6))) (fun _ _ => rfl)))
      (pss_cons (ps_set (i := 10) sc_l_image.nd rfl (Or.inl rfl) (pe_ix ix_str pe_str (pe_op op_add (pv 7) (pe_op op_mul pe_int (pv 8))) (fun _ _ => rfl)))
      (pss_one (ps_set (i := 2) sc_l_image.nd rfl (Or.inl rfl) (pe_op op_addS (pv 2) (pe_dget hu (pe_disp (pps_cons pe_str pe_str (pps_cons pe_str (pv 9) (pps_cons pe_str (pv 10) (pps_cons pe_str (C8.pe_c (c_l_sum T) hr (by decide) (by rfl) (pa_cons (pv 9) (pa_cons (pv 10) pa_nil))) pps_nil)))) (by rfl) (by rfl) (fun z => by cases z) (by decide)) (pv 4) (fun _ _ => rfl)))))))))
      (pss_one (ps_ret (pv 2))))), ?_⟩
  refine seq ?_
  refine s_asg (ev_litT lit_nil) (fun u H1 e1 hu => ?_)
  have eu := Dt.strE hu
  subst eu
  dsimp only
  refine seq ?_
  refine s_for (ms := []) (ei_enumS (ea_cons (ev_varD rfl (.str _)) ea_nil)) (fun Hs es => ?_)
  have hsz := txt_size ls
  refine ⟨fun i σ' H' => ∃ j3 j4 j5 j6 j7 j8 j9 j10, σ' = [some (.str (txt ls)), some u2, some (.str (txt ((List.range i).map (imgAt ls bs)))), j3, j4, j5, j6, j7, j8, j9, j10] ∧ Same Hs H', ?_, ?_, ?_, ?_⟩
  · exact ⟨_, _, _, _, _, _, _, _, rfl, Same.refl _⟩
  · rintro i σ' H' ⟨j3, j4, j5, j6, j7, j8, j9, j10, rfl, c⟩
    exact same_ch c
  · rintro i z σ' H0 H' hi ⟨j3, j4, j5, j6, j7, j8, j9, j10, rfl, c⟩ e hz
    have hi' : i < ls.length := by rw [hsz] at hi; exact hi
    have hz' : Dt H' z (.tuple [.int (i : Nat), sgn (txt ls) i]) := hz
    rw [sgn_txt hi'] at hz'
    refine g_tup2 hz' (fun v3 v4 hv3 hv4 => ?_)
    have ev3 := hv3.intE
    have ev4 := hv4.strE
    subst ev3 ev4
    have k2 := h2.mono (same_tp (((e1.trans es).trans c).trans e))
    show tSeq _ _ _ _ _
    refine seq ?_
    refine s_asg4 (ev_four (bs := bs) (x := i) (ev_varD rfl k2) (eo_4x (ev_varD rfl (.int _))) (eo_4x4 (ev_varD rfl (.int _))) (by omega)) (fun v5 v6 v7 v8 H3 e3 g5 g6 g7 g8 => ?_)
    dsimp only
    refine seq ?_
    refine s_asg (ev_bitX (ev_varD rfl g5) (ev_varD rfl g6)) (fun u H4 e4 hu => ?_)
    have eu := Dt.strE hu
    subst eu
    dsimp only
    refine seq ?_
    refine s_asg (ev_bitX (ev_varD rfl (g7.mono (same_tp e4))) (ev_varD rfl (g8.mono (same_tp e4)))) (fun u H5 e5 hu => ?_)
    have eu := Dt.strE hu
    subst eu
    dsimp only
    refine s_asgE (s' := .d (.str (txt ((List.range (i + 1)).map (imgAt ls bs))))) (ev_addT (ms := [imgAt ls bs i]) (ev_varD rfl (.str _)) (ev_dictget (eps_cons (ev_litT lit_dot) (ev_litT lit_dot) (eps_cons (ev_litT lit_X) (ev_varD rfl (.str _)) (eps_cons (ev_litT lit_Z) (ev_varD rfl (.str _)) (eps_cons (ev_litT lit_Y) (e_l_sum (ev_varD rfl (.str _)) (ev_varD rfl (.str _))) eps_nil)))) (by show 4 ≤ 15; omega) (ev_varD rfl (.str _)) ?_) ?_) ?_ (fun u H6 e6 hu => ?_)
    · rw [look_val]
      unfold imgAt
      rcases ls.getD i dot with ⟨a, b⟩
      cases a <;> cases b <;> simp [imgC, addL]
    · rw [List.length_map, List.length_range]
      show i + 1 ≤ 100000
      omega
    · rw [List.range_succ, List.map_append]; rfl
    · have eu := Dt.strE hu
      subst eu
      exact ⟨_, _, _, _, _, _, _, _, rfl, (((c.trans e).trans e3).trans e4).trans (e5.trans e6)⟩
  · rintro σ' H' ⟨j3, j4, j5, j6, j7, j8, j9, j10, rfl, c⟩
    dsimp only
    rw [hsz]
    exact s_ret (s := .d (.str (txt (imgL ls bs)))) (ev_varD rfl (.str _)) (fun u H2 e2 hu => q u H2 (((e1.trans es).trans c).trans e2) hu)
def sp_l_signs : Sp := PL (fun k : Nat => [.d (.int (k : Int))]) (fun k => k ≤ 8) (fun k => (signsL k).map bitsD)
theorem e_l_signs {k : Nat} (h : Ev ta σ H (.d (.int (k : Int)))) (hn : k ≤ 8) : EvF (tCall sp_l_signs [] C8.E0 (tCons ta tNil)) σ H ((signsL k).map bitsD) := ev_callL k (ea_cons h ea_nil) hn
theorem ev_tup0 : Ev (tTup tNil) σ H (.d (.tuple [])) := ev_tup (ds := []) ea_nilD (Nat.zero_le _)
theorem getD_map {α : Type} {f : α → PyData} {xs : List α} {i : Nat} (h : i < xs.length) : (xs.map f).getD i .none = f xs[i] := getD_of (by rw [List.getElem?_map, List.getElem?_eq_getElem h]; rfl)
theorem c_l_signs (T : Tx K mg C) : C8.Cal P w K mg base 1 "_law_signs" sp_l_signs [] := by
  refine mk_pl T.d_l_signs sc_l_signs (fun _ => rfl) (fun f cdv A outer s H vs Q E n hr h ok q => ?_)
  obtain ⟨u1, rfl, h1⟩ := iss1 h
  have eu1 : u1 = _ := Dt.intE h1
  subst eu1
  replace ok : n ≤ 8 := ok
  refine ⟨_, (pss_cons (ps_set (i := 1) sc_l_signs.nd rfl (Or.inl rfl) (pe_lst (pa_cons (pe_tup pa_nil) pa_nil)))
      (pss_cons (ps_for PassesOwn.never rfl (pi_range1 (by rfl) T.b_range (pa_cons (pv 0) pa_nil)) (pg_name (i := 2) sc_l_signs.nd rfl (Or.inl rfl))
      (pss_one (ps_set (i := 1) sc_l_signs.nd rfl (Or.inl rfl) (pe_op op_cat (pe_lc (own := [("_law_one", 3)]) rfl sc_l_signs.nd (k_pi_list K rfl (pv 1)) (blkOk_by (own := [("_law_one", 3)]) (N := n_l_signs) (sc := C8.fnScope s_l_signs) (by decide +kernel)) (fun _ _ _ _ _ => (pg_name (i := 3) sc_l_signs.nd rfl (Or.inl rfl))) (fun _ _ _ _ _ => pts_nil) (fun _ _ _ _ _ => (pe_op (k_op_catA K rfl) (pv 3) (pe_tup (pa_cons pe_int pa_nil))))) (pe_lc (own := [("_law_one", 3)]) rfl sc_l_signs.nd (k_pi_list K rfl (pv 1)) (blkOk_by (own := [("_law_one", 3)]) (N := n_l_signs) (sc := C8.fnScope s_l_signs) (by decide +kernel)) (fun _ _ _ _ _ => (pg_name (i := 3) sc_l_signs.nd rfl (Or.inl rfl))) (fun _ _ _ _ _ => pts_nil) (fun _ _ _ _ _ => (pe_op (k_op_catA K rfl) (pv 3) (pe_tup (pa_cons pe_int pa_nil)))))))))
      (pss_one (ps_ret (pv 1))))), ?_⟩
  refine seq ?_
  refine s_asgF (ev_lst (ds := [.tuple []]) (ea_consD ev_tup0 ea_nilD) (by show 1 ≤ 100000; omega)) (fun p xs H1 e1 hp0 hp1 hp2 => ?_)
  dsimp only
  refine seq ?_
  refine s_for (ms := []) (ei_rng1 (n := n) (ea_cons (ev_varD rfl (.int _)) ea_nil) (by omega)) (fun Hs es => ?_)
  refine ⟨fun i σ' H' => ∃ l xs j2, σ' = [some (.int (n : Int)), some (.ref l), j2, none] ∧ Same Hs H' ∧ H l = none ∧ H' l = some (.lst xs) ∧ Dts H' xs ((signsL i).map bitsD), ?_, ?_, ?_, ?_⟩
  · exact ⟨p, _, _, rfl, Same.refl _, hp0, es _ _ hp1, hp2.mono (same_tp es)⟩
  · rintro i σ' H' ⟨l, xs, j2, rfl, c, _⟩
    exact same_ch c
  · rintro i z σ' H0 H' hi ⟨l, xs, j2, rfl, c, l0, l1, l2⟩ e hz
    have ez : z = .int (i : Nat) := Dt.intE hz
    subst ez
    have m1 := e _ _ l1
    have m2 := l2.mono (same_tp e)
    have hlen : ((signsL i).map bitsD).length = 2 ^ i := by rw [List.length_map, signsL_len]
    have hp : 2 ^ i ≤ 2 ^ 8 := Nat.pow_le_pow_right (by omega) (by omega)
    have half : ∀ (b : Bool) (H2 : Hp), Same H' H2 → ∀ (te : TE), (∀ σ H, Ev te σ H (.d (.int (bit b)))) → EvF (tLc (iList K (tVar 1)) (gName 3) tYes (tOp (rCatA K) (tVar 3) (tTup (tCons te tNil))) [3]) [some (.int (n : Int)), some (.ref l), some (.int (i : Nat)), none] H2 (((signsL i).map (· ++ [b])).map bitsD) := fun b H2 e2 te hte => by
      refine EvF.to (ev_lcN (fun _ => true) (fun j => bitsD ((signsL i).getD j [] ++ [b])) (ei_lst0 (ev_var rfl (is_t.mpr ⟨l, xs, rfl, e2 _ _ m1, m2.mono (same_tp e2)⟩))) (by rw [hlen]; omega) (fun _ => rfl) (fun j y H3 hj e3 hy => et_yes) (fun j y H3 hj e3 hy _ => ?_)) ?_
      · have hj' : j < (signsL i).length := by rw [List.length_map] at hj; exact hj
        have hy' : Dt H3 y (((signsL i).map bitsD).getD j .none) := hy
        rw [getD_map hj'] at hy'
        have er : (signsL i).getD j [] = (signsL i)[j] := by rw [List.getD_eq_getElem?_getD, List.getElem?_eq_getElem hj']; rfl
        rw [er]
        have hr := signsL_row (List.getElem_mem hj')
        refine Ev.to (ev_catT (es := [.int (bit b)]) (ev_varD rfl hy') (ev_tup (ds := [.int (bit b)]) (ea_consD (hte _ _) ea_nilD) (by show 1 ≤ 100000; omega)) ?_) ?_
        · rw [List.length_map, List.length_map, hr]; show i + 1 ≤ _; omega
        · unfold bitsD rowD
          rw [List.map_append, List.map_append]
          rfl
      · rw [given_all, hlen, ← signsL_len i]
        refine List.ext_getElem (by rw [List.length_map, List.length_map, List.length_map, List.length_range]) fun j h1 h2 => ?_
        have hj : j < (signsL i).length := by rw [List.length_map, List.length_range] at h1; exact h1
        rw [List.getElem_map, List.getElem_map, List.getElem_map, List.getElem_range, List.getD_eq_getElem?_getD, List.getElem?_eq_getElem hj]
        rfl
    refine s_asgFE (es := (signsL (i + 1)).map bitsD) (ev_cat (EvF.ev (half false H' (Same.refl _) _ (fun _ _ => ev_int))) (EvF.ev (half true H' (Same.refl _) _ (fun _ _ => ev_int))) ?_) ?_ (fun a ys H3 e3 a0 a1 a2 => ?_)
    · rw [List.length_map, List.length_map, List.length_map, List.length_map, signsL_len]
      omega
    · rw [← List.map_append]; rfl
    · exact ⟨a, ys, _, rfl, (c.trans e).trans e3, (e1.trans es).free (c.free (e.free a0)), a1, a2⟩
  · rintro σ' H' ⟨l, xs, j2, rfl, c, l0, l1, l2⟩
    dsimp only
    refine s_ret (s := .v (.ref l)) (ev_varV rfl) (fun u H2 e2 hu => ?_)
    have hu' : u = .ref l := hu
    subst hu'
    exact q l xs H2 (((e1.trans es).trans c).trans e2) l0 (e2 _ _ l1) (l2.mono (same_tp e2))
/-- sum([a * b for a, b in zip(r, bs)]) -/
theorem ev_dot {j j' : Nat} {r bs : List Bool} {vs : List Nat} (h1 : Ev ta σ H (.d (bitsD r))) (h2 : Ev tb σ H (.d (bitsD bs))) (hl : r.length ≤ 1000) (hw : ∀ x y, wipe (((wipe σ vs).set j (some x)).set j' (some y)) vs = wipe σ vs)
    (g1 : ∀ x y, (((wipe σ vs).set j (some x)).set j' (some y))[j]? = some (some x)) (g2 : ∀ x y, (((wipe σ vs).set j (some x)).set j' (some y))[j']? = some (some y)) :
    Ev (tCB (rSum K) (tCons (tLc (RZ.iZipA K (tCons ta (tCons tb tNil))) (gTup K 2 (gCons (gName j) (gCons (gName j') gNil))) tYes (tOp (rI CMul fun i j => .int (i * j)) (tVar j) (tVar j')) vs) tNil)) σ H (.d (.int (dotI r bs))) := by
  have l1 : ((r.map bit).map PyData.int).length = r.length := by rw [List.length_map, List.length_map]
  have l2 : ((bs.map bit).map PyData.int).length = bs.length := by rw [List.length_map, List.length_map]
  refine ev_sum (ns := (List.range (min r.length bs.length)).map fun i => bit (r.getD i false) * bit (bs.getD i false)) (EvF.ev (EvF.to (ev_lc2N (ix := fun i => ((r.map bit).map PyData.int).getD i .none) (iy := fun i => ((bs.map bit).map PyData.int).getD i .none) (fun _ => true) (fun i => .int (bit (r.getD i false) * bit (bs.getD i false))) (ei_zipT (ea_cons h1 (ea_cons h2 ea_nil)) (fun _ h => nomatch h)) (fun _ => rfl) (by rw [l1, l2]; omega) hw (fun i x y H1 hi e hx hy => et_yes) (fun i x y H1 hi e hx hy _ => ?_)) ?_))
  · rw [l1, l2] at hi
    rw [rowD_get (by omega)] at hx hy
    exact ev_I (ev_varD (g1 x y) hx) (ev_varD (g2 x y) hy) (cmul_bit _ _)
  · rw [given_all, l1, l2, List.map_map]
    rfl
def rowsD (rows : List (List Bool)) : PyData := .tuple (rows.map bitsD)
def sp_l_solves : Sp := PF (fun a : List (List Bool) × List Bool => [.d (rowsD a.1), .d (bitsD a.2)]) (fun a => (∀ r ∈ a.1, r.length ≤ 1000) ∧ a.2.length ≤ 1000) (fun a => .d (.bool (solves a.1 a.2)))
theorem e_l_solves {rows : List (List Bool)} {bs : List Bool} (h1 : Ev ta σ H (.d (rowsD rows))) (h2 : Ev tb σ H (.d (bitsD bs))) (ok : (∀ r ∈ rows, r.length ≤ 1000) ∧ bs.length ≤ 1000) : Ev (tCall sp_l_solves [] C8.E0 (tCons ta (tCons tb tNil))) σ H (.d (.bool (solves rows bs))) :=
  ev_call (α := List (List Bool) × List Bool) (rows, bs) (ea_cons h1 (ea_cons h2 ea_nil)) ok
theorem c_l_solves (T : Tx K mg C) : C8.Cal P w K mg base 1 "_law_solves" sp_l_solves [] := by
  refine mk_pf T.d_l_solves sc_l_solves (fun _ => rfl) (fun f cdv A outer s H vs Q E a hr h ok q => ?_)
  obtain ⟨rows, bs⟩ := a
  obtain ⟨u1, u2, rfl, h1, h2⟩ := iss2 h
  replace h1 : Dt H u1 (rowsD rows) := h1
  replace h2 : Dt H u2 (bitsD bs) := h2
  obtain ⟨ok1, ok2⟩ := ok
  replace ok1 : ∀ r ∈ rows, r.length ≤ 1000 := ok1
  replace ok2 : bs.length ≤ 1000 := ok2
  have q' : ∀ b, b = solves rows bs → ∀ u H2, Same H H2 → Is H2 (.d (.bool b)) u → Q u H2 := fun b e u H2 s hu => q u H2 s (e ▸ hu)
  refine ⟨_, (pss_cons (ps_for PassesOwn.never rfl (k_pi_tup K rfl (pv 0)) (pg_name (i := 2) sc_l_solves.nd rfl (Or.inl rfl))
      (pss_one (ps_if (pt_cmpR op_eq (pe_op op_mod (pe_callB (k_sum K rfl rfl) (by rfl) T.b_sum (by decide +kernel) (pa_cons (pe_lc (own := [("_law_a", 4), ("_law_b", 5)]) rfl sc_l_solves.nd (k_pi_zipA K rfl (by rfl) T.b_zip (pa_cons (pv 2) (pa_cons (pv 1) pa_nil))) (blkOk_by (own := [("_law_a", 4), ("_law_b", 5)]) (N := n_l_solves) (sc := C8.fnScope s_l_solves) (by decide +kernel)) (fun _ _ _ _ _ => (k_pg_tup K rfl (n := 2) rfl (pgs_cons (pg_name (i := 4) sc_l_solves.nd rfl (Or.inl rfl)) (pgs_cons (pg_name (i := 5) sc_l_solves.nd rfl (Or.inl rfl)) pgs_nil)))) (fun _ _ _ _ _ => pts_nil) (fun _ _ _ _ _ => (pe_op op_mul (pv 4) (pv 5)))) pa_nil)) pe_int) pe_int (by rfl))
      (pss_one (ps_ret pe_bl))
      pss_nil)))
      (pss_cons (ps_for PassesOwn.never rfl (pi_range1 (by rfl) T.b_range (pa_cons (pe_op op_fdiv (pe_callB (k_lenQ K rfl) (by rfl) T.b_len (by decide +kernel) (pa_cons (pv 1) pa_nil)) pe_int) pa_nil)) (pg_name (i := 3) sc_l_solves.nd rfl (Or.inl rfl))
      (pss_cons (ps_asg (pe_slice (k_sl_tupA K rfl) (pv 1) (po_some (pe_op op_mul pe_int (pv 3))) (po_some (pe_op op_add (pe_op op_mul pe_int (pv 3)) pe_int))) (k_pg_tup K rfl (n := 4) rfl (pgs_cons (pg_name (i := 4) sc_l_solves.nd rfl (Or.inl rfl)) (pgs_cons (pg_name (i := 5) sc_l_solves.nd rfl (Or.inl rfl)) (pgs_cons (pg_name (i := 6) sc_l_solves.nd rfl (Or.inl rfl)) (pgs_cons (pg_name (i := 7) sc_l_solves.nd rfl (Or.inl rfl)) pgs_nil))))))
      (pss_one (ps_if (pt_cmpR op_eq (pe_op op_mod (pe_op op_add (pe_op op_mul (pv 4) (pv 7)) (pe_op op_mul (pv 5) (pv 6))) pe_int) pe_int (by rfl))
      (pss_one (ps_ret pe_bl))
      pss_nil))))
      (pss_one (ps_ret pe_bl)))), ?_⟩
  have hlen : (rows.map bitsD).length = rows.length := List.length_map _
  refine seq ?_
  refine s_for (ms := []) (ei_tup (ev_varD rfl h1) (fun _ h => nomatch h)) (fun Hs es => ?_)
  refine ⟨fun i σ' H' => ∃ j2, σ' = [some u1, some u2, j2, none, none, none, none, none] ∧ Same Hs H' ∧ (rows.take i).all (fun r => !decide (dotI r bs % 2 = 1)) = true, ?_, ?_, ?_, ?_⟩
  · exact ⟨_, rfl, Same.refl _, rfl⟩
  · rintro i σ' H' ⟨j2, rfl, c, _⟩
    exact same_ch c
  · rintro i z σ' H0 H' hi ⟨j2, rfl, c, hal⟩ e hz
    have hi' : i < rows.length := by rw [hlen] at hi; exact hi
    have hz' : Dt H' z ((rows.map bitsD).getD i .none) := hz
    rw [getD_map hi'] at hz'
    have k2 := h2.mono (same_tp ((es.trans c).trans e))
    have hlr := ok1 _ (List.getElem_mem hi')
    refine s_when (et_test (ev_eqI (ev_I (ev_dot (j := 4) (j' := 5) (ev_varD rfl hz') (ev_varD rfl k2) hlr (fun _ _ => rfl) (fun _ _ => rfl) (fun _ _ => rfl)) ev_int (show (0 : Int) < 2 by decide)) ev_int)) (fun hb H3 e3 => ?_) (fun hb H3 e3 => ?_)
    · refine s_ret (s := .d (.bool false)) ev_bl (fun u H4 e4 hu => q' false ?_ u H4 ((((es.trans c).trans e).trans e3).trans e4) hu)
      symm
      unfold solves
      rw [Bool.and_eq_false_iff]
      left
      rw [List.all_eq_false]
      exact ⟨rows[i], List.getElem_mem hi', by rw [hb]; decide⟩
    · refine ⟨_, rfl, (c.trans e).trans e3, ?_⟩
      rw [all_take _ _ _ hi', hal, hb]
      rfl
  · rintro σ' H' ⟨j2, rfl, c, hal⟩
    rw [hlen, List.take_length] at hal
    dsimp only
    refine seq ?_
    have k2 := h2.mono (same_tp (es.trans c))
    have l2 : ((bs.map bit).map PyData.int).length = bs.length := by rw [List.length_map, List.length_map]
    have d4 : (((bs.map bit).map PyData.int).length : Int) / 4 = ((bs.length / 4 : Nat) : Int) := by rw [l2]; omega
    refine s_for (ms := []) (ei_rng1 (n := bs.length / 4) (ea_cons (Ev.to (ev_I (ev_lenT (ev_varD rfl k2)) ev_int (by exact ⟨by decide, by decide⟩)) (by rw [d4])) ea_nil) (by omega)) (fun Ht et => ?_)
    refine ⟨fun i σ' H' => ∃ j2 j3 j4 j5 j6 j7, σ' = [some u1, some u2, j2, j3, j4, j5, j6, j7] ∧ Same Ht H' ∧ (List.range i).all (fun x => !decide (detI bs x % 2 = 0)) = true, ?_, ?_, ?_, ?_⟩
    · exact ⟨_, _, _, _, _, _, rfl, Same.refl _, rfl⟩
    · rintro i σ' H' ⟨j2, j3, j4, j5, j6, j7, rfl, c, _⟩
      exact same_ch c
    · rintro i z σ' H0 H'' hi ⟨j2, j3, j4, j5, j6, j7, rfl, c2, hal2⟩ e hz
      have ez : z = .int (i : Nat) := Dt.intE hz
      subst ez
      have k3 := k2.mono (same_tp ((et.trans c2).trans e))
      have hs := (es.trans c).trans ((et.trans c2).trans e)
      show tSeq _ _ _ _ _
      refine seq ?_
      refine s_asg4 (ev_four (bs := bs) (x := i) (ev_varD rfl k3) (eo_4x (ev_varD rfl (.int _))) (eo_4x4 (ev_varD rfl (.int _))) (by omega)) (fun v5 v6 v7 v8 H3 e3 g5 g6 g7 g8 => ?_)
      dsimp only
      refine s_ifE (c := decide (detI bs i % 2 = 0)) (et_test (ev_eqI (ev_I (ev_I0 (ev_I (ev_varD rfl g5) (ev_varD rfl g8) (cmul_bit _ _)) (ev_I (ev_varD rfl g6) (ev_varD rfl g7) (cmul_bit _ _))) ev_int (show (0 : Int) < 2 by decide)) ev_int)) rfl (fun hb H4 e4 => ?_) (fun hb H4 e4 => ?_)
      · refine s_ret (s := .d (.bool false)) ev_bl (fun u H5 e5 hu => q' false ?_ u H5 (((hs.trans e3).trans e4).trans e5) hu)
        symm
        unfold solves
        rw [Bool.and_eq_false_iff]
        right
        rw [List.all_eq_false]
        exact ⟨i, List.mem_range.mpr hi, by rw [hb]; decide⟩
      · refine s_next ⟨_, _, _, _, _, _, rfl, ((c2.trans e).trans e3).trans e4, ?_⟩
        rw [List.range_succ, List.all_append, hal2]
        show (true && (!decide (detI bs i % 2 = 0) && true)) = true
        rw [hb]
        rfl
    · rintro σ' H'' ⟨j2, j3, j4, j5, j6, j7, rfl, c2, hal2⟩
      dsimp only
      refine s_ret (s := .d (.bool true)) ev_bl (fun u H5 e5 hu => q' true ?_ u H5 (((es.trans c).trans (et.trans c2)).trans e5) hu)
      unfold solves
      rw [hal, hal2]
      rfl
end
end TF
/-! P14 -/
namespace TF
open PySem PySem.Spec PyProof.Rows L2

/-! values told by any lasting word -/
def EvP (te : TE) (σ : L2.St) (H : Hp) (R : Hp → V → Prop) : Prop := ∀ H1, Same H H1 → ∀ Q : VK, (∀ u H2, Same H1 H2 → R H2 u → Q u H2) → te σ H1 Q
def EvFP (te : TE) (σ : L2.St) (H : Hp) (n : Nat) (R : Nat → Hp → V → Prop) : Prop := ∀ H1, Same H H1 → ∀ Q : VK, (∀ p xs H2, Same H1 H2 → H1 p = none → H2 p = some (.lst xs) → xs.length = n → (∀ i u, xs[i]? = some u → R i H2 u) → Q (.ref p) H2) → te σ H1 Q
section
variable {K : PySem.W.Frag} {σ : L2.St} {H H' : Hp} {ta tb tc td te ty : TE} {tt : TT} {D : Ends} {g : TG} {s : Ds}
theorem Ev.p (h : Ev te σ H s) : EvP te σ H (fun H u => Is H s u) := h
theorem s_asg2P {i j : Nat} {R1 R2 : Hp → V → Prop} (h1 : EvP ta σ H R1) (h2 : EvP tb σ H R2) (st1 : ∀ H H' u, Same H H' → R1 H u → R1 H' u) (st2 : ∀ H H' u, Same H H' → R2 H u → R2 H' u) (k : ∀ v w H1, Same H H1 → R1 H1 v → R2 H1 w → D.nx ((σ.set i (some v)).set j (some w)) H1) :
    tAsg (tTup (tCons ta (tCons tb tNil))) (gTup K 2 (gCons (gName i) (gCons (gName j) gNil))) D σ H :=
  h1 H (Same.refl _) _ fun u1 H2 e2 hu1 => h2 H2 e2 _ fun u2 H3 e3 hu2 => ⟨by show 2 ≤ sizeLine; decide, fun q hq => by
    have e4 : Same H3 (upd H3 q (.tup [u1, u2])) := same_new hq
    exact ⟨q, _, rfl, SqT.of upd_same, rfl, _, _, rfl, _, _, rfl, rfl, k u1 u2 _ ((e2.trans e3).trans e4) (st1 _ _ _ (e3.trans e4) hu1) (st2 _ _ _ e4 hu2)⟩⟩
theorem s_parP {i j : Nat} {R1 R2 : Hp → V → Prop} (h1 : EvP ta σ H R1) (h2 : EvP tb σ H R2) (st1 : ∀ H H' u, Same H H' → R1 H u → R1 H' u) (k : ∀ v w H1, Same H H1 → R1 H1 v → R2 H1 w → D.nx ((σ.set i (some v)).set j (some w)) H1) : tPar i j (tCons ta (tCons tb tNil)) D σ H :=
  h1 H (Same.refl _) _ fun u1 H2 e2 hu1 => h2 H2 e2 _ fun u2 H3 e3 hu2 => ⟨_, _, rfl, k u1 u2 H3 (e2.trans e3) (st1 _ _ _ e3 hu1) hu2⟩
theorem s_asgP {i : Nat} {R : Hp → V → Prop} (h : EvP te σ H R) (k : ∀ u H1, Same H H1 → R H1 u → D.nx (σ.set i (some u)) H1) : tAsg te (gName i) D σ H := h H (Same.refl H) _ fun u H1 e hu => k u H1 e hu
theorem evp_if {b : Bool} {R : Hp → V → Prop} (h : EvT tt σ H b) (h1 : b = true → EvP ta σ H R) (h2 : b = false → EvP tb σ H R) : EvP (tIf tt ta tb) σ H R := fun H1 e Q q => h H1 e _ fun H2 e2 => by
  cases b with
  | true => exact h1 rfl H2 (e.trans e2) Q fun w H3 e3 hw => q w H3 (e2.trans e3) hw
  | false => exact h2 rfl H2 (e.trans e2) Q fun w H3 e3 hw => q w H3 (e2.trans e3) hw
def LL (H : Hp) (xs : List V) (rows : List (List PyData)) : Prop := xs.length = rows.length ∧ ∀ (i : Nat) (u : V), xs[i]? = some u → ∃ q ys r, u = .ref q ∧ rows[i]? = some r ∧ H q = some (.lst ys) ∧ Dts H ys r
def isLL (rows : List (List PyData)) (H : Hp) (u : V) : Prop := ∃ p xs, u = .ref p ∧ H p = some (.lst xs) ∧ LL H xs rows
def isL (r : List PyData) (H : Hp) (u : V) : Prop := ∃ p ys, u = .ref p ∧ H p = some (.lst ys) ∧ Dts H ys r
theorem LL.same {xs : List V} {rows : List (List PyData)} (h : LL H xs rows) (e : Same H H') : LL H' xs rows := ⟨h.1, fun i u hu => by
  obtain ⟨q, ys, r, h1, h2, h3, h4⟩ := h.2 i u hu
  exact ⟨q, ys, r, h1, h2, e _ _ h3, h4.mono (same_tp e)⟩⟩
theorem isLL_same {rows : List (List PyData)} (H H' : Hp) (u : V) (e : Same H H') (h : isLL rows H u) : isLL rows H' u := by
  obtain ⟨p, xs, h1, h2, h3⟩ := h
  exact ⟨p, xs, h1, e _ _ h2, h3.same e⟩
theorem isL_same {r : List PyData} (H H' : Hp) (u : V) (e : Same H H') (h : isL r H u) : isL r H' u := by
  obtain ⟨p, xs, h1, h2, h3⟩ := h
  exact ⟨p, xs, h1, e _ _ h2, h3.mono (same_tp e)⟩
theorem ev_lcLL {wi : TI} {n j : Nat} {it : Nat → Ds} {vs : List Nat} (rD : Nat → List PyData) (hI : EvI [] wi σ H n it) (hn : n ≤ 100000) (hw : ∀ x, wipe ((wipe σ vs).set j (some x)) vs = wipe σ vs)
    (he : ∀ i x H1, i < n → Same H H1 → Is H1 (it i) x → ∀ H2, Same H1 H2 → ∀ Q : VK, (∀ p ys H3, Same H2 H3 → (H2 p = none ∨ H p ≠ none) → H3 p = some (.lst ys) → Dts H3 ys (rD i) → Q (.ref p) H3) → te ((wipe σ vs).set j (some x)) H2 Q) :
    EvP (tLc wi (gName j) tYes te vs) σ H (isLL ((List.range n).map rD)) := fun H1 e Q q => hI H1 e _ fun J H2 e2 W Dl hD => by
  have hb : H Dl = none := (e.trans e2).free hD
  refine lc_it W (fun i H' => Same H2 H' ∧ ∃ acc, H' Dl = some (.lst acc) ∧ acc.length = i ∧ ∀ (k : Nat) (u : V), acc[k]? = some u → ∃ p ys, u = .ref p ∧ p ≠ Dl ∧ H' p = some (.lst ys) ∧ Dts H' ys (rD k)) ⟨same_new hD, [], upd_same, rfl, fun k u h => by simp at h⟩ (fun i H' _ h => same_ch h.1)
    (fun i x H0 H' hi ⟨p1, acc, p2, p3, p4⟩ ⟨y1, y2⟩ => ⟨hw x, ?_⟩) (fun H' ⟨p1, acc, p2, p3, p4⟩ => ?_)
  · show te _ H' _
    refine he i x H' hi ((e.trans e2).trans (p1.trans y1)) y2 H' (Same.refl _) _ fun p ys H4 e4 hp hp2 hp3 => ?_
    have d4 : H4 Dl = some (.lst acc) := e4 _ _ (y1 _ _ p2)
    have hne : p ≠ Dl := by
      rcases hp with z | z
      · intro w
        subst w
        rw [y1 _ _ p2] at z; cases z
      · intro w
        subst w
        exact z hb
    have tp4 : Tp H4 (upd H4 Dl (.lst (acc ++ [V.ref p]))) := Tp.mut d4 fun xs z => nomatch z
    refine ⟨acc, d4, Nat.lt_of_lt_of_le (show acc.length < 100000 by omega) (by decide), same_mut ((p1.trans y1).trans e4) hD, acc ++ [.ref p], upd_same, by rw [List.length_append, p3]; rfl, fun k u hk => ?_⟩
    rcases Nat.lt_or_ge k acc.length with h | h
    · rw [List.getElem?_append_left h] at hk
      obtain ⟨p', ys', h1, h2, h3, h4⟩ := p4 k u hk
      refine ⟨p', ys', h1, h2, ?_, (h4.mono (same_tp (y1.trans e4))).mono tp4⟩
      rw [upd_ne h2]
      exact e4 _ _ (y1 _ _ h3)
    · rw [List.getElem?_append_right h] at hk
      have k0 : k - acc.length = 0 := by
        rcases Nat.eq_zero_or_pos (k - acc.length) with z | z
        · exact z
        · rw [List.getElem?_eq_none (by show 1 ≤ _; exact z)] at hk; cases hk
      rw [k0] at hk
      have ek : k = i := by omega
      subst ek
      refine ⟨p, ys, (Option.some.inj hk).symm, hne, ?_, hp3.mono tp4⟩
      rw [upd_ne hne]
      exact hp2
  · refine q (.ref Dl) H' (e2.trans p1) ⟨Dl, acc, rfl, p2, by rw [List.length_map, List.length_range]; exact p3, fun i u hu => ?_⟩
    obtain ⟨p', ys', h1, h2, h3, h4⟩ := p4 i u hu
    have hi : i < n := by
      have := (List.getElem?_eq_some_iff.mp hu).1
      omega
    exact ⟨p', ys', rD i, h1, by rw [List.getElem?_map, List.getElem?_range hi]; rfl, h3, h4⟩
theorem ei_lstV0 {i : Nat} {a : Addr} {xs : List V} (hσ : σ[i]? = some (some (.ref a))) (h : H a = some (.lst xs)) : EvI [] (iList K (tVar i)) σ H xs.length (fun i => .v (xs.getD i .non)) := fun H1 e R q => by
  refine ⟨_, hσ, ?_⟩
  refine ⟨a, rfl, ⟨xs, SqL.of (e _ _ h)⟩, q _ H1 (Same.refl _) ?_⟩
  exact (walk_list (K := K) (a := a) (xs := xs)).mono (fun H' hc => SqL.of (hc.same _ _ (e _ _ h))) fun i Ha x Hb hi hc hy => by
    obtain ⟨rfl, hx⟩ := hy
    refine ⟨Same.refl _, ?_⟩
    show x = xs.getD i .non
    rw [List.getD_eq_getElem?_getD, hx]
    rfl
theorem s_while {c : TT} {tb : TS} (W : Nat → L2.St → Hp → Prop) (m0 : Nat) (h0 : W m0 σ H)
    (hs : ∀ m σ H, W m σ H → ∃ b, EvT c σ H b ∧ (b = true → ∀ H1, Same H H1 → tb { D with nx := fun σ' H' => ∃ m', m' < m ∧ W m' σ' H', ct := fun σ' H' => ∃ m', m' < m ∧ W m' σ' H', bk := D.nx } σ H1) ∧ (b = false → ∀ H1, Same H H1 → D.nx σ H1)) : tWhile c tb D σ H :=
  ⟨W, ⟨m0, h0⟩, fun m σ H w => by
    obtain ⟨b, h1, h2, h3⟩ := hs m σ H w
    refine h1 H (Same.refl _) _ fun H1 e => ?_
    cases b with
    | true => exact ⟨_, fun σ' H' z => z, h2 rfl H1 e⟩
    | false => exact h3 rfl H1 e⟩
end
end TF
/-! P15 -/
namespace TF
open PySem PySem.Spec PyProof.Rows L2

def xorL (r h : List Bool) : List Bool := (List.range (min r.length h.length)).map fun i => (r.getD i false ^^ h.getD i false)
def spots (h : List Bool) : List Nat := (List.range h.length).filter fun i => h.getD i false
def elim (h : List Bool) (p : Nat) (r : List Bool) : List Bool := if r.getD p false = true then xorL r h else r
def rankF : Nat → List (List Bool) → Nat
  | 0, _ => 0
  | _ + 1, [] => 0
  | k + 1, h :: rest => match spots h with
    | [] => rankF k rest
    | p :: _ => 1 + rankF k (rest.map (elim h p))
def rankL (rows : List (List Bool)) : Nat := rankF rows.length rows
theorem rankF_hd {k : Nat} {h : List Bool} {rest : List (List Bool)} {p : Nat} {t : List Nat} (e : spots h = p :: t) : rankF (k + 1) (h :: rest) = 1 + rankF k (rest.map (elim h p)) := by
  rw [rankF, e]
theorem rankF_no {k : Nat} {h : List Bool} {rest : List (List Bool)} (e : spots h = []) : rankF (k + 1) (h :: rest) = rankF k rest := by
  rw [rankF, e]
def bitsL (r : List Bool) : List PyData := (r.map bit).map .int
theorem bitsL_len (r : List Bool) : (bitsL r).length = r.length := by unfold bitsL; rw [List.length_map, List.length_map]
theorem bitsL_get {bs : List Bool} {i : Nat} (h : i < bs.length) : (bitsL bs).getD i .none = .int (bit (bs.getD i false)) := rowD_get h
theorem bitsL_get? {bs : List Bool} {i : Nat} (h : i < bs.length) : (bitsL bs)[i]? = some (.int (bit (bs.getD i false))) := by
  unfold bitsL
  rw [List.getElem?_map, List.getElem?_map, List.getElem?_eq_getElem h, List.getD_eq_getElem?_getD, List.getElem?_eq_getElem h]
  rfl
theorem elim_len {h r : List Bool} (p : Nat) (e : r.length = h.length) : (elim h p r).length = h.length := by
  unfold elim
  split
  · unfold xorL
    rw [List.length_map, List.length_range, e, Nat.min_self]
  · exact e
theorem spots_lt {h : List Bool} {p : Nat} {t : List Nat} (e : spots h = p :: t) : p < h.length := by
  have : p ∈ spots h := by rw [e]; exact List.mem_cons_self
  exact List.mem_range.mp (List.mem_filter.mp this).1
section
variable {P : Program} {w : World} {K : PySem.W.Frag} {mg : Str → Option Value} {base : Heap} {C : Addr} {σ : L2.St} {H : Hp} {ta tb tc td te ty : TE} {S r : Addr} {D : Ends}
def sp_l_rank : Sp := PF (fun rows : List (List Bool) => [.d (rowsD rows)]) (fun rows => rows.length ≤ 1000 ∧ ∃ N, N ≤ 1000 ∧ ∀ r ∈ rows, r.length = N) (fun rows => .d (.int ((rankL rows : Nat) : Int)))
theorem e_l_rank {rows : List (List Bool)} (h : Ev ta σ H (.d (rowsD rows))) (ok : rows.length ≤ 1000 ∧ ∃ N, N ≤ 1000 ∧ ∀ r ∈ rows, r.length = N) : Ev (tCall sp_l_rank [] C8.E0 (tCons ta tNil)) σ H (.d (.int ((rankL rows : Nat) : Int))) := ev_call rows (ea_cons h ea_nil) ok
theorem LL.get {H : Hp} {xs : List V} {rows : List (List Bool)} (h : LL H xs (rows.map bitsL)) {i : Nat} {u : V} (hu : xs[i]? = some u) : ∃ q ys, ∃ hi : i < rows.length, u = .ref q ∧ H q = some (.lst ys) ∧ Dts H ys (bitsL rows[i]) := by
  obtain ⟨q, ys, r, h1, h2, h3, h4⟩ := h.2 i u hu
  rw [List.getElem?_map] at h2
  cases e : rows[i]? with
  | none => rw [e] at h2; cases h2
  | some r' =>
    rw [e] at h2
    obtain ⟨hi, e2⟩ := List.getElem?_eq_some_iff.mp e
    have e3 : bitsL r' = r := Option.some.inj h2
    exact ⟨q, ys, hi, h1, h3, by rw [e2, e3]; exact h4⟩
theorem c_l_rank (T : Tx K mg C) : C8.Cal P w K mg base 1 "_law_rank" sp_l_rank [] := by
  refine mk_pf T.d_l_rank sc_l_rank (fun _ => rfl) (fun f cdv A outer s H vs Q E rows hr h ok q => ?_)
  obtain ⟨u1, rfl, h1⟩ := iss1 h
  replace h1 : Dt H u1 (rowsD rows) := h1
  obtain ⟨ok1, N, ok2, ok3⟩ := ok
  refine ⟨_, (pss_cons (ps_par (i := 1) (j := 2) (by rfl) sc_l_rank.nd rfl rfl (by decide) rfl rfl (pa_cons (pe_lc (own := [("_law_one", 5)]) rfl sc_l_rank.nd (k_pi_tup K rfl (pv 0)) (blkOk_by (own := [("_law_one", 5)]) (N := n_l_rank) (sc := C8.fnScope s_l_rank) (by decide +kernel)) (fun _ _ _ _ _ => (pg_name (i := 5) sc_l_rank.nd rfl (Or.inl rfl))) (fun _ _ _ _ _ => pts_nil) (fun _ _ _ _ _ => (pe_callTy (k_listQ K rfl) (by rfl) T.b_list (by decide +kernel) (pa_cons (pv 5) pa_nil)))) (pa_cons pe_int pa_nil)) (by rfl))
      (pss_cons (ps_while PassesOwn.never (pt_cmpR (k_op_neNil K rfl hr.units0) (pv 1) (pe_lst pa_nil) (by rfl))
      (pss_cons (ps_asg (pe_tup (pa_cons (pe_ix (k_ix_list K rfl) (pv 1) pe_int (fun _ _ => rfl)) (pa_cons (pe_slice (k_sl_list K rfl) (pv 1) (po_some pe_int) po_none) pa_nil))) (k_pg_tup K rfl (n := 2) rfl (pgs_cons (pg_name (i := 3) sc_l_rank.nd rfl (Or.inr rfl)) (pgs_cons (pg_name (i := 1) sc_l_rank.nd rfl (Or.inl rfl)) pgs_nil))))
      (pss_cons (ps_set (i := 4) sc_l_rank.nd rfl (Or.inr rfl) (pe_lc (own := [("_law_at", 6), ("_law_sign", 7)]) rfl sc_l_rank.nd (k_pi_enum K rfl (by rfl) T.b_enumerate (pa_cons (pv 3) pa_nil)) (blkOk_by (own := [("_law_at", 6), ("_law_sign", 7)]) (N := n_l_rank) (sc := C8.fnScope s_l_rank) (by decide +kernel)) (fun _ _ _ _ _ => (k_pg_tup K rfl (n := 2) rfl (pgs_cons (pg_name (i := 6) sc_l_rank.nd rfl (Or.inl rfl)) (pgs_cons (pg_name (i := 7) sc_l_rank.nd rfl (Or.inl rfl)) pgs_nil)))) (fun _ _ _ _ _ => pts_one (pt_cmpR op_eq (pv 7) pe_int (by rfl))) (fun _ _ _ _ _ => (pv 6))))
      (pss_one (ps_if (pt_cmpR (k_op_neNil K rfl hr.units0) (pv 4) (pe_lst pa_nil) (by rfl))
      (pss_cons (ps_set (i := 2) sc_l_rank.nd rfl (Or.inl rfl) (pe_op op_add (pv 2) pe_int))
      (pss_one (ps_setLc (own := [("_law_one", 5)]) (i := 1) rfl sc_l_rank.nd rfl rfl (sw_true rfl rfl rfl (by decide +kernel)) (k_pi_list K rfl (pv 1)) (blkOk_by (own := [("_law_one", 5)]) (N := n_l_rank) (sc := C8.fnScope s_l_rank) (by decide +kernel)) (fun _ _ _ _ _ => (pg_name (i := 5) sc_l_rank.nd rfl (Or.inl rfl))) (fun _ _ _ _ _ => pts_nil) (fun _ _ _ _ _ => (pe_ifExp (pt_cmpR op_eq (pe_ix (k_ix_list K rfl) (pv 5) (pe_ix (k_ix_list K rfl) (pv 4) pe_int (fun _ _ => rfl)) (fun _ _ => rfl)) pe_int (by rfl)) (pe_lc (own := [("_law_a", 8), ("_law_b", 9)]) rfl sc_l_rank.nd (k_pi_zipA K rfl (by rfl) T.b_zip (pa_cons (pv 5) (pa_cons (pv 3) pa_nil))) (blkOk_nf (own := [("_law_a", 8), ("_law_b", 9)]) (N := n_l_rank) (by decide +kernel)) (fun _ _ _ _ _ => (k_pg_tup K rfl (n := 2) rfl (pgs_cons (pg_name (i := 8) sc_l_rank.nd rfl (Or.inl rfl)) (pgs_cons (pg_name (i := 9) sc_l_rank.nd rfl (Or.inl rfl)) pgs_nil)))) (fun _ _ _ _ _ => pts_nil) (fun _ _ _ _ _ => (pe_op op_mod (pe_op op_add (pv 8) (pv 9)) pe_int))) (pv 5))))))
      pss_nil)))))
      (pss_one (ps_ret (pv 2))))), ?_⟩
  have hlen : (rows.map bitsD).length = rows.length := List.length_map _
  refine seq ?_
  refine s_parP (R1 := isLL (rows.map bitsL)) (R2 := fun H u => Is H (.d (.int 0)) u) ?_ (Ev.p ev_int) isLL_same (fun v w H1 e1 hv hw => ?_)
  · have e0 : (List.range (rows.map bitsD).length).map (fun i => bitsL (rows.getD i [])) = rows.map bitsL := by
      rw [hlen]
      refine List.ext_getElem (by rw [List.length_map, List.length_map, List.length_range]) fun i h1 h2 => ?_
      have hi : i < rows.length := by rw [List.length_map] at h2; exact h2
      rw [List.getElem_map, List.getElem_map, List.getElem_range, List.getD_eq_getElem?_getD, List.getElem?_eq_getElem hi]
      rfl
    rw [← e0]
    refine ev_lcLL (fun i => bitsL (rows.getD i [])) (ei_tup (ev_varD rfl h1) (fun _ h => nomatch h)) (by rw [hlen]; omega) (fun _ => rfl) (fun i x H1 hi e hx H2 e2 Q q => ?_)
    have hi' : i < rows.length := by rw [hlen] at hi; exact hi
    have hx' : Dt H1 x ((rows.map bitsD).getD i .none) := hx
    rw [getD_map hi'] at hx'
    have er : rows.getD i [] = rows[i] := by rw [List.getD_eq_getElem?_getD, List.getElem?_eq_getElem hi']; rfl
    try dsimp only at q
    rw [er] at q
    exact ev_listT (ds := bitsL rows[i]) (ev_varD rfl hx') H2 e2 Q (fun p xs H3 e3 p0 p1 p2 => q p xs H3 e3 (.inl p0) p1 p2)
  have ew := Dt.intE hw
  subst ew
  dsimp only
  refine seq ?_
  refine s_while (fun m σ' H' => ∃ rs : List (List Bool), ∃ fd : Nat, ∃ l xs j3 j4, rs.length = m ∧ rs.length ≤ 1000 ∧ (∀ r ∈ rs, r.length = N) ∧ fd + rankF m rs = rankL rows ∧ σ' = [some u1, some (.ref l), some (.int (fd : Int)), j3, j4, none, none, none, none, none] ∧ Same H1 H' ∧ H' l = some (.lst xs) ∧ LL H' xs (rs.map bitsL)) rows.length ?_ ?_
  · obtain ⟨l, xs, rfl, l1, l2⟩ := hv
    exact ⟨rows, 0, l, xs, none, none, rfl, ok1, ok3, by rw [Nat.zero_add]; rfl, rfl, Same.refl _, l1, l2⟩
  · rintro m σ' H' ⟨rs, fd, l, xs, j3, j4, hm, hle, hN, hfd, rfl, c, l1, l2⟩
    have hxs : xs.length = rs.length := by rw [l2.1, List.length_map]
    refine ⟨!rs.isEmpty, ?_, fun hb H2 e2 => ?_, fun hb H2 e2 => ?_⟩
    · refine et_test (fun H1 e Q q => ?_)
      refine ⟨_, rfl, Nat.zero_le _, fun p hp => ?_⟩
      refine ⟨l, p, xs, rfl, rfl, SqL.of (same_new hp _ _ (e _ _ l1)), SqL.of upd_same, ?_⟩
      have el : xs.isEmpty = rs.isEmpty := by
        cases xs <;> cases rs <;> first | rfl | (simp at hxs)
      rw [el]
      exact q _ _ (same_new hp) (is_d.mpr (.bl _))
    · cases rs with
      | nil => simp at hb
      | cons hd rest =>
        have l1' := e2 _ _ l1
        have l2' := l2.same e2
        have hxs' : xs.length = rest.length + 1 := hxs
        cases xs with
        | nil => simp at hxs'
        | cons u0 us =>
          obtain ⟨hp, hys, _, rfl, p1, p2⟩ := l2'.get (i := 0) (u := u0) rfl
          replace p2 : Dts H2 hys (bitsL hd) := p2
          have hus : us.length = rest.length := by simpa using hxs'
          have hhd : hd.length = N := hN hd List.mem_cons_self
          have hrest : ∀ r ∈ rest, r.length = N := fun r hr => hN r (List.mem_cons_of_mem _ hr)
          have hml : rest.length + 1 = m := hm
          refine seq ?_
          refine s_asg2P (R1 := fun H u => u = .ref hp) (R2 := isLL (rest.map bitsL)) (fun H3 e3 Q q => ?_) (fun H3 e3 Q q => ?_) (fun _ _ _ _ h => h) isLL_same (fun v w' H3 e3 hv hw => ?_)
          · exact ⟨_, rfl, l, _, _, _, rfl, rfl, SqL.of (e3 _ _ l1'), (show atI (V.ref hp :: us) ((0 : Nat) : Int) = some (V.ref hp) from atI_nat rfl), q _ H3 (Same.refl _) rfl⟩
          · refine ⟨_, rfl, 1, rfl, ?_⟩
            refine ⟨l, _, rfl, SqL.of (e3 _ _ l1'), fun p hpn => ?_⟩
            refine q (.ref p) _ (same_new hpn) ⟨p, _, rfl, upd_same, ?_⟩
            have ec : cutV (V.ref hp :: us) (some 1) none = us := by
              unfold cutV
              rw [show (1 : Int) = ((1 : Nat) : Int) from rfl, HT.sIx_nat, HT.sIx_none]
              rw [Nat.min_eq_left (by show 1 ≤ us.length + 1; omega)]
              show (us.take (us.length + 1 - 1)) = us
              exact List.take_of_length_le (by omega)
            rw [ec]
            have l3 := (l2'.same e3).same (same_new (o := HO.lst us) hpn)
            refine ⟨by rw [List.length_map]; omega, fun i u hu => ?_⟩
            exact l3.2 (i + 1) u hu
          obtain ⟨l', xs', rfl, k1, k2⟩ := hw
          subst hv
          dsimp only
          refine seq ?_
          have p1' := e3 _ _ p1
          have p2' := p2.mono (same_tp e3)
          refine s_asgFE (es := natsD (spots hd)) (ev_lc2N (ix := fun i => .int (i : Nat)) (iy := fun i => (bitsL hd).getD i .none) (fun i => hd.getD i false) (fun i => .int (i : Nat)) (ei_enumL (ea_cons (ev_var rfl (is_t.mpr ⟨hp, hys, rfl, p1', p2'⟩)) ea_nil)) (fun _ => rfl) (by rw [bitsL_len]; omega) (fun _ _ => rfl) (fun i x y H4 hi e hx hy => ?_) (fun i x y H4 hi e hx hy _ => ev_varD rfl hx)) ?_ (fun a as H4 e4 a0 a1 a2 => ?_)
          · rw [bitsL_len] at hi
            rw [bitsL_get hi] at hy
            refine EvT.to (et_test (ev_eqI (ev_varD rfl hy) ev_int)) ?_
            generalize hd.getD i false = b
            cases b <;> rfl
          · unfold given natsD spots
            rw [bitsL_len]
          · dsimp only
            have k1' := e4 _ _ k1
            have k2' := k2.same e4
            have p1'' := e4 _ _ p1'
            have p2'' := p2'.mono (same_tp e4)
            rw [← hml] at hfd
            have cc := ((c.trans e2).trans e3).trans e4
            refine s_ifE (c := !(spots hd).isEmpty) (et_test (ev_neNil (ev_var rfl (is_t.mpr ⟨a, as, rfl, a1, a2⟩)))) (by cases spots hd <;> rfl) (fun hb H5 e5 => ?_) (fun hb H5 e5 => ?_)
            · cases hsp : spots hd with
              | nil => rw [hsp] at hb; simp at hb
              | cons p t =>
                have hp1 : p < N := by have := spots_lt hsp; omega
                rw [rankF_hd hsp] at hfd
                rw [hsp] at a2
                refine seq ?_
                refine s_asg (ev_I0 (ev_varD rfl (.int _)) ev_int) (fun u H6 e6 hu => ?_)
                have eu := Dt.intE hu
                subst eu
                dsimp only
                have e56 := e5.trans e6
                have k1'' := e56 _ _ k1'
                have k2'' := k2'.same e56
                have k1'' := e56 _ _ k1'
                have hxl : xs'.length = rest.length := by rw [k2.1, List.length_map]
                have hel : ((List.range xs'.length).map fun i => bitsL (elim hd p (rest.getD i []))) = (rest.map (elim hd p)).map bitsL := by
                  rw [hxl]
                  refine List.ext_getElem (by rw [List.length_map, List.length_map, List.length_map, List.length_range]) fun i h1 h2 => ?_
                  have hi : i < rest.length := by rw [List.length_map, List.length_map] at h2; exact h2
                  rw [List.getElem_map, List.getElem_map, List.getElem_map, List.getElem_range, List.getD_eq_getElem?_getD, List.getElem?_eq_getElem hi]
                  rfl
                refine s_asgP (R := isLL ((rest.map (elim hd p)).map bitsL)) ?_ (fun u H7 e7 hu => ?_)
                · rw [← hel]
                  have hne : ∀ i (u : V), xs'[i]? = some u → ∃ q ys, ∃ hi : i < rest.length, u = .ref q ∧ H6 q = some (.lst ys) ∧ Dts H6 ys (bitsL rest[i]) := fun i u hu => k2''.get hu
                  refine ev_lcLL (fun i => bitsL (elim hd p (rest.getD i []))) (ei_lstV0 rfl k1'') (by omega) (fun _ => rfl) (fun i x H8 hi e8 hx H9 e9 Q q => ?_)
                  have hxi : xs'[i]? = some xs'[i] := List.getElem?_eq_getElem hi
                  have hx' : x = xs'[i] := by
                    have : x = xs'.getD i .non := hx
                    rw [this, List.getD_eq_getElem?_getD, hxi]; rfl
                  obtain ⟨qa, ys, hi2, z1, z2, z3⟩ := hne i _ hxi
                  rw [z1] at hx'
                  subst hx'
                  have er : rest.getD i [] = rest[i] := by rw [List.getD_eq_getElem?_getD, List.getElem?_eq_getElem hi2]; rfl
                  try dsimp only at q
                  rw [er] at q
                  have hlr : rest[i].length = N := hrest _ (List.getElem_mem hi2)
                  have t9 := e8.trans e9
                  have z2' := t9 _ _ z2
                  have z3' := z3.mono (same_tp t9)
                  have one : ∀ {σ1 : L2.St}, σ1[5]? = some (some (.ref qa)) → Ev (tVar 5) σ1 H9 (.t (bitsL rest[i])) := fun hs => ev_var hs (is_t.mpr ⟨qa, ys, rfl, z2', z3'⟩)
                  have a1' := t9 _ _ (e56 _ _ a1)
                  have a2' := a2.mono (same_tp (e56.trans t9))
                  have p1''' := t9 _ _ (e56 _ _ p1'')
                  have p2''' := p2''.mono (same_tp (e56.trans t9))
                  refine evp_if (b := rest[i].getD p false) (R := fun H u => (∃ pp ys, u = V.ref pp ∧ (H9 pp = none ∨ H6 pp ≠ none) ∧ H pp = some (.lst ys) ∧ Dts H ys (bitsL (elim hd p rest[i])))) ?_ (fun hb2 => ?_) (fun hb2 => ?_) H9 (Same.refl _) Q (fun u H10 e10 ⟨pp, ys', h1, h2, h3, h4⟩ => by subst h1; exact q pp ys' H10 e10 h2 h3 h4)
                  · refine EvT.to (et_test (ev_eqI (ev_ixL (i := p) (one rfl) (ev_ixL (i := 0) (ev_var rfl (is_t.mpr ⟨a, as, rfl, a1', a2'⟩)) ev_int rfl) (bitsL_get? (by omega))) ev_int)) ?_
                    generalize rest[i].getD p false = b
                    cases b <;> rfl
                  · have eel : elim hd p rest[i] = xorL rest[i] hd := by unfold elim; rw [if_pos hb2]
                    rw [eel]
                    intro H10 e10 Q q
                    refine EvF.to (es := bitsL (xorL rest[i] hd)) (ev_lc2N (ix := fun i' => (bitsL rest[i]).getD i' .none) (iy := fun i' => (bitsL hd).getD i' .none) (fun _ => true) (fun i' => .int (bit (rest[i].getD i' false ^^ hd.getD i' false))) (ei_zipL (ea_cons (one rfl) (ea_cons (ev_var rfl (is_t.mpr ⟨hp, hys, rfl, p1''', p2'''⟩)) ea_nil))) (fun _ => rfl) (by rw [bitsL_len, bitsL_len]; omega) (fun _ _ => rfl) (fun i x y H1 hi e hx hy => et_yes) (fun i' x y H11 hi' e11 hx hy _ => ?_)) ?_ H10 e10 Q (fun pp ys H11 e11 w0 w1 w2 => q _ H11 e11 ⟨pp, ys, rfl, .inl (e10.free w0), w1, w2⟩)
                    · rw [bitsL_len, bitsL_len] at hi'
                      rw [bitsL_get (by omega)] at hx hy
                      refine Ev.to (ev_I (ev_I0 (ev_varD rfl hx) (ev_varD rfl hy)) ev_int (show (0 : Int) < 2 by decide)) ?_
                      generalize rest[i].getD i' false = b1
                      generalize hd.getD i' false = b2
                      cases b1 <;> cases b2 <;> rfl
                    · rw [given_all, bitsL_len, bitsL_len]
                      unfold bitsL xorL
                      rw [List.map_map, List.map_map]
                      rfl
                  · have eel : elim hd p rest[i] = rest[i] := by unfold elim; rw [if_neg (by rw [hb2]; decide)]
                    rw [eel]
                    intro H10 e10 Q q
                    exact ⟨_, rfl, q _ H10 (Same.refl _) ⟨qa, ys, rfl, .inr (by rw [z2]; exact fun z => nomatch z), e10 _ _ z2', z3'.mono (same_tp e10)⟩⟩
                · obtain ⟨l2, xs2, rfl, m1, m2⟩ := hu
                  refine ⟨rest.length, by omega, rest.map (elim hd p), fd + 1, l2, xs2, _, _, by rw [List.length_map], by rw [List.length_map]; omega, ?_, ?_, rfl, (cc.trans e56).trans e7, m1, m2⟩
                  · intro r hr
                    obtain ⟨r', hr', rfl⟩ := List.mem_map.mp hr
                    rw [elim_len p (by rw [hrest r' hr', hhd])]
                    exact hhd
                  · omega
            · have hsp : spots hd = [] := by
                cases h : spots hd with
                | nil => rfl
                | cons p t => rw [h] at hb; simp at hb
              rw [rankF_no hsp] at hfd
              refine s_next ⟨rest.length, by omega, rest, fd, l', xs', _, _, rfl, by omega, hrest, by omega, rfl, cc.trans e5, e5 _ _ k1', k2'.same e5⟩
    · have hrs : rs = [] := by
        cases rs with
        | nil => rfl
        | cons a b => simp at hb
      subst hrs
      dsimp only
      have : fd = rankL rows := by
        have : rankF m [] = 0 := by cases m <;> rfl
        omega
      rw [← this] at q
      exact s_ret (s := .d (.int (fd : Int))) (ev_varD rfl (.int _)) (fun u H3 e3 hu => q u H3 (((e1.trans c).trans e2).trans e3) hu)
end
end TF
/-! P16 -/
namespace TF
open PySem PySem.Spec PyProof.Rows L2

def rIsQ : R2 := fun x y H Q => y = .non ∧ Q (.bl (decide (x = .non))) H
theorem op_isQ {X : Cx} : OpR X (compareOp .Is) rIsQ := op_isN
section
variable {P : Program} {w : World} {K : PySem.W.Frag} {mg : Str → Option Value} {base : Heap} {C : Addr} {σ : L2.St} {H : Hp} {ta tb tc td te ty : TE} {S r : Addr} {D : Ends}
theorem ev_isN {x : PyData} (h : Ev ta σ H (.d x)) (hx : okT x = true) : Ev (tOp rIsQ ta (tC .non)) σ H (.d (.bool false)) := fun H1 e Q q => h H1 e _ fun u H2 e2 hu => ⟨rfl, by
  have : u ≠ .non := by
    cases x <;> cases (is_d.mp hu) <;> exact fun z => nomatch z
  rw [decide_eq_false this]
  exact q _ H2 e2 (is_d.mpr (.bl _))⟩
def sp_alike (ok : PyData → Prop) : Sp := PF (fun x : PyData => [.d x, .d x]) ok (fun _ => .d (.bool true))
def spX : Sp := fun _ _ _ _ => False
theorem c_alikeX (T : Tx K mg C) : C8.Cal P w K mg base 1 "_law_alike" spX [] := mk_sp T.d_l_alike sc_l_alike (fun vs H Q E h => h.elim) (fun f cdv A outer s H vs Q E hr h => h.elim)
theorem alike_step (T : Tx K mg C) {j : Nat} {sp' : Sp} (R : C8.Cal P w K mg base j "_law_alike" sp' []) (okx : PyData → Prop)
    (hok : ∀ d, okx d → (∃ i, d = .int i) ∨ (∃ s, d = .str s ∧ SeqAt.shaped (.str s) = true) ∨ ∃ ds, d = .tuple ds ∧ ds.length ≤ 1000 ∧ ∀ x ∈ ds, ∀ (t1 t2 : TE) (σ : L2.St) (H : Hp), Ev t1 σ H (.d x) → Ev t2 σ H (.d x) → Ev (tCall sp' [] C8.E0 (tCons t1 (tCons t2 tNil))) σ H (.d (.bool true))) :
    C8.Cal P w K mg base (j + 1) "_law_alike" (sp_alike okx) [] := by
  refine mk_pf T.d_l_alike sc_l_alike (fun _ => rfl) (fun f cdv A outer s H vs Q E x hr h ok q => ?_)
  obtain ⟨u1, u2, rfl, h1, h2⟩ := iss2 h
  replace h1 : Dt H u1 x := h1
  replace h2 : Dt H u2 x := h2
  refine ⟨_, (pss_cons (ps_if (pt_val (pe_callB (k_isiT K rfl) (by rfl) T.b_isinstance (by decide +kernel) (pa_cons (pv 1) (pa_cons (pe_tup (pa_cons (pe_bltn (v := .ty "tuple") (by rfl) T.b_tuple (by decide +kernel) rfl) (pa_cons (pe_bltn (v := .ty "list") (by rfl) T.b_list (by decide +kernel) rfl) pa_nil))) pa_nil))))
      (pss_cons (ps_if (PW.pt (pw_or (pt_not (pt_val (pe_callB (k_isiT K rfl) (by rfl) T.b_isinstance (by decide +kernel) (pa_cons (pv 0) (pa_cons (pe_tup (pa_cons (pe_bltn (v := .ty "tuple") (by rfl) T.b_tuple (by decide +kernel) rfl) (pa_cons (pe_bltn (v := .ty "list") (by rfl) T.b_list (by decide +kernel) rfl) pa_nil))) pa_nil))))) (pw_or1 (pt_cmpR op_ne (pe_callB (k_isi K rfl) (by rfl) T.b_isinstance (by decide +kernel) (pa_cons (pv 0) (pa_cons (pe_bltn (v := .ty "list") (by rfl) T.b_list (by decide +kernel) rfl) pa_nil))) (pe_callB (k_isi K rfl) (by rfl) T.b_isinstance (by decide +kernel) (pa_cons (pv 1) (pa_cons (pe_bltn (v := .ty "list") (by rfl) T.b_list (by decide +kernel) rfl) pa_nil))) (by rfl)))))
      (pss_one (ps_ret pe_bl))
      pss_nil)
      (pss_cons (ps_if (pt_cmpR op_ne (pe_callB (k_lenQ K rfl) (by rfl) T.b_len (by decide +kernel) (pa_cons (pv 0) pa_nil)) (pe_callB (k_lenQ K rfl) (by rfl) T.b_len (by decide +kernel) (pa_cons (pv 1) pa_nil)) (by rfl))
      (pss_one (ps_ret pe_bl))
      pss_nil)
      (pss_one (ps_ret (pe_cmpR (k_op_eqNil K rfl hr.units0) (pe_lc (own := [("_law_k", 2)]) rfl sc_l_alike.nd (pi_range1 (by rfl) T.b_range (pa_cons (pe_callB (k_lenQ K rfl) (by rfl) T.b_len (by decide +kernel) (pa_cons (pv 1) pa_nil)) pa_nil)) (blkOk_by (own := [("_law_k", 2)]) (N := n_l_alike) (sc := C8.fnScope s_l_alike) (by decide +kernel)) (fun _ _ _ _ _ => (pg_name (i := 2) sc_l_alike.nd rfl (Or.inl rfl))) (fun _ _ _ _ _ => pts_one (pt_not (pt_val (C8.pe_c R hr (Nat.le_refl _) (by rfl) (pa_cons (pe_ix (k_ix_tup K rfl) (pv 0) (pv 2) (fun _ _ => rfl)) (pa_cons (pe_ix (k_ix_tup K rfl) (pv 1) (pv 2) (fun _ _ => rfl)) pa_nil)))))) (fun _ _ _ _ _ => (pv 2))) (pe_lst pa_nil) (by rfl))))))
      pss_nil)
      (pss_cons (ps_if (pt_val (pe_callB (k_isi K rfl) (by rfl) T.b_isinstance (by decide +kernel) (pa_cons (pv 1) (pa_cons (pe_bltn (v := .ty "dict") (by rfl) T.b_dict (by decide +kernel) rfl) pa_nil))))
      (pss_cons (ps_if (PW.pt (pw_or (pt_not (pt_val (pe_callB (k_isi K rfl) (by rfl) T.b_isinstance (by decide +kernel) (pa_cons (pv 0) (pa_cons (pe_bltn (v := .ty "dict") (by rfl) T.b_dict (by decide +kernel) rfl) pa_nil))))) (pw_or1 (pt_cmpR op_ne (pe_callB (k_sortedD K rfl hr.units) (by rfl) T.b_sorted (by decide +kernel) (pa_cons (pv 0) pa_nil)) (pe_callB (k_sortedD K rfl hr.units) (by rfl) T.b_sorted (by decide +kernel) (pa_cons (pv 1) pa_nil)) (by rfl)))))
      (pss_one (ps_ret pe_bl))
      pss_nil)
      (pss_one (ps_ret (pe_cmpR (k_op_eqNil K rfl hr.units0) (pe_lc (own := [("_law_key", 3)]) rfl sc_l_alike.nd (k_pi_tup K rfl (pv 1)) (blkOk_by (own := [("_law_key", 3)]) (N := n_l_alike) (sc := C8.fnScope s_l_alike) (by decide +kernel)) (fun _ _ _ _ _ => (pg_name (i := 3) sc_l_alike.nd rfl (Or.inl rfl))) (fun _ _ _ _ _ => pts_one (pt_not (pt_val (C8.pe_c R hr (Nat.le_refl _) (by rfl) (pa_cons (pe_ix (k_ix_tup K rfl) (pv 0) (pv 3) (fun _ _ => rfl)) (pa_cons (pe_ix (k_ix_tup K rfl) (pv 1) (pv 3) (fun _ _ => rfl)) pa_nil)))))) (fun _ _ _ _ _ => (pv 3))) (pe_lst pa_nil) (by rfl)))))
      pss_nil)
      (pss_cons (ps_if (PW.pt (pw_or (pt_cmpR op_isQ (pv 1) pe_non (by rfl)) (pw_or1 (pt_val (pe_callB (k_isi K rfl) (by rfl) T.b_isinstance (by decide +kernel) (pa_cons (pv 1) (pa_cons (pe_bltn (v := .ty "str") (by rfl) T.b_str (by decide +kernel) rfl) pa_nil)))))))
      (pss_one (ps_ret (pe_and (pe_cmpR (k_op_eqD K rfl hr.units) (pv 0) (pv 1) (by rfl)) (pe_one (pe_cmpR op_eq (pe_callB (k_isi K rfl) (by rfl) T.b_isinstance (by decide +kernel) (pa_cons (pv 0) (pa_cons (pe_bltn (v := .ty "str") (by rfl) T.b_str (by decide +kernel) rfl) pa_nil))) (pe_callB (k_isi K rfl) (by rfl) T.b_isinstance (by decide +kernel) (pa_cons (pv 1) (pa_cons (pe_bltn (v := .ty "str") (by rfl) T.b_str (by decide +kernel) rfl) pa_nil))) (by rfl))))))
      pss_nil)
      (pss_one (ps_ret (pe_and (pe_callB (k_isi K rfl) (by rfl) T.b_isinstance (by decide +kernel) (pa_cons (pv 0) (pa_cons (pe_bltn (v := .ty "int") (by rfl) T.b_int (by decide +kernel) rfl) pa_nil))) (pe_and (pe_cmpR op_eq (pe_callB (k_isi K rfl) (by rfl) T.b_isinstance (by decide +kernel) (pa_cons (pv 0) (pa_cons (pe_bltn (v := .ty "bool") (by rfl) T.b_bool (by decide +kernel) rfl) pa_nil))) (pe_callB (k_isi K rfl) (by rfl) T.b_isinstance (by decide +kernel) (pa_cons (pv 1) (pa_cons (pe_bltn (v := .ty "bool") (by rfl) T.b_bool (by decide +kernel) rfl) pa_nil))) (by rfl)) (pe_one (pe_cmpR (k_op_eqD K rfl hr.units) (pv 0) (pv 1) (by rfl)))))))))), ?_⟩
  rcases hok x ok with ⟨i, rfl⟩ | ⟨st, rfl, hsh⟩ | ⟨ds, rfl, hl, hrec⟩
  · refine seq ?_
    refine s_noE (et_B (ev_isi2 (ev_varD rfl h2) rfl (by decide) (by decide))) rfl (fun H1 e1 => ?_)
    refine s_next ?_
    dsimp only
    refine seq ?_
    refine s_noE (et_B (ev_isi (ev_varD rfl (h2.mono (same_tp e1))) rfl (by decide))) rfl (fun H2 e2 => ?_)
    refine s_next ?_
    dsimp only
    have s2 := e1.trans e2
    refine seq ?_
    refine s_noE (et_or (et_test (ev_isN (ev_varD rfl (h2.mono (same_tp s2))) rfl)) (fun _ => et_B (ev_isi (ev_varD rfl (h2.mono (same_tp s2))) rfl (by decide)))) rfl (fun H3 e3 => ?_)
    refine s_next ?_
    dsimp only
    have s3 := s2.trans e3
    have g1 := h1.mono (same_tp s3)
    have g2 := h2.mono (same_tp s3)
    refine s_retE (ev_and (ev_isi (ev_varD rfl g1) rfl (by decide)) (fun _ => ev_and (ev_eqB (ev_isi (ev_varD rfl g1) rfl (by decide)) (ev_isi (ev_varD rfl g2) rfl (by decide))) (fun _ => ev_eqD (ev_varD rfl g1) (ev_varD rfl g2) rfl rfl))) ?_ (fun u H4 e4 hu => q u H4 (s3.trans e4) hu)
    have : PyData.eqv (.int i) (.int i) = true := by simp [PyData.eqv]
    rw [this]
    rfl
  · refine seq ?_
    refine s_noE (et_B (ev_isi2 (ev_varD rfl h2) rfl (by decide) (by decide))) rfl (fun H1 e1 => ?_)
    refine s_next ?_
    dsimp only
    refine seq ?_
    refine s_noE (et_B (ev_isi (ev_varD rfl (h2.mono (same_tp e1))) rfl (by decide))) rfl (fun H2 e2 => ?_)
    refine s_next ?_
    dsimp only
    have s2 := e1.trans e2
    refine seq ?_
    refine s_yesE (et_or (et_test (ev_isN (ev_varD rfl (h2.mono (same_tp s2))) rfl)) (fun _ => et_B (ev_isi (ev_varD rfl (h2.mono (same_tp s2))) rfl (by decide)))) rfl (fun H3 e3 => ?_)
    have s3 := s2.trans e3
    have g1 := h1.mono (same_tp s3)
    have g2 := h2.mono (same_tp s3)
    refine s_retE (ev_and (ev_eqD (ev_varD rfl g1) (ev_varD rfl g2) hsh hsh) (fun _ => ev_eqB (ev_isi (ev_varD rfl g1) rfl (by decide)) (ev_isi (ev_varD rfl g2) rfl (by decide)))) ?_ (fun u H4 e4 hu => q u H4 (s3.trans e4) hu)
    have : PyData.eqv (.str st) (.str st) = true := by simp [PyData.eqv]
    rw [this]
    rfl
  · refine seq ?_
    refine s_yesE (et_B (ev_isi2 (ev_varD rfl h2) rfl (by decide) (by decide))) rfl (fun H1 e1 => ?_)
    have g1 := h1.mono (same_tp e1)
    have g2 := h2.mono (same_tp e1)
    refine seq ?_
    refine s_noE (et_or (et_not (et_B (ev_isi2 (ev_varD rfl g1) rfl (by decide) (by decide)))) (fun _ => et_test (ev_neB (ev_isi (ev_varD rfl g1) rfl (by decide)) (ev_isi (ev_varD rfl g2) rfl (by decide))))) rfl (fun H2 e2 => ?_)
    refine s_next ?_
    dsimp only
    refine seq ?_
    have k1 := g1.mono (same_tp e2)
    have k2 := g2.mono (same_tp e2)
    refine s_noE (et_test (ev_neI (ev_lenT (ev_varD rfl k1)) (ev_lenT (ev_varD rfl k2)))) (by rw [decide_eq_true rfl]; rfl) (fun H3 e3 => ?_)
    refine s_next ?_
    dsimp only
    have m1 := k1.mono (same_tp e3)
    have m2 := k2.mono (same_tp e3)
    refine s_retE (ev_eqNil (EvF.ev (ev_lcN (n := ds.length) (fun _ => false) (fun i => .int (i : Nat)) (ei_rng1 (n := ds.length) (ea_cons (ev_lenT (ev_varD rfl m2)) ea_nil) (by omega)) (by omega) (fun _ => rfl) (fun i z H4 hi e4 hz => ?_) (fun i z H4 hi e4 hz hf => nomatch hf)))) ?_ (fun u H4 e4 hu => q u H4 (((e1.trans e2).trans e3).trans e4) hu)
    · have hx : ds[i]? = some ds[i] := List.getElem?_eq_getElem hi
      exact et_not (et_B (hrec _ (List.getElem_mem hi) _ _ _ _ (ev_ixT (i := i) (ev_varD rfl (m1.mono (same_tp e4))) (ev_varD rfl hz) hx) (ev_ixT (i := i) (ev_varD rfl (m2.mono (same_tp e4))) (ev_varD rfl hz) hx)))
    · have : given ds.length (fun _ => false) (fun i : Nat => PyData.int (i : Int)) = [] := by
        unfold given
        rw [List.filter_eq_nil_iff.mpr (fun _ _ => by decide)]
        rfl
      rw [this]
      rfl
def ok0 : PyData → Prop := fun d => (∃ i, d = .int i) ∨ ∃ s, d = .str s ∧ SeqAt.shaped (.str s) = true
def okS (ok : PyData → Prop) : PyData → Prop := fun d => ∃ ds, d = .tuple ds ∧ ds.length ≤ 1000 ∧ ∀ x ∈ ds, ok x
theorem c_alike0 (T : Tx K mg C) : C8.Cal P w K mg base 2 "_law_alike" (sp_alike ok0) [] := alike_step T (c_alikeX T) ok0 fun d h => h.elim .inl fun h => .inr (.inl h)
theorem e_alike {ok : PyData → Prop} {x : PyData} (h1 : Ev ta σ H (.d x)) (h2 : Ev tb σ H (.d x)) (h : ok x) : Ev (tCall (sp_alike ok) [] C8.E0 (tCons ta (tCons tb tNil))) σ H (.d (.bool true)) := ev_call x (ea_cons h1 (ea_cons h2 ea_nil)) h
theorem alike_up (T : Tx K mg C) {j : Nat} {ok : PyData → Prop} (R : C8.Cal P w K mg base j "_law_alike" (sp_alike ok) []) : C8.Cal P w K mg base (j + 1) "_law_alike" (sp_alike (okS ok)) [] := alike_step T R (okS ok) fun d ⟨ds, h1, h2, h3⟩ => .inr (.inr ⟨ds, h1, h2, fun x hx t1 t2 σ H a b => e_alike a b (h3 x hx)⟩)
theorem c_alike2 (T : Tx K mg C) : C8.Cal P w K mg base 4 "_law_alike" (sp_alike (okS (okS ok0))) [] := alike_up T (alike_up T (c_alike0 T))
end
end TF
/-! P17 -/
namespace TF
open PySem PySem.Spec PyProof.Rows L2

def Small (h : HallA) : Prop := HOk h ∧ h.1 ≤ 2
theorem small_ps {h : HallA} (s : Small h) : h.2 = [] ∨ h.2 = [(0, 1)] := by
  obtain ⟨n, ps⟩ := h
  obtain ⟨⟨h1, h2, h3⟩, h4⟩ := s
  dsimp only at h1 h3 h4 ⊢
  have h1' : 1 ≤ n := h1
  rcases (show n = 1 ∨ n = 2 by omega) with e | e
  · subst e
    have : ps.Sublist ([] : List (Nat × Nat)) := h3
    left
    exact List.sublist_nil.mp this
  · subst e
    have : ps.Sublist [((0 : Nat), (1 : Nat))] := h3
    cases this with
    | cons _ t => left; exact List.sublist_nil.mp t
    | cons_cons _ t =>
      right
      have := List.sublist_nil.mp t
      rw [this]
theorem small_near {h : HallA} (s : Small h) (x : Nat) : ∀ i j : Nat, i < (nearD h x).length → j < (nearD h x).length → i = j := by
  have key : (nearD h x).length ≤ 1 := by
    rcases small_ps s with e | e
    · have : nearD h x = [] := by
        unfold nearD given
        rw [List.filter_eq_nil_iff.mpr]
        · rfl
        · intro y _
          unfold adj
          rw [e]
          simp
      rw [this]; exact Nat.zero_le _
    · unfold nearD given
      rw [List.length_map]
      have hn := s.2
      have h0 : (List.range h.1).filter (fun y => adj h.2 x y) = (List.range h.1).filter (fun y => decide (x = 0 ∧ y = 1) || decide (x = 1 ∧ y = 0)) := by
        congr 1
        funext y
        unfold adj
        rw [e]
        by_cases c1 : x = 0 ∧ y = 1
        · obtain ⟨rfl, rfl⟩ := c1; decide
        · by_cases c2 : x = 1 ∧ y = 0
          · obtain ⟨rfl, rfl⟩ := c2; decide
          · rw [decide_eq_false c1, decide_eq_false c2]
            refine decide_eq_false fun z => ?_
            rw [List.mem_singleton] at z
            have z1 := congrArg Prod.fst z
            have z2 := congrArg Prod.snd z
            dsimp only at z1 z2
            omega
      rw [h0]
      rcases (show h.1 = 0 ∨ h.1 = 1 ∨ h.1 = 2 by omega) with e | e | e
      · rw [e]; exact Nat.zero_le _
      · rw [e]
        exact Nat.le_trans (List.length_filter_le _ _) (by show 1 ≤ 1; omega)
      · rw [e]
        have : List.range 2 = [0, 1] := rfl
        rw [this, List.filter_cons, List.filter_cons, List.filter_nil]
        by_cases c1 : x = 0
        · subst c1; decide
        · by_cases c2 : x = 1
          · subst c2; decide
          · simp [c1, c2]
  intro i j h1 h2
  omega
section
variable {P : Program} {w : World} {K : PySem.W.Frag} {mg : Str → Option Value} {base : Heap} {C : Addr} {σ : L2.St} {H : Hp} {ta tb tc td te ty : TE} {S r : Addr} {D : Ends} {g : TG}
/-- two clauses, nothing taken -/
theorem ev_lc2_none {wi wi1 : TI} {n n1 j j1 : Nat} {it it1 : Nat → Ds} {vs vs1 : List Nat} {tt : TT} (hI : EvI [] wi σ H n it) (hw : ∀ x, wipe ((wipe σ vs).set j (some x)) vs = wipe σ vs)
    (hI1 : ∀ x H1, Same H H1 → EvI [] wi1 ((wipe σ vs).set j (some x)) H1 n1 it1) (hw1 : ∀ x y, wipe ((wipe ((wipe σ vs).set j (some x)) vs1).set j1 (some y)) vs1 = wipe ((wipe σ vs).set j (some x)) vs1)
    (ht : ∀ i i1 x y H1, i < n → i1 < n1 → Same H H1 → Is H1 (it i) x → Is H1 (it1 i1) y → EvT tt ((wipe ((wipe σ vs).set j (some x)) vs1).set j1 (some y)) H1 false) : EvF (tLc2 wi (gName j) tYes wi1 (gName j1) tt te vs vs1) σ H [] := fun H1 e Q q => hI H1 e _ fun J H2 e2 W Dl hD => by
  refine ⟨fun i m H' => m = n - i ∧ i ≤ n ∧ Same H2 H' ∧ H' Dl = some (.lst []), ⟨n, by simp, Nat.zero_le _, same_new hD, upd_same⟩, ?_⟩
  rintro i m H' ⟨rfl, hi, s2, hd⟩
  by_cases hlt : i < n
  · refine .inr ⟨W.goes i H' hlt (same_ch s2), fun H'' => Same H2 H'' ∧ H'' Dl = some (.lst []), fun H'' ⟨z1, z2⟩ => ⟨n - (i + 1), by omega, rfl, hlt, z1, z2⟩, fun x H'' hy => ?_⟩
    obtain ⟨y1, y2⟩ := W.yields i H' x H'' hlt (same_ch s2) hy
    refine ⟨hw x, ?_⟩
    show wi1 _ H'' _
    have s3 : Same H H'' := ((e.trans e2).trans s2).trans y1
    refine hI1 x H'' s3 H'' (Same.refl _) _ fun J1 H3 e3 W1 => ?_
    refine ⟨fun i1 k H4 => k = n1 - i1 ∧ i1 ≤ n1 ∧ Same H3 H4, ⟨n1, by simp, Nat.zero_le _, Same.refl _⟩, ?_⟩
    rintro i1 k H4 ⟨rfl, hi1, s4⟩
    have fin : ∀ H5, Same H4 H5 → Same H2 H5 ∧ H5 Dl = some (.lst []) := fun H5 s5 => ⟨((s2.trans y1).trans e3).trans (s4.trans s5), s5 _ _ (s4 _ _ (e3 _ _ (y1 _ _ hd)))⟩
    by_cases hlt1 : i1 < n1
    · refine .inr ⟨W1.goes i1 H4 hlt1 (same_ch s4), fun H5 => Same H3 H5, fun H5 z => ⟨n1 - (i1 + 1), by omega, rfl, hlt1, z⟩, fun y H5 hy1 => ?_⟩
      obtain ⟨z1, z2⟩ := W1.yields i1 H4 y H5 hlt1 (same_ch s4) hy1
      refine ⟨hw1 x y, ?_⟩
      refine ht i i1 x y H5 hlt hlt1 (((s3.trans e3).trans s4).trans z1) (Is.same ((e3.trans s4).trans z1) _ _ y2) z2 H5 (Same.refl _) _ fun H6 e6 => ?_
      show Same H3 H6
      exact (s4.trans z1).trans e6
    · have e1 : i1 = n1 := by omega
      subst e1
      exact .inl ⟨W1.stops H4 (same_ch s4), fin H4 (Same.refl _)⟩
  · have e1 : i = n := by omega
    subst e1
    exact .inl ⟨W.stops H' (same_ch s2), q Dl [] H' (e2.trans s2) (e2.free hD) hd .nil⟩
def sp_behind_turn : Sp := PF (fun a : HallA × Nat => [.d (hD a.1), .d (.int (a.2 : Int))]) (fun a => Small a.1) (fun a => .d (hD a.1))
theorem e_behind_turn {h : HallA} {x : Nat} (h1 : Ev ta σ H (.d (hD h))) (h2 : Ev tb σ H (.d (.int (x : Int)))) (ok : Small h) : Ev (tCall sp_behind_turn [] C8.E0 (tCons ta (tCons tb tNil))) σ H (.d (hD h)) :=
  ev_call (α := HallA × Nat) (h, x) (ea_cons h1 (ea_cons h2 ea_nil)) ok
theorem nearD_item {h : HallA} {x i : Nat} (hi : i < (nearD h x).length) : ∃ k : Nat, (nearD h x).getD i .none = .int (k : Int) := by
  have hx : (nearD h x)[i]? = some (nearD h x)[i] := List.getElem?_eq_getElem hi
  rw [getD_of hx]
  have hm : (nearD h x)[i] ∈ nearD h x := List.getElem_mem hi
  generalize (nearD h x)[i] = d at hm
  unfold nearD given at hm
  obtain ⟨k, _, hk⟩ := List.mem_map.mp hm
  exact ⟨k, hk.symm⟩
theorem c_behind_turn (T : Tx K mg C) : C8.Cal P w K mg base 3 "behind_turn" sp_behind_turn [] := by
  refine mk_pf T.d_behind_turn sc_behind_turn (fun _ => rfl) (fun f cdv A outer s H vs Q E a hr h ok q => ?_)
  obtain ⟨a, x⟩ := a
  obtain ⟨u1, u2, rfl, h1, h2⟩ := iss2 h
  replace h1 : Dt H u1 (hD a) := h1
  replace h2 : Dt H u2 (.int (x : Int)) := h2
  replace ok : Small a := ok
  have hps : a.2.length ≤ 1 := by
    rcases small_ps ok with e | e <;> rw [e]
    · exact Nat.zero_le _
    · exact Nat.le_refl _
  refine ⟨_, (pss_cons (ps_set (i := 2) sc_behind_turn.nd rfl (Or.inr rfl) (C8.pe_c (c_friends_of T) hr (by decide) (by rfl) (pa_cons (pv 0) (pa_cons (pv 1) pa_nil))))
      (pss_cons (ps_set (i := 3) sc_behind_turn.nd rfl (Or.inr rfl) (pe_lc2 (own := [("one", 5), ("other", 6)]) (vs1 := [6]) rfl sc_behind_turn.nd (k_pi_list K rfl (pv 2)) (blkOk_by (own := [("one", 5), ("other", 6)]) (N := n_behind_turn) (sc := C8.fnScope s_behind_turn) (by decide +kernel)) (by decide) (fun _ _ _ _ _ => (pg_name (i := 5) sc_behind_turn.nd rfl (Or.inl rfl))) (fun _ _ _ _ _ => pts_nil) (fun _ _ _ _ _ => (k_pi_list K rfl (pv 2))) (fun _ _ _ _ _ => (pg_name (i := 6) sc_behind_turn.nd rfl (Or.inl rfl))) (fun _ _ _ _ _ => pts_one (pt_cmpR op_lt (pv 5) (pv 6) (by rfl))) (fun _ _ _ _ _ => (pe_tup (pa_cons (pv 5) (pa_cons (pv 6) pa_nil))))))
      (pss_cons (ps_setLc (own := [("pair", 7)]) (i := 4) rfl sc_behind_turn.nd rfl rfl (sw_true rfl rfl rfl (by decide +kernel)) (k_pi_tup K rfl (pe_ix (k_ix_tup K rfl) (pv 0) pe_int (fun _ _ => rfl))) (blkOk_by (own := [("pair", 7)]) (N := n_behind_turn) (sc := C8.fnScope s_behind_turn) (by decide +kernel)) (fun _ _ _ _ _ => (pg_name (i := 7) sc_behind_turn.nd rfl (Or.inl rfl))) (fun _ _ _ _ _ => pts_one (pt_cmpR (k_op_notInD K rfl (hu65 hr)) (pv 7) (pv 3) (by rfl))) (fun _ _ _ _ _ => (pv 7)))
      (pss_one (ps_ret (pe_tup (pa_cons (pe_ix (k_ix_tup K rfl) (pv 0) pe_int (fun _ _ => rfl)) (pa_cons (pe_callTy (k_tupQ K rfl) (by rfl) T.b_tuple (by decide +kernel) (pa_cons (pe_callB (k_sortedD K rfl hr.units) (by rfl) T.b_sorted (by decide +kernel) (pa_cons (pe_op op_cat (pv 4) (pe_lc (own := [("pair", 7)]) rfl sc_behind_turn.nd (k_pi_list K rfl (pv 3)) (blkOk_by (own := [("pair", 7)]) (N := n_behind_turn) (sc := C8.fnScope s_behind_turn) (by decide +kernel)) (fun _ _ _ _ _ => (pg_name (i := 7) sc_behind_turn.nd rfl (Or.inl rfl))) (fun _ _ _ _ _ => pts_one (pt_cmpR (k_op_notInT K rfl (hu65 hr)) (pv 7) (pe_ix (k_ix_tup K rfl) (pv 0) pe_int (fun _ _ => rfl)) (by rfl))) (fun _ _ _ _ _ => (pv 7)))) pa_nil)) pa_nil)) pa_nil)))))))), ?_⟩
  refine seq ?_
  refine s_asgF (e_friends_of (ev_varD rfl h1) (ev_varD rfl h2) ok.1) (fun p xs H1 e1 p0 p1 p2 => ?_)
  replace p2 : Dts H1 xs (nearD a x) := p2
  dsimp only
  refine seq ?_
  refine s_asgF (ds := []) (ev_lc2_none (n1 := (nearD a x).length) (it1 := fun i => .d ((nearD a x).getD i .none)) (ei_lstV rfl p1 p2 (fun z => nomatch z) (fun _ h => nomatch h)) (fun _ => rfl) (fun y H3 e3 => ei_lstV rfl (e3 _ _ p1) (p2.mono (same_tp e3)) (fun z => nomatch z) (fun _ h => nomatch h)) (fun _ _ => rfl) (fun i i1 y z H3 hi hi1 e3 hy hz => ?_)) (fun l ys H2 e2 l0 l1 l2 => ?_)
  · have ei := small_near ok x i i1 hi hi1
    subst ei
    obtain ⟨k, hk⟩ := nearD_item hi
    have hy' : Dt H3 y ((nearD a x).getD i .none) := hy
    have hz' : Dt H3 z ((nearD a x).getD i .none) := hz
    rw [hk] at hy' hz'
    exact EvT.to (et_test (ev_B0 (ev_varD rfl hy') (ev_varD rfl hz'))) (decide_eq_false (Int.lt_irrefl _))
  have l2' : ys = [] := by cases l2; rfl
  subst l2'
  dsimp only
  refine seq ?_
  have k1 := h1.mono (same_tp (e1.trans e2))
  have hl : (a.2.map pr).length = a.2.length := List.length_map _
  refine s_asgFE (es := a.2.map pr) (ev_lcN (fun _ => true) (fun i => (a.2.map pr).getD i .none) (ei_tup (ev_hp (ev_varD rfl k1)) (fun _ h => nomatch h)) (by omega) (fun _ => rfl) (fun i y H3 hi e3 hy => ?_) (fun i y H3 hi e3 hy _ => ev_varD rfl hy)) (by rw [given_all, range_getD]) (fun m ms H3 e3 m0 m1 m2 => ?_)
  · have hi' : i < a.2.length := by omega
    have hy' : Dt H3 y ((a.2.map pr).getD i .none) := hy
    rw [getD_pr hi'] at hy'
    exact EvT.to (et_test (ev_notInL (ds := []) (ev_varD rfl hy') (ev_var rfl (is_t.mpr ⟨l, [], rfl, e3 _ _ l1, .nil⟩)) (shaped_pr _) rfl)) rfl
  dsimp only
  have k3 := k1.mono (same_tp e3)
  have hsort : (a.2.map pr ++ []).mergeSort (PySem.W.dataLe false id) = a.2.map pr := by
    rw [List.append_nil]
    match a.2, hps with
    | [], _ => simp
    | [p], _ => simp
  refine s_retE (ev_tup (ds := [.int (a.1 : Int), .tuple (a.2.map pr)]) (ea_consD (ev_hn (ev_varD rfl k3)) (ea_consD (ev_tupL (EvF.ev (EvF.to (ev_sorted (ds := a.2.map pr ++ []) (EvF.ev (ev_cat (ev_var rfl (is_t.mpr ⟨m, ms, rfl, m1, m2⟩)) (EvF.ev (EvF.to (ev_lcN (fun _ => true) (fun _ => .int 0) (ei_lstV (ds := []) rfl (e3 _ _ l1) .nil (fun z => nomatch z) (fun _ h => nomatch h)) (Nat.zero_le _) (fun _ => rfl) (fun i y H3 hi e3 hy => absurd hi (Nat.not_lt_zero _)) (fun i y H3 hi e3 hy _ => absurd hi (Nat.not_lt_zero _))) (by rfl))) (by rw [hl]; show _ + 0 ≤ _; omega))) ?_ ?_ ?_) hsort))) ea_nilD)) (by show 2 ≤ 100000; omega)) rfl (fun u H4 e4 hu => q u H4 (((e1.trans e2).trans e3).trans e4) hu)
  · rw [List.append_nil]; exact alike_prs _
  · rw [List.append_nil]; exact sortable_prs _
  · rw [List.append_nil]; exact deep_prs _
def sp_sum_of : Sp := PF (fun a : Look × Look => [.d (.str (txt [a.1])), .d (.str (txt [a.2]))]) (fun _ => True) (fun a => .d (.str (txt [addL a.1 a.2])))
theorem e_sum_of {a b : Look} (h : Ev ta σ H (.d (.str (txt [a])))) (h2 : Ev tb σ H (.d (.str (txt [b])))) : Ev (tCall sp_sum_of [] C8.E0 (tCons ta (tCons tb tNil))) σ H (.d (.str (txt [addL a b]))) := ev_call (α := Look × Look) (a, b) (ea_cons h (ea_cons h2 ea_nil)) trivial
theorem ev_looks : Ev (tC (.str (Str.ofString "XYZ"))) σ H (.d (.str (txt [(true, false), (true, true), (false, true)]))) := ev_litT lit_XYZ
theorem c_sum_of (T : Tx K mg C) : C8.Cal P w K mg base 1 "sum_of" sp_sum_of [] := by
  refine mk_pf T.d_sum_of sc_sum_of (fun _ => rfl) (fun f cdv A outer s H vs Q E a hr h ok q => ?_)
  obtain ⟨a, b⟩ := a
  obtain ⟨u1, u2, rfl, h1, h2⟩ := iss2 h
  have eu1 : u1 = .str (txt [a]) := Dt.strE h1
  have eu2 : u2 = .str (txt [b]) := Dt.strE h2
  subst eu1 eu2
  replace q : ∀ (u : V) (H2 : Hp), Same H H2 → Is H2 (Ds.d (PyData.str (txt [addL a b]))) u → Q u H2 := q
  refine ⟨_, (pss_cons (ps_if (pt_cmpR op_eq (pv 0) pe_str (by rfl))
      (pss_one (ps_ret (pv 1)))
      pss_nil)
      (pss_cons (ps_if (pt_cmpR op_eq (pv 1) pe_str (by rfl))
      (pss_one (ps_ret (pv 0)))
      pss_nil)
      (pss_cons (ps_if (pt_cmpR op_eq (pv 0) (pv 1) (by rfl))
      (pss_one (ps_ret pe_str))
      pss_nil)
      (pss_one (ps_ret (pe_ix (k_ix_list K rfl) (pe_lc (own := [("look", 2)]) rfl sc_sum_of.nd (pi_str (C8.pe_gc (by rfl) T.c_LOOKS)) (blkOk_by (own := [("look", 2)]) (N := n_sum_of) (sc := C8.fnScope s_sum_of) (by decide +kernel)) (fun _ _ _ _ _ => (pg_name (i := 2) sc_sum_of.nd rfl (Or.inl rfl))) (fun _ _ _ _ _ => pts_one (pt_cmpR (k_op_notIn_seq K rfl) (pv 2) (pe_tup (pa_cons (pv 0) (pa_cons (pv 1) pa_nil))) (by rfl))) (fun _ _ _ _ _ => (pv 2))) pe_int (fun _ _ => rfl))))))), ?_⟩
  refine seq ?_
  refine s_when (et_test (ev_eqT (ev_varD rfl (.str _)) (ev_litT lit_dot))) (fun hb H1 e1 => ?_) (fun hb H1 e1 => ?_)
  · have : a = dot := by simpa using hb
    subst this
    refine s_retE (s' := .d (.str (txt [addL dot b]))) (ev_varD rfl (.str _)) ?_ (fun u H2 e2 hu => q u H2 (e1.trans e2) hu)
    unfold addL
    simp
  have ha : a ≠ dot := by simpa using hb
  dsimp only
  refine seq ?_
  refine s_when (et_test (ev_eqT (ev_varD rfl (.str _)) (ev_litT lit_dot))) (fun hb H2 e2 => ?_) (fun hb H2 e2 => ?_)
  · have : b = dot := by simpa using hb
    subst this
    refine s_retE (s' := .d (.str (txt [addL a dot]))) (ev_varD rfl (.str _)) ?_ (fun u H3 e3 hu => q u H3 ((e1.trans e2).trans e3) hu)
    unfold addL
    simp
  have hb0 : b ≠ dot := by simpa using hb
  dsimp only
  refine seq ?_
  refine s_when (et_test (ev_eqT (ev_varD rfl (.str _)) (ev_varD rfl (.str _)))) (fun hb H3 e3 => ?_) (fun hb H3 e3 => ?_)
  · have : a = b := by simpa using hb
    subst this
    refine s_retE (s' := .d (.str (txt [addL a a]))) (ev_litT lit_dot) ?_ (fun u H4 e4 hu => q u H4 (((e1.trans e2).trans e3).trans e4) hu)
    unfold addL
    simp
  have hab : a ≠ b := by simpa using hb
  dsimp only
  refine s_ret (s := .d (.str (txt [addL a b]))) (ev_ixL (i := 0) (ds := given 3 (fun i => !decide (([(true, false), (true, true), (false, true)] : List Look).getD i dot = a) && !decide (([(true, false), (true, true), (false, true)] : List Look).getD i dot = b)) (fun i => .str (txt [([(true, false), (true, true), (false, true)] : List Look).getD i dot]))) (EvF.ev (ev_lcN _ _ (ei_str ev_looks) (by decide) (fun _ => rfl) (fun i x H5 hi e5 hx => ?_) (fun i x H5 hi e5 hx _ => ?_))) ev_int ?_) (fun u H4 e4 hu => q u H4 (((e1.trans e2).trans e3).trans e4) hu)
  · have hi3 : i < 3 := hi
    have hx' : Dt H5 x (sgn (txt [(true, false), (true, true), (false, true)]) i) := hx
    rw [sgn_txt hi3] at hx'
    refine EvT.to (et_test (ev_notInF (ds := [.str (txt [a]), .str (txt [b])]) (ev_varD rfl hx') (ev_tup (ea_consD (ev_varD rfl (.str _)) (ea_consD (ev_varD rfl (.str _)) ea_nilD)) (by show 2 ≤ 100000; omega)) rfl rfl)) ?_
    generalize ([(true, false), (true, true), (false, true)] : List Look).getD i dot = l
    show (!(decide (txt [a] = txt [l]) || (decide (txt [b] = txt [l]) || false))) = _
    rw [Bool.or_false, txt1, txt1, Bool.not_or]
    have e1 : decide (a = l) = decide (l = a) := decide_eq_decide.mpr eq_comm
    have e2 : decide (b = l) = decide (l = b) := decide_eq_decide.mpr eq_comm
    rw [e1, e2]
  · have hi3 : i < 3 := hi
    have hx' : Dt H5 x (sgn (txt [(true, false), (true, true), (false, true)]) i) := hx
    rw [sgn_txt hi3] at hx'
    exact ev_varD rfl hx'
  · have hs := sum_else a b hab ha hb0
    unfold given
    rw [List.getElem?_map]
    revert hs
    generalize ((List.range 3).filter _)[0]? = o
    intro hs
    cases o with
    | none => cases hs
    | some i =>
      have hs' : ([(true, false), (true, true), (false, true)] : List Look).getD i dot = addL a b := Option.some.inj hs
      show some (PyData.str (txt [_])) = _
      rw [hs']
end
end TF
/-! P18 -/
namespace TF
open PySem PySem.Spec PyProof.Rows L2

def chD (c : List Look) : List PyData := c.map fun l => .str (txt [l])
def friendsN (h : HallA) (x : Nat) : List Nat := (List.range h.1).filter (adj h.2 x)
def setB (c b : List Look) (y : Nat) : List Look := b.set y (addL (b.getD y dot) (c.getD y dot))
def thirdB (h : HallA) (c b : List Look) (x : Nat) : List Look := (friendsN h x).foldl (setB c) b
def thirdC (h : HallA) (c b : List Look) (x : Nat) : List Look := setB (thirdB h c b x) c x
theorem setB_len (c b : List Look) (y : Nat) : (setB c b y).length = b.length := List.length_set
theorem foldB_len (c : List Look) (ks : List Nat) (b : List Look) : (ks.foldl (setB c) b).length = b.length := by
  induction ks generalizing b with
  | nil => rfl
  | cons k ks ih => rw [List.foldl_cons, ih, setB_len]
theorem chD_len (c : List Look) : (chD c).length = c.length := List.length_map _
theorem chD_get {c : List Look} {i : Nat} (h : i < c.length) : (chD c)[i]? = some (.str (txt [c.getD i dot])) := by
  unfold chD
  rw [List.getElem?_map, List.getElem?_eq_getElem h, List.getD_eq_getElem?_getD, List.getElem?_eq_getElem h]
  rfl
theorem Dts.set : ∀ {H : Hp} {vs : List V} {ds : List PyData} (i : Nat) {v : V} {d : PyData}, Dts H vs ds → Dt H v d → Dts H (vs.set i v) (ds.set i d)
  | _, _, _, _, _, _, .nil, _ => .nil
  | _, _, _, 0, _, _, .cons _ t, h => .cons h t
  | _, _, _, i + 1, _, _, .cons h0 t, h => .cons h0 (Dts.set i t h)
theorem signs_txt (c : List Look) : signsV (txt c) = c.map fun l => V.str (txt [l]) := by
  unfold signsV txt
  show (((c.map chr).toArray.toList).map fun c => V.str ⟨#[c]⟩) = _
  rw [List.map_map]
  rfl
theorem Dts_ch (H : Hp) : ∀ c : List Look, Dts H (c.map fun l => V.str (txt [l])) (chD c)
  | [] => .nil
  | l :: c => .cons (.str _) (Dts_ch H c)
theorem chD_strs (c : List Look) : chD c = (c.map fun l => txt [l]).map .str := by
  unfold chD
  rw [List.map_map]
  rfl
theorem glued_txt (c : List Look) (a : Array Nat) : (c.map fun l => txt [l]).foldl (fun acc p => acc ++ (txt []).cps ++ p.cps) a = a ++ (c.map chr).toArray := by
  induction c generalizing a with
  | nil => show a = a ++ #[]; simp
  | cons l c ih =>
    rw [List.map_cons, List.foldl_cons, ih]
    show a ++ #[] ++ #[chr l] ++ _ = _
    rw [List.map_cons]
    simp
theorem join_txt (c : List Look) : Txt.join (txt []) (c.map fun l => txt [l]) = txt c := by
  show PySem.Builtin.Str.glued (txt []) _ = _
  unfold PySem.Builtin.Str.glued
  cases c with
  | nil => rfl
  | cons l c =>
    rw [List.map_cons]
    show (⟨(c.map fun l => txt [l]).foldl (fun acc p => acc ++ (txt []).cps ++ p.cps) (txt [l]).cps⟩ : Str) = _
    rw [glued_txt]
    show (⟨#[chr l] ++ (c.map chr).toArray⟩ : Str) = ⟨((l :: c).map chr).toArray⟩
    rw [List.map_cons]
    simp
theorem mul_txt (l : Look) (n : Nat) (h1 : 1 ≤ n) (h2 : n ≤ 2) : Txt.mul (txt [l]) (n : Int) = txt (List.replicate n l) := by
  rcases (show n = 1 ∨ n = 2 by omega) with e | e
  · subst e; rfl
  · subst e
    unfold Txt.mul
    rw [if_neg (by decide), if_neg (by rw [txt_len]; show ¬ ((2 : Int) == 1 || 1 == 0) = true; decide)]
    show (⟨(List.replicate 2 (txt [l]).cps).foldl (· ++ ·) #[]⟩ : Str) = ⟨([l, l].map chr).toArray⟩
    show (⟨#[] ++ #[chr l] ++ #[chr l]⟩ : Str) = ⟨#[chr l, chr l]⟩
    simp
section
variable {P : Program} {w : World} {K : PySem.W.Frag} {mg : Str → Option Value} {base : Heap} {C : Addr} {σ : L2.St} {H H' : Hp} {ta tb tc td te ty : TE} {S r : Addr} {D : Ends} {g : TG}
def stF (c b : List Look) (hv : V) : List (Str × V) := [("choice", .str (txt c)), ("bases", .str (txt b)), ("hall", hv)]
def Sts (C : Addr) (c b : List Look) (h : HallA) (H : Hp) (u : V) : Prop := ∃ p dx hv, u = .ref p ∧ H p = some (.ins C dx (stF c b hv)) ∧ Dt H hv (hD h)
theorem Sts.same {c b : List Look} {h : HallA} {u : V} (s : Sts C c b h H u) (e : Same H H') : Sts C c b h H' u := by
  obtain ⟨p, dx, hv, h1, h2, h3⟩ := s
  exact ⟨p, dx, hv, h1, e _ _ h2, h3.mono (same_tp e)⟩
def sp_init (C : Addr) : Sp := fun vs H Q _ => ∃ p dx c b hv, vs = [.ref p, .str c, .str b, hv] ∧ H p = some (.ins C dx []) ∧ Q .non (upd H p (.ins C dx [("choice", .str c), ("bases", .str b), ("hall", hv)]))
theorem mak_Step (T : Tx K mg C) : C8.Mak P w K mg base 1 "Step" C (sp_init C) [] := by
  obtain ⟨f, fd, M, F, b⟩ := T.i_mk
  refine C8.mak0 M T.mgC F b .nil sc_init (fun vs H Q E ⟨_, _, _, _, _, e, _⟩ => by rw [e]; rfl) (fun cdv A outer s H vs Q E hr h => ?_)
  obtain ⟨p, dx, c, b, hv, rfl, h1, q⟩ := h
  refine ⟨_, (pss_cons (k_ps_fld K rfl (pv 0) (pv 1) (by rfl))
      (pss_cons (k_ps_fld K rfl (pv 0) (pv 2) (by rfl))
      (pss_one (k_ps_fld K rfl (pv 0) (pv 3) (by rfl))))), ?_⟩
  refine seq ?_
  refine ⟨_, rfl, ?_⟩
  refine ⟨_, rfl, p, C, dx, _, rfl, h1, T.cl, T.na_choice, by decide, ?_⟩
  refine seq ?_
  refine ⟨_, rfl, ?_⟩
  refine ⟨_, rfl, p, C, dx, _, rfl, upd_same, T.cl, T.na_bases, by show 1 < 1000; omega, ?_⟩
  refine ⟨_, rfl, ?_⟩
  refine ⟨_, rfl, p, C, dx, _, rfl, upd_same, T.cl, T.na_hall, by show 2 < 1000; omega, ?_⟩
  show Q .non _
  rw [upd_upd, upd_upd]
  exact q
theorem ev_make {c b : List Look} {h : HallA} (h1 : Ev ta σ H (.d (.str (txt c)))) (h2 : Ev tb σ H (.d (.str (txt b)))) (h3 : Ev tc σ H (.d (hD h))) : EvP (tMake C (sp_init C) [] C8.E0 (tCons ta (tCons tb (tCons tc tNil)))) σ H (Sts C c b h) := fun H1 e Q q =>
  ea_cons h1 (ea_cons h2 (ea_cons h3 ea_nil)) H1 e _ fun us H2 e2 hus x dx hx hdx hne => by
    obtain ⟨v1, v2, v3, rfl, k1, k2, k3⟩ := iss3 hus
    rw [(is_d.mp k1).strE, (is_d.mp k2).strE]
    have s1 : Same H2 (upd H2 dx (.own x)) := same_new hdx
    have hx1 : (upd H2 dx (.own x)) x = none := by rw [upd_ne (fun z => hne z.symm)]; exact hx
    have s2 : Same (upd H2 dx (.own x)) (upd (upd H2 dx (.own x)) x (.ins C dx [])) := same_new hx1
    refine ⟨x, dx, txt c, txt b, v3, rfl, upd_same, rfl, ?_⟩
    have s3 : Same H2 (upd (upd (upd H2 dx (.own x)) x (.ins C dx [])) x (.ins C dx [("choice", .str (txt c)), ("bases", .str (txt b)), ("hall", v3)])) := same_mut (s1.trans s2) hx
    exact q (.ref x) _ (e2.trans s3) ⟨x, dx, v3, rfl, upd_same, (is_d.mp k3).mono (same_tp s3)⟩
theorem ev_fldC (T : Tx K mg C) {c b : List Look} {h : HallA} (he : EvP te σ H (Sts C c b h)) : Ev (tFld K te "choice") σ H (.d (.str (txt c))) := fun H1 e Q q => he H1 e _ fun u H2 e2 ⟨p, dx, hv, h1, h2, h3⟩ => ⟨p, C, dx, _, _, h1, h2, T.cl, T.na_choice, rfl, q _ H2 e2 (is_d.mpr (.str _))⟩
theorem ev_fldB (T : Tx K mg C) {c b : List Look} {h : HallA} (he : EvP te σ H (Sts C c b h)) : Ev (tFld K te "bases") σ H (.d (.str (txt b))) := fun H1 e Q q => he H1 e _ fun u H2 e2 ⟨p, dx, hv, h1, h2, h3⟩ => ⟨p, C, dx, _, _, h1, h2, T.cl, T.na_bases, rfl, q _ H2 e2 (is_d.mpr (.str _))⟩
theorem ev_fldH (T : Tx K mg C) {c b : List Look} {h : HallA} (he : EvP te σ H (Sts C c b h)) : Ev (tFld K te "hall") σ H (.d (hD h)) := fun H1 e Q q => he H1 e _ fun u H2 e2 ⟨p, dx, hv, h1, h2, h3⟩ => ⟨p, C, dx, _, _, h1, h2, T.cl, T.na_hall, rfl, q _ H2 e2 (is_d.mpr h3)⟩
theorem evp_var {i : Nat} {u : V} {R : Hp → V → Prop} (h : σ[i]? = some (some u)) (k : R H u) (st : ∀ H H' u, Same H H' → R H u → R H' u) : EvP (tVar i) σ H R := fun H1 e _ q => ⟨u, h, q u H1 (Same.refl H1) (st _ _ _ e k)⟩
theorem sts_st {c b : List Look} {h : HallA} : ∀ H H' u, Same H H' → Sts C c b h H u → Sts C c b h H' u := fun H H' u e s => s.same e
theorem ev_listStr {c : List Look} (h : Ev ta σ H (.d (.str (txt c)))) (hl : c.length ≤ 1000) : EvF (tCB rListStr (tCons ta tNil)) σ H (chD c) := fun H1 e Q q =>
  h H1 e _ fun u H2 e2 hu => ⟨txt c, by rw [(is_d.mp hu).strE], by rw [txt_size]; exact hl, fun p hp => q p _ _ (e2.trans (same_new hp)) (e2.free hp) upd_same (by rw [signs_txt]; exact Dts_ch _ c)⟩
theorem ev_joinT {c : List Look} (ha : Ev ta σ H (.d (.str (txt [])))) (hb : Ev tb σ H (.t (chD c))) (hl : c.length ≤ 1000) : Ev (tM1 (rJoin K) ta tb) σ H (.d (.str (txt c))) := by
  rw [chD_strs] at hb
  refine Ev.to (ev_join ha hb ?_) (by rw [join_txt])
  have : ((c.map fun l => txt [l]).map (·.length)).sum = c.length := by
    rw [List.map_map]
    clear hb hl
    induction c with
    | nil => rfl
    | cons l c ih =>
      rw [List.map_cons, List.sum_cons, ih, List.length_cons]
      show (txt [l]).length + _ = _
      rw [txt_len]
      show 1 + _ = _
      omega
  rw [this, txt_len, List.length_map]
  show c.length + c.length * 0 ≤ _
  omega
def sp_third (C : Addr) : Sp := fun vs H Q _ => ∃ h c b, ∃ x : Nat, ∃ u, vs = [u, .int (x : Int)] ∧ Sts C c b h H u ∧ Small h ∧ c.length = h.1 ∧ b.length = h.1 ∧ x < h.1 ∧ ∀ u' H2, Same H H2 → Sts C (thirdC h c b x) (thirdB h c b x) h H2 u' → Q u' H2
theorem met_third (T : Tx K mg C) : C8.Met P w K mg base 4 C "third" (sp_third C) [] := by
  obtain ⟨f, fd, M, F, bd⟩ := T.i_third
  refine C8.met0 T.cl M F bd sc_third (fun vs H Q E ⟨_, _, _, _, _, e, _⟩ => by rw [e]; rfl) (fun cdv A outer s H vs Q E hr h => ?_)
  obtain ⟨h, c, b, x, u, rfl, hS, ok, hc, hb, hx, q⟩ := h
  have hn := ok.2
  refine ⟨_, (pss_cons (ps_par (i := 2) (j := 3) (by rfl) sc_third.nd rfl rfl (by decide) rfl rfl (pa_cons (pe_callTy (call_listStr rfl) (by rfl) T.b_list (by decide +kernel) (pa_cons (k_fld K rfl (pv 0) (by rfl)) pa_nil)) (pa_cons (pe_callTy (call_listStr rfl) (by rfl) T.b_list (by decide +kernel) (pa_cons (k_fld K rfl (pv 0) (by rfl)) pa_nil)) pa_nil)) (by rfl))
      (pss_cons (ps_for PassesOwn.never rfl (k_pi_list K rfl (C8.pe_c (c_friends_of T) hr (by decide) (by rfl) (pa_cons (k_fld K rfl (pv 0) (by rfl)) (pa_cons (pv 1) pa_nil)))) (pg_name (i := 4) sc_third.nd rfl (Or.inl rfl))
      (pss_one (ps_asg (C8.pe_c (c_sum_of T) hr (by decide) (by rfl) (pa_cons (pe_ix (k_ix_list K rfl) (pv 3) (pv 4) (fun _ _ => rfl)) (pa_cons (pe_ix (k_ix_list K rfl) (pv 2) (pv 4) (fun _ _ => rfl)) pa_nil))) (pg_sub (pv 3) (pv 4) set_list))))
      (pss_cons (ps_asg (C8.pe_c (c_sum_of T) hr (by decide) (by rfl) (pa_cons (pe_ix (k_ix_list K rfl) (pv 2) (pv 1) (fun _ _ => rfl)) (pa_cons (pe_ix (k_ix_list K rfl) (pv 3) (pv 1) (fun _ _ => rfl)) pa_nil))) (pg_sub (pv 2) (pv 1) set_list))
      (pss_one (ps_ret (C8.pe_mk (mak_Step T) hr (by decide) (by rfl) (pa_cons (k_joinQ K rfl pe_str (pv 2)) (pa_cons (k_joinQ K rfl pe_str (pv 3)) (pa_cons (C8.pe_c (c_behind_turn T) hr (by decide) (by rfl) (pa_cons (k_fld K rfl (pv 0) (by rfl)) (pa_cons (pv 1) pa_nil))) pa_nil))))))))), ?_⟩
  refine seq ?_
  refine s_parFF (ev_listStr (ev_fldC T (evp_var rfl hS sts_st)) (by omega)) (ev_listStr (ev_fldB T (evp_var rfl hS sts_st)) (by omega)) (fun l xs m ys H1 e1 l0 m0 hlm l1 l2 m1 m2 => ?_)
  dsimp only
  refine seq ?_
  have hS1 := hS.same e1
  refine s_for (ms := [m]) (ei_lstF (e_friends_of (ev_fldH T (evp_var rfl hS1 sts_st)) (ev_varD rfl (.int _)) ok.1) (ms_one m1)) (fun Hs es => ?_)
  have hlen : (given h.1 (fun y => adj h.2 x y) (fun y => PyData.int (y : Nat))).length = (friendsN h x).length := List.length_map _
  have ms := es _ _ m1
  refine ⟨fun i σ' H' => ∃ j4, σ' = [some u, some (.int (x : Int)), some (.ref l), some (.ref m), j4] ∧ Ch [m] Hs H' ∧ ∃ acc, H' m = some (.lst acc) ∧ Dts H' acc (chD (((friendsN h x).take i).foldl (setB c) b)), ?_, ?_, ?_, ?_⟩
  · exact ⟨_, rfl, Ch.refl _ _, ys, ms, m2.mono (same_tp es)⟩
  · rintro i σ' H' ⟨j4, rfl, c, _⟩
    exact c
  · rintro i z σ' H0 H' hi ⟨j4, rfl, c', acc, g1, g2⟩ e hz
    have hi' : i < (friendsN h x).length := by rw [hlen] at hi; exact hi
    have hz' : Dt H' z ((natsD (friendsN h x)).getD i .none) := hz
    rw [natsD_get hi'] at hz'
    have ez := hz'.intE
    subst ez
    have hy : (friendsN h x)[i] < h.1 := List.mem_range.mp (List.mem_filter.mp (List.getElem_mem hi')).1
    have ln : l ∉ [m] := by simpa using hlm
    have l1' := e _ _ (c' l _ ln (es _ _ l1))
    have l2' := l2.mono ((same_tp es).trans ((c'.tp1 ms).trans (same_tp e)))
    have g1' := e _ _ g1
    have g2' := g2.mono (same_tp e)
    have hbl : (((friendsN h x).take i).foldl (setB c) b).length = h.1 := by rw [foldB_len]; exact hb
    have hal : acc.length = h.1 := by rw [g2'.length, chD_len]; exact hbl
    refine s_setL (j := (friendsN h x)[i]) g1' (e_sum_of (ev_ixL (i := (friendsN h x)[i]) (ev_var rfl (is_t.mpr ⟨m, acc, rfl, g1', g2'⟩)) (ev_varD rfl (.int _)) (chD_get (by rw [hbl]; exact hy))) (ev_ixL (i := (friendsN h x)[i]) (ev_var rfl (is_t.mpr ⟨l, xs, rfl, l1', l2'⟩)) (ev_varD rfl (.int _)) (chD_get (by rw [hc]; exact hy)))) (ev_varV rfl) (ev_varD rfl (.int _)) (by rw [hal]; exact hy) (fun u2 H3 e3 hu => ?_)
    have hp4 := e3 _ _ g1'
    refine ⟨_, rfl, ((c'.then e).then e3).upd (List.mem_singleton.mpr rfl), _, upd_same, ?_⟩
    have tp4 : Tp H3 (upd H3 m (.lst (acc.set (friendsN h x)[i] u2))) := Tp.mut hp4 fun _ z => nomatch z
    rw [take_foldl _ _ _ _ hi']
    have ech : ∀ (b' : List Look) (y : Nat), chD (setB c b' y) = (chD b').set y (.str (txt [addL (b'.getD y dot) (c.getD y dot)])) := fun b' y => by
      unfold chD setB
      rw [List.map_set]
    rw [ech]
    exact ((g2'.mono (same_tp e3)).set _ hu).mono tp4
  · rintro σ' H' ⟨j4, rfl, c', acc, g1, g2⟩
    dsimp only
    rw [hlen, List.take_length] at g2
    replace g2 : Dts H' acc (chD (thirdB h c b x)) := g2
    have ln : l ∉ [m] := by simpa using hlm
    have l1' := c' l _ ln (es _ _ l1)
    have l2' := l2.mono ((same_tp es).trans (c'.tp1 ms))
    have cb : Same H H' := c'.back (e1.trans es) (fun k hk => by rw [List.mem_singleton] at hk; subst hk; exact m0)
    have hS' := hS.same cb
    have hxl : xs.length = h.1 := by rw [l2.length, chD_len]; exact hc
    have hbl : (thirdB h c b x).length = h.1 := by unfold thirdB; rw [foldB_len]; exact hb
    refine seq ?_
    refine s_setL (j := x) l1' (e_sum_of (ev_ixL (i := x) (ev_var rfl (is_t.mpr ⟨l, xs, rfl, l1', l2'⟩)) (ev_varD rfl (.int _)) (chD_get (by rw [hc]; exact hx))) (ev_ixL (i := x) (ev_var rfl (is_t.mpr ⟨m, acc, rfl, g1, g2⟩)) (ev_varD rfl (.int _)) (chD_get (by rw [hbl]; exact hx)))) (ev_varV rfl) (ev_varD rfl (.int _)) (by rw [hxl]; exact hx) (fun u2 H3 e3 hu => ?_)
    have tp4 : Tp H3 (upd H3 l (.lst (xs.set x u2))) := Tp.mut (e3 _ _ l1') fun _ z => nomatch z
    have s4 : Same H (upd H3 l (.lst (xs.set x u2))) := same_mut (cb.trans e3) l0
    have k2 : Dts (upd H3 l (.lst (xs.set x u2))) (xs.set x u2) (chD (thirdC h c b x)) := by
      have ech : chD (thirdC h c b x) = (chD c).set x (.str (txt [addL (c.getD x dot) ((thirdB h c b x).getD x dot)])) := by
        unfold chD thirdC setB
        rw [List.map_set]
      rw [ech]
      exact ((l2'.mono (same_tp e3)).set _ hu).mono tp4
    have g1' : (upd H3 l (.lst (xs.set x u2))) m = some (.lst acc) := by
      rw [upd_ne (fun z => hlm z.symm)]
      exact e3 _ _ g1
    have g2' := (g2.mono (same_tp e3)).mono tp4
    dsimp only
    have hcl : (thirdC h c b x).length = h.1 := by unfold thirdC; rw [setB_len]; exact hc
    refine ev_make (c := thirdC h c b x) (b := thirdB h c b x) (h := h) (ev_joinT (ev_litT lit_nil) (ev_var rfl (is_t.mpr ⟨l, _, rfl, upd_same, k2⟩)) (by omega)) (ev_joinT (ev_litT lit_nil) (ev_var rfl (is_t.mpr ⟨m, acc, rfl, g1', g2'⟩)) (by omega)) (e_behind_turn (ev_fldH T (evp_var rfl (hS.same s4) sts_st)) (ev_varD rfl (.int _)) ok) _ (Same.refl _) _ (fun u' H5 e5 hu' => q u' H5 (s4.trans e5) hu')
def firstC (h : HallA) : List Look := List.replicate h.1 (false, true)
def firstB (h : HallA) : List Look := List.replicate h.1 (true, false)
def sp_first_step (C : Addr) : Sp := fun vs H Q _ => ∃ h u, vs = [u] ∧ Dt H u (hD h) ∧ Small h ∧ ∀ u' H2, Same H H2 → Sts C (firstC h) (firstB h) h H2 u' → Q u' H2
theorem c_first_step (T : Tx K mg C) : C8.Cal P w K mg base 3 "first_step" (sp_first_step C) [] := by
  refine mk_sp T.d_first_step sc_first_step (fun vs H Q E ⟨_, _, e, _⟩ => by rw [e]; rfl) (fun f cdv A outer s H vs Q E hr h => ?_)
  obtain ⟨h, u, rfl, h1, ok, q⟩ := h
  refine ⟨_, (pss_one (ps_ret (C8.pe_mk (mak_Step T) hr (by decide) (by rfl) (pa_cons (pe_op op_mulS pe_str (pe_ix (k_ix_tup K rfl) (pv 0) pe_int (fun _ _ => rfl))) (pa_cons (pe_op op_mulS pe_str (pe_ix (k_ix_tup K rfl) (pv 0) pe_int (fun _ _ => rfl))) (pa_cons (pv 0) pa_nil)))))), ?_⟩
  have ok1 : 1 ≤ h.1 := ok.1.1
  have hn := ok.2
  refine ev_make (c := firstC h) (b := firstB h) (h := h) (Ev.to (ev_mulS (ev_litT lit_Z) (ev_hn (ev_varD rfl h1)) (by rw [txt_len]; show 1 ≤ 1000; omega) (by omega) (by omega)) (by rw [mul_txt _ _ ok1 hn]; rfl)) (Ev.to (ev_mulS (ev_litT lit_X) (ev_hn (ev_varD rfl h1)) (by rw [txt_len]; show 1 ≤ 1000; omega) (by omega) (by omega)) (by rw [mul_txt _ _ ok1 hn]; rfl)) (ev_varD rfl h1) H (Same.refl _) _ (fun u' H5 e5 hu' => q u' H5 e5 hu')
theorem e_first_step {h : HallA} (h1 : Ev ta σ H (.d (hD h))) (ok : Small h) : EvP (tCall (sp_first_step C) [] C8.E0 (tCons ta tNil)) σ H (Sts C (firstC h) (firstB h) h) := fun H1 e Q q =>
  ea_cons h1 ea_nil H1 e _ fun us H2 e2 hus => by
    obtain ⟨u1, rfl, k1⟩ := iss1 hus
    exact ⟨h, u1, rfl, is_d.mp k1, ok, fun u' H3 e3 hu => q u' H3 (e2.trans e3) hu⟩
end
end TF
/-! P19 -/
namespace TF
open PySem PySem.Spec PyProof.Rows L2

inductive Each2 {α β : Type} (R : α → β → Prop) : List α → List β → Prop
  | nil : Each2 R [] []
  | cons {a : α} {b : β} {as : List α} {bs : List β} : R a b → Each2 R as bs → Each2 R (a :: as) (b :: bs)
theorem Each2.length {α β : Type} {R : α → β → Prop} : ∀ {as : List α} {bs : List β}, Each2 R as bs → as.length = bs.length
  | _, _, .nil => rfl
  | _, _, .cons _ t => by rw [List.length_cons, List.length_cons, Each2.length t]
theorem Each2.mono {α β : Type} {R R' : α → β → Prop} (h : ∀ a b, R a b → R' a b) : ∀ {as : List α} {bs : List β}, Each2 R as bs → Each2 R' as bs
  | _, _, .nil => .nil
  | _, _, .cons a t => .cons (h _ _ a) (Each2.mono h t)
theorem Each2.snoc {α β : Type} {R : α → β → Prop} {a : α} {b : β} (h : R a b) : ∀ {as : List α} {bs : List β}, Each2 R as bs → Each2 R (as ++ [a]) (bs ++ [b])
  | _, _, .nil => .cons h .nil
  | _, _, .cons c t => .cons c (Each2.snoc h t)
theorem Each2.get {α β : Type} {R : α → β → Prop} : ∀ {as : List α} {bs : List β} {i : Nat} {a : α}, Each2 R as bs → as[i]? = some a → ∃ b, bs[i]? = some b ∧ R a b
  | _, _, _, _, .nil, e => by simp at e
  | _, _, 0, _, .cons h _, e => ⟨_, rfl, (Option.some.inj e) ▸ h⟩
  | _, _, i + 1, _, .cons _ t, e => Each2.get (i := i) t e
theorem Each2.back {α β : Type} {R : α → β → Prop} {as : List α} {bs : List β} {b : β} (h : Each2 R as (bs ++ [b])) : ∃ as' a, as = as' ++ [a] ∧ Each2 R as' bs ∧ R a b := by
  induction bs generalizing as with
  | nil =>
    cases h with
    | cons h t =>
      cases t
      exact ⟨[], _, rfl, .nil, h⟩
  | cons b0 bs ih =>
    cases h with
    | cons h t =>
      obtain ⟨as', a, rfl, h1, h2⟩ := ih t
      exact ⟨_ :: as', a, rfl, .cons h h1, h2⟩
theorem txt_inj {a b : List Look} (h : txt a = txt b) : a = b := by
  unfold txt at h
  injection h with h
  injection h with h
  induction a generalizing b with
  | nil =>
    cases b with
    | nil => rfl
    | cons y b => rw [List.map_nil, List.map_cons] at h; cases h
  | cons x a ih =>
    cases b with
    | nil => rw [List.map_nil, List.map_cons] at h; cases h
    | cons y b =>
      rw [List.map_cons, List.map_cons] at h
      injection h with h1 h2
      rw [chr_inj _ _ h1, ih h2]
abbrev CB := List Look × List Look
def thirdS (h : HallA) (s : CB) (x : Nat) : CB := (thirdC h s.1 s.2 x, thirdB h s.1 s.2 x)
def passX (h : HallA) (s : CB) (FL : List CB × List CB) (x : Nat) : List CB × List CB :=
  if FL.1.any (fun t => decide (t.1 = (thirdS h s x).1)) = true then FL else (FL.1 ++ [thirdS h s x], FL.2 ++ [thirdS h s x])
def passN (h : HallA) (s : CB) (FL : List CB × List CB) (n : Nat) : List CB × List CB := (List.range n).foldl (passX h s) FL
def runS (h : HallA) : Nat → List CB → List CB → Option (List CB)
  | _, F, [] => some F
  | 0, _, _ :: _ => none
  | m + 1, F, a :: L => runS h m (passN h ((a :: L).getLast (by simp)) (F, (a :: L).dropLast) h.1).1 (passN h ((a :: L).getLast (by simp)) (F, (a :: L).dropLast) h.1).2
theorem passN_succ (h : HallA) (s : CB) (FL : List CB × List CB) (n : Nat) : passN h s FL (n + 1) = passX h s (passN h s FL n) n := by
  unfold passN
  rw [List.range_succ, List.foldl_append]
  rfl
theorem passX_len (h : HallA) (s : CB) (FL : List CB × List CB) (x : Nat) : (passX h s FL x).1.length ≤ FL.1.length + 1 ∧ (passX h s FL x).2.length ≤ FL.2.length + 1 := by
  unfold passX
  split
  · exact ⟨by omega, by omega⟩
  · dsimp only
    rw [List.length_append, List.length_append]
    exact ⟨Nat.le_refl _, Nat.le_refl _⟩
theorem passN_len (h : HallA) (s : CB) (FL : List CB × List CB) (n : Nat) : (passN h s FL n).1.length ≤ FL.1.length + n ∧ (passN h s FL n).2.length ≤ FL.2.length + n := by
  induction n with
  | zero => exact ⟨Nat.le_refl _, Nat.le_refl _⟩
  | succ n ih =>
    rw [passN_succ]
    have := passX_len h s (passN h s FL n) n
    exact ⟨by omega, by omega⟩
section
variable {P : Program} {w : World} {K : PySem.W.Frag} {mg : Str → Option Value} {base : Heap} {C : Addr} {σ : L2.St} {H H' : Hp} {ta tb tc td te ty : TE} {S r : Addr} {D : Ends} {g : TG}
def Wid (h : HallA) (s : CB) : Prop := s.1.length = h.1 ∧ s.2.length = h.1
theorem thirdS_wid {h : HallA} {s : CB} (x : Nat) (ws : Wid h s) : Wid h (thirdS h s x) := ⟨by show (thirdC h s.1 s.2 x).length = _; unfold thirdC; rw [setB_len]; exact ws.1, by show (thirdB h s.1 s.2 x).length = _; unfold thirdB; rw [foldB_len]; exact ws.2⟩
def StW (C : Addr) (h : HallA) (H : Hp) (v : V) (s : CB) : Prop := Sts C s.1 s.2 h H v ∧ Wid h s
def KvW (C : Addr) (h : HallA) (H : Hp) (kv : Key × V) (s : CB) : Prop := kv.1 = .inr (txt s.1) ∧ StW C h H kv.2 s
theorem Sts.mut {c b : List Look} {h : HallA} {u : V} (s : Sts C c b h H u) {q : Addr} {o o' : HO} (hq : H q = some o) (h1 : ∀ xs, o ≠ .tup xs) (h2 : ∀ C dx fs, o ≠ .ins C dx fs) : Sts C c b h (upd H q o') u := by
  obtain ⟨p, dx, hv, k1, k2, k3⟩ := s
  refine ⟨p, dx, hv, k1, ?_, k3.mono (Tp.mut hq h1)⟩
  have : p ≠ q := fun z => by
    subst z
    rw [k2] at hq
    exact h2 _ _ _ (Option.some.inj hq).symm
  rw [upd_ne this]
  exact k2
theorem StW.same {h : HallA} {v : V} {s : CB} (x : StW C h H v s) (e : Same H H') : StW C h H' v s := ⟨x.1.same e, x.2⟩
theorem KvW.same {h : HallA} {v : Key × V} {s : CB} (x : KvW C h H v s) (e : Same H H') : KvW C h H' v s := ⟨x.1, x.2.same e⟩
theorem kv_some {h : HallA} {kvs : List (Key × V)} {F : List CB} (e : Each2 (KvW C h H) kvs F) (c : List Look) : (valV kvs (.inr (txt c))).isSome = F.any (fun t => decide (t.1 = c)) := by
  rw [← valV_any]
  induction e with
  | nil => rfl
  | @cons kv s kvs F k t ih =>
    rw [List.any_cons, List.any_cons, ih]
    congr 1
    rw [k.1]
    by_cases z : s.1 = c
    · rw [z, decide_eq_true rfl, decide_eq_true rfl]
    · rw [decide_eq_false z]
      exact decide_eq_false fun y => z (txt_inj (Sum.inr.inj y))
def sp_all_steps (C : Addr) : Sp := fun vs H Q _ => ∃ h u fin, vs = [u] ∧ Dt H u (hD h) ∧ Small h ∧ runS h 40 [(firstC h, firstB h)] [(firstC h, firstB h)] = some fin ∧ ∀ d kvs H2, Same H H2 → H2 d = some (.dK kvs) → Each2 (KvW C h H2) kvs fin → Q (.ref d) H2
theorem c_all_steps (T : Tx K mg C) : C8.Cal P w K mg base 5 "all_steps" (sp_all_steps C) [] := by
  refine mk_sp T.d_all_steps sc_all_steps (fun vs H Q E ⟨_, _, _, e, _⟩ => by rw [e]; rfl) (fun f cdv A outer s H vs Q E hr h => ?_)
  obtain ⟨h, u, fin, rfl, h1, ok, hrun, q⟩ := h
  have hn := ok.2
  have hu := hu_of hr
  refine ⟨_, (pss_cons (ps_set (i := 1) sc_all_steps.nd rfl (Or.inl rfl) (C8.pe_c (c_first_step T) hr (by decide) (by rfl) (pa_cons (pv 0) pa_nil)))
      (pss_cons (ps_par (i := 2) (j := 3) (by rfl) sc_all_steps.nd rfl rfl (by decide) rfl rfl (pa_cons (pe_disp (pps_cons (k_fld K rfl (pv 1) (by rfl)) (pv 1) pps_nil) (by rfl) (by rfl) (fun z => by cases z) (by decide)) (pa_cons (pe_lst (pa_cons (pv 1) pa_nil)) pa_nil)) (by rfl))
      (pss_cons (ps_while PassesOwn.never (pt_cmpR (k_op_neNil K rfl hr.units0) (pv 3) (pe_lst pa_nil) (by rfl))
      (pss_cons (ps_set (i := 4) sc_all_steps.nd rfl (Or.inl rfl) (k_bm0 K rfl PySem.F.plainAttrs_list PySem.F.slot_list_pop PySem.F.type_list_pop mt_pop (pv 3)))
      (pss_one (ps_for PassesOwn.never rfl (pi_range1 (by rfl) T.b_range (pa_cons (pe_ix (k_ix_tup K rfl) (pv 0) pe_int (fun _ _ => rfl)) pa_nil)) (pg_name (i := 5) sc_all_steps.nd rfl (Or.inl rfl))
      (pss_cons (ps_set (i := 6) sc_all_steps.nd rfl (Or.inl rfl) (C8.pe_mt (met_third T) hr (by decide) (pv 4) (pa_cons (pv 5) pa_nil)))
      (pss_one (ps_if (pt_cmp (pc_dnotin hu (k_fld K rfl (pv 6) (by rfl)) (pv 2)) (by rfl))
      (pss_cons (ps_dput hu (pv 2) (k_fld K rfl (pv 6) (by rfl)) (pv 6) (by rfl))
      (pss_one (ps_expr (k_bm K rfl PySem.F.plainAttrs_list PySem.F.slot_list_append PySem.F.type_list_append mt_append (pv 3) (pa_cons (pv 6) pa_nil)))))
      pss_nil)))))))
      (pss_one (ps_ret (pv 2)))))), ?_⟩
  refine seq ?_
  refine s_asgP (e_first_step (ev_varD rfl h1) ok) (fun u1 H1 e1 hS => ?_)
  dsimp only
  refine seq ?_
  have w0 : Wid h (firstC h, firstB h) := ⟨List.length_replicate, List.length_replicate⟩
  -- the dict and the stack
  refine s_parP (R1 := fun H v => ∃ d kvs, v = .ref d ∧ H d = some (.dK kvs) ∧ H1 d = none ∧ Each2 (KvW C h H) kvs [(firstC h, firstB h)]) (R2 := fun H v => ∃ l xs, v = .ref l ∧ H l = some (.lst xs) ∧ H1 l = none ∧ Each2 (StW C h H) xs [(firstC h, firstB h)]) (fun H2 e2 Q q => ?_) (fun H2 e2 Q q => ?_) (fun Ha Hb v e ⟨d, kvs, a1, a2, a3, a4⟩ => ⟨d, kvs, a1, e _ _ a2, a3, a4.mono fun _ _ z => z.same e⟩) (fun v v2 H2 e2 hv hv2 => ?_)
  · intro p hp
    have s1 : Same H2 (upd H2 p (.dK [])) := same_new hp
    refine ev_fldC T (evp_var rfl (hS.same e2) sts_st) _ s1 _ fun k H3 e3 hk => ?_
    refine ⟨_, rfl, ?_⟩
    rw [(is_d.mp hk).strE]
    have hp3 := e3 _ _ (upd_same (H := H2) (a := p) (o := HO.dK []))
    have s2 : Same H2 (upd H3 p (.dK (mergeK [] [(.inr (txt (firstC h)), u1)]))) := same_mut (s1.trans e3) hp
    refine ⟨hp3, [(.inr (txt (firstC h)), u1)], rfl, by show 1 ≤ 15; omega, q _ _ s2 ⟨p, _, rfl, upd_same, e2.free hp, ?_⟩⟩
    exact .cons ⟨rfl, (hS.same e2).same s2, w0⟩ .nil
  · refine ⟨_, rfl, ?_⟩
    refine ⟨by show 1 ≤ sizeLine; decide, fun p hp => q _ _ (same_new hp) ⟨p, _, rfl, upd_same, e2.free hp, .cons ⟨(hS.same e2).same (same_new hp), w0⟩ .nil⟩⟩
  obtain ⟨d0, kvs0, rfl, d1, d2, d3⟩ := hv
  obtain ⟨l0, xs0, rfl, l1, l2, l3⟩ := hv2
  dsimp only
  refine seq ?_
  refine s_while (fun m σ' H' => ∃ F L d l kvs xs j4 j5 j6, runS h m F L = some fin ∧ F.length + L.length + 4 * m ≤ 1000 ∧ σ' = [some u, some u1, some (.ref d), some (.ref l), j4, j5, j6] ∧ Same H H' ∧ H d = none ∧ H l = none ∧ H' d = some (.dK kvs) ∧ H' l = some (.lst xs) ∧ Each2 (KvW C h H') kvs F ∧ Each2 (StW C h H') xs L) 40 ?_ ?_
  · exact ⟨_, _, d0, l0, kvs0, xs0, none, none, none, hrun, by show 1 + 1 + 160 ≤ 1000; omega, rfl, e1.trans e2, e1.free d2, e1.free l2, d1, l1, d3, l3⟩
  · rintro m σ' H' ⟨F, L, d, l, kvs, xs, j4, j5, j6, hr, hle, rfl, c, df, lf, hd, hl, eF, eL⟩
    refine ⟨!L.isEmpty, ?_, fun hb H2 e2 => ?_, fun hb H2 e2 => ?_⟩
    · refine et_test (fun H3 e Q q => ?_)
      refine ⟨_, rfl, Nat.zero_le _, fun p hp => ?_⟩
      refine ⟨l, p, xs, rfl, rfl, SqL.of (same_new hp _ _ (e _ _ hl)), SqL.of upd_same, ?_⟩
      have el : xs.isEmpty = L.isEmpty := by
        cases eL <;> rfl
      rw [el]
      exact q _ _ (same_new hp) (is_d.mpr (.bl _))
    · cases L with
      | nil => simp at hb
      | cons a L =>
        cases m with
        | zero => cases hr
        | succ m =>
          have hr' : runS h m (passN h ((a :: L).getLast (by simp)) (F, (a :: L).dropLast) h.1).1 (passN h ((a :: L).getLast (by simp)) (F, (a :: L).dropLast) h.1).2 = some fin := hr
          have hsplit : (a :: L).dropLast ++ [(a :: L).getLast (by simp)] = a :: L := List.dropLast_concat_getLast (by simp)
          have hdl : (a :: L).dropLast.length = L.length := by rw [List.length_dropLast]; rfl
          have hLl : (a :: L).length = L.length + 1 := rfl
          rw [← hsplit] at eL
          generalize (a :: L).getLast (by simp) = st at hr' eL
          generalize (a :: L).dropLast = L0 at hr' eL hdl
          obtain ⟨xs', v, rfl, eL', hv⟩ := eL.back
          have dne : d ≠ l := fun z => by rw [z, hl] at hd; cases hd
          refine seq ?_
          refine ⟨_, rfl, ?_⟩
          refine ⟨Or.inl ⟨rfl, _, SqL.of (e2 _ _ hl)⟩, l, xs' ++ [v], v, rfl, rfl, e2 _ _ hl, ?_, ?_⟩
          · rw [List.length_append]
            show (xs' ++ [v])[xs'.length + 1 - 1]? = _
            rw [show xs'.length + 1 - 1 = xs'.length by omega, List.getElem?_append_right (Nat.le_refl _), Nat.sub_self]
            rfl
          · rw [List.dropLast_concat]
            dsimp only
            have lm : ∀ {u : V} {s : CB}, StW C h H2 u s → StW C h (upd H2 l (.lst xs')) u s := fun z => ⟨z.1.mut (e2 _ _ hl) (fun _ y => nomatch y) (fun _ _ _ y => nomatch y), z.2⟩
            have c3 : Same H (upd H2 l (.lst xs')) := same_mut (c.trans e2) lf
            have d3 : (upd H2 l (.lst xs')) d = some (.dK kvs) := by rw [upd_ne dne]; exact e2 _ _ hd
            have l3 : (upd H2 l (.lst xs')) l = some (.lst xs') := upd_same
            have eF3 : Each2 (KvW C h (upd H2 l (.lst xs'))) kvs F := eF.mono fun _ _ z => ⟨z.1, lm (z.2.same e2)⟩
            have eL3 : Each2 (StW C h (upd H2 l (.lst xs'))) xs' L0 := eL'.mono fun _ _ z => lm (z.same e2)
            have hv3 := lm (hv.same e2)
            show tFor _ _ _ _ _ (upd H2 l (.lst xs'))
            generalize upd H2 l (.lst xs') = H3 at c3 d3 l3 eF3 eL3 hv3 ⊢
            have k3 := h1.mono (same_tp c3)
            refine s_for (ms := [d, l]) (ei_rng1 (n := h.1) (ea_cons (ev_hn (ev_varD rfl k3)) ea_nil) (by omega)) (fun Hs es => ?_)
            refine ⟨fun i σ' H' => ∃ kvs xs j5 j6, σ' = [some u, some u1, some (.ref d), some (.ref l), some v, j5, j6] ∧ Ch [d, l] Hs H' ∧ Same H H' ∧ H' d = some (.dK kvs) ∧ H' l = some (.lst xs) ∧ Each2 (KvW C h H') kvs (passN h st (F, L0) i).1 ∧ Each2 (StW C h H') xs (passN h st (F, L0) i).2 ∧ StW C h H' v st, ?_, ?_, ?_, ?_⟩
            · exact ⟨kvs, xs', _, _, rfl, Ch.refl _ _, c3.trans es, es _ _ d3, es _ _ l3, eF3.mono fun _ _ z => z.same es, eL3.mono fun _ _ z => z.same es, hv3.same es⟩
            · rintro i σ' H' ⟨_, _, _, _, _, c, _⟩
              exact c
            · rintro i z σ' H0 H4 hi ⟨kvs4, xs4, j5, j6, rfl, ch, c4, d4, l4, eF4, eL4, hv4⟩ e hz
              have ez : z = .int (i : Nat) := Dt.intE hz
              subst ez
              have ch' := ch.then e
              have c5 := c4.trans e
              have d5 := e _ _ d4
              have l5 := e _ _ l4
              have eF5 := eF4.mono fun _ _ z => KvW.same z e
              have eL5 := eL4.mono fun _ _ z => StW.same z e
              have hv5 := hv4.same e
              have hpl := passN_len h st (F, L0) i
              dsimp only at hpl
              show tSeq _ _ _ _ _
              refine seq ?_
              obtain ⟨pv, dxv, hvv, z1, z2, z3⟩ := hv5.1
              subst z1
              refine ⟨_, rfl, pv, dxv, _, rfl, z2, rfl, ?_⟩
              refine ⟨_, rfl, ?_⟩
              refine ⟨h, st.1, st.2, i, .ref pv, rfl, hv5.1, ok, hv5.2.1, hv5.2.2, hi, fun uo H6 e6 ho => ?_⟩
              have hoW : StW C h H6 uo (thirdS h st i) := ⟨ho, thirdS_wid i hv5.2⟩
              dsimp only
              have d6 := e6 _ _ d5
              have l6 := e6 _ _ l5
              have eF6 := eF5.mono fun _ _ z => KvW.same z e6
              have eL6 := eL5.mono fun _ _ z => StW.same z e6
              have key := kv_some eF6 (thirdS h st i).1
              refine s_ifE (c := !((passN h st (F, L0) i).1.any fun t => decide (t.1 = (thirdS h st i).1))) (b := !((passN h st (F, L0) i).1.any fun t => decide (t.1 = (thirdS h st i).1))) ?_ rfl (fun hb2 H7 e7 => ?_) (fun hb2 H7 e7 => ?_)
              · refine et_test (fun H7 e7 Q q => ?_)
                refine ev_fldC T (evp_var rfl (ho.same e7) sts_st) H7 (Same.refl _) _ fun k H8 e8 hk => ?_
                refine ⟨_, rfl, d, valV kvs4 (.inr (txt (thirdS h st i).1)), rfl, ?_, ?_⟩
                · rw [(is_d.mp hk).strE]
                  exact DGet.k (k := .inr (txt (thirdS h st i).1)) (e8 _ _ (e7 _ _ d6))
                · rw [key]
                  exact q _ H8 e8 (is_d.mpr (.bl _))
              · have hnone : (valV kvs4 (.inr (txt (thirdS h st i).1))).isSome = false := by rw [key]; simpa using hb2
                have d7 := e7 _ _ d6
                have l7 := e7 _ _ l6
                refine seq ?_
                refine ⟨_, rfl, ?_⟩
                refine ⟨_, rfl, ?_⟩
                refine ev_fldC T (evp_var rfl (ho.same e7) sts_st) H7 (Same.refl _) _ fun k H8 e8 hk => ?_
                have d8 := e8 _ _ d7
                have l8 := e8 _ _ l7
                have s78 := (e6.trans e7).trans e8
                have hkl : kvs4.length = (passN h st (F, L0) i).1.length := eF6.length
                refine ⟨d, upd H8 d (.dK (putK kvs4 (.inr (txt (thirdS h st i).1)) uo)), rfl, ?_, ?_⟩
                · rw [(is_d.mp hk).strE]
                  exact DPut.k (k := .inr (txt (thirdS h st i).1)) d8 (Nat.lt_of_le_of_lt (show kvs4.length ≤ 1000 by omega) (by decide))
                · have hput : putK kvs4 (.inr (txt (thirdS h st i).1)) uo = kvs4 ++ [(.inr (txt (thirdS h st i).1), uo)] := by
                    unfold putK
                    rw [if_neg]
                    rw [valV_any, hnone]
                    decide
                  rw [hput]
                  have dm : ∀ {u : V} {s : CB} {o : HO}, StW C h H8 u s → StW C h (upd H8 d o) u s := fun z => ⟨z.1.mut d8 (fun _ y => nomatch y) (fun _ _ _ y => nomatch y), z.2⟩
                  have l9 : (upd H8 d (.dK (kvs4 ++ [(.inr (txt (thirdS h st i).1), uo)]))) l = some (.lst xs4) := by rw [upd_ne (fun z => dne z.symm)]; exact l8
                  have d9 : (upd H8 d (.dK (kvs4 ++ [(.inr (txt (thirdS h st i).1), uo)]))) d = some (.dK (kvs4 ++ [(.inr (txt (thirdS h st i).1), uo)])) := upd_same
                  have eF9 : Each2 (KvW C h (upd H8 d (.dK (kvs4 ++ [(.inr (txt (thirdS h st i).1), uo)])))) (kvs4 ++ [(.inr (txt (thirdS h st i).1), uo)]) ((passN h st (F, L0) i).1 ++ [thirdS h st i]) := (eF6.mono fun _ _ z => (⟨z.1, dm (z.2.same (e7.trans e8))⟩ : KvW C h _ _ _)).snoc ⟨rfl, dm (hoW.same (e7.trans e8))⟩
                  have eL9 : Each2 (StW C h (upd H8 d (.dK (kvs4 ++ [(.inr (txt (thirdS h st i).1), uo)])))) xs4 (passN h st (F, L0) i).2 := eL6.mono fun _ _ z => dm (z.same (e7.trans e8))
                  have hv9 : StW C h (upd H8 d (.dK (kvs4 ++ [(.inr (txt (thirdS h st i).1), uo)]))) (.ref pv) st := dm (hv5.same s78)
                  have ho9 : StW C h (upd H8 d (.dK (kvs4 ++ [(.inr (txt (thirdS h st i).1), uo)]))) uo (thirdS h st i) := dm (hoW.same (e7.trans e8))
                  have c9 : Same H (upd H8 d (.dK (kvs4 ++ [(.inr (txt (thirdS h st i).1), uo)]))) := same_mut (c5.trans s78) df
                  have ch9 : Ch [d, l] Hs (upd H8 d (.dK (kvs4 ++ [(.inr (txt (thirdS h st i).1), uo)]))) := (ch'.then s78).upd (by simp)
                  dsimp only
                  generalize upd H8 d (.dK (kvs4 ++ [(.inr (txt (thirdS h st i).1), uo)])) = H9 at l9 d9 eF9 eL9 hv9 ho9 c9 ch9 ⊢
                  have hxl : xs4.length = (passN h st (F, L0) i).2.length := eL6.length
                  refine s_app (xs := xs4) l9 (ev_varV rfl) (s := .v uo) (ev_varV rfl) (by omega) (fun u9 H10 e10 hu9 => ?_)
                  have eu9 : u9 = uo := hu9
                  subst eu9
                  have l10 := e10 _ _ l9
                  have lm : ∀ {u : V} {s : CB}, StW C h H9 u s → StW C h (upd H10 l (.lst (xs4 ++ [u9]))) u s := fun z => ⟨(z.1.same e10).mut l10 (fun _ y => nomatch y) (fun _ _ _ y => nomatch y), z.2⟩
                  have hstep : passN h st (F, L0) (i + 1) = ((passN h st (F, L0) i).1 ++ [thirdS h st i], (passN h st (F, L0) i).2 ++ [thirdS h st i]) := by
                    rw [passN_succ]
                    unfold passX
                    rw [if_neg (by rw [← key, hnone]; decide)]
                  refine ⟨kvs4 ++ [(.inr (txt (thirdS h st i).1), u9)], xs4 ++ [u9], _, _, rfl, (ch9.then e10).upd (by simp), same_mut (c9.trans e10) lf, ?_, upd_same, ?_, ?_, lm hv9⟩
                  · rw [upd_ne dne]
                    exact e10 _ _ d9
                  · rw [hstep]
                    exact eF9.mono fun _ _ z => ⟨z.1, lm z.2⟩
                  · rw [hstep]
                    exact (eL9.mono fun _ _ z => lm z).snoc (lm ho9)
              · have hstep : passN h st (F, L0) (i + 1) = passN h st (F, L0) i := by
                  rw [passN_succ]
                  unfold passX
                  rw [if_pos (by simpa using hb2)]
                rw [← hstep] at eF6 eL6
                exact s_next ⟨kvs4, xs4, _, _, rfl, (ch'.then e6).then e7, (c5.trans e6).trans e7, e7 _ _ d6, e7 _ _ l6, eF6.mono fun _ _ z => z.same e7, eL6.mono fun _ _ z => z.same e7, (hv5.same e6).same e7⟩
            · rintro σ' H4 ⟨kvs4, xs4, j5, j6, rfl, ch, c4, d4, l4, eF4, eL4, hv4⟩
              have hpl := passN_len h st (F, L0) h.1
              dsimp only at hpl
              exact ⟨m, Nat.lt_succ_self m, _, _, d, l, kvs4, xs4, _, _, _, hr', by omega, rfl, c4, df, lf, d4, l4, eF4, eL4⟩
    · cases L with
      | cons a L => simp at hb
      | nil =>
        have hF : F = fin := by
          cases m <;> exact Option.some.inj hr
        subst hF
        dsimp only
        refine s_ret (s := .v (.ref d)) (ev_varV rfl) (fun u2 H3 e3 hu2 => ?_)
        have hu' : u2 = .ref d := hu2
        subst hu'
        exact q d kvs H3 ((c.trans e2).trans e3) (e3 _ _ (e2 _ _ hd)) (eF.mono fun _ _ z => (z.same e2).same e3)
end
end TF
/-! P20 -/
namespace TF
open PySem PySem.Spec PyProof.Rows L2

/-! tuples of texts, sorted -/
abbrev Ans := List (List Look)
def ttD (t : Ans) : PyData := .tuple (t.map fun l => .str (txt l))
theorem toks_inj : ∀ a b : Ans, PySem.W.keyToks (ttD a) = PySem.W.keyToks (ttD b) → a = b
  | [], [], _ => rfl
  | [], y :: b, h => by
    have h' : [Sum.inl 0] = (Sum.inl 1 :: (PySem.W.keyToks (.str (txt y)) ++ PySem.W.keyToksAll (b.map fun l => .str (txt l))) : List (Int ⊕ List Nat)) := h
    injection h' with h1 _
    cases h1
  | x :: a, [], h => by
    have h' : (Sum.inl 1 :: (PySem.W.keyToks (.str (txt x)) ++ PySem.W.keyToksAll (a.map fun l => .str (txt l))) : List (Int ⊕ List Nat)) = [Sum.inl 0] := h
    injection h' with h1 _
    cases h1
  | x :: a, y :: b, h => by
    have h' : (Sum.inl 1 :: (Sum.inr (txt x).cps.toList :: PySem.W.keyToks (ttD a)) : List (Int ⊕ List Nat)) = Sum.inl 1 :: (Sum.inr (txt y).cps.toList :: PySem.W.keyToks (ttD b)) := h
    injection h' with _ h'
    injection h' with h1 h2
    have e1 : (txt x).cps.toList = (txt y).cps.toList := Sum.inr.inj h1
    have e2 := txt_inj (PySem.W.str_of_cps e1)
    rw [e2, toks_inj a b h2]
theorem sorted_ttD {A B : List Ans} (hp : A.Perm B) : (A.map ttD).mergeSort (PySem.W.dataLe false id) = (B.map ttD).mergeSort (PySem.W.dataLe false id) := by
  rw [← List.map_mergeSort (f := ttD) (r := PySem.W.dataLe false ttD) (s := PySem.W.dataLe false id) (fun a _ b _ => rfl), ← List.map_mergeSort (f := ttD) (r := PySem.W.dataLe false ttD) (s := PySem.W.dataLe false id) (fun a _ b _ => rfl)]
  congr 1
  have tl := PySem.W.sortLe_total (PyProof.Rows.listOrd PyProof.Rows.itemOrd) false (fun b => PySem.W.keyToks (ttD b))
  have tt : ∀ x y, (PySem.W.dataLe false ttD x y || PySem.W.dataLe false ttD y x) = true := fun x y => by
    rw [Bool.or_eq_true]
    exact tl.total x y
  refine PySem.W.Srt.the_of_perm (PySem.W.dataLe false ttD) tl.trans tt (fun x y h1 h2 => ?_) ((List.mergeSort_perm A _).trans hp) (List.pairwise_mergeSort tl.trans tt A)
  refine toks_inj x y ((PyProof.Rows.listOrd PyProof.Rows.itemOrd).total _ _ ?_ ?_)
  · have : (!(PyProof.Rows.listOrd PyProof.Rows.itemOrd).blt (PySem.W.keyToks (ttD x)) (PySem.W.keyToks (ttD y))) = true := h2
    simpa using this
  · have : (!(PyProof.Rows.listOrd PyProof.Rows.itemOrd).blt (PySem.W.keyToks (ttD y)) (PySem.W.keyToks (ttD x))) = true := h1
    simpa using this
theorem alike_tt : ∀ a b : Ans, PySem.W.alikeAll (a.map fun l => .str (txt l)) (b.map fun l => .str (txt l)) = true
  | [], _ => by simp [PySem.W.alikeAll]
  | _ :: _, [] => by simp [PySem.W.alikeAll]
  | x :: a, y :: b => by
    rw [List.map_cons, List.map_cons, PySem.W.alikeAll, alike_tt a b]
    simp [PySem.W.alike]
theorem alike_ttD (A : List Ans) : PySem.W.AllAlike (A.map ttD) := fun d hd d' hd' => by
  obtain ⟨a, _, rfl⟩ := List.mem_map.mp hd
  obtain ⟨b, _, rfl⟩ := List.mem_map.mp hd'
  unfold ttD
  rw [PySem.W.alike]
  exact alike_tt a b
theorem sortable_ttD {A : List Ans} (h : ∀ a ∈ A, a ≠ []) : PySem.W.Sortable (A.map ttD) := .inl fun d hd => by
  obtain ⟨a, ha, rfl⟩ := List.mem_map.mp hd
  cases a with
  | nil => exact absurd rfl (h _ ha)
  | cons x a => exact ⟨_, _, rfl⟩
theorem depth_strs : ∀ a : Ans, PyData.depthAll (a.map fun l => .str (txt l)) ≤ 0
  | [] => Nat.zero_le _
  | x :: a => by
    rw [List.map_cons, PyData.depthAll]
    have := depth_strs a
    have e : (PyData.str (txt x)).depth = 0 := rfl
    omega
theorem deep_ttD (A : List Ans) : ∀ d ∈ A.map ttD, d.depth ≤ 8 := fun d hd => by
  obtain ⟨a, _, rfl⟩ := List.mem_map.mp hd
  unfold ttD
  rw [PyData.depth]
  have := depth_strs a
  omega
/-! two halls compared -/
theorem eqv_prs : ∀ ps qs : List (Nat × Nat), PyData.eqvAll (ps.map pr) (qs.map pr) = decide (ps = qs)
  | [], [] => rfl
  | [], _ :: _ => rfl
  | _ :: _, [] => rfl
  | p :: ps, q :: qs => by
    rw [List.map_cons, List.map_cons, PyData.eqvAll, eqv_prs ps qs, pr_eqv]
    by_cases h1 : p = q <;> by_cases h2 : ps = qs <;> simp [h1, h2]
theorem eqv_hD (h g : HallA) : PyData.eqv (hD h) (hD g) = decide (h = g) := by
  obtain ⟨n, ps⟩ := h
  obtain ⟨m, qs⟩ := g
  show PyData.eqv (.tuple [.int (n : Int), .tuple (ps.map pr)]) (.tuple [.int (m : Int), .tuple (qs.map pr)]) = _
  rw [PyData.eqv, PyData.eqvAll, PyData.eqvAll, PyData.eqv, PyData.eqv, eqv_prs, PyData.eqvAll, Bool.and_true]
  by_cases h1 : n = m
  · by_cases h2 : ps = qs
    · simp [h1, h2]
    · simp [h1, h2]
  · have : ¬ ((n : Int) = m) := by omega
    simp [h1, this]
theorem canLay_hD (h : HallA) : SeqAt.shaped (hD h) = true := by
  have e : (hD h).canLay0 = true := by
    show PyData.canLayAll0 [.int (h.1 : Int), .tuple (h.2.map pr)] = true
    rw [PyData.canLayAll0, PyData.canLayAll0, PyData.canLay0, PyData.canLay0, canLay_prs, PyData.canLayAll0]
    rfl
  have e2 : (hD h).depth ≤ 64 := by
    show (PyData.tuple [.int (h.1 : Int), .tuple (h.2.map pr)]).depth ≤ 64
    rw [PyData.depth, PyData.depthAll, PyData.depthAll, PyData.depthAll, PyData.depth, PyData.depth]
    have := depth_prs h.2
    omega
  unfold SeqAt.shaped
  rw [e, Bool.true_and]
  exact decide_eq_true (by omega)
def okP (a b : Look) : Bool := !decide (a = b) && (!decide (a = dot) && !decide (b = dot))
def goes (a b l : Look) : Look := if l = a then (false, true) else if l = b then (true, false) else (true, true)
def chgC (a b : Look) : List Look := [goes a b (true, false), goes a b (true, true), goes a b (false, true)]
def chgS (s : CB) : Ans := (List.range s.1.length).map fun i => chgC (s.1.getD i dot) (s.2.getD i dot)
def okS' (s : CB) : Bool := decide (s.1.length = s.2.length) && (List.range s.1.length).all fun i => okP (s.1.getD i dot) (s.2.getD i dot)
theorem goes_val' : ∀ a1 a2 b1 b2 l1 l2 : Bool, okP (a1, a2) (b1, b2) = true → (l1, l2) ≠ dot → valV (mergeK [] (kvD [(txt [(a1, a2)], txt [(false, true)]), (txt [(b1, b2)], txt [(true, false)]), (txt [addL (a1, a2) (b1, b2)], txt [(true, true)])])) (.inr (txt [(l1, l2)])) = some (.str (txt [goes (a1, a2) (b1, b2) (l1, l2)])) := by
  intro a1 a2 b1 b2 l1 l2
  cases a1 <;> cases a2 <;> cases b1 <;> cases b2 <;> cases l1 <;> cases l2 <;> first | (intro h; exact absurd h (by decide)) | (intro _ h; exact absurd rfl h) | (intro _ _; rfl)
section
variable {P : Program} {w : World} {K : PySem.W.Frag} {mg : Str → Option Value} {base : Heap} {C : Addr} {σ : L2.St} {H H' : Hp} {ta tb tc td te ty : TE} {S r : Addr} {D : Ends} {g : TG}
theorem ev_disp {trs : List (TE × TE)} {kvs : List (Str × Str)} (h : EvPs trs σ H kvs) (hl : kvs.length ≤ 15) : EvP (tDisp trs) σ H (fun H u => ∃ d, u = .ref d ∧ H d = some (.dK (mergeK [] (kvD kvs)))) := fun H1 e Q q => fun p hp =>
  h _ (e.trans (same_new hp)) _ fun H2 e2 => by
    have hp2 := e2 _ _ (upd_same (H := H1) (a := p) (o := HO.dK []))
    have s2 : Same H1 H2 := (same_new hp).trans e2
    have s3 : Same H1 (upd H2 p (.dK (mergeK [] (kvD kvs)))) := same_mut s2 hp
    refine ⟨hp2, kvD kvs, ?_, by unfold kvD; rw [List.length_map]; exact hl, q _ _ s3 ⟨p, rfl, upd_same⟩⟩
    unfold kvD
    rw [List.map_map]
    rfl
def sp_change_of (C : Addr) : Sp := fun vs H Q _ => ∃ h s u, vs = [u] ∧ Sts C s.1 s.2 h H u ∧ s.1.length ≤ 100 ∧ okS' s = true ∧ ∀ u' H2, Same H H2 → Dt H2 u' (ttD (chgS s)) → Q u' H2
theorem c_change_of (T : Tx K mg C) : C8.Cal P w K mg base 2 "change_of" (sp_change_of C) [] := by
  refine mk_sp T.d_change_of sc_change_of (fun vs H Q E ⟨_, _, _, e, _⟩ => by rw [e]; rfl) (fun f cdv A outer s H vs Q E hr h => ?_)
  obtain ⟨h, ⟨c, b⟩, u, rfl, hS, hlen, hok, q⟩ := h
  replace hlen : c.length ≤ 100 := hlen
  unfold okS' at hok
  rw [Bool.and_eq_true, decide_eq_true_eq] at hok
  obtain ⟨hcb, hall⟩ := hok
  replace hcb : c.length = b.length := hcb
  have hu := hu_of hr
  refine ⟨_, (pss_cons (ps_set (i := 1) sc_change_of.nd rfl (Or.inl rfl) (pe_lst pa_nil))
      (pss_cons (ps_for PassesOwn.never rfl (pi_zipS (by rfl) T.b_zip (pa_cons (k_fld K rfl (pv 0) (by rfl)) (pa_cons (k_fld K rfl (pv 0) (by rfl)) pa_nil))) (k_pg_tup K rfl (n := 2) rfl (pgs_cons (pg_name (i := 2) sc_change_of.nd rfl (Or.inl rfl)) (pgs_cons (pg_name (i := 3) sc_change_of.nd rfl (Or.inl rfl)) pgs_nil)))
      (pss_cons (ps_set (i := 4) sc_change_of.nd rfl (Or.inr rfl) (pe_disp (pps_cons (pv 2) pe_str (pps_cons (pv 3) pe_str (pps_cons (C8.pe_c (c_sum_of T) hr (by decide) (by rfl) (pa_cons (pv 2) (pa_cons (pv 3) pa_nil))) pe_str pps_nil))) (by rfl) (by rfl) (fun z => by cases z) (by decide)))
      (pss_one (ps_expr (k_bm K rfl PySem.F.plainAttrs_list PySem.F.slot_list_append PySem.F.type_list_append mt_append (pv 1) (pa_cons (k_joinQ K rfl pe_str (pe_lc (own := [("look", 5)]) rfl sc_change_of.nd (pi_str (C8.pe_gc (by rfl) T.c_LOOKS)) (blkOk_by (own := [("look", 5)]) (N := n_change_of) (sc := C8.fnScope s_change_of) (by decide +kernel)) (fun _ _ _ _ _ => (pg_name (i := 5) sc_change_of.nd rfl (Or.inl rfl))) (fun _ _ _ _ _ => pts_nil) (fun _ _ _ _ _ => (pe_dget hu (pv 4) (pv 5) (fun _ _ => rfl))))) pa_nil))))))
      (pss_one (ps_ret (pe_callTy (k_tupQ K rfl) (by rfl) T.b_tuple (by decide +kernel) (pa_cons (pv 1) pa_nil)))))), ?_⟩
  refine seq ?_
  refine s_asgF (ev_lst (ds := []) ea_nilD (Nat.zero_le _)) (fun p xs H1 e1 hp0 hp1 hp2 => ?_)
  have hp2' : xs = [] := by cases hp2; rfl
  subst hp2'
  dsimp only
  refine seq ?_
  have hS1 := hS.same e1
  refine s_for (ms := [p]) (ei_zipS (ea_cons (ev_fldC T (evp_var rfl hS1 sts_st)) (ea_cons (ev_fldB T (evp_var rfl hS1 sts_st)) ea_nil))) (fun Hs es => ?_)
  have hmin : min (txt c).cps.size (txt b).cps.size = c.length := by rw [txt_size, txt_size]; omega
  have hps := es _ _ hp1
  refine ⟨fun i σ' H' => ∃ j2 j3 j4, σ' = [some u, some (.ref p), j2, j3, j4, none] ∧ Ch [p] Hs H' ∧ ∃ acc, H' p = some (.lst acc) ∧ Dts H' acc ((List.range i).map fun i => .str (txt (chgC (c.getD i dot) (b.getD i dot)))), ?_, ?_, ?_, ?_⟩
  · exact ⟨_, _, _, rfl, Ch.refl _ _, [], hps, .nil⟩
  · rintro i σ' H' ⟨_, _, _, _, c, _⟩
    exact c
  · rintro i z σ' H0 H' hi ⟨j2, j3, j4, rfl, ch, acc, g1, g2⟩ e hz
    rw [hmin] at hi
    have g1' := e _ _ g1
    have g2' := g2.mono (same_tp e)
    have ch' := ch.then e
    have hz' : Dt H' z (.tuple [sgn (txt c) i, sgn (txt b) i]) := hz
    rw [sgn_txt (by omega), sgn_txt (by omega)] at hz'
    have hv : okP (c.getD i dot) (b.getD i dot) = true := List.all_eq_true.mp hall i (List.mem_range.mpr hi)
    refine g_tup2 hz' (fun v3 v4 hv3 hv4 => ?_)
    have ev3 := hv3.strE
    have ev4 := hv4.strE
    subst ev3 ev4
    have ech : ∀ i', i' = i → (.str (txt (chgC (c.getD i' dot) (b.getD i' dot))) : PyData) = .str (txt (chgC (c.getD i dot) (b.getD i dot))) := fun i' e => by rw [e]
    have hr2 : ((List.range (i + 1)).map fun i => (.str (txt (chgC (c.getD i dot) (b.getD i dot))) : PyData)) = ((List.range i).map fun i => .str (txt (chgC (c.getD i dot) (b.getD i dot)))) ++ [.str (txt (chgC (c.getD i dot) (b.getD i dot)))] := by
      rw [List.range_succ, List.map_append]; rfl
    clear ech
    generalize c.getD i dot = la at *
    generalize b.getD i dot = lb at *
    show tSeq _ _ _ _ _
    refine seq ?_
    refine s_asgP (ev_disp (eps_cons (ev_varD rfl (.str _)) (ev_litT lit_Z) (eps_cons (ev_varD rfl (.str _)) (ev_litT lit_X) (eps_cons (e_sum_of (ev_varD rfl (.str _)) (ev_varD rfl (.str _))) (ev_litT lit_Y) eps_nil))) (by show 3 ≤ 15; omega)) (fun ug H3 e3 ⟨dg, eg, hg⟩ => ?_)
    subst eg
    dsimp only
    have hl := g2'.length
    rw [List.length_map, List.length_range] at hl
    refine s_app (xs := acc) (e3 _ _ g1') (ev_varV rfl) (s := .d (.str (txt (chgC la lb)))) (ev_joinT (c := chgC la lb) (ev_litT lit_nil) (EvF.ev (EvF.to (ev_lcN (fun _ => true) (fun i => .str (txt [goes la lb (([(true, false), (true, true), (false, true)] : List Look).getD i dot)])) (ei_str ev_looks) (by decide) (fun _ => rfl) (fun i x H5 hi e5 hx => et_yes) (fun i x H5 hi e5 hx _ => ?_)) ?_)) (by show 3 ≤ 1000; omega)) (by omega) (fun u2 H4 e4 hu2 => ?_)
    · have hi3 : i < 3 := hi
      have hx' : Dt H5 x (sgn (txt [(true, false), (true, true), (false, true)]) i) := hx
      rw [sgn_txt hi3] at hx'
      have hnd : ([(true, false), (true, true), (false, true)] : List Look).getD i dot ≠ dot := by
        rcases (show i = 0 ∨ i = 1 ∨ i = 2 by omega) with e | e | e <;> subst e <;> decide
      generalize ([(true, false), (true, true), (false, true)] : List Look).getD i dot = l at hx' hnd
      intro H6 e6 Q q
      refine ⟨_, rfl, ?_⟩
      refine ev_varD rfl (hx'.mono (same_tp e6)) H6 (Same.refl _) _ fun k H7 e7 hk => ?_
      rw [(is_d.mp hk).strE]
      refine ⟨dg, _, rfl, ?_, q _ H7 e7 (is_d.mpr (.str _))⟩
      have := DGet.k (k := .inr (txt [l])) (e7 _ _ (e6 _ _ (e5 _ _ hg)))
      rw [show valV (mergeK [] (kvD [(txt [la], txt [(false, true)]), (txt [lb], txt [(true, false)]), (txt [addL la lb], txt [(true, true)])])) (.inr (txt [l])) = some (.str (txt [goes la lb l])) from goes_val' la.1 la.2 lb.1 lb.2 l.1 l.2 hv hnd] at this
      exact this
    · rw [given_all]
      have : (txt [(true, false), (true, true), (false, true)]).cps.size = 3 := by rw [txt_size]; rfl
      rw [this]
      rfl
    · have hp4 := e4 _ _ (e3 _ _ g1')
      have tp4 : Tp H4 (upd H4 p (.lst (acc ++ [u2]))) := Tp.mut hp4 fun _ z => nomatch z
      exact ⟨_, _, _, rfl, ((ch'.then e3).then e4).upd (List.mem_singleton.mpr rfl), acc ++ [u2], upd_same, by rw [hr2]; exact ((g2'.mono (same_tp (e3.trans e4))).snoc hu2).mono tp4⟩
  · rintro σ' H' ⟨j2, j3, j4, rfl, ch, acc, g1, g2⟩
    rw [hmin] at g2
    dsimp only
    have cb : Same H H' := ch.back (e1.trans es) (fun k hk => by rw [List.mem_singleton] at hk; subst hk; exact hp0)
    refine s_retE (s' := .d (ttD (chgS (c, b)))) (ev_tupL (ev_var rfl (is_t.mpr ⟨p, acc, rfl, g1, g2⟩))) ?_ (fun u2 H2 e2 hu => q u2 H2 (cb.trans e2) hu)
    unfold ttD chgS
    rw [List.map_map]
    rfl
end
end TF
/-! P21 -/
namespace TF
open PySem PySem.Spec PyProof.Rows L2

def finS (h : HallA) : List CB := (runS h 40 [(firstC h, firstB h)] [(firstC h, firstB h)]).getD []
def ansL (h g : HallA) : List Ans := if h = g then (finS h).map chgS else []
def finOk (h : HallA) : Bool := (runS h 40 [(firstC h, firstB h)] [(firstC h, firstB h)]).isSome && ((finS h).all fun s => okS' s && decide (1 ≤ s.1.length) && decide (s.1.length ≤ 100)) && decide ((finS h).length ≤ 100) && decide (((finS h).map (·.1)).Nodup)
theorem fin1 : finOk (1, []) = true := by decide +kernel
theorem fin2 : finOk (2, []) = true := by decide +kernel
theorem fin3 : finOk (2, [(0, 1)]) = true := by decide +kernel
theorem small_cases {h : HallA} (s : Small h) : h = (1, []) ∨ h = (2, []) ∨ h = (2, [(0, 1)]) := by
  have h0 := small_ps s
  obtain ⟨n, ps⟩ := h
  obtain ⟨⟨h1, h2, h3⟩, h4⟩ := s
  have h1' : 1 ≤ n := h1
  have h4' : n ≤ 2 := h4
  rcases (show n = 1 ∨ n = 2 by omega) with e | e
  · subst e
    have : ps.Sublist ([] : List (Nat × Nat)) := h3
    rw [List.sublist_nil.mp this]
    exact .inl rfl
  · subst e
    have h0' : ps = [] ∨ ps = [(0, 1)] := h0
    rcases h0' with e | e <;> rw [e]
    · exact .inr (.inl rfl)
    · exact .inr (.inr rfl)
theorem small_fin {h : HallA} (s : Small h) : runS h 40 [(firstC h, firstB h)] [(firstC h, firstB h)] = some (finS h) ∧ (∀ t ∈ finS h, okS' t = true ∧ 1 ≤ t.1.length ∧ t.1.length ≤ 100) ∧ (finS h).length ≤ 100 ∧ ((finS h).map (·.1)).Nodup := by
  have k : finOk h = true := by
    rcases small_cases s with e | e | e <;> rw [e]
    · exact fin1
    · exact fin2
    · exact fin3
  unfold finOk at k
  rw [Bool.and_eq_true, Bool.and_eq_true, Bool.and_eq_true, decide_eq_true_eq, decide_eq_true_eq] at k
  obtain ⟨⟨⟨k1, k2⟩, k3⟩, k4⟩ := k
  refine ⟨?_, fun t ht => ?_, k3, k4⟩
  · unfold finS
    revert k1
    generalize runS h 40 [(firstC h, firstB h)] [(firstC h, firstB h)] = o
    intro k1
    cases o with
    | none => cases k1
    | some F => rfl
  · have := List.all_eq_true.mp k2 t ht
    rw [Bool.and_eq_true, Bool.and_eq_true, decide_eq_true_eq, decide_eq_true_eq] at this
    exact ⟨this.1.1, this.1.2, this.2⟩
section
variable {P : Program} {w : World} {K : PySem.W.Frag} {mg : Str → Option Value} {base : Heap} {C : Addr} {σ : L2.St} {H H' : Hp} {ta tb tc td te ty : TE} {S r : Addr} {D : Ends} {g : TG}
theorem kv_find {h : HallA} {kvs : List (Key × V)} {F : List CB} (e : Each2 (KvW C h H) kvs F) (nd : (F.map (·.1)).Nodup) : ∀ {i : Nat} (hi : i < F.length), ∃ v, valV kvs (.inr (txt F[i].1)) = some v ∧ StW C h H v F[i] := by
  induction e with
  | nil => intro i hi; exact absurd hi (Nat.not_lt_zero _)
  | @cons kv s kvs F k t ih =>
    intro i hi
    rw [List.map_cons, List.nodup_cons] at nd
    cases i with
    | zero => exact ⟨kv.2, valV_pos k.1, k.2⟩
    | succ i =>
      have hi' : i < F.length := by rw [List.length_cons] at hi; omega
      obtain ⟨v, h1, h2⟩ := ih nd.2 hi'
      refine ⟨v, ?_, h2⟩
      show valV (kv :: kvs) (.inr (txt F[i].1)) = some v
      rw [valV_neg]
      · exact h1
      · rw [k.1]
        intro z
        have z' := txt_inj (Sum.inr.inj z)
        exact nd.1 (List.mem_map.mpr ⟨F[i], List.getElem_mem hi', z'.symm⟩)
def sp_answers_to (C : Addr) : Sp := PL (fun a : HallA × HallA => [.d (hD a.1), .d (hD a.2)]) (fun a => Small a.1) (fun a => (ansL a.1 a.2).map ttD)
theorem e_answers_to {h g : HallA} (h1 : Ev ta σ H (.d (hD h))) (h2 : Ev tb σ H (.d (hD g))) (ok : Small h) : EvF (tCall (sp_answers_to C) [] C8.E0 (tCons ta (tCons tb tNil))) σ H ((ansL h g).map ttD) :=
  ev_callL (α := HallA × HallA) (h, g) (ea_cons h1 (ea_cons h2 ea_nil)) ok
theorem c_answers_to (T : Tx K mg C) : C8.Cal P w K mg base 6 "answers_to" (sp_answers_to C) [] := by
  refine mk_pl T.d_answers_to sc_answers_to (fun _ => rfl) (fun f cdv A outer s H vs Q E a hr h ok q => ?_)
  obtain ⟨a, b⟩ := a
  obtain ⟨u1, u2, rfl, h1, h2⟩ := iss2 h
  replace h1 : Dt H u1 (hD a) := h1
  replace h2 : Dt H u2 (hD b) := h2
  replace ok : Small a := ok
  replace q : ∀ (p : Addr) (xs : List V) (H2 : Hp), Same H H2 → H p = none → H2 p = some (.lst xs) → Dts H2 xs ((ansL a b).map ttD) → Q (.ref p) H2 := q
  obtain ⟨f1, f2, f3, f4⟩ := small_fin ok
  have hu := hu_of hr
  refine ⟨_, (pss_cons (ps_set (i := 2) sc_answers_to.nd rfl (Or.inr rfl) (C8.pe_c (c_all_steps T) hr (by decide) (by rfl) (pa_cons (pv 0) pa_nil)))
      (pss_one (ps_ret (pe_lock (pe_lc (own := [("choice", 3)]) rfl sc_answers_to.nd (pi_keys (pv 2)) (blkOk_by (own := [("choice", 3)]) (N := n_answers_to) (sc := C8.fnScope s_answers_to) (by decide +kernel)) (fun _ _ _ _ _ => (pg_name (i := 3) sc_answers_to.nd rfl (Or.inl rfl))) (fun _ _ _ _ _ => pts_one (pt_cmpR (k_op_eqD K rfl hr.units) (k_fld K rfl (pe_dget hu (pv 2) (pv 3) (fun _ _ => rfl)) (by rfl)) (pv 1) (by rfl))) (fun _ _ _ _ _ => (C8.pe_c (c_change_of T) hr (by decide) (by rfl) (pa_cons (pe_dget hu (pv 2) (pv 3) (fun _ _ => rfl)) pa_nil)))))))), ?_⟩
  refine seq ?_
  refine s_asgP (R := fun H v => ∃ d kvs, v = .ref d ∧ H d = some (.dK kvs) ∧ Each2 (KvW C a H) kvs (finS a)) (fun H1 e Q q => ?_) (fun ud H1 e1 ⟨d, kvs, ed, d1, d2⟩ => ?_)
  · exact ⟨_, rfl, a, u1, finS a, rfl, h1.mono (same_tp e), ok, f1, fun d kvs H2 e2 z1 z2 => q _ H2 e2 ⟨d, kvs, rfl, z1, z2⟩⟩
  subst ed
  dsimp only
  have g2 := h2.mono (same_tp e1)
  have hkl : kvs.length = (finS a).length := d2.length
  -- the dict is locked while the comprehension walks it
  refine ⟨d, .dK kvs, d1, trivial, fun od => ?_⟩
  have tpf : Tp H1 (upd H1 d (.frz od (.dK kvs))) := Tp.mut d1 fun _ y => nomatch y
  have hd : (upd H1 d (.frz od (.dK kvs))) d = some (.frz od (.dK kvs)) := upd_same
  have g2' := g2.mono tpf
  have e2' : Each2 (KvW C a (upd H1 d (.frz od (.dK kvs)))) kvs (finS a) := d2.mono fun _ _ z => ⟨z.1, z.2.1.mut d1 (fun _ y => nomatch y) (fun _ _ _ y => nomatch y), z.2.2⟩
  have back : ∀ p xs H2, Same (upd H1 d (.frz od (.dK kvs))) H2 → (upd H1 d (.frz od (.dK kvs))) p = none → H2 p = some (.lst xs) → Dts H2 xs ((ansL a b).map ttD) → H2 d = some (.frz od (.dK kvs)) ∧ Q (.ref p) (upd H2 d (.dK kvs)) := fun p xs H2 e p0 p1 p2 => by
    have hd2 := e _ _ hd
    have hpd : p ≠ d := fun z => by rw [z, hd] at p0; cases p0
    refine ⟨hd2, q p xs _ (e1.trans fun x o hx => ?_) (e1.free (by rw [upd_ne hpd] at p0; exact p0)) (by rw [upd_ne hpd]; exact p1) (p2.mono (Tp.mut hd2 fun _ y => nomatch y))⟩
    by_cases z : x = d
    · subst z
      rw [upd_same]
      rw [d1] at hx
      exact hx
    · rw [upd_ne z]
      exact e _ _ (by rw [upd_ne z]; exact hx)
  generalize upd H1 d (.frz od (.dK kvs)) = Hf at tpf hd g2' e2' back ⊢
  have stp : ∀ i, (hi : i < (finS a).length) → ∃ v, valV kvs (.inr (txt (finS a)[i].1)) = some v ∧ StW C a Hf v (finS a)[i] := fun i hi => kv_find e2' f4 hi
  refine EvF.to (ds := given kvs.length (fun _ => decide (a = b)) (fun i => ttD (chgS ((finS a).getD i ([], []))))) (es := (ansL a b).map ttD) (te := tLc _ _ _ _ _) (H := Hf) (σ := [some u1, some u2, some (.ref d), none]) (ev_lcN (it := fun i => .d (.str (txt ((finS a).getD i ([], [])).1))) _ _ (fun H2 e2 R q => ?_) (by omega) (fun _ => rfl) (fun i x H2 hi e2 hx => ?_) (fun i x H2 hi e2 hx _ => ?_)) ?_ Hf (Same.refl _) _ (fun p xs H2 e2 p0 p1 p2 => back p xs H2 e2 p0 p1 p2)
  · refine ⟨_, rfl, d, od, rfl, .inl ⟨kvs, e2 _ _ hd, q _ H2 (Same.refl _) ⟨fun i H' hi hG => ⟨hG.same _ _ (e2 _ _ hd), hi⟩, fun H' hG => ⟨hG.same _ _ (e2 _ _ hd), Nat.le_refl _⟩, fun i H' x H'' hi hG hy => ?_⟩⟩⟩
    obtain ⟨rfl, k, v, hk, rfl⟩ := hy
    obtain ⟨st, hs1, hs2⟩ := e2'.get hk
    refine ⟨Same.refl _, is_d.mpr ?_⟩
    rw [List.getD_eq_getElem?_getD, hs1]
    have : k = .inr (txt st.1) := hs2.1
    rw [this]
    exact .str _
  · have hi' : i < (finS a).length := by omega
    obtain ⟨v, v1, v2⟩ := stp i hi'
    have er : (finS a).getD i ([], []) = (finS a)[i] := by rw [List.getD_eq_getElem?_getD, List.getElem?_eq_getElem hi']; rfl
    rw [er] at hx
    have v2' := v2.same e2
    refine EvT.to (et_test (ev_eqD (x := hD a) (y := hD b) (ev_fldH (c := (finS a)[i].1) (b := (finS a)[i].2) (h := a) T (fun H3 e3 Q q => ?_)) (ev_varD rfl (g2'.mono (same_tp e2))) (canLay_hD _) (canLay_hD _))) (by rw [eqv_hD])
    refine ⟨_, rfl, ?_⟩
    refine ev_varD rfl ((is_d.mp hx).mono (same_tp e3)) H3 (Same.refl _) _ fun k H4 e4 hk => ?_
    rw [(is_d.mp hk).strE]
    exact ⟨d, v, rfl, .inl ⟨kvs, .inr (txt (finS a)[i].1), .inr ⟨od, e4 _ _ (e3 _ _ (e2 _ _ hd))⟩, rfl, v1.symm⟩, q _ H4 e4 ((v2'.same e3).same e4).1⟩
  · have hi' : i < (finS a).length := by omega
    obtain ⟨v, v1, v2⟩ := stp i hi'
    have er : (finS a).getD i ([], []) = (finS a)[i] := by rw [List.getD_eq_getElem?_getD, List.getElem?_eq_getElem hi']; rfl
    rw [er] at hx ⊢
    have v2' := v2.same e2
    obtain ⟨o1, o2, o3⟩ := f2 _ (List.getElem_mem hi')
    intro H3 e3 Q q
    refine ⟨_, rfl, ?_⟩
    refine ev_varD rfl ((is_d.mp hx).mono (same_tp e3)) H3 (Same.refl _) _ fun k H4 e4 hk => ?_
    rw [(is_d.mp hk).strE]
    refine ⟨d, v, rfl, .inl ⟨kvs, .inr (txt (finS a)[i].1), .inr ⟨od, e4 _ _ (e3 _ _ (e2 _ _ hd))⟩, rfl, v1.symm⟩, ?_⟩
    exact ⟨a, (finS a)[i], v, rfl, ((v2'.same e3).same e4).1, o3, o1, fun u' H5 e5 hu' => q u' H5 (e4.trans e5) (is_d.mpr hu')⟩
  · rw [hkl]
    unfold ansL
    by_cases hab : a = b
    · rw [if_pos hab, decide_eq_true hab, given_all, List.map_map]
      refine List.ext_getElem (by rw [List.length_map, List.length_map, List.length_range]) fun i z1 z2 => ?_
      have hi : i < (finS a).length := by rw [List.length_map] at z2; exact z2
      rw [List.getElem_map, List.getElem_map, List.getElem_range, List.getD_eq_getElem?_getD, List.getElem?_eq_getElem hi]
      rfl
    · rw [if_neg hab, decide_eq_false hab]
      unfold given
      rw [List.filter_eq_nil_iff.mpr (fun _ _ => by decide)]
      rfl
def sp_answers : Sp := PF (fun a : HallA × HallA => [.d (hD a.1), .d (hD a.2)]) (fun a => twoOk a ∧ a.1.1 ≤ 2) (fun a => .d (.tuple (((ansL a.1 a.2).map ttD).mergeSort (PySem.W.dataLe false id))))
theorem e_answers {h g : HallA} (h1 : Ev ta σ H (.d (hD h))) (h2 : Ev tb σ H (.d (hD g))) (ok : twoOk (h, g) ∧ h.1 ≤ 2) : Ev (tCall sp_answers [] C8.E0 (tCons ta (tCons tb tNil))) σ H (.d (.tuple (((ansL h g).map ttD).mergeSort (PySem.W.dataLe false id)))) :=
  ev_call (α := HallA × HallA) (h, g) (ea_cons h1 (ea_cons h2 ea_nil)) ok
theorem ansL_ne {h g : HallA} (s : Small h) : ∀ a ∈ ansL h g, a ≠ [] := fun t ht => by
  unfold ansL at ht
  split at ht
  · obtain ⟨st, hs, rfl⟩ := List.mem_map.mp ht
    obtain ⟨_, o2, _⟩ := (small_fin s).2.1 st hs
    unfold chgS
    intro z
    have := congrArg List.length z
    rw [List.length_map, List.length_range] at this
    have h0 : st.1.length = 0 := this
    omega
  · cases ht
theorem c_answers (T : Tx K mg C) : C8.Cal P w K mg base 7 "answers" sp_answers [] := by
  refine mk_pf T.d_answers sc_answers (fun _ => rfl) (fun f cdv A outer s H vs Q E a hr h ok q => ?_)
  obtain ⟨a, b⟩ := a
  obtain ⟨u1, u2, rfl, h1, h2⟩ := iss2 h
  replace h1 : Dt H u1 (hD a) := h1
  replace h2 : Dt H u2 (hD b) := h2
  obtain ⟨ok, ok2⟩ := ok
  have sm : Small a := ⟨ok.1, ok2⟩
  refine ⟨_, (pss_cons (ps_expr (C8.pe_c (c_need_halls T) hr (by decide) (by rfl) (pa_cons (pv 0) (pa_cons (pv 1) pa_nil))))
      (pss_one (ps_ret (pe_callTy (k_tupQ K rfl) (by rfl) T.b_tuple (by decide +kernel) (pa_cons (pe_callB (k_sortedD K rfl hr.units) (by rfl) T.b_sorted (by decide +kernel) (pa_cons (C8.pe_c (c_answers_to T) hr (by decide) (by rfl) (pa_cons (pv 0) (pa_cons (pv 1) pa_nil))) pa_nil)) pa_nil))))), ?_⟩
  refine seq ?_
  refine s_drop (e_need_halls (ev_varD rfl h1) (ev_varD rfl h2) ok) (fun H1 e1 => ?_)
  dsimp only
  exact s_ret (ev_tupL (EvF.ev (ev_sorted (EvF.ev (e_answers_to (ev_varD rfl (h1.mono (same_tp e1))) (ev_varD rfl (h2.mono (same_tp e1))) sm)) (alike_ttD _) (sortable_ttD (ansL_ne sm)) (deep_ttD _)))) (fun u H2 e2 hu => q u H2 (e1.trans e2) hu)
end
end TF
/-! M1 -/
namespace TF
open PySem
/-! oddness -/
def par (l : List Bool) : Bool := l.foldr (fun a b => a ^^ b) false
theorem par_append (l m : List Bool) : par (l ++ m) = (par l ^^ par m) := by
  induction l with
  | nil => show par m = (false ^^ par m); rw [Bool.false_xor]
  | cons a l ih => show (a ^^ par (l ++ m)) = ((a ^^ par l) ^^ par m); rw [ih, Bool.xor_assoc]
theorem bit_nn (b : Bool) : 0 ≤ bit b := by cases b <;> decide
theorem par_sum (l : List Bool) : decide ((l.map bit).sum % 2 = 1) = par l ∧ 0 ≤ (l.map bit).sum := by
  induction l with
  | nil => exact ⟨rfl, Int.le_refl _⟩
  | cons a l ih =>
    obtain ⟨h1, h2⟩ := ih
    rw [List.map_cons, List.sum_cons]
    have hp : par (a :: l) = (a ^^ par l) := rfl
    rw [hp, ← h1]
    cases a with
    | false =>
      refine ⟨?_, by show 0 ≤ (0 : Int) + _; omega⟩
      rw [Bool.false_xor]
      show decide (((0 : Int) + _) % 2 = 1) = _
      rw [Int.zero_add]
    | true =>
      refine ⟨?_, by show 0 ≤ (1 : Int) + _; omega⟩
      rw [Bool.true_xor]
      show decide (((1 : Int) + _) % 2 = 1) = _
      generalize (l.map bit).sum = s at h2 ⊢
      by_cases e : s % 2 = 1
      · rw [decide_eq_true e, decide_eq_false (by omega)]; rfl
      · rw [decide_eq_false e, decide_eq_true (by omega)]; rfl
theorem par_filter (n : Nat) (F : Nat → Bool) : decide ((((List.range n).filter F).length : Int) % 2 = 1) = par ((List.range n).map F) := by
  have h := (par_sum ((List.range n).map F)).1
  rw [← h]
  have e : (((List.range n).map F).map bit).sum = (((List.range n).filter F).length : Int) := by
    generalize List.range n = l
    induction l with
    | nil => rfl
    | cons a l ih =>
      rw [List.map_cons, List.map_cons, List.sum_cons, ih, List.filter_cons]
      cases h : F a with
      | true =>
        rw [if_pos rfl, List.length_cons]
        show (1 : Int) + _ = _
        omega
      | false =>
        rw [if_neg (by decide)]
        show (0 : Int) + _ = _
        omega
  rw [e]
theorem par_four (n : Nat) (f : Nat → Bool) : par ((List.range (4 * n)).map f) = par ((List.range n).map fun p => (f (4 * p) ^^ (f (4 * p + 1) ^^ (f (4 * p + 2) ^^ f (4 * p + 3))))) := by
  induction n with
  | zero => rfl
  | succ n ih =>
    rw [List.range_succ, List.map_append, par_append, ← ih]
    have e : List.range (4 * (n + 1)) = List.range (4 * n) ++ [4 * n, 4 * n + 1, 4 * n + 2, 4 * n + 3] := by
      rw [show 4 * (n + 1) = 4 * n + 1 + 1 + 1 + 1 by omega, List.range_succ, List.range_succ, List.range_succ, List.range_succ]
      simp
    rw [e, List.map_append, par_append]
    congr 1
    show (f (4 * n) ^^ (f (4 * n + 1) ^^ (f (4 * n + 2) ^^ (f (4 * n + 3) ^^ false)))) = ((f (4 * n) ^^ (f (4 * n + 1) ^^ (f (4 * n + 2) ^^ f (4 * n + 3)))) ^^ false)
    rw [Bool.xor_false, Bool.xor_false]
theorem four_get (E : Nat → List Bool) (hE : ∀ p, (E p).length = 4) (n p k : Nat) (hp : p < n) (hk : k < 4) : ((List.range n).flatMap E).getD (4 * p + k) false = (E p).getD k false := by
  induction n with
  | zero => omega
  | succ n ih =>
    have hl : ∀ m, ((List.range m).flatMap E).length = 4 * m := fun m => by
      induction m with
      | zero => rfl
      | succ m ih => rw [List.range_succ, List.flatMap_append, List.flatMap_singleton, List.length_append, ih, hE]; omega
    rw [List.range_succ, List.flatMap_append, List.flatMap_singleton, List.getD_eq_getElem?_getD]
    by_cases h : p < n
    · rw [List.getElem?_append_left (by rw [hl]; omega), ← List.getD_eq_getElem?_getD]
      exact ih h
    · have e : p = n := by omega
      subst e
      rw [List.getElem?_append_right (by rw [hl]; omega), hl, show 4 * p + k - 4 * p = k by omega, ← List.getD_eq_getElem?_getD]
theorem near_adj {h : HallA} {x y : Nat} (hy : y < h.1) : nearB h x y = adj h.2 x y := by
  unfold nearB nearD given
  rw [List.any_map]
  have e : ∀ z : Nat, ((fun z => eqF z (.int (y : Int))) ∘ fun y : Nat => PyData.int (y : Int)) z = decide (z = y) := fun z => by
    show ((z : Int) == (y : Int)) = _
    rw [Bool.beq_eq_decide_eq, dec_nat]
  cases hb : adj h.2 x y with
  | true =>
    rw [List.any_eq_true]
    exact ⟨y, List.mem_filter.mpr ⟨List.mem_range.mpr hy, hb⟩, by rw [e]; simp⟩
  | false =>
    rw [List.any_eq_false]
    intro z hz
    rw [e]
    intro w
    rw [decide_eq_true_eq] at w
    subst w
    have := (List.mem_filter.mp hz).2
    rw [hb] at this
    cases this
theorem adj_self {h : HallA} (ok : HOk h) (x : Nat) : adj h.2 x x = false := by
  unfold adj
  refine decide_eq_false fun z => ?_
  have := ok.in z
  dsimp only at this
  omega
theorem own_look {h : HallA} (ok : HOk h) {x y : Nat} (hy : y < h.1) : ownC h x y = (decide (x = y), adj h.2 x y) := by
  unfold ownC
  rw [near_adj hy]
  by_cases e : y = x
  · subst e
    rw [if_pos rfl, adj_self ok, decide_eq_true rfl]
  · rw [if_neg e, decide_eq_false (fun z => e z.symm)]
    cases adj h.2 x y <;> rfl
theorem symp' : ∀ a b c d : Bool, (!decide (((a, b) : Look) = (c, d)) && (!decide (((a, b) : Look) = dot) && !decide (((c, d) : Look) = dot))) = ((a && d) ^^ (b && c)) := by decide
theorem key' : ∀ f s l r a b c d : Bool, (((f && r) && a) ^^ (((f && l) && b) ^^ (((s && r) && c) ^^ ((s && l) && d)))) = (((imgC (f, s) a b c d).1 && r) ^^ ((imgC (f, s) a b c d).2 && l)) := by decide
theorem range_getL (n : Nat) (f : Nat → Look) {i : Nat} (h : i < n) : ((List.range n).map f).getD i dot = f i := by
  rw [List.getD_eq_getElem?_getD, List.getElem?_map, List.getElem?_range h]
  rfl
theorem odd_law {h g : HallA} (okh : HOk h) (okg : HOk g) (e : h.1 = g.1) {x y : Nat} (bs : List Bool) (hb : bs.length = 4 * h.1) :
    decide (dotI (EQb h g x y) bs % 2 = 1) = oddL (imgL (ownL h x) bs) (ownL g y) := by
  have l1 : (ownL h x).length = h.1 := by unfold ownL; rw [List.length_map, List.length_range]
  have l2 : (ownL g y).length = h.1 := by unfold ownL; rw [List.length_map, List.length_range, e]
  have l3 : (imgL (ownL h x) bs).length = h.1 := by unfold imgL; rw [List.length_map, List.length_range, l1]
  unfold oddL
  rw [l3, l2, Nat.min_self, par_filter]
  unfold dotI
  rw [EQb_len, hb, Nat.min_self]
  have e1 : ((List.range (4 * h.1)).map fun i => bit ((EQb h g x y).getD i false) * bit (bs.getD i false)) = ((List.range (4 * h.1)).map fun i => ((EQb h g x y).getD i false && bs.getD i false)).map bit := by
    rw [List.map_map]
    refine List.map_congr_left fun i _ => ?_
    exact bit_and _ _
  rw [e1, (par_sum _).1, par_four]
  congr 1
  refine List.map_congr_left fun p hp => ?_
  have hp' : p < h.1 := List.mem_range.mp hp
  have g0 := four_get (EQbp h g x y) (fun _ => rfl) h.1 p 0 hp' (by omega)
  have g1 := four_get (EQbp h g x y) (fun _ => rfl) h.1 p 1 hp' (by omega)
  have g2 := four_get (EQbp h g x y) (fun _ => rfl) h.1 p 2 hp' (by omega)
  have g3 := four_get (EQbp h g x y) (fun _ => rfl) h.1 p 3 hp' (by omega)
  have gg : EQb h g x y = (List.range h.1).flatMap (EQbp h g x y) := rfl
  rw [gg, show 4 * p = 4 * p + 0 from rfl, g0, g1, g2, g3]
  have i1 : (imgL (ownL h x) bs).getD p dot = imgC (decide (x = p), adj h.2 x p) (bs.getD (4 * p) false) (bs.getD (4 * p + 1) false) (bs.getD (4 * p + 2) false) (bs.getD (4 * p + 3) false) := by
    unfold imgL
    rw [range_getL _ _ (by rw [l1]; exact hp')]
    unfold imgAt ownL
    rw [range_getL _ _ hp', own_look okh hp']
  have i2 : (ownL g y).getD p dot = (decide (y = p), adj g.2 y p) := by
    unfold ownL
    rw [range_getL _ _ (by rw [← e]; exact hp'), own_look okg (by rw [← e]; exact hp')]
  unfold oddAt
  rw [i1, i2]
  have k := key' (decide (x = p)) (adj h.2 x p) (decide (y = p)) (adj g.2 y p) (bs.getD (4 * p) false) (bs.getD (4 * p + 1) false) (bs.getD (4 * p + 2) false) (bs.getD (4 * p + 3) false)
  generalize imgC (decide (x = p), adj h.2 x p) (bs.getD (4 * p) false) (bs.getD (4 * p + 1) false) (bs.getD (4 * p + 2) false) (bs.getD (4 * p + 3) false) = im at k ⊢
  rw [symp' im.1 im.2]
  exact k
end TF
/-! M2 -/
namespace TF
open PySem
/-! rank -/
theorem lt_of_bits {x y : Nat} (i : Nat) (hx : x.testBit i = false) (hy : y.testBit i = true) (h : ∀ j, i < j → x.testBit j = y.testBit j) : x < y := by
  have e : x / 2 ^ (i + 1) = y / 2 ^ (i + 1) := Nat.eq_of_testBit_eq fun j => by
    rw [Nat.testBit_div_two_pow, Nat.testBit_div_two_pow]
    exact h _ (by omega)
  rw [Nat.pow_succ, ← Nat.div_div_eq_div_mul, ← Nat.div_div_eq_div_mul] at e
  rw [Nat.testBit_eq_decide_div_mod_eq, decide_eq_false_iff_not] at hx
  rw [Nat.testBit_eq_decide_div_mod_eq, decide_eq_true_eq] at hy
  have hlt : x / 2 ^ i < y / 2 ^ i := by omega
  rcases Nat.lt_or_ge x y with z | z
  · exact z
  · have := Nat.div_le_div_right (c := 2 ^ i) z
    omega
def sp : List Nat → List Nat
  | [] => [0]
  | v :: vs => sp vs ++ (sp vs).map (v ^^^ ·)
theorem sp_cons {a v : Nat} {vs : List Nat} : a ∈ sp (v :: vs) ↔ a ∈ sp vs ∨ (v ^^^ a) ∈ sp vs := by
  show a ∈ sp vs ++ (sp vs).map (v ^^^ ·) ↔ _
  rw [List.mem_append, List.mem_map]
  constructor
  · rintro (h | ⟨b, h, rfl⟩)
    · exact .inl h
    · right
      show (v ^^^ (v ^^^ b)) ∈ _
      rw [← Nat.xor_assoc, Nat.xor_self, Nat.zero_xor]
      exact h
  · rintro (h | h)
    · exact .inl h
    · exact .inr ⟨_, h, by show (v ^^^ (v ^^^ a)) = a; rw [← Nat.xor_assoc, Nat.xor_self, Nat.zero_xor]⟩
theorem sp_zero : ∀ vs : List Nat, 0 ∈ sp vs
  | [] => List.mem_singleton.mpr rfl
  | v :: vs => sp_cons.mpr (.inl (sp_zero vs))
theorem sp_xor : ∀ (vs : List Nat) {a b : Nat}, a ∈ sp vs → b ∈ sp vs → (a ^^^ b) ∈ sp vs
  | [], a, b, ha, hb => by
    rw [show sp [] = [0] from rfl, List.mem_singleton] at *
    subst ha hb
    rfl
  | v :: vs, a, b, ha, hb => by
    rw [sp_cons] at *
    rcases ha with ha | ha <;> rcases hb with hb | hb
    · exact .inl (sp_xor vs ha hb)
    · right
      have := sp_xor vs ha hb
      rw [show v ^^^ (a ^^^ b) = a ^^^ (v ^^^ b) by rw [← Nat.xor_assoc, Nat.xor_comm v a, Nat.xor_assoc]]
      exact this
    · right
      rw [← Nat.xor_assoc]
      exact sp_xor vs ha hb
    · left
      have := sp_xor vs ha hb
      rw [show (v ^^^ a) ^^^ (v ^^^ b) = a ^^^ b by rw [Nat.xor_comm v a, Nat.xor_assoc, ← Nat.xor_assoc v v b, Nat.xor_self, Nat.zero_xor]] at this
      exact this
theorem sp_mem : ∀ {vs : List Nat} {v : Nat}, v ∈ vs → v ∈ sp vs
  | w :: vs, v, h => by
    rw [sp_cons]
    rcases List.mem_cons.mp h with h | h
    · right
      rw [h, Nat.xor_self]
      exact sp_zero vs
    · exact .inl (sp_mem h)
theorem sp_sub {ws : List Nat} : ∀ {vs : List Nat}, (∀ v ∈ vs, v ∈ sp ws) → ∀ a ∈ sp vs, a ∈ sp ws
  | [], _, a, ha => by
    rw [show sp [] = [0] from rfl, List.mem_singleton] at ha
    rw [ha]
    exact sp_zero ws
  | v :: vs, h, a, ha => by
    have ih := sp_sub (vs := vs) (fun x hx => h x (List.mem_cons_of_mem _ hx))
    rcases sp_cons.mp ha with ha | ha
    · exact ih a ha
    · have := sp_xor ws (h v List.mem_cons_self) (ih _ ha)
      rw [← Nat.xor_assoc, Nat.xor_self, Nat.zero_xor] at this
      exact this
theorem sp_len : ∀ vs : List Nat, (sp vs).length = 2 ^ vs.length
  | [] => rfl
  | v :: vs => by
    show (sp vs ++ (sp vs).map (v ^^^ ·)).length = _
    rw [List.length_append, List.length_map, sp_len vs, List.length_cons, Nat.pow_succ]
    omega
theorem sp_bit {t : Nat} : ∀ {vs : List Nat}, (∀ v ∈ vs, v.testBit t = false) → ∀ a ∈ sp vs, a.testBit t = false
  | [], _, a, ha => by
    rw [show sp [] = [0] from rfl, List.mem_singleton] at ha
    rw [ha]
    exact Nat.zero_testBit t
  | v :: vs, h, a, ha => by
    have ih := sp_bit (vs := vs) (fun x hx => h x (List.mem_cons_of_mem _ hx))
    rcases sp_cons.mp ha with ha | ha
    · exact ih a ha
    · have h1 := ih _ ha
      rw [Nat.testBit_xor, h v List.mem_cons_self, Bool.false_xor] at h1
      exact h1
inductive Tri : List Nat → Prop
  | nil : Tri []
  | cons {h t : Nat} {hs : List Nat} : h.testBit t = true → (∀ x ∈ hs, x.testBit t = false) → Tri hs → Tri (h :: hs)
theorem Tri.nodup : ∀ {hs : List Nat}, Tri hs → (sp hs).Nodup
  | [], _ => by
    show [0].Nodup
    simp
  | _ :: _, .cons (h := h) (t := t) (hs := hs) h1 h2 h3 => by
    have ih := h3.nodup
    show (sp hs ++ (sp hs).map (h ^^^ ·)).Nodup
    rw [List.nodup_append]
    refine ⟨ih, ?_, fun a ha b hb e => ?_⟩
    · refine List.Pairwise.map _ (fun a b hab hx => hab ?_) ih
      have := congrArg (h ^^^ ·) hx
      rw [← Nat.xor_assoc, ← Nat.xor_assoc, Nat.xor_self, Nat.zero_xor, Nat.zero_xor] at this
      exact this
    · obtain ⟨c, hc, rfl⟩ := List.mem_map.mp hb
      have z1 := sp_bit h2 a ha
      have z2 := sp_bit h2 c hc
      rw [e] at z1
      rw [Nat.testBit_xor, h1, z2] at z1
      cases z1
theorem tri_eq {as bs : List Nat} (ha : Tri as) (hb : Tri bs) (h1 : ∀ a ∈ as, a ∈ sp bs) (h2 : ∀ b ∈ bs, b ∈ sp as) : as.length = bs.length := by
  have hp : (sp as).Perm (sp bs) := (List.perm_ext_iff_of_nodup ha.nodup hb.nodup).mpr fun x => ⟨sp_sub h1 x, sp_sub h2 x⟩
  have hl := hp.length_eq
  rw [sp_len, sp_len] at hl
  exact (Nat.pow_right_inj (by omega)).mp hl
/-! the program's -/
def TriL (hs : List Nat) : Prop := hs.Pairwise (fun a b => b.testBit a.log2 = false) ∧ ∀ h ∈ hs, h ≠ 0
theorem top_bit {h : Nat} (hz : h ≠ 0) : h.testBit h.log2 = true := Nat.testBit_log2 hz
theorem above {h j : Nat} (hj : h.log2 < j) : h.testBit j = false := Nat.testBit_lt_two_pow (Nat.lt_of_lt_of_le Nat.lt_log2_self (Nat.pow_le_pow_right (by omega) hj))
theorem red_step (r h : Nat) (hz : h ≠ 0) : (min r (r ^^^ h)).testBit h.log2 = false ∧ (min r (r ^^^ h) = r ∨ min r (r ^^^ h) = r ^^^ h) := by
  have hx : ∀ j, h.log2 < j → (r ^^^ h).testBit j = r.testBit j := fun j hj => by rw [Nat.testBit_xor, above hj, Bool.xor_false]
  cases hb : r.testBit h.log2 with
  | false =>
    have hlt : r < r ^^^ h := lt_of_bits h.log2 hb (by rw [Nat.testBit_xor, hb, top_bit hz]; rfl) (fun j hj => (hx j hj).symm)
    rw [Nat.min_eq_left (Nat.le_of_lt hlt)]
    exact ⟨hb, .inl rfl⟩
  | true =>
    have h0 : (r ^^^ h).testBit h.log2 = false := by rw [Nat.testBit_xor, hb, top_bit hz]; rfl
    have hlt : r ^^^ h < r := lt_of_bits h.log2 h0 hb (fun j hj => hx j hj)
    rw [Nat.min_eq_right (Nat.le_of_lt hlt)]
    exact ⟨h0, .inr rfl⟩
theorem red_all : ∀ {hs : List Nat} (r : Nat), TriL hs → (redP hs r ^^^ r) ∈ sp hs ∧ ∀ h ∈ hs, (redP hs r).testBit h.log2 = false
  | [], r, _ => ⟨by show (r ^^^ r) ∈ sp []; rw [Nat.xor_self]; exact sp_zero _, fun _ h => nomatch h⟩
  | h :: hs, r, T => by
    obtain ⟨T1, T2⟩ := T
    rw [List.pairwise_cons] at T1
    obtain ⟨s1, s2⟩ := red_step r h (T2 h List.mem_cons_self)
    obtain ⟨i1, i2⟩ := red_all (hs := hs) (min r (r ^^^ h)) ⟨T1.2, fun x hx => T2 x (List.mem_cons_of_mem _ hx)⟩
    have e : redP (h :: hs) r = redP hs (min r (r ^^^ h)) := rfl
    rw [e]
    generalize redP hs (min r (r ^^^ h)) = r' at i1 i2 ⊢
    generalize min r (r ^^^ h) = r1 at s1 s2 i1
    refine ⟨?_, fun x hx => ?_⟩
    · rw [sp_cons]
      rcases s2 with s2 | s2
      · rw [s2] at i1
        exact .inl i1
      · right
        rw [s2] at i1
        rw [show h ^^^ (r' ^^^ r) = r' ^^^ (r ^^^ h) by rw [Nat.xor_comm h, Nat.xor_assoc]]
        exact i1
    · rcases List.mem_cons.mp hx with hx | hx
      · subst hx
        have z := sp_bit (t := x.log2) (fun v hv => T1.1 v hv) _ i1
        rw [Nat.testBit_xor, s1, Bool.xor_false] at z
        exact z
      · exact i2 x hx
theorem TriL.tri : ∀ {hs : List Nat}, TriL hs → Tri hs
  | [], _ => .nil
  | h :: hs, T => by
    obtain ⟨T1, T2⟩ := T
    rw [List.pairwise_cons] at T1
    exact .cons (t := h.log2) (top_bit (T2 h List.mem_cons_self)) T1.1 (TriL.tri ⟨T1.2, fun x hx => T2 x (List.mem_cons_of_mem _ hx)⟩)
theorem sp_app {hs : List Nat} {x a : Nat} (h : a ∈ sp hs) : a ∈ sp (hs ++ [x]) := sp_sub (fun v hv => sp_mem (List.mem_append_left _ hv)) a h
theorem heads_inv (W : List Nat) : ∀ (ns hs : List Nat), TriL hs → (∀ h ∈ hs, h ∈ sp W) → (∀ n ∈ ns, n ∈ sp W) → TriL (ns.foldl stepP hs) ∧ (∀ h ∈ ns.foldl stepP hs, h ∈ sp W) ∧ (∀ h ∈ hs, h ∈ sp (ns.foldl stepP hs)) ∧ ∀ n ∈ ns, n ∈ sp (ns.foldl stepP hs)
  | [], hs, T, h1, _ => ⟨T, h1, fun h hh => sp_mem hh, fun _ h => nomatch h⟩
  | r :: ns, hs, T, h1, h2 => by
    obtain ⟨r1, r2⟩ := red_all r T
    have hr := h2 r List.mem_cons_self
    have key : TriL (stepP hs r) ∧ (∀ h ∈ stepP hs r, h ∈ sp W) ∧ (∀ h ∈ hs, h ∈ sp (stepP hs r)) ∧ r ∈ sp (stepP hs r) := by
      unfold stepP
      by_cases hz : redP hs r = 0
      · rw [if_pos hz]
        rw [hz, Nat.zero_xor] at r1
        exact ⟨T, h1, fun h hh => sp_mem hh, r1⟩
      · rw [if_neg hz]
        have hW : redP hs r ∈ sp W := by
          have := sp_xor W (sp_sub h1 _ r1) hr
          rw [Nat.xor_assoc, Nat.xor_self, Nat.xor_zero] at this
          exact this
        refine ⟨⟨?_, fun h hh => ?_⟩, fun h hh => ?_, fun h hh => sp_mem (List.mem_append_left _ hh), ?_⟩
        · rw [List.pairwise_append]
          refine ⟨T.1, by simp, fun a ha b hb => ?_⟩
          rw [List.mem_singleton] at hb
          subst hb
          exact r2 a ha
        · rw [List.mem_append, List.mem_singleton] at hh
          rcases hh with hh | hh
          · exact T.2 h hh
          · rw [hh]; exact hz
        · rw [List.mem_append, List.mem_singleton] at hh
          rcases hh with hh | hh
          · exact h1 h hh
          · rw [hh]; exact hW
        · have := sp_xor (hs ++ [redP hs r]) (sp_app (x := redP hs r) r1) (sp_mem (List.mem_append_right hs (List.mem_singleton.mpr rfl)))
          rw [Nat.xor_comm, ← Nat.xor_assoc, Nat.xor_self, Nat.zero_xor] at this
          exact this
    obtain ⟨k1, k2, k3, k4⟩ := key
    obtain ⟨i1, i2, i3, i4⟩ := heads_inv W ns (stepP hs r) k1 k2 (fun n hn => h2 n (List.mem_cons_of_mem _ hn))
    rw [List.foldl_cons]
    refine ⟨i1, i2, fun h hh => sp_sub i3 h (k3 h hh), fun n hn => ?_⟩
    rcases List.mem_cons.mp hn with hn | hn
    · rw [hn]
      exact sp_sub i3 r k4
    · exact i4 n hn
/-! the law's -/
theorem enc_bit : ∀ (r : List Bool) (i : Nat), (enc r).testBit i = r.getD i false
  | [], i => by rw [show enc [] = 0 from rfl, Nat.zero_testBit]; rfl
  | b :: r, 0 => by
    show (b.toNat + 2 * enc r).testBit 0 = b
    rw [Nat.testBit_zero]
    cases b
    · exact decide_eq_false (by show ¬ (0 + 2 * enc r) % 2 = 1; omega)
    · exact decide_eq_true (by show (1 + 2 * enc r) % 2 = 1; omega)
  | b :: r, i + 1 => by
    show (b.toNat + 2 * enc r).testBit (i + 1) = r.getD i false
    rw [Nat.testBit_succ, ← enc_bit r i]
    congr 1
    cases b
    · show (0 + 2 * enc r) / 2 = _; omega
    · show (1 + 2 * enc r) / 2 = _; omega
theorem enc_xor {r h : List Bool} (e : r.length = h.length) : enc (xorL r h) = enc r ^^^ enc h := by
  refine Nat.eq_of_testBit_eq fun i => ?_
  rw [Nat.testBit_xor, enc_bit, enc_bit, enc_bit]
  unfold xorL
  rw [e, Nat.min_self, List.getD_eq_getElem?_getD, List.getElem?_map]
  by_cases hi : i < h.length
  · rw [List.getElem?_range hi]
    rfl
  · rw [List.getElem?_eq_none (by rw [List.length_range]; omega), List.getD_eq_getElem?_getD, List.getD_eq_getElem?_getD, List.getElem?_eq_none (by omega), List.getElem?_eq_none (by omega)]
    rfl
theorem enc_elim {h r : List Bool} (p : Nat) (e : r.length = h.length) : enc (elim h p r) = enc r ∨ enc (elim h p r) = enc r ^^^ enc h := by
  unfold elim
  split
  · exact .inr (enc_xor e)
  · exact .inl rfl
theorem elim_bit {h r : List Bool} {p : Nat} (e : r.length = h.length) (hp : h.getD p false = true) : (enc (elim h p r)).testBit p = false := by
  unfold elim
  split
  next hr => rw [enc_xor e, Nat.testBit_xor, enc_bit, enc_bit, hr, hp]; rfl
  next hr => rw [enc_bit]; simpa using hr
theorem rank_law (N : Nat) : ∀ (k : Nat) (rows : List (List Bool)), rows.length ≤ k → (∀ r ∈ rows, r.length = N) → ∃ hs : List Nat, Tri hs ∧ hs.length = rankF k rows ∧ (∀ v ∈ hs, v ∈ sp (rows.map enc)) ∧ ∀ v ∈ rows.map enc, v ∈ sp hs
  | 0, rows, hl, _ => by
    have : rows = [] := List.length_eq_zero_iff.mp (by omega)
    subst this
    exact ⟨[], .nil, rfl, (fun _ h => nomatch h), (fun _ h => nomatch h)⟩
  | k + 1, [], _, _ => ⟨[], .nil, rfl, (fun _ h => nomatch h), (fun _ h => nomatch h)⟩
  | k + 1, h :: rest, hl, hN => by
    have hlr : rest.length ≤ k := by rw [List.length_cons] at hl; omega
    have hh := hN h List.mem_cons_self
    have hr : ∀ r ∈ rest, r.length = h.length := fun r hr => by rw [hN r (List.mem_cons_of_mem _ hr), hh]
    cases hsp : spots h with
    | nil =>
      rw [rankF_no hsp]
      obtain ⟨hs, h1, h2, h3, h4⟩ := rank_law N k rest hlr (fun r hr => hN r (List.mem_cons_of_mem _ hr))
      refine ⟨hs, h1, h2, fun v hv => ?_, fun v hv => ?_⟩
      · exact sp_sub (fun w hw => sp_mem (List.mem_cons_of_mem _ hw)) v (h3 v hv)
      · rw [List.map_cons, List.mem_cons] at hv
        rcases hv with hv | hv
        · have : enc h = 0 := Nat.eq_of_testBit_eq fun i => by
            rw [enc_bit, Nat.zero_testBit]
            by_cases hi : i < h.length
            · have := List.filter_eq_nil_iff.mp hsp i (List.mem_range.mpr hi)
              simpa using this
            · rw [List.getD_eq_getElem?_getD, List.getElem?_eq_none (by omega)]
              rfl
          rw [hv, this]
          exact sp_zero hs
        · exact h4 v hv
    | cons p t =>
      rw [rankF_hd hsp]
      have hp : h.getD p false = true := by
        have : p ∈ spots h := by rw [hsp]; exact List.mem_cons_self
        exact (List.mem_filter.mp this).2
      obtain ⟨hs, h1, h2, h3, h4⟩ := rank_law N k (rest.map (elim h p)) (by rw [List.length_map]; exact hlr) (fun r hq => by
        obtain ⟨r', hq', rfl⟩ := List.mem_map.mp hq
        rw [elim_len p (hr r' hq')]
        exact hh)
      have hz : ∀ v ∈ (rest.map (elim h p)).map enc, v.testBit p = false := fun v hv => by
        obtain ⟨r1, hr1, rfl⟩ := List.mem_map.mp hv
        obtain ⟨r2, hr2, rfl⟩ := List.mem_map.mp hr1
        exact elim_bit (hr r2 hr2) hp
      refine ⟨enc h :: hs, .cons (t := p) (by rw [enc_bit]; exact hp) (fun x hx => sp_bit hz x (h3 x hx)) h1, by rw [List.length_cons, h2]; omega, fun v hv => ?_, fun v hv => ?_⟩
      · rcases List.mem_cons.mp hv with hv | hv
        · rw [hv]
          exact sp_mem List.mem_cons_self
        · refine sp_sub (fun w hw => ?_) v (h3 v hv)
          obtain ⟨r1, hr1, rfl⟩ := List.mem_map.mp hw
          obtain ⟨r2, hr2, rfl⟩ := List.mem_map.mp hr1
          have m2 : enc r2 ∈ sp ((h :: rest).map enc) := sp_mem (List.mem_cons_of_mem _ (List.mem_map.mpr ⟨r2, hr2, rfl⟩))
          have m1 : enc h ∈ sp ((h :: rest).map enc) := sp_mem List.mem_cons_self
          rcases enc_elim p (hr r2 hr2) with e | e
          · rw [e]; exact m2
          · rw [e]; exact sp_xor _ m2 m1
      · rw [List.map_cons, List.mem_cons] at hv
        have mh : enc h ∈ sp (enc h :: hs) := sp_mem List.mem_cons_self
        rcases hv with hv | hv
        · rw [hv]; exact mh
        · obtain ⟨r2, hr2, rfl⟩ := List.mem_map.mp hv
          have me : enc (elim h p r2) ∈ sp (enc h :: hs) := sp_cons.mpr (.inl (h4 _ (List.mem_map.mpr ⟨_, List.mem_map.mpr ⟨r2, hr2, rfl⟩, rfl⟩)))
          rcases enc_elim p (hr r2 hr2) with e | e
          · rw [e] at me; exact me
          · rw [e] at me
            have := sp_xor _ me mh
            rw [Nat.xor_assoc, Nat.xor_self, Nat.xor_zero] at this
            exact this
theorem rank_eq (h g : HallA) : rankL (AEb h g) = freeN h g := by
  obtain ⟨hs, h1, h2, h3, h4⟩ := rank_law (4 * h.1) (AEb h g).length (AEb h g) (Nat.le_refl _) (fun r hr => AEb_row hr)
  obtain ⟨k1, k2, k3, k4⟩ := heads_inv ((AEb h g).map enc) ((AEb h g).map enc) [] ⟨.nil, fun _ h => nomatch h⟩ (fun _ h => nomatch h) (fun n hn => sp_mem hn)
  show rankF _ _ = _
  rw [← h2]
  exact tri_eq h1 k1.tri (fun a ha => sp_sub k4 a (h3 a ha)) (fun b hb => sp_sub h4 b (k2 b hb))
end TF
/-! M3 -/
namespace TF
open PySem
/-! two people at most: the solutions are the answers -/
def imgX (n : Nat) (l : Look) (bs : List Bool) : List Look := imgL (List.replicate n l) bs
def ansOf (n : Nat) (bs : List Bool) : Ans := (List.range n).map fun x => [(imgX n (true, false) bs).getD x dot, (imgX n (true, true) bs).getD x dot, (imgX n (false, true) bs).getD x dot]
def lawAns (h g : HallA) : List Ans := ((signsL (4 * h.1)).filter (solves (AEb h g))).map (ansOf h.1)
theorem pm1 : (ansL (1, []) (1, [])).isPerm (lawAns (1, []) (1, [])) = true := by decide +kernel
theorem pm2 : (ansL (2, []) (2, [])).isPerm (lawAns (2, []) (2, [])) = true := by decide +kernel
theorem pm3 : (ansL (2, []) (2, [(0, 1)])).isPerm (lawAns (2, []) (2, [(0, 1)])) = true := by decide +kernel
theorem pm4 : (ansL (2, [(0, 1)]) (2, [])).isPerm (lawAns (2, [(0, 1)]) (2, [])) = true := by decide +kernel
theorem pm5 : (ansL (2, [(0, 1)]) (2, [(0, 1)])).isPerm (lawAns (2, [(0, 1)]) (2, [(0, 1)])) = true := by decide +kernel
theorem ans_perm {h g : HallA} (sh : Small h) (sg : Small g) (e : h.1 = g.1) : (ansL h g).Perm (lawAns h g) := by
  refine List.isPerm_iff.mp ?_
  rcases small_cases sh with rfl | rfl | rfl <;> rcases small_cases sg with rfl | rfl | rfl <;> first | exact pm1 | exact pm2 | exact pm3 | exact pm4 | exact pm5 | (exact absurd e (by decide))
end TF
/-! P22 -/
namespace TF
open PySem PySem.Spec PyProof.Rows L2

theorem block_get {α : Type} (m n : Nat) (F : Nat → Nat → α) {x y : Nat} (hx : x < m) (hy : y < n) : ((List.range m).flatMap fun x => (List.range n).map (F x))[x * n + y]? = some (F x y) := by
  have hl : ∀ k, ((List.range k).flatMap fun x => (List.range n).map (F x)).length = k * n := fun k => by
    induction k with
    | zero => simp
    | succ k ih => rw [List.range_succ, List.flatMap_append, List.flatMap_singleton, List.length_append, ih, List.length_map, List.length_range, Nat.succ_mul]
  induction m with
  | zero => omega
  | succ m ih =>
    rw [List.range_succ, List.flatMap_append, List.flatMap_singleton]
    by_cases h : x < m
    · have : (x + 1) * n ≤ m * n := Nat.mul_le_mul_right n h
      rw [Nat.succ_mul] at this
      rw [List.getElem?_append_left (by rw [hl]; omega)]
      exact ih h
    · have e : x = m := by omega
      subst e
      rw [List.getElem?_append_right (by rw [hl]; omega), hl, show x * n + y - x * n = y by omega, List.getElem?_map, List.getElem?_range hy]
      rfl
theorem bits_of : ∀ {ds : List PyData}, (∀ d ∈ ds, ∃ k : Nat, k < 2 ∧ d = .int (k : Int)) → ∃ bs : List Bool, ds = (bs.map bit).map .int
  | [], _ => ⟨[], rfl⟩
  | d :: ds, h => by
    obtain ⟨bs, e⟩ := bits_of (fun x hx => h x (List.mem_cons_of_mem _ hx))
    obtain ⟨k, k1, k2⟩ := h d List.mem_cons_self
    rcases (show k = 0 ∨ k = 1 by omega) with z | z
    · subst z
      exact ⟨false :: bs, by rw [e, k2]; rfl⟩
    · subst z
      exact ⟨true :: bs, by rw [e, k2]; rfl⟩
theorem shaped_txt (l : List Look) : SeqAt.shaped (.str (txt l)) = true := by
  have e : (PyData.str (txt l)).canLay0 = true := by
    rw [PyData.canLay0]
    show ((txt l).cps.all fun c => decide (c < 0x110000)) = true
    rw [Array.all_eq_true]
    intro i hi
    refine decide_eq_true ?_
    have : ∀ a b : Bool, chr (a, b) < 0x110000 := by decide
    have h2 : (txt l).cps[i] = chr (l.getD i dot) := by
      have hi' : i < l.length := by rw [← txt_size]; exact hi
      have h3 : (txt l).cps[i]? = some (chr l[i]) := by
        show ((l.map chr).toArray)[i]? = _
        rw [List.getElem?_toArray, List.getElem?_map, List.getElem?_eq_getElem hi']
        rfl
      rw [Array.getElem?_eq_getElem hi] at h3
      rw [Option.some.inj h3, List.getD_eq_getElem?_getD, List.getElem?_eq_getElem hi']
      rfl
    rw [h2]
    exact this _ _
  unfold SeqAt.shaped
  rw [e]
  rfl
theorem okS_ttD {A : List Ans} (hl : A.length ≤ 1000) (ht : ∀ a ∈ A, a.length ≤ 1000) : okS (okS ok0) (.tuple ((A.map ttD).mergeSort (PySem.W.dataLe false id))) := by
  refine ⟨_, rfl, by rw [List.length_mergeSort, List.length_map]; exact hl, fun d hd => ?_⟩
  have hm := (List.mergeSort_perm (A.map ttD) (PySem.W.dataLe false id)).mem_iff.mp hd
  obtain ⟨a, ha, rfl⟩ := List.mem_map.mp hm
  refine ⟨_, rfl, by rw [List.length_map]; exact ht a ha, fun x hx => ?_⟩
  obtain ⟨l, _, rfl⟩ := List.mem_map.mp hx
  exact .inr ⟨_, rfl, shaped_txt l⟩
section
variable {P : Program} {w : World} {K : PySem.W.Frag} {mg : Str → Option Value} {base : Heap} {C : Addr} {σ : L2.St} {H H' : Hp} {ta tb tc td te ty : TE} {S : Scr} {r : Addr} {D : Ends} {g : TG}
theorem msl_nil : MsL [] H := fun _ h => nomatch h
theorem m_asg2 {i j : Nat} {p : PyData → PyData → Prop} (hR : RowOk S r H) (h : EvM S r te σ H (fun d => ∃ x y, p x y ∧ d = .tuple [x, y])) (k : ∀ v w x y H1, Ch [r] H H1 → RowOk S r H1 → Tp H H1 → p x y → Dt H1 v x → Dt H1 w y → D.nx ((σ.set i (some v)).set j (some w)) H1) : tAsg te (gTup K 2 (gCons (gName i) (gCons (gName j) gNil))) D σ H :=
  h H (Ch.refl _ _) hR _ fun u d H2 c2 R2 ⟨x, y, pxy, ed⟩ hu => by
    subst ed
    exact g_tup2 hu fun v w hv hw => k v w x y H2 c2 R2 (c2.tp hR.ms) pxy hv hw
theorem ev_ixTx {ls : List Look} {i : Nat} (ha : Ev ta σ H (.d (.str (txt ls)))) (hb : Ev tb σ H (.d (.int (i : Int)))) (hi : i < ls.length) (hz : ls.length ≤ 1000) : Ev (tOp rIxS ta tb) σ H (.d (.str (txt [ls.getD i dot]))) := by
  refine Ev.to (ev_ixS (c := chr (ls.getD i dot)) ha hb (by rw [txt_len]; omega) ?_) rfl
  show ((ls.map chr).toArray.toList)[i]? = _
  rw [List.toList_toArray, List.getElem?_map, List.getElem?_eq_getElem hi, List.getD_eq_getElem?_getD, List.getElem?_eq_getElem hi]
  rfl
def sp_law (K : PySem.W.Frag) : Sp := fun vs H Q _ => ∃ a, ∃ ns : List Int, vs = [.ref a] ∧ SqL K H a (ns.map V.int) ∧ ∀ H2, Q (.bl true) H2
theorem ok_law (T : Tx K mg C) {f : Addr} {fd : FuncData} (F : C8.Fun K "law" "law" s_law f fd) : FnOk P w K mg base C8.CX0 8 f fd ["_law_script"] (sp_law K) := by
  refine C8.fn0 F sc_law (fun vs H Q E ⟨_, _, e, _⟩ => by rw [e]; rfl) (fun cdv A outer s H vs Q E hr h => ?_)
  obtain ⟨a, ns, rfl, hS, q⟩ := h
  refine ⟨_, (pss_cons (ps_set (i := 1) sc_law.nd rfl (Or.inr rfl) (pe_lst (pa_cons (pv 0) (pa_cons pe_int (pa_cons pe_int (pa_cons pe_int pa_nil))))))
      (pss_cons (ps_set (i := 2) sc_law.nd rfl (Or.inl rfl) (C8.pe_c (c_l_hall T) hr (by decide) (by rfl) (pa_cons (pv 1) (pa_cons pe_int pa_nil))))
      (pss_cons (ps_asg (pe_tup (pa_cons (pe_ix (k_ix_tup K rfl) (pv 2) pe_int (fun _ _ => rfl)) (pa_cons (C8.pe_c (c_l_other T) hr (by decide) (by rfl) (pa_cons (pv 1) (pa_cons (pv 2) pa_nil))) pa_nil))) (k_pg_tup K rfl (n := 2) rfl (pgs_cons (pg_name (i := 3) sc_law.nd rfl (Or.inr rfl)) (pgs_cons (pg_name (i := 4) sc_law.nd rfl (Or.inl rfl)) pgs_nil))))
      (pss_cons (ps_set (i := 5) sc_law.nd rfl (Or.inl rfl) (C8.pe_c (c_equations T) hr (by decide) (by rfl) (pa_cons (pv 2) (pa_cons (pv 4) pa_nil))))
      (pss_cons (ps_if (pt_cmpR op_ne (pe_callB (k_lenQ K rfl) (by rfl) T.b_len (by decide +kernel) (pa_cons (pv 5) pa_nil)) (pe_op op_mul (pv 3) (pv 3)) (by rfl))
      (pss_one (ps_ret pe_bl))
      pss_nil)
      (pss_cons (ps_if (pt_cmpR (k_op_neNil K rfl hr.units0) (pe_lc (own := [("_law_one", 14)]) rfl sc_law.nd (k_pi_tup K rfl (pv 5)) (blkOk_by (own := [("_law_one", 14)]) (N := n_law) (sc := C8.fnScope s_law) (by decide +kernel)) (fun _ _ _ _ _ => (pg_name (i := 14) sc_law.nd rfl (Or.inl rfl))) (fun _ _ _ _ _ => pts_one (PW.pt (pw_or (pt_cmpR op_ne (pe_callB (k_lenQ K rfl) (by rfl) T.b_len (by decide +kernel) (pa_cons (pv 14) pa_nil)) (pe_op op_mul pe_int (pv 3)) (by rfl)) (pw_or1 (pt_cmpR (k_op_neNil K rfl hr.units0) (pe_lc (own := [("_law_sign", 15)]) rfl sc_law.nd (k_pi_tup K rfl (pv 14)) (blkOk_nf (own := [("_law_sign", 15)]) (N := n_law) (by decide +kernel)) (fun _ _ _ _ _ => (pg_name (i := 15) sc_law.nd rfl (Or.inl rfl))) (fun _ _ _ _ _ => pts_one (pt_cmpR (k_op_notIn_seq K rfl) (pv 15) (pe_tup (pa_cons pe_int (pa_cons pe_int pa_nil))) (by rfl))) (fun _ _ _ _ _ => (pv 15))) (pe_lst pa_nil) (by rfl)))))) (fun _ _ _ _ _ => pe_int)) (pe_lst pa_nil) (by rfl))
      (pss_one (ps_ret pe_bl))
      pss_nil)
      (pss_cons (ps_for PassesOwn.never rfl (pi_range1 (by rfl) T.b_range (pa_cons pe_int pa_nil)) (pg_name (i := 6) sc_law.nd rfl (Or.inl rfl))
      (pss_cons (ps_set (i := 7) sc_law.nd rfl (Or.inl rfl) (pe_callTy (k_tupQ K rfl) (by rfl) T.b_tuple (by decide +kernel) (pa_cons (pe_lc (own := [("_law_at", 16)]) rfl sc_law.nd (pi_range1 (by rfl) T.b_range (pa_cons (pe_op op_mul pe_int (pv 3)) pa_nil)) (blkOk_by (own := [("_law_at", 16)]) (N := n_law) (sc := C8.fnScope s_law) (by decide +kernel)) (fun _ _ _ _ _ => (pg_name (i := 16) sc_law.nd rfl (Or.inl rfl))) (fun _ _ _ _ _ => pts_nil) (fun _ _ _ _ _ => (C8.pe_c (c_l_taken T) hr (by decide) (by rfl) (pa_cons (pv 1) (pa_cons pe_int pa_nil))))) pa_nil)))
      (pss_one (ps_for PassesOwn.never rfl (pi_range1 (by rfl) T.b_range (pa_cons (pv 3) pa_nil)) (pg_name (i := 8) sc_law.nd rfl (Or.inl rfl))
      (pss_cons (ps_set (i := 9) sc_law.nd rfl (Or.inl rfl) (C8.pe_c (c_l_image T) hr (by decide) (by rfl) (pa_cons (C8.pe_c (c_l_own T) hr (by decide) (by rfl) (pa_cons (pv 2) (pa_cons (pv 8) pa_nil))) (pa_cons (pv 7) pa_nil))))
      (pss_one (ps_for PassesOwn.never rfl (pi_range1 (by rfl) T.b_range (pa_cons (pv 3) pa_nil)) (pg_name (i := 10) sc_law.nd rfl (Or.inl rfl))
      (pss_cons (ps_set (i := 11) sc_law.nd rfl (Or.inl rfl) (pe_op op_mod (pe_callB (k_sum K rfl rfl) (by rfl) T.b_sum (by decide +kernel) (pa_cons (pe_lc (own := [("_law_a", 17), ("_law_b", 18)]) rfl sc_law.nd (k_pi_zipA K rfl (by rfl) T.b_zip (pa_cons (pe_ix (k_ix_tup K rfl) (pv 5) (pe_op op_add (pe_op op_mul (pv 8) (pv 3)) (pv 10)) (fun _ _ => rfl)) (pa_cons (pv 7) pa_nil))) (blkOk_by (own := [("_law_a", 17), ("_law_b", 18)]) (N := n_law) (sc := C8.fnScope s_law) (by decide +kernel)) (fun _ _ _ _ _ => (k_pg_tup K rfl (n := 2) rfl (pgs_cons (pg_name (i := 17) sc_law.nd rfl (Or.inl rfl)) (pgs_cons (pg_name (i := 18) sc_law.nd rfl (Or.inl rfl)) pgs_nil)))) (fun _ _ _ _ _ => pts_nil) (fun _ _ _ _ _ => (pe_op op_mul (pv 17) (pv 18)))) pa_nil)) pe_int))
      (pss_one (ps_if (pt_cmpR op_ne (pe_cmpR op_eq (pv 11) pe_int (by rfl)) (C8.pe_c (c_l_oddly T) hr (by decide) (by rfl) (pa_cons (pv 9) (pa_cons (C8.pe_c (c_l_own T) hr (by decide) (by rfl) (pa_cons (pv 4) (pa_cons (pv 10) pa_nil))) pa_nil))) (by rfl))
      (pss_one (ps_ret pe_bl))
      pss_nil))))))))))
      (pss_cons (ps_if (pt_not (pt_val (C8.pe_c (c_alike0 T) hr (by decide) (by rfl) (pa_cons (C8.pe_c (c_free_signs T) hr (by decide) (by rfl) (pa_cons (pv 2) (pa_cons (pv 4) pa_nil))) (pa_cons (pe_op op_sub (pe_op op_mul pe_int (pv 3)) (C8.pe_c (c_l_rank T) hr (by decide) (by rfl) (pa_cons (pv 5) pa_nil))) pa_nil)))))
      (pss_one (ps_ret pe_bl))
      pss_nil)
      (pss_cons (ps_if (pt_cmpR op_gt (pv 3) pe_int (by rfl))
      (pss_one (ps_ret pe_bl))
      pss_nil)
      (pss_cons (ps_set (i := 12) sc_law.nd rfl (Or.inl rfl) (pe_lst pa_nil))
      (pss_cons (ps_for PassesOwn.never rfl (k_pi_list K rfl (C8.pe_c (c_l_signs T) hr (by decide) (by rfl) (pa_cons (pe_op op_mul pe_int (pv 3)) pa_nil))) (pg_name (i := 7) sc_law.nd rfl (Or.inl rfl))
      (pss_one (ps_if (pt_val (C8.pe_c (c_l_solves T) hr (by decide) (by rfl) (pa_cons (pv 5) (pa_cons (pv 7) pa_nil))))
      (pss_cons (ps_set (i := 13) sc_law.nd rfl (Or.inr rfl) (pe_lst (pa_cons (C8.pe_c (c_l_image T) hr (by decide) (by rfl) (pa_cons (pe_op op_mulS pe_str (pv 3)) (pa_cons (pv 7) pa_nil))) (pa_cons (C8.pe_c (c_l_image T) hr (by decide) (by rfl) (pa_cons (pe_op op_mulS pe_str (pv 3)) (pa_cons (pv 7) pa_nil))) (pa_cons (C8.pe_c (c_l_image T) hr (by decide) (by rfl) (pa_cons (pe_op op_mulS pe_str (pv 3)) (pa_cons (pv 7) pa_nil))) pa_nil)))))
      (pss_one (ps_expr (k_bm K rfl PySem.F.plainAttrs_list PySem.F.slot_list_append PySem.F.type_list_append mt_append (pv 12) (pa_cons (pe_callTy (k_tupQ K rfl) (by rfl) T.b_tuple (by decide +kernel) (pa_cons (pe_lc (own := [("_law_x", 8)]) rfl sc_law.nd (pi_range1 (by rfl) T.b_range (pa_cons (pv 3) pa_nil)) (blkOk_by (own := [("_law_x", 8)]) (N := n_law) (sc := C8.fnScope s_law) (by decide +kernel)) (fun _ _ _ _ _ => (pg_name (i := 8) sc_law.nd rfl (Or.inl rfl))) (fun _ _ _ _ _ => pts_nil) (fun _ _ _ _ _ => (pe_op op_addS (pe_op op_addS (pe_ix ix_str (pe_ix (k_ix_list K rfl) (pv 13) pe_int (fun _ _ => rfl)) (pv 8) (fun _ _ => rfl)) (pe_ix ix_str (pe_ix (k_ix_list K rfl) (pv 13) pe_int (fun _ _ => rfl)) (pv 8) (fun _ _ => rfl))) (pe_ix ix_str (pe_ix (k_ix_list K rfl) (pv 13) pe_int (fun _ _ => rfl)) (pv 8) (fun _ _ => rfl))))) pa_nil)) pa_nil)))))
      pss_nil)))
      (pss_one (ps_ret (C8.pe_c (c_alike2 T) hr (by decide) (by rfl) (pa_cons (C8.pe_c (c_answers T) hr (by decide) (by rfl) (pa_cons (pv 2) (pa_cons (pv 4) pa_nil))) (pa_cons (pe_callTy (k_tupQ K rfl) (by rfl) T.b_tuple (by decide +kernel) (pa_cons (pe_callB (k_sortedD K rfl hr.units) (by rfl) T.b_sorted (by decide +kernel) (pa_cons (pv 12) pa_nil)) pa_nil)) pa_nil)))))))))))))))), ?_⟩
  refine seq ?_
  refine s_asgP (R := fun H u => ∃ r, u = .ref r ∧ RowOk (K, a) r H) (fun H1 e Q q => ?_) (fun u H1 e1 ⟨r, eu, hR⟩ => ?_)
  · refine ⟨_, rfl, ?_⟩
    exact ⟨by show 4 ≤ sizeLine; decide, fun p hp => q _ _ (same_new hp) ⟨p, rfl, 0, 7211, 0, ns, upd_same, Int.le_refl _, sqL_same (sqL_same hS e) (same_new hp)⟩⟩
  subst eu
  dsimp only
  refine seq ?_
  refine m_asg (S := (K, a)) hR (m_call (args := fun _ : Unit => [.d (.int 4)]) () rfl hR.ms (fun H1 c R t => ea_cons ev_int ea_nil) trivial) (fun v2 d2 H2 c2 R2 t2 ⟨h, okh, ed⟩ hv2 => ?_)
  subst ed
  dsimp only
  have ok1 : 1 ≤ h.1 := okh.1
  have ok4 : h.1 ≤ 4 := okh.2.1
  refine seq ?_
  refine m_asg2 (p := fun x y => x = .int (h.1 : Int) ∧ ∃ g : HallA, HOk g ∧ g.1 = h.1 ∧ y = hD g) R2 (EvM.mono (m_tup (ma_cons R2.ms (m_of R2.ms (fun H3 c3 R3 t3 => ev_hn (ev_varD rfl (hv2.mono t3)))) (ma_cons R2.ms (m_call h rfl R2.ms (fun H3 c3 R3 t3 => ea_cons (ev_varD rfl (hv2.mono t3)) ea_nil) okh) ma_nil)) (fun ds ⟨d, es, _, ⟨d', es', _, h2, h3⟩, h4⟩ => by rw [h4, h3, h2]; show 2 ≤ 100000; omega)) (fun d ⟨ds, ⟨d1, es, k1, ⟨d2, es', k2, k3, k4⟩, k5⟩, e⟩ => ⟨d1, d2, ⟨k1, k2⟩, by rw [e, k5, k4, k3]⟩)) (fun v3 v4 x y H3 c3 R3 t3 ⟨px, g, okg, hgh, py⟩ hv3 hv4 => ?_)
  subst px py
  have ev3 := hv3.intE
  subst ev3
  dsimp only
  have k2 := hv2.mono t3
  have two : twoOk (h, g) := ⟨okh, okg, hgh.symm⟩
  refine seq ?_
  have hAE : (PyData.tuple ((AE h g).map rowD)) = rowsD (AEb h g) := by rw [AE_bits, List.map_map]; rfl
  refine s_asgE (s' := .d (rowsD (AEb h g))) (e_equations (ev_varD rfl k2) (ev_varD rfl hv4) two) (by rw [hAE]) (fun v5 H4 e4 hv5 => ?_)
  replace hv5 : Dt H4 v5 (rowsD (AEb h g)) := hv5
  dsimp only
  have R4 := R3.same e4
  have m2 := k2.mono (same_tp e4)
  have m4 := hv4.mono (same_tp e4)
  have hlen : ((AEb h g).map bitsD).length = h.1 * h.1 := by rw [List.length_map, AEb_len]
  have hn16 : h.1 * h.1 ≤ 4 * 4 := Nat.mul_le_mul ok4 ok4
  have cm : ∀ n : Nat, n ≤ 4 → ∀ j : Int, CMul (n : Int) j := fun n hn j => by left; exact ⟨by omega, by omega⟩
  refine seq ?_
  refine s_noE (et_test (ev_neI (ev_lenT (ds := (AEb h g).map bitsD) (ev_varD rfl hv5)) (ev_I (ev_varD rfl (.int _)) (ev_varD rfl (.int _)) (cm _ ok4 _)))) ?_ (fun H5 e5 => ?_)
  · rw [hlen, Int.natCast_mul, decide_eq_true rfl]; rfl
  refine s_next ?_
  dsimp only
  refine seq ?_
  have n5 := hv5.mono (same_tp e5)
  refine s_noE (et_test (ev_neNil (EvF.ev (ev_lcN (fun _ => false) (fun _ => .int 1) (ei_tup (ds := (AEb h g).map bitsD) (ev_varD rfl n5) (fun _ h => nomatch h)) (by rw [hlen]; omega) (fun _ => rfl) (fun i z H6 hi e6 hz => ?_) (fun i z H6 hi e6 hz hf => absurd hf Bool.false_ne_true))))) ?_ (fun H6 e6 => ?_)
  · have hi' : i < (AEb h g).length := by rw [List.length_map] at hi; exact hi
    have hz' : Dt H6 z (((AEb h g).map bitsD).getD i .none) := hz
    rw [getD_map hi'] at hz'
    have hrl := AEb_row (List.getElem_mem hi')
    have hbl : (((AEb h g)[i].map bit).map PyData.int).length = 4 * h.1 := by rw [List.length_map, List.length_map]; exact hrl
    refine EvT.to (et_or (et_test (ev_neI (ev_lenT (ds := ((AEb h g)[i].map bit).map .int) (ev_varD rfl hz')) (ev_I ev_int (ev_varD rfl (.int _)) (by left; exact ⟨by decide, by decide⟩)))) (fun _ => et_test (ev_neNil (EvF.ev (ev_lcN (fun _ => false) (fun _ => .int 0) (ei_tup (ds := ((AEb h g)[i].map bit).map .int) (ev_varD rfl hz') msl_nil) (by rw [hbl]; omega) (fun _ => rfl) (fun i2 z2 H7 hi2 e7 hz2 => ?_) (fun i2 z2 H7 hi2 e7 hz2 hf => absurd hf Bool.false_ne_true)))))) ?_
    · rw [hbl] at hi2
      have hz3 : Dt H7 z2 ((((AEb h g)[i].map bit).map PyData.int).getD i2 .none) := hz2
      rw [rowD_get (by omega)] at hz3
      refine EvT.to (et_test (ev_notInF (ds := [.int 0, .int 1]) (ev_varD rfl hz3) (ev_tup (ea_consD ev_int (ea_consD ev_int ea_nilD)) (by show 2 ≤ 100000; omega)) rfl rfl)) ?_
      generalize (AEb h g)[i].getD i2 false = b
      cases b <;> rfl
    · rw [hbl, show ((4 * h.1 : Nat) : Int) = 4 * (h.1 : Int) by omega, decide_eq_true rfl]
      unfold given
      rw [List.filter_eq_nil_iff.mpr (fun _ _ => by decide)]
      rfl
  · unfold given
    rw [List.filter_eq_nil_iff.mpr (fun _ _ => by decide)]
    rfl
  refine s_next ?_
  dsimp only
  refine seq ?_
  have R6 := (R4.same e5).same e6
  have p2 := m2.mono (same_tp (e5.trans e6))
  have p4 := m4.mono (same_tp (e5.trans e6))
  have p5 := n5.mono (same_tp e6)
  -- six draws of signs
  refine s_for (ms := [r]) (ei_rng1 (n := 6) (ea_cons ev_int ea_nil) (by omega)) (fun Hs es => ?_)
  have Rs := R6.same es
  have s2 := p2.mono (same_tp es)
  have s4 := p4.mono (same_tp es)
  have s5 := p5.mono (same_tp es)
  refine ⟨fun i σ' H' => ∃ j6 j7 j8 j9 j10 j11, σ' = [some (.ref a), some (.ref r), some v2, some (.int (h.1 : Int)), some v4, some v5, j6, j7, j8, j9, j10, j11, none, none, none, none, none, none, none] ∧ Ch [r] Hs H' ∧ RowOk (K, a) r H', ?_, ?_, ?_, ?_⟩
  · exact ⟨_, _, _, _, _, _, rfl, Ch.refl _ _, Rs⟩
  · rintro i σ' H' ⟨_, _, _, _, _, _, _, c, _⟩
    exact c
  · rintro i z σ' H0 H' hi ⟨j6, j7, j8, j9, j10, j11, rfl, c, Rc⟩ e hz
    have Rz := Rc.same e
    have cz := c.then e
    have t0 := cz.tp Rs.ms
    show tSeq _ _ _ _ _
    refine seq ?_
    refine m_asg (p := fun d => ∃ bs : List Bool, bs.length = 4 * h.1 ∧ d = bitsD bs) Rz (EvM.mono (m_tupL (m_lcN (ok := fun m => m = 4 * h.1) (it := fun i => .d (.int (i : Nat))) false (fun _ d => ∃ k : Nat, k < 2 ∧ d = .int (k : Int)) (mi_of Rz.ms (fun H7 c7 R7 t7 => ei_rng1 (n := 4 * h.1) (ea_cons (Ev.to (ev_I ev_int (ev_varD rfl (.int _)) (by left; exact ⟨by decide, by decide⟩)) (by rw [show ((4 * h.1 : Nat) : Int) = 4 * (h.1 : Int) by omega])) ea_nil) (by omega))) (fun m hm => by omega) (fun _ => rfl) (fun i m x H7 hm hi c7 R7 hx => ?_) (fun i m x H7 hm hi c7 R7 hx => m_taken (m := 2) rfl R7.ms (fun H8 c8 R8 t8 => ev_int) (by omega) (by omega)))) (fun d hd => ?_)) (fun v7 d7 H7 c7 R7 t7 ⟨bs, hbl, ed⟩ hv7 => ?_)
    · exact fun H2 c2 R2 Q q => q true H2 (Ch.refl _ _) R2 (fun z => nomatch z)
    · obtain ⟨ds, ⟨m, hm, hs⟩, ed⟩ := hd
      obtain ⟨bs, eb⟩ := bits_of (fun d hd => by obtain ⟨i, _, h⟩ := hs.all d hd; exact h)
      refine ⟨bs, ?_, by rw [ed, eb]; rfl⟩
      have := hs.full
      rw [eb, List.length_map, List.length_map] at this
      omega
    subst ed
    dsimp only
    have x2 := s2.mono (t0.trans t7)
    have x4 := s4.mono (t0.trans t7)
    have x5 := s5.mono (t0.trans t7)
    refine s_for (ms := []) (ei_rng1 (n := h.1) (ea_cons (ev_varD rfl (.int _)) ea_nil) (by omega)) (fun Ht et => ?_)
    refine ⟨fun i σ' H' => ∃ j6 j8 j9 j10 j11, σ' = [some (.ref a), some (.ref r), some v2, some (.int (h.1 : Int)), some v4, some v5, j6, some v7, j8, j9, j10, j11, none, none, none, none, none, none, none] ∧ Same Ht H', ?_, ?_, ?_, ?_⟩
    · exact ⟨_, _, _, _, _, rfl, Same.refl _⟩
    · rintro i σ' H' ⟨_, _, _, _, _, _, c⟩
      exact same_ch c
    · rintro x z σ' H0 H8 hx ⟨j6, j8, j9, j10, j11, rfl, c8⟩ e8 hz
      have ez : z = .int (x : Nat) := Dt.intE hz
      subst ez
      have sx := (et.trans c8).trans e8
      show tSeq _ _ _ _ _
      refine seq ?_
      have l1 : (ownL h x).length = h.1 := by unfold ownL; rw [List.length_map, List.length_range]
      refine s_asg (e_l_image (e_l_own (ev_varD rfl (x2.mono (same_tp sx))) (ev_varD rfl (.int _)) okh) (ev_varD rfl (hv7.mono (same_tp sx))) ⟨by rw [l1]; exact hbl, by rw [l1]; omega⟩) (fun v9 H9 e9 hv9 => ?_)
      have ev9 := Dt.strE hv9
      subst ev9
      dsimp only
      refine s_for (ms := []) (ei_rng1 (n := h.1) (ea_cons (ev_varD rfl (.int _)) ea_nil) (by omega)) (fun Hu eu => ?_)
      refine ⟨fun i σ' H' => ∃ j6 j10 j11, σ' = [some (.ref a), some (.ref r), some v2, some (.int (h.1 : Int)), some v4, some v5, j6, some v7, some (.int (x : Nat)), some (.str (txt (imgL (ownL h x) bs))), j10, j11, none, none, none, none, none, none, none] ∧ Same Hu H', ?_, ?_, ?_, ?_⟩
      · exact ⟨_, _, _, rfl, Same.refl _⟩
      · rintro i σ' H' ⟨_, _, _, _, c⟩
        exact same_ch c
      · rintro y z σ' H0 H10 hy ⟨j6, j10, j11, rfl, c10⟩ e10 hz
        have ez : z = .int (y : Nat) := Dt.intE hz
        subst ez
        have sy := ((sx.trans e9).trans eu).trans (c10.trans e10)
        have y4 := x4.mono (same_tp sy)
        have y5 := x5.mono (same_tp sy)
        have y7 := hv7.mono (same_tp sy)
        show tSeq _ _ _ _ _
        refine seq ?_
        have hget : ((AEb h g).map bitsD)[x * h.1 + y]? = some (bitsD (EQb h g x y)) := by
          rw [List.getElem?_map]
          unfold AEb
          rw [block_get h.1 h.1 (fun x y => EQb h g x y) hx hy]
          rfl
        refine s_asg (s := .d (.int (dotI (EQb h g x y) bs % 2))) (ev_I (ev_dot (j := 17) (j' := 18) (r := EQb h g x y) (bs := bs) (ev_ixT (i := x * h.1 + y) (ev_varD rfl y5) (Ev.to (ev_I0 (ev_I (ev_varD rfl (.int _)) (ev_varD rfl (.int _)) (by right; exact ⟨by omega, by omega⟩)) (ev_varD rfl (.int _))) (by rw [Int.natCast_add, Int.natCast_mul])) hget) (ev_varD rfl y7) (by rw [EQb_len]; omega) (fun _ _ => rfl) (fun _ _ => rfl) (fun _ _ => rfl)) ev_int (show (0 : Int) < 2 by decide)) (fun v11 H11 e11 hv11 => ?_)
        have ev11 := Dt.intE hv11
        subst ev11
        dsimp only
        have l3 : (imgL (ownL h x) bs).length = h.1 := by unfold imgL; rw [List.length_map, List.length_range, l1]
        refine s_noE (et_test (ev_neB (ev_eqI (ev_varD rfl (.int _)) ev_int) (e_l_oddly (ev_varD rfl (.str _)) (e_l_own (ev_varD rfl (y4.mono (same_tp e11))) (ev_varD rfl (.int _)) okg) (by rw [l3]; omega)))) ?_ (fun H12 e12 => ?_)
        · rw [odd_law okh okg hgh.symm bs hbl]
          simp
        · exact s_next ⟨_, _, _, rfl, ((c10.trans e10).trans e11).trans e12⟩
      · rintro σ' H10 ⟨j6, j10, j11, rfl, c10⟩
        exact ⟨_, _, _, _, _, rfl, (((c8.trans e8).trans e9).trans eu).trans c10⟩
    · rintro σ' H8 ⟨j6, j8, j9, j10, j11, rfl, c8⟩
      exact ⟨_, _, _, _, _, _, rfl, (cz.trans c7).then (et.trans c8), (R7.same et).same c8⟩
  · rintro σ' H7 ⟨j6, j7, j8, j9, j10, j11, rfl, c, Rc⟩
    have t0 := c.tp Rs.ms
    have x2 := s2.mono t0
    have x4 := s4.mono t0
    have x5 := s5.mono t0
    dsimp only
    refine seq ?_
    refine s_noE (et_not (et_B (e_alike (ok := ok0) (x := .int (4 * (h.1 : Int) - ((freeN h g : Nat) : Int))) (e_free_signs (ev_varD rfl x2) (ev_varD rfl x4) two) (Ev.to (ev_I0 (ev_I ev_int (ev_varD rfl (.int _)) (by left; exact ⟨by decide, by decide⟩)) (e_l_rank (rows := AEb h g) (ev_varD rfl x5) ⟨by rw [AEb_len]; omega, 4 * h.1, by omega, fun r hr => AEb_row hr⟩)) (by rw [rank_eq])) (.inl ⟨_, rfl⟩)))) rfl (fun H8 e8 => ?_)
    refine s_next ?_
    dsimp only
    refine seq ?_
    refine s_when (et_test (ev_B0 (ev_varD rfl (.int _)) ev_int)) (fun _ H9 e9 => ?_) (fun hb H9 e9 => ?_)
    · exact s_ret (s := .d (.bool true)) ev_bl (fun u H10 e10 hu => by rw [Dt.blE hu]; exact q H10)
    have hn2 : h.1 ≤ 2 := by
      rw [decide_eq_false_iff_not] at hb
      omega
    have sm : Small h := ⟨okh, hn2⟩
    have smg : Small g := ⟨okg, by omega⟩
    have w2 := x2.mono (same_tp (e8.trans e9))
    have w4 := x4.mono (same_tp (e8.trans e9))
    have w5 := x5.mono (same_tp (e8.trans e9))
    dsimp only
    refine seq ?_
    refine s_asgF (ev_lst (ds := []) ea_nilD (Nat.zero_le _)) (fun p xs H10 e10 hp0 hp1 hp2 => ?_)
    have hp2' : xs = [] := by cases hp2; rfl
    subst hp2'
    dsimp only
    refine seq ?_
    have z2 := w2.mono (same_tp e10)
    have z4 := w4.mono (same_tp e10)
    have z5 := w5.mono (same_tp e10)
    have hsl : ((signsL (4 * h.1)).map bitsD).length = 2 ^ (4 * h.1) := by rw [List.length_map, signsL_len]
    have hp8 : 2 ^ (4 * h.1) ≤ 2 ^ 8 := Nat.pow_le_pow_right (by omega) (by omega)
    refine s_for (ms := [p]) (ei_lstF (e_l_signs (k := 4 * h.1) (Ev.to (ev_I ev_int (ev_varD rfl (.int _)) (by left; exact ⟨by decide, by decide⟩)) (by rw [show ((4 * h.1 : Nat) : Int) = 4 * (h.1 : Int) by omega])) (by omega)) (ms_one hp1)) (fun Ht et => ?_)
    have hpt := et _ _ hp1
    refine ⟨fun i σ' H' => ∃ j6 j7 j8 j9 j10 j11 j13, σ' = [some (.ref a), some (.ref r), some v2, some (.int (h.1 : Int)), some v4, some v5, j6, j7, j8, j9, j10, j11, some (.ref p), j13, none, none, none, none, none] ∧ Ch [p] Ht H' ∧ ∃ acc, H' p = some (.lst acc) ∧ Dts H' acc (((((signsL (4 * h.1)).take i).filter (solves (AEb h g))).map (ansOf h.1)).map ttD), ?_, ?_, ?_, ?_⟩
    · exact ⟨_, _, _, _, _, _, _, rfl, Ch.refl _ _, [], hpt, .nil⟩
    · rintro i σ' H' ⟨_, _, _, _, _, _, _, _, c, _⟩
      exact c
    · rintro i z σ' H0 H11 hi ⟨j6, j7, j8, j9, j10, j11, j13, rfl, c11, acc, g1, g2⟩ e11 hz
      have hi' : i < (signsL (4 * h.1)).length := by rw [List.length_map] at hi; exact hi
      have hz' : Dt H11 z (((signsL (4 * h.1)).map bitsD).getD i .none) := hz
      rw [getD_map hi'] at hz'
      have hbl := signsL_row (List.getElem_mem hi')
      have c12 := c11.then e11
      have tp := (same_tp et).trans ((c11.tp1 hpt).trans (same_tp e11))
      have y5 := z5.mono tp
      have g1' := e11 _ _ g1
      have g2' := g2.mono (same_tp e11)
      have hal := g2'.length
      have hal2 : (((((signsL (4 * h.1)).take i).filter (solves (AEb h g))).map (ansOf h.1)).map ttD).length ≤ i := by
        rw [List.length_map, List.length_map]
        have e1 := List.length_filter_le (solves (AEb h g)) ((signsL (4 * h.1)).take i)
        rw [List.length_take] at e1
        omega
      have hi2 : i < 2 ^ 8 := by rw [signsL_len] at hi'; omega
      generalize hbs : (signsL (4 * h.1))[i] = bs at hz' hbl
      refine s_if (b := solves (AEb h g) bs) (et_B (e_l_solves (ev_varD rfl y5) (ev_varD rfl hz') ⟨fun r hr => by rw [AEb_row hr]; omega, by omega⟩)) (fun hb2 H12 e12 => ?_) (fun hb2 H12 e12 => ?_)
      · have img : ∀ (s : String) (l : Look) (H13 : Hp) (σ1 : L2.St), Str.ofString s = txt [l] → Same H11 H13 → σ1[3]? = some (some (.int (h.1 : Int))) → σ1[7]? = some (some z) → Ev (tCall sp_l_image [] C8.E0 (tCons (tOp rMulS (tC (.str (Str.ofString s))) (tVar 3)) (tCons (tVar 7) tNil))) σ1 H13 (.d (.str (txt (imgX h.1 l bs)))) := fun s l H13 σ1 hs e13 q3 q7 =>
          e_l_image (ls := List.replicate h.1 l) (Ev.to (ev_mulS (ev_litT hs) (ev_varD q3 (.int _)) (by rw [txt_len]; show 1 ≤ 1000; omega) (by omega) (by omega)) (by rw [mul_txt _ _ ok1 hn2])) (ev_varD q7 (hz'.mono (same_tp e13))) ⟨by rw [List.length_replicate]; exact hbl, by rw [List.length_replicate]; omega⟩
        refine seq ?_
        refine s_asgF (ev_lst (ds := [.str (txt (imgX h.1 (true, false) bs)), .str (txt (imgX h.1 (true, true) bs)), .str (txt (imgX h.1 (false, true) bs))]) (ea_consD (img "X" _ H12 _ lit_X e12 rfl rfl) (ea_consD (img "Y" _ H12 _ lit_Y e12 rfl rfl) (ea_consD (img "Z" _ H12 _ lit_Z e12 rfl rfl) ea_nilD))) (by show 3 ≤ 100000; omega)) (fun l ls H13 e13 l0 l1 l2 => ?_)
        dsimp only
        have hil : ∀ k : Look, (imgX h.1 k bs).length = h.1 := fun k => by unfold imgX imgL; rw [List.length_map, List.length_range, List.length_replicate]
        have g13 := e13 _ _ (e12 _ _ g1')
        refine s_app (xs := acc) g13 (ev_varV rfl) (s := .d (ttD (ansOf h.1 bs))) (Ev.to (ev_tupL (EvF.ev (ev_lcN (fun _ => true) (fun x => .str (txt [(imgX h.1 (true, false) bs).getD x dot, (imgX h.1 (true, true) bs).getD x dot, (imgX h.1 (false, true) bs).getD x dot])) (ei_rng1 (n := h.1) (ea_cons (ev_varD rfl (.int _)) ea_nil) (by omega)) (by omega) (fun _ => rfl) (fun x y H14 hx e14 hy => et_yes) (fun x y H14 hx e14 hy _ => ?_)))) ?_) (by omega) (fun u H14 e14 hu => ?_)
        · have tx : ∀ {σ1 : L2.St}, σ1[13]? = some (some (.ref l)) → Ev (tVar 13) σ1 H14 (.t [.str (txt (imgX h.1 (true, false) bs)), .str (txt (imgX h.1 (true, true) bs)), .str (txt (imgX h.1 (false, true) bs))]) := fun hs => ev_var hs (is_t.mpr ⟨l, ls, rfl, e14 _ _ l1, l2.mono (same_tp e14)⟩)
          have hx' : ∀ k : Look, x < (imgX h.1 k bs).length := fun k => by rw [hil]; exact hx
          have hz1 : ∀ k : Look, (imgX h.1 k bs).length ≤ 1000 := fun k => by rw [hil]; omega
          exact ev_addT (ls := [(imgX h.1 (true, false) bs).getD x dot, (imgX h.1 (true, true) bs).getD x dot]) (ms := [(imgX h.1 (false, true) bs).getD x dot]) (ev_addT (ls := [(imgX h.1 (true, false) bs).getD x dot]) (ms := [(imgX h.1 (true, true) bs).getD x dot]) (ev_ixTx (ev_ixL (i := 0) (tx rfl) ev_int rfl) (ev_varD rfl hy) (hx' _) (hz1 _)) (ev_ixTx (ev_ixL (i := 1) (tx rfl) ev_int rfl) (ev_varD rfl hy) (hx' _) (hz1 _)) (by show 1 + 1 ≤ 100000; omega)) (ev_ixTx (ev_ixL (i := 2) (tx rfl) ev_int rfl) (ev_varD rfl hy) (hx' _) (hz1 _)) (by show 2 + 1 ≤ 100000; omega)
        · rw [given_all]
          unfold ttD ansOf
          rw [List.map_map]
          rfl
        · have hp14 := e14 _ _ g13
          have tp4 : Tp H14 (upd H14 p (.lst (acc ++ [u]))) := Tp.mut hp14 fun _ z => nomatch z
          refine ⟨_, _, _, _, _, _, _, rfl, (((c12.then e12).then e13).then e14).upd (List.mem_singleton.mpr rfl), acc ++ [u], upd_same, ?_⟩
          rw [take_filter _ _ _ hi', hbs, if_pos hb2, List.map_append, List.map_append]
          exact ((g2'.mono (same_tp ((e12.trans e13).trans e14))).snoc hu).mono tp4
      · refine s_next ⟨_, _, _, _, _, _, _, rfl, c12.then e12, acc, e12 _ _ g1', ?_⟩
        rw [take_filter _ _ _ hi', hbs, if_neg (by rw [hb2]; decide), List.append_nil]
        exact g2'.mono (same_tp e12)
    · rintro σ' H11 ⟨j6, j7, j8, j9, j10, j11, j13, rfl, c11, acc, g1, g2⟩
      dsimp only
      rw [List.length_map, List.take_length] at g2
      replace g2 : Dts H11 acc ((lawAns h g).map ttD) := g2
      have tp := (same_tp et).trans (c11.tp1 hpt)
      have hperm := ans_perm sm smg hgh.symm
      have hal : (ansL h g).length ≤ 100 := by
        unfold ansL
        split
        · rw [List.length_map]; exact (small_fin sm).2.2.1
        · exact Nat.zero_le _
      have hat : ∀ t ∈ ansL h g, t.length ≤ 1000 := fun t ht => by
        unfold ansL at ht
        split at ht
        · obtain ⟨st, hs, rfl⟩ := List.mem_map.mp ht
          have := ((small_fin sm).2.1 st hs).2.2
          unfold chgS
          rw [List.length_map, List.length_range]
          omega
        · cases ht
      refine s_ret (e_alike (ok := okS (okS ok0)) (e_answers (ev_varD rfl (z2.mono tp)) (ev_varD rfl (z4.mono tp)) ⟨two, hn2⟩) (ev_tupL (EvF.ev (EvF.to (ev_sorted (ds := (lawAns h g).map ttD) (ev_var rfl (is_t.mpr ⟨p, acc, rfl, g1, g2⟩)) (alike_ttD _) (sortable_ttD (fun t ht => ansL_ne sm t (hperm.mem_iff.mpr ht))) (deep_ttD _)) (sorted_ttD hperm.symm)))) (okS_ttD (by omega) hat)) (fun u H12 e12 hu => ?_)
      rw [Dt.blE hu]
      exact q H12
end
end TF
/-! P23 -/
namespace TF
open PySem PySem.Spec PyProof.Rows L2
theorem defb {K : PySem.W.Frag} {h : Heap} {mg : Str → Option Value} {x : Str} {st : Stmt} {ps : List Str} {f : Addr} {od an : Option Addr} {sl : Array (Option Value)} {oc kV dc pm cd ct : Value} (X : K.In h) (G : h.Ns mainGlobals mg)
    (a : PySem.W.nsIn K mainGlobals x = some (some (.ref f))) (l : K.lookup f = some ⟨oc, od, .func (PySem.W.fnOf x x (C8.fnArgs st) (C8.fnBody st) (C8.fnScope st) .none kV dc pm an cd ct), sl⟩) (c : PySem.W.codeIn K cd x = true) (k : PySem.W.keepIn K (.ref f) = true)
    (hb : ∀ (kV doc pm : Value) (an : Option Addr) (cdv ct : Value) (us : List Value), us.length = ps.length → bindArgs (PySem.W.fnOf x x (C8.fnArgs st) (C8.fnBody st) (C8.fnScope st) .none kV doc pm an cdv ct) ⟨us, []⟩ = pure (ps.zip us)) : DefB K mg x st ps := by
  have F : C8.Fun K x x st f _ := ⟨⟨oc, od, .none, kV, dc, pm, an, cd, ct, sl, rfl, l, c⟩⟩
  exact ⟨f, _, ⟨F, PySem.W.mg_of X G a, k⟩, F.binds rfl hb⟩
theorem all_mk {l : PySem.W.OpenLaw} {w : World} {K : PySem.W.Frag} {h : Heap} {mg : Str → Option Value} {fa C f1 f2 f3 : Addr} {tL tM : Tok} (X : K.In h) (G : h.Ns mainGlobals mg) (hfa : mg "law" = some (.ref fa))
    {od1 an1 od2 an2 od3 an3 : Option Addr} {sl1 sl2 sl3 : Array (Option Value)} {oc1 kV1 dc1 pm1 cd1 ct1 oc2 kV2 dc2 pm2 cd2 ct2 oc3 kV3 dc3 pm3 cd3 ct3 : Value}
    (d_is_integer : DefB K mg "is_integer" s_is_integer ["value"])
    (d_is_from : DefB K mg "is_from" s_is_from ["value", "low", "high"])
    (d_is_pair_of : DefB K mg "is_pair_of" s_is_pair_of ["n", "value"])
    (d_is_hall : DefB K mg "is_hall" s_is_hall ["value"])
    (d_need_hall : DefB K mg "need_hall" s_need_hall ["value"])
    (d_are_pair : DefB K mg "are_pair" s_are_pair ["hall", "x", "y"])
    (d_friends_of : DefB K mg "friends_of" s_friends_of ["hall", "x"])
    (d_behind_turn : DefB K mg "behind_turn" s_behind_turn ["hall", "x"])
    (d_rank_of_rows : DefB K mg "rank_of_rows" s_rank_of_rows ["rows"])
    (d_sum_of : DefB K mg "sum_of" s_sum_of ["one", "other"])
    (d_first_step : DefB K mg "first_step" s_first_step ["hall"])
    (d_all_steps : DefB K mg "all_steps" s_all_steps ["hall"])
    (d_need_halls : DefB K mg "need_halls" s_need_halls ["hall", "other"])
    (d_change_of : DefB K mg "change_of" s_change_of ["step"])
    (d_answers_to : DefB K mg "answers_to" s_answers_to ["hall", "other"])
    (d_answers : DefB K mg "answers" s_answers ["hall", "other"])
    (d_signs_of : DefB K mg "signs_of" s_signs_of ["hall", "x", "y"])
    (d_equation : DefB K mg "equation" s_equation ["hall", "other", "x", "y"])
    (d_all_equations : DefB K mg "all_equations" s_all_equations ["hall", "other"])
    (d_equations : DefB K mg "equations" s_equations ["hall", "other"])
    (d_free_signs : DefB K mg "free_signs" s_free_signs ["hall", "other"])
    (d_l_taken : DefB K mg "_law_taken" s_l_taken ["_law_row", "_law_many"])
    (d_l_pick : DefB K mg "_law_pick" s_l_pick ["_law_row", "_law_things"])
    (d_l_alike : DefB K mg "_law_alike" s_l_alike ["_law_found", "_law_due"])
    (d_l_pairs : DefB K mg "_law_pairs" s_l_pairs ["_law_n"])
    (d_l_hall : DefB K mg "_law_hall" s_l_hall ["_law_row", "_law_most"])
    (d_l_friends : DefB K mg "_law_friends" s_l_friends ["_law_hall_here", "_law_x"])
    (d_l_turn : DefB K mg "_law_turn" s_l_turn ["_law_hall_here", "_law_x"])
    (d_l_turns : DefB K mg "_law_turns" s_l_turns ["_law_hall_here", "_law_told"])
    (d_l_persons : DefB K mg "_law_persons" s_l_persons ["_law_row", "_law_n", "_law_most"])
    (d_l_rank : DefB K mg "_law_rank" s_l_rank ["_law_rows"])
    (d_l_sum : DefB K mg "_law_sum" s_l_sum ["_law_one", "_law_other_here"])
    (d_l_own : DefB K mg "_law_own" s_l_own ["_law_hall_here", "_law_x"])
    (d_l_oddly : DefB K mg "_law_oddly" s_l_oddly ["_law_one", "_law_other_here"])
    (d_l_other : DefB K mg "_law_other" s_l_other ["_law_row", "_law_hall_here"])
    (d_l_image : DefB K mg "_law_image" s_l_image ["_law_told", "_law_signs_here"])
    (d_l_signs : DefB K mg "_law_signs" s_l_signs ["_law_many"])
    (d_l_solves : DefB K mg "_law_solves" s_l_solves ["_law_told", "_law_signs_here"])
    (b_all : PySem.W.nsIn K mainGlobals "all" = some none)
    (b_bool : PySem.W.nsIn K mainGlobals "bool" = some none)
    (b_dict : PySem.W.nsIn K mainGlobals "dict" = some none)
    (b_enumerate : PySem.W.nsIn K mainGlobals "enumerate" = some none)
    (b_int : PySem.W.nsIn K mainGlobals "int" = some none)
    (b_isinstance : PySem.W.nsIn K mainGlobals "isinstance" = some none)
    (b_len : PySem.W.nsIn K mainGlobals "len" = some none)
    (b_list : PySem.W.nsIn K mainGlobals "list" = some none)
    (b_max : PySem.W.nsIn K mainGlobals "max" = some none)
    (b_min : PySem.W.nsIn K mainGlobals "min" = some none)
    (b_range : PySem.W.nsIn K mainGlobals "range" = some none)
    (b_sorted : PySem.W.nsIn K mainGlobals "sorted" = some none)
    (b_str : PySem.W.nsIn K mainGlobals "str" = some none)
    (b_sum : PySem.W.nsIn K mainGlobals "sum" = some none)
    (b_tuple : PySem.W.nsIn K mainGlobals "tuple" = some none)
    (b_zip : PySem.W.nsIn K mainGlobals "zip" = some none)
    (aL : PySem.W.nsIn K mainGlobals "LOOKS" = some (some (.str "XYZ" tL))) (aM : PySem.W.nsIn K mainGlobals "MOST_PEOPLE" = some (some (.int 8 tM)))
    (aC : PySem.W.nsIn K mainGlobals "Step" = some (some (.ref C)))
    (a1 : PySem.W.findIn K (.ref C) "__init__" = some (some (.ref f1))) (i1 : PySem.W.isFn K (.ref f1) = true) (l1 : K.lookup f1 = some ⟨oc1, od1, .func (PySem.W.fnOf "__init__" "Step.__init__" (C8.fnArgs s_init) (C8.fnBody s_init) (C8.fnScope s_init) .none kV1 dc1 pm1 an1 cd1 ct1), sl1⟩) (c1 : PySem.W.codeIn K cd1 "Step.__init__" = true)
    (a2 : PySem.W.findIn K (.ref C) "third" = some (some (.ref f2))) (i2 : PySem.W.isFn K (.ref f2) = true) (l2 : K.lookup f2 = some ⟨oc2, od2, .func (PySem.W.fnOf "third" "Step.third" (C8.fnArgs s_third) (C8.fnBody s_third) (C8.fnScope s_third) .none kV2 dc2 pm2 an2 cd2 ct2), sl2⟩) (c2 : PySem.W.codeIn K cd2 "Step.third" = true) (k2 : PySem.W.keepIn K (.ref f2) = true)
    (a3 : PySem.W.nsIn K mainGlobals "law" = some (some (.ref f3))) (l3 : K.lookup f3 = some ⟨oc3, od3, .func (PySem.W.fnOf "law" "law" (C8.fnArgs s_law) (C8.fnBody s_law) (C8.fnScope s_law) .none kV3 dc3 pm3 an3 cd3 ct3), sl3⟩) (c3 : PySem.W.codeIn K cd3 "law" = true)
    (pg : PySem.W.plainGet K C Str.empty = true) (hd : PySem.W.hasDictIn K C = true) (po : PySem.W.plainOver K C = true) (sa : PySem.W.findIn K (.ref C) "__setattr__" = some (some (.builtin "object.__setattr__"))) (mk : PySem.W.makesIn K C = true) (kc : PySem.W.keepIn K (.ref C) = true)
    (n1 : PySem.W.findIn K (.ref C) "choice" = some none) (n2 : PySem.W.findIn K (.ref C) "bases" = some none) (n3 : PySem.W.findIn K (.ref C) "hall" = some none) :
    ∃ fd : FuncData, (∀ (s : Shared) (v : Value), BindsTo s fd ⟨[v], []⟩ [("_law_script", v)]) ∧ ∀ base : Heap, K.In base → base.Ns mainGlobals mg → FnOk l.prog w K mg base C8.CX0 8 fa fd ["_law_script"] (sp_law K) := by
  have e := hfa.symm.trans (PySem.W.mg_of X G a3)
  cases e
  have F1 : C8.Fun K "__init__" "Step.__init__" s_init f1 _ := ⟨⟨oc1, od1, .none, kV1, dc1, pm1, an1, cd1, ct1, sl1, rfl, l1, c1⟩⟩
  have F2 : C8.Fun K "third" "Step.third" s_third f2 _ := ⟨⟨oc2, od2, .none, kV2, dc2, pm2, an2, cd2, ct2, sl2, rfl, l2, c2⟩⟩
  have F3 : C8.Fun K "law" "law" s_law fa _ := ⟨⟨oc3, od3, .none, kV3, dc3, pm3, an3, cd3, ct3, sl3, rfl, l3, c3⟩⟩
  have b1 := F1.binds rfl (ps := ["self", "choice", "bases", "hall"]) fun _ _ _ _ _ _ us hl => match us, hl with | [_, _, _, _], _ => rfl
  have b2 := F2.binds rfl (ps := ["self", "x"]) fun _ _ _ _ _ _ us hl => match us, hl with | [_, _], _ => rfl
  have T : Tx K mg C := ⟨d_is_integer, d_is_from, d_is_pair_of, d_is_hall, d_need_hall, d_are_pair, d_friends_of, d_behind_turn, d_rank_of_rows, d_sum_of, d_first_step, d_all_steps, d_need_halls, d_change_of, d_answers_to, d_answers, d_signs_of, d_equation, d_all_equations, d_equations, d_free_signs, d_l_taken, d_l_pick, d_l_alike, d_l_pairs, d_l_hall, d_l_friends, d_l_turn, d_l_turns, d_l_persons, d_l_rank, d_l_sum, d_l_own, d_l_oddly, d_l_other, d_l_image, d_l_signs, d_l_solves, PySem.W.mg_none_of X G b_all, PySem.W.mg_none_of X G b_bool, PySem.W.mg_none_of X G b_dict, PySem.W.mg_none_of X G b_enumerate, PySem.W.mg_none_of X G b_int, PySem.W.mg_none_of X G b_isinstance, PySem.W.mg_none_of X G b_len, PySem.W.mg_none_of X G b_list, PySem.W.mg_none_of X G b_max, PySem.W.mg_none_of X G b_min, PySem.W.mg_none_of X G b_range, PySem.W.mg_none_of X G b_sorted, PySem.W.mg_none_of X G b_str, PySem.W.mg_none_of X G b_sum, PySem.W.mg_none_of X G b_tuple, PySem.W.mg_none_of X G b_zip, ⟨_, PySem.W.mg_of X G aL, _, rfl⟩, ⟨_, PySem.W.mg_of X G aM, _, rfl⟩, ⟨pg, hd, po, sa⟩, n1, n2, n3, PySem.W.mg_of X G aC, ⟨f1, _, ⟨mk, a1, i1, kc⟩, F1, b1⟩, ⟨f2, _, ⟨a2, i2, k2⟩, F2, b2⟩⟩
  exact ⟨PySem.W.fnOf "law" "law" (C8.fnArgs s_law) (C8.fnBody s_law) (C8.fnScope s_law) .none kV3 dc3 pm3 an3 cd3 ct3, fun s v => .of_eq rfl, fun base _ _ => ok_law T F3⟩
end TF
open PySem PySem.W PyProof.Rows
set_option maxHeartbeats 0 in
theorem PySem.Challenge.cw_turnfriends_k11_whole_equations_holds : PySem.Challenge.rw_turnfriends_k11_whole_equations.Holds := by
  w_on; o_law; k_head; (case hw => w_witness2)
  k_fill
  refine L2.walk_ofK (l := PySem.Challenge.rw_turnfriends_k11_whole_equations) (n := 63) (k := 8) (x := "_law_script") (CX := C8.CX0) (sp := TF.sp_law) rfl (by decide) rfl ⟨rfl, by decide, by decide⟩ (fun w h Y => PySem.W.kIn_of Y) ?F (fun _ _ a ns hl _ hS => ⟨a, ns, rfl, hS, fun _ => rfl⟩) (fun _ _ _ _ h => h)
  case F =>
    intro w mg fa h KX G hmg
    refine' TF.all_mk KX G hmg ?d_is_integer ?d_is_from ?d_is_pair_of ?d_is_hall ?d_need_hall ?d_are_pair ?d_friends_of ?d_behind_turn ?d_rank_of_rows ?d_sum_of ?d_first_step ?d_all_steps ?d_need_halls ?d_change_of ?d_answers_to ?d_answers ?d_signs_of ?d_equation ?d_all_equations ?d_equations ?d_free_signs ?d_l_taken ?d_l_pick ?d_l_alike ?d_l_pairs ?d_l_hall ?d_l_friends ?d_l_turn ?d_l_turns ?d_l_persons ?d_l_rank ?d_l_sum ?d_l_own ?d_l_oddly ?d_l_other ?d_l_image ?d_l_signs ?d_l_solves ?b_all ?b_bool ?b_dict ?b_enumerate ?b_int ?b_isinstance ?b_len ?b_list ?b_max ?b_min ?b_range ?b_sorted ?b_str ?b_sum ?b_tuple ?b_zip ?aL ?aM ?aC ?a1 ?i1 ?l1 ?c1 ?a2 ?i2 ?l2 ?c2 ?k2 ?a3 ?l3 ?c3 ?pg ?hd ?po ?sa ?mk ?kc ?n1 ?n2 ?n3
    (case d_is_integer => refine' TF.defb KX G ?a ?l ?c ?k (fun _ _ _ _ _ _ us hl => match us, hl with | [_], _ => rfl); (case a => k_is); (case l => k_is); (case c => k_is); (case k => k_is))
    (case d_is_from => refine' TF.defb KX G ?a ?l ?c ?k (fun _ _ _ _ _ _ us hl => match us, hl with | [_, _, _], _ => rfl); (case a => k_is); (case l => k_is); (case c => k_is); (case k => k_is))
    (case d_is_pair_of => refine' TF.defb KX G ?a ?l ?c ?k (fun _ _ _ _ _ _ us hl => match us, hl with | [_, _], _ => rfl); (case a => k_is); (case l => k_is); (case c => k_is); (case k => k_is))
    (case d_is_hall => refine' TF.defb KX G ?a ?l ?c ?k (fun _ _ _ _ _ _ us hl => match us, hl with | [_], _ => rfl); (case a => k_is); (case l => k_is); (case c => k_is); (case k => k_is))
    (case d_need_hall => refine' TF.defb KX G ?a ?l ?c ?k (fun _ _ _ _ _ _ us hl => match us, hl with | [_], _ => rfl); (case a => k_is); (case l => k_is); (case c => k_is); (case k => k_is))
    (case d_are_pair => refine' TF.defb KX G ?a ?l ?c ?k (fun _ _ _ _ _ _ us hl => match us, hl with | [_, _, _], _ => rfl); (case a => k_is); (case l => k_is); (case c => k_is); (case k => k_is))
    (case d_friends_of => refine' TF.defb KX G ?a ?l ?c ?k (fun _ _ _ _ _ _ us hl => match us, hl with | [_, _], _ => rfl); (case a => k_is); (case l => k_is); (case c => k_is); (case k => k_is))
    (case d_behind_turn => refine' TF.defb KX G ?a ?l ?c ?k (fun _ _ _ _ _ _ us hl => match us, hl with | [_, _], _ => rfl); (case a => k_is); (case l => k_is); (case c => k_is); (case k => k_is))
    (case d_rank_of_rows => refine' TF.defb KX G ?a ?l ?c ?k (fun _ _ _ _ _ _ us hl => match us, hl with | [_], _ => rfl); (case a => k_is); (case l => k_is); (case c => k_is); (case k => k_is))
    (case d_sum_of => refine' TF.defb KX G ?a ?l ?c ?k (fun _ _ _ _ _ _ us hl => match us, hl with | [_, _], _ => rfl); (case a => k_is); (case l => k_is); (case c => k_is); (case k => k_is))
    (case d_first_step => refine' TF.defb KX G ?a ?l ?c ?k (fun _ _ _ _ _ _ us hl => match us, hl with | [_], _ => rfl); (case a => k_is); (case l => k_is); (case c => k_is); (case k => k_is))
    (case d_all_steps => refine' TF.defb KX G ?a ?l ?c ?k (fun _ _ _ _ _ _ us hl => match us, hl with | [_], _ => rfl); (case a => k_is); (case l => k_is); (case c => k_is); (case k => k_is))
    (case d_need_halls => refine' TF.defb KX G ?a ?l ?c ?k (fun _ _ _ _ _ _ us hl => match us, hl with | [_, _], _ => rfl); (case a => k_is); (case l => k_is); (case c => k_is); (case k => k_is))
    (case d_change_of => refine' TF.defb KX G ?a ?l ?c ?k (fun _ _ _ _ _ _ us hl => match us, hl with | [_], _ => rfl); (case a => k_is); (case l => k_is); (case c => k_is); (case k => k_is))
    (case d_answers_to => refine' TF.defb KX G ?a ?l ?c ?k (fun _ _ _ _ _ _ us hl => match us, hl with | [_, _], _ => rfl); (case a => k_is); (case l => k_is); (case c => k_is); (case k => k_is))
    (case d_answers => refine' TF.defb KX G ?a ?l ?c ?k (fun _ _ _ _ _ _ us hl => match us, hl with | [_, _], _ => rfl); (case a => k_is); (case l => k_is); (case c => k_is); (case k => k_is))
    (case d_signs_of => refine' TF.defb KX G ?a ?l ?c ?k (fun _ _ _ _ _ _ us hl => match us, hl with | [_, _, _], _ => rfl); (case a => k_is); (case l => k_is); (case c => k_is); (case k => k_is))
    (case d_equation => refine' TF.defb KX G ?a ?l ?c ?k (fun _ _ _ _ _ _ us hl => match us, hl with | [_, _, _, _], _ => rfl); (case a => k_is); (case l => k_is); (case c => k_is); (case k => k_is))
    (case d_all_equations => refine' TF.defb KX G ?a ?l ?c ?k (fun _ _ _ _ _ _ us hl => match us, hl with | [_, _], _ => rfl); (case a => k_is); (case l => k_is); (case c => k_is); (case k => k_is))
    (case d_equations => refine' TF.defb KX G ?a ?l ?c ?k (fun _ _ _ _ _ _ us hl => match us, hl with | [_, _], _ => rfl); (case a => k_is); (case l => k_is); (case c => k_is); (case k => k_is))
    (case d_free_signs => refine' TF.defb KX G ?a ?l ?c ?k (fun _ _ _ _ _ _ us hl => match us, hl with | [_, _], _ => rfl); (case a => k_is); (case l => k_is); (case c => k_is); (case k => k_is))
    (case d_l_taken => refine' TF.defb KX G ?a ?l ?c ?k (fun _ _ _ _ _ _ us hl => match us, hl with | [_, _], _ => rfl); (case a => k_is); (case l => k_is); (case c => k_is); (case k => k_is))
    (case d_l_pick => refine' TF.defb KX G ?a ?l ?c ?k (fun _ _ _ _ _ _ us hl => match us, hl with | [_, _], _ => rfl); (case a => k_is); (case l => k_is); (case c => k_is); (case k => k_is))
    (case d_l_alike => refine' TF.defb KX G ?a ?l ?c ?k (fun _ _ _ _ _ _ us hl => match us, hl with | [_, _], _ => rfl); (case a => k_is); (case l => k_is); (case c => k_is); (case k => k_is))
    (case d_l_pairs => refine' TF.defb KX G ?a ?l ?c ?k (fun _ _ _ _ _ _ us hl => match us, hl with | [_], _ => rfl); (case a => k_is); (case l => k_is); (case c => k_is); (case k => k_is))
    (case d_l_hall => refine' TF.defb KX G ?a ?l ?c ?k (fun _ _ _ _ _ _ us hl => match us, hl with | [_, _], _ => rfl); (case a => k_is); (case l => k_is); (case c => k_is); (case k => k_is))
    (case d_l_friends => refine' TF.defb KX G ?a ?l ?c ?k (fun _ _ _ _ _ _ us hl => match us, hl with | [_, _], _ => rfl); (case a => k_is); (case l => k_is); (case c => k_is); (case k => k_is))
    (case d_l_turn => refine' TF.defb KX G ?a ?l ?c ?k (fun _ _ _ _ _ _ us hl => match us, hl with | [_, _], _ => rfl); (case a => k_is); (case l => k_is); (case c => k_is); (case k => k_is))
    (case d_l_turns => refine' TF.defb KX G ?a ?l ?c ?k (fun _ _ _ _ _ _ us hl => match us, hl with | [_, _], _ => rfl); (case a => k_is); (case l => k_is); (case c => k_is); (case k => k_is))
    (case d_l_persons => refine' TF.defb KX G ?a ?l ?c ?k (fun _ _ _ _ _ _ us hl => match us, hl with | [_, _, _], _ => rfl); (case a => k_is); (case l => k_is); (case c => k_is); (case k => k_is))
    (case d_l_rank => refine' TF.defb KX G ?a ?l ?c ?k (fun _ _ _ _ _ _ us hl => match us, hl with | [_], _ => rfl); (case a => k_is); (case l => k_is); (case c => k_is); (case k => k_is))
    (case d_l_sum => refine' TF.defb KX G ?a ?l ?c ?k (fun _ _ _ _ _ _ us hl => match us, hl with | [_, _], _ => rfl); (case a => k_is); (case l => k_is); (case c => k_is); (case k => k_is))
    (case d_l_own => refine' TF.defb KX G ?a ?l ?c ?k (fun _ _ _ _ _ _ us hl => match us, hl with | [_, _], _ => rfl); (case a => k_is); (case l => k_is); (case c => k_is); (case k => k_is))
    (case d_l_oddly => refine' TF.defb KX G ?a ?l ?c ?k (fun _ _ _ _ _ _ us hl => match us, hl with | [_, _], _ => rfl); (case a => k_is); (case l => k_is); (case c => k_is); (case k => k_is))
    (case d_l_other => refine' TF.defb KX G ?a ?l ?c ?k (fun _ _ _ _ _ _ us hl => match us, hl with | [_, _], _ => rfl); (case a => k_is); (case l => k_is); (case c => k_is); (case k => k_is))
    (case d_l_image => refine' TF.defb KX G ?a ?l ?c ?k (fun _ _ _ _ _ _ us hl => match us, hl with | [_, _], _ => rfl); (case a => k_is); (case l => k_is); (case c => k_is); (case k => k_is))
    (case d_l_signs => refine' TF.defb KX G ?a ?l ?c ?k (fun _ _ _ _ _ _ us hl => match us, hl with | [_], _ => rfl); (case a => k_is); (case l => k_is); (case c => k_is); (case k => k_is))
    (case d_l_solves => refine' TF.defb KX G ?a ?l ?c ?k (fun _ _ _ _ _ _ us hl => match us, hl with | [_, _], _ => rfl); (case a => k_is); (case l => k_is); (case c => k_is); (case k => k_is))
    (case b_all => k_is)
    (case b_bool => k_is)
    (case b_dict => k_is)
    (case b_enumerate => k_is)
    (case b_int => k_is)
    (case b_isinstance => k_is)
    (case b_len => k_is)
    (case b_list => k_is)
    (case b_max => k_is)
    (case b_min => k_is)
    (case b_range => k_is)
    (case b_sorted => k_is)
    (case b_str => k_is)
    (case b_sum => k_is)
    (case b_tuple => k_is)
    (case b_zip => k_is)
    (case aL => k_is)
    (case aM => k_is)
    (case aC => k_is)
    (case a1 => k_is)
    (case i1 => k_is)
    (case l1 => k_is)
    (case c1 => k_is)
    (case a2 => k_is)
    (case i2 => k_is)
    (case l2 => k_is)
    (case c2 => k_is)
    (case k2 => k_is)
    (case a3 => k_is)
    (case l3 => k_is)
    (case c3 => k_is)
    (case pg => k_is)
    (case hd => k_is)
    (case po => k_is)
    (case sa => k_is)
    (case mk => k_is)
    (case kc => k_is)
    (case n1 => k_is)
    (case n2 => k_is)
    (case n3 => k_is)
