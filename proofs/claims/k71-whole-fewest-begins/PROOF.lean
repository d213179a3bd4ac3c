import PyProof.Rows.All
import Wide.All
import OpenK.AllK
import Wide.FinOn
import HandS.ForMost
import HandS.Walk
import KE.GoesNew
import HandS.DictComp
import HandS.Set
import HandS.SetFor
import KE.DataCmp
import HandS.TupAny
import HandS.IsInst
import HandS.Star
import HandS.Flow
import HandS.More
import HandS.Conv
import HandS.Small
import HandS.Zip
import PySem.Challenge.RW_keylanes_k71_whole_fewest_begins
set_option Elab.async false
set_option linter.all false
set_option maxRecDepth 100000
set_option maxHeartbeats 2000000
/-! K1: walks that the layer lacks: zip of two texts, enumerate of a tuple -/
namespace KL
open PySem PySem.Spec PyProof.Rows L2

/-! ### zip of two texts -/
def zLen (x y : Str) : Nat := min x.cps.size y.cps.size
def ItZs (x y : Str) : It :=
  ⟨fun i _ => i < zLen x y,
   fun i H v H' => ∃ T c d, v = .ref T ∧ H T = none ∧ H' = upd H T (.tup [.str ⟨#[c]⟩, .str ⟨#[d]⟩]) ∧ x.cps[i]? = some c ∧ y.cps[i]? = some d,
   fun i _ => i = zLen x y⟩
abbrev ZsSt (z TI TO i1 i2 : Addr) (x y : Str) (t u : Tok) (i : Nat) (h : Heap) : Prop :=
  IsZip h z TI TO .none ∧ IsTupOf2 h TI (.ref i1) (.ref i2) ∧ (∃ a b, IsTupOf2 h TO a b) ∧ h.IsStrIter i1 (strIterType x) x t i ∧ h.IsStrIter i2 (strIterType y) y u i
theorem gn_zs {P : Program} {w : World} {A : Around} (hh : A.handled = none) {elts : List Expr} {kk : Nat} {tp : Pos} {z TI TO i1 i2 : Addr} {x y : Str} {t u : Tok}
    (S : ZipSep2 z TI TO i1 i2 [i1] [i2]) :
    GoesN P w A (.Tuple elts kk tp) z (z :: TI :: TO :: ([i1] ++ [i2])) [z, TO, i1, i2] (zLen x y) (fun i h0 v h => ∃ T a b, v = .ref T ∧ h0.objs.size ≤ T ∧ (∃ c k, x.cps[i]? = some c ∧ a = .str ⟨#[c]⟩ k) ∧ (∃ d k, y.cps[i]? = some d ∧ b = .str ⟨#[d]⟩ k) ∧ h.IsTuple T #[a, b])
      (ZsSt z TI TO i1 i2 x y t u) := by
  have hi : A.in1.handled = none := by simp [hh]
  exact GoesN.zip2 S (Draws.text hi i1 x t) (Draws.text hi i2 y u)
theorem turn_zs {P : Program} {w : World} {K : PySem.W.Frag} {elts : List Expr} {kk : Nat} {tp : Pos} {z TI TO i1 i2 : Addr} {x y : Str} {t u : Tok}
    (S : ZipSep2 z TI TO i1 i2 [i1] [i2]) :
    Turn P w K (.Tuple elts kk tp) (ItZs x y) (z :: TI :: TO :: ([i1] ++ [i2])) z (ZsSt z TI TO i1 i2 x y t u) where
  mem := List.mem_cons_self
  obj := by
    rintro i h ⟨a1, a2, ⟨_, _, a3⟩, ⟨o4, a4, _, d4⟩, ⟨o5, a5, _, d5⟩⟩ b hb
    have hb' : b = z ∨ b = TI ∨ b = TO ∨ b = i1 ∨ b = i2 := by simpa using hb
    rcases hb' with e | e | e | e | e <;> subst e
    · exact ⟨_, a1, fun v q => by cases q⟩
    · exact ⟨_, a2, fun v q => by cases q⟩
    · exact ⟨_, a3, fun v q => by cases q⟩
    · exact ⟨o4, a4, fun v q => by rw [d4] at q; cases q⟩
    · exact ⟨o5, a5, fun v q => by rw [d5] at q; cases q⟩
  keep := by
    rintro i h h' ⟨a1, a2, ⟨p, q, a3⟩, a4, a5⟩ k
    exact ⟨k z (by simp) _ a1, k TI (by simp) _ a2, ⟨p, q, k TO (by simp) _ a3⟩, (let ⟨o, e, r⟩ := a4; ⟨o, k i1 (by simp) o e, r⟩), (let ⟨o, e, r⟩ := a5; ⟨o, k i2 (by simp) o e, r⟩)⟩
  item := by
    intro X hP hw hK hc i pins s σ H E I hf st hg
    subst hP hw hK
    have G := gn_zs (P := X.prog) (w := X.w) (A := X.A) (I.ok.hd hc) (elts := elts) (kk := kk) (tp := tp) (x := x) (y := y) (t := t) (u := u) S
    refine G.goes i s _ E hg st fun v h' tk hY st' hk _ => ?_
    obtain ⟨T, a, b, rfl, hT, ⟨c, k1, hx, rfl⟩, ⟨d, k2, hy, rfl⟩, ht⟩ := hY
    have nw : ObjOk X.prog X.w (upd H T (.tup [.str ⟨#[c]⟩, .str ⟨#[d]⟩])) h' T (.tup [.str ⟨#[c]⟩, .str ⟨#[d]⟩]) :=
      ⟨by show 2 ≤ sizeLine; decide, [.str ⟨#[c]⟩ k1, .str ⟨#[d]⟩ k2], .cons ⟨_, rfl⟩ (.cons ⟨_, rfl⟩ .nil), ht⟩
    have J : Inv X pins σ (upd H T (.tup [.str ⟨#[c]⟩, .str ⟨#[d]⟩])) { s with heap := h', toks := tk } :=
      I.turnedNew (ch := z :: TI :: TO :: ([i1] ++ [i2])) (fun b o hb e => hk b o (fun m => hb (G.sub b m)) e) hf hT nw
    refine ⟨.ref T, _, J, rfl, ⟨T, c, d, rfl, I.hok.fresh hT, rfl, hx, hy⟩, st', fun b hb => ?_⟩
    have lt : b < s.heap.objs.size := by
      obtain ⟨a1, a2, ⟨_, _, a3⟩, ⟨o4, a4, _⟩, ⟨o5, a5, _⟩⟩ := st
      have hb' : b = z ∨ b = TI ∨ b = TO ∨ b = i1 ∨ b = i2 := by simpa using hb
      rcases hb' with e | e | e | e | e <;> subst e
      · exact Heap.lt_size a1
      · exact Heap.lt_size a2
      · exact Heap.lt_size a3
      · exact Heap.lt_size a4
      · exact Heap.lt_size a5
    rw [upd_ne (Nat.ne_of_lt (Nat.lt_of_lt_of_le lt hT))]
    exact (hf b hb).1
  done := by
    intro X hP hw hK hc i pins s σ H E I hf st hg
    subst hP hw hK
    have G := gn_zs (P := X.prog) (w := X.w) (A := X.A) (I.ok.hd hc) (elts := elts) (kk := kk) (tp := tp) (x := x) (y := y) (t := t) (u := u) S
    have e : i = zLen x y := hg
    subst e
    exact G.stops s _ E st fun h' tk hk _ => I.turnedL (ch := z :: TI :: TO :: ([i1] ++ [i2])) (fun b o hb e => hk b o (fun m => hb (G.sub b m)) e) hf
  self := fun A i s Q E st h => wpAny_pyIter_zip st.1 h
def iZs (ta : TA) : TI := fun σ H R => ta σ H fun vs H1 => ∃ x y, vs = [.str x, .str y] ∧ R (ItZs x y) H1
theorem pi_zs {X : Cx} {e e2 : Expr} {ta : TA} {p pos tp : Pos} {elts : List Expr} {kk : Nat} (hg : Gl X "zip") (hm : X.mg "zip" = none) (ha : PA X [e, e2] ta)
    (hs : starEach [e, e2] X.env = (false, eval e X.env) :: starEach [e2] X.env := by rfl) (hp : (backTo pos (starEach [e2] X.env)).any (·.1) = false := by rfl) :
    PI X (.Tuple elts kk tp) (.Call (.Name "zip" p) [e, e2] [] pos) (iZs ta) := by
  constructor
  intro pins s σ H R I h
  refine Call_ (ld_blt I hg hm PyProof.Rows.boot_zip (PyProof.Rows.callWith_type1 (thn (ha.run pos pins s σ H _ I h) ?_) hs hp))
  rintro us s1 ⟨vs, H1, I1, r1, x, y, rfl, q⟩
  obtain ⟨u1, u2, rfl, ⟨t, rfl⟩, ⟨u, rfl⟩⟩ : ∃ u1 u2, us = [u1, u2] ∧ RelV (.str x) u1 ∧ RelV (.str y) u2 := by
    cases r1 with
    | cons r rr =>
      cases rr with
      | cons r' rr' =>
        cases rr'
        exact ⟨_, _, rfl, r, r'⟩
  refine zip_begins2 (begins_text x t) (begins_text y u) True.intro True.intro fun h' hz hTI hTO h1 h2 hsz hk => wpAny_pyIter_zip hz ?_
  have I2 : Inv X pins σ H1 { s1 with heap := h' } := I1.kept (t' := s1.toks) hk
  refine ⟨s1.heap.objs.size + 4, _, _, _, H1, rfl, I2, turn_zs (t := t) (u := u) (zip_sep2 (N := s1.heap.objs.size) (fp1 := []) (fp2 := []) (by simp) (by simp)), ⟨hz, hTI, ⟨_, _, hTO⟩, ⟨_, h1, rfl, rfl⟩, ⟨_, h2, rfl, rfl⟩⟩, fun c hc => ?_, q⟩
  have hle : s1.heap.objs.size ≤ c := by
    have e' : c = s1.heap.objs.size + 4 ∨ c = s1.heap.objs.size + 2 ∨ c = s1.heap.objs.size + 3 ∨ c = s1.heap.objs.size ∨ c = s1.heap.objs.size + 1 := by simpa using hc
    rcases e' with e | e | e | e | e <;> rw [e]
    · exact Nat.le_add_right _ _
    · exact Nat.le_add_right _ _
    · exact Nat.le_add_right _ _
    · exact Nat.le_refl _
    · exact Nat.le_add_right _ _
  exact I1.fpOk hle (I1.hok.fresh hle)
theorem walk_zs {x y : Str} : Walk (ItZs x y) (zLen x y) (fun _ => True) (YPair (fun i => (x.cps[i]?).map fun c => .str ⟨#[c]⟩) (fun i => (y.cps[i]?).map fun c => .str ⟨#[c]⟩)) := by
  refine ⟨fun _ _ hi _ => hi, fun _ _ => rfl, ?_⟩
  rintro i H v H' _ _ ⟨T, c, d, h1, h2, h3, h4, h5⟩
  exact ⟨T, _, _, h1, h2, h3, by simp [h4], by simp [h5]⟩

/-! ### enumerate of a tuple -/
def ItEt (K : PySem.W.Frag) (a : Addr) : It :=
  ⟨fun i H => ∃ xs x, SqT K H a xs ∧ xs[i]? = some x,
   fun i H v H' => ∃ T x, v = .ref T ∧ H T = none ∧ H' = upd H T (.tup [.int (i : Nat), x]) ∧ ∀ xs, SqT K H a xs → xs[i]? = some x,
   fun i H => ∃ xs, SqT K H a xs ∧ xs.length = i⟩
abbrev EtSt (a e it : Addr) (i : Nat) (h : Heap) : Prop := (∃ old, IsEnum h e it ((i : Nat) : Int) old) ∧ h.IsTupleIter it a i
theorem turn_et {P : Program} {w : World} {K : PySem.W.Frag} {elts : List Expr} {kk : Nat} {tp : Pos} (a e it : Addr) :
    Turn P w K (.Tuple elts kk tp) (ItEt K a) [e, it] e (EtSt a e it) where
  mem := List.mem_cons_self
  obj := by
    rintro i h ⟨⟨old, h1⟩, ⟨o, h2, _, d⟩⟩ b hb
    have hb' : b = e ∨ b = it := by simpa using hb
    rcases hb' with q | q <;> subst q
    · exact ⟨_, h1, fun v q => by cases q⟩
    · exact ⟨o, h2, fun v q => by rw [d] at q; cases q⟩
  keep := by
    rintro i h h' ⟨⟨old, h1⟩, h2⟩ k
    exact ⟨⟨old, k e (by simp) _ h1⟩, h2.at fun o q => k it (by simp) o q⟩
  item := by
    intro X hP hw hK hc i pins s σ H E I hf st hg
    subst hP hw hK
    obtain ⟨⟨old, he⟩, hit⟩ := st
    obtain ⟨xs, x, hq, hx⟩ := hg
    obtain ⟨its, rv, pt, hz⟩ := I.tuple hq
    obtain ⟨u, hu, ru⟩ := rv.get hx
    have pt' : s.heap.IsTuple a its.toArray := pt
    have nai : a ≠ it := fun q => by
      obtain ⟨o1, e1, c1, _⟩ := pt'
      obtain ⟨o2, e2, c2, _⟩ := hit
      rw [q, e2] at e1; cases e1
      rw [c2] at c1
      exact absurd (Value.type.inj c1) (by decide)
    have nae : e ≠ a := fun q => by
      obtain ⟨o1, e1, c1, _⟩ := pt'
      rw [← q, he] at e1; cases e1
      exact absurd (Value.type.inj c1) (by decide)
    have nei : e ≠ it := fun q => by
      obtain ⟨o2, e2, c2, _⟩ := hit
      rw [← q, he] at e2; cases e2
      exact absurd (Value.type.inj c2) (by decide)
    have hi : i < its.toArray.size := by
      have := (List.getElem?_eq_some_iff.mp hu).1
      simpa using this
    have D := Draws.tuple (prog := X.prog) (w := X.w) (A := X.A.in1) (by simp [I.ok.hd hc]) it a nai its.toArray
    have hel : e < s.heap.objs.size := Heap.lt_size he
    have hil : it < s.heap.objs.size := by obtain ⟨_, q, _⟩ := hit; exact Heap.lt_size q
    refine wpAny_pyNext_enum_itemC D he ⟨hit, pt'⟩ hi nei (by simp [nei, nae]) fun x2 h' tk hP2 ho hs' hT hsz hk => ⟨_, rfl, ?_⟩
    have ex2 : x2 = u := by
      have q : its.toArray[i]? = some x2 := hP2
      rw [List.getElem?_toArray, hu] at q
      exact (Option.some.inj q).symm
    subst ex2
    refine wpAny_letOwnedTupleGo_enum (s := { s with heap := h', toks := tk + 1 }) ho fun h2 he2 sb => ?_
    have hT2 := (sb.2 _ (Nat.ne_of_gt hel)).trans hT
    have nw : ObjOk X.prog X.w (upd H s.heap.objs.size (.tup [.int (i : Nat), x])) h2 s.heap.objs.size (.tup [.int (i : Nat), x]) :=
      ⟨by show 2 ≤ sizeLine; decide, [.int i tk, x2], .cons ⟨_, rfl⟩ (.cons ru .nil), ⟨_, hT2, rfl, _, rfl⟩⟩
    have J : Inv X pins σ (upd H s.heap.objs.size (.tup [.int (i : Nat), x])) { s with heap := h2, toks := tk + 1 } :=
      I.turnedNew (ch := [e, it]) (fun b o hb q => (sb.2 b (fun z => hb (by simp [z]))).trans (hk b o (fun z => hb (by simp [z])) (fun z => hb (by simp [z])) q)) hf (Nat.le_refl _) nw
    refine ⟨.ref s.heap.objs.size, _, J, rfl, ⟨_, x, rfl, I.hok.fresh (Nat.le_refl _), rfl, fun ys hy => ?_⟩, ⟨⟨x2, ?_⟩, ?_⟩, fun b hb => ?_⟩
    · rw [I.tuple_inj hy hq]
      exact hx
    · have e1 : ((i + 1 : Nat) : Int) = (i : Int) + 1 := by omega
      rw [e1]
      exact he2
    · exact hs'.1.at fun o q => (sb.2 it (Ne.symm nei)).trans q
    · have lt : b < s.heap.objs.size := by
        have hb' : b = e ∨ b = it := by simpa using hb
        rcases hb' with q | q <;> subst q
        · exact hel
        · exact hil
      rw [upd_ne (Nat.ne_of_lt lt)]
      exact (hf b hb).1
  done := by
    intro X hP hw hK hc i pins s σ H E I hf st hg
    subst hP hw hK
    obtain ⟨⟨old, he⟩, hit⟩ := st
    obtain ⟨xs, hq, hx⟩ := hg
    obtain ⟨its, rv, pt, hz⟩ := I.tuple hq
    have pt' : s.heap.IsTuple a its.toArray := pt
    have nai : a ≠ it := fun q => by
      obtain ⟨o1, e1, c1, _⟩ := pt'
      obtain ⟨o2, e2, c2, _⟩ := hit
      rw [q, e2] at e1; cases e1
      rw [c2] at c1
      exact absurd (Value.type.inj c1) (by decide)
    have D := Draws.tuple (prog := X.prog) (w := X.w) (A := X.A.in1) (by simp [I.ok.hd hc]) it a nai its.toArray
    obtain ⟨f0, f1, f2, f3, f4, f5⟩ := hf it (by simp)
    have hl := rv.length
    have ei : i = its.toArray.size := by
      rw [List.size_toArray, ← hl, hx]
    subst ei
    exact wpAny_pyNext_enum_endD D he ⟨hit, pt'⟩ fun h' eb => ⟨rfl, I.turned (t' := s.toks) (fun b o hb q => eb b o hb q) f0 f1 f3 f4 f5⟩
  self := fun A i s Q E st h => let ⟨⟨_, he⟩, _⟩ := st; wpAny_pyIter_enum he h
theorem meets_enum_tup (l : Addr) (items : Array Value) (o : Obj) (hc : o.cls = .type "tuple") (n : Nat) (hd : o.data = .seq items n) :
    Meets (Builtin.«enumerate.__new__» ⟨[.type "enumerate", .ref l], []⟩) (fun _ R s => s.heap.get? l = some o ∧
      R (.ok (.ret (.ref (s.heap.push { cls := .type "tuple_iterator", data := .fields #[.ref l, .int 0 0] }).objs.size)))
        { s with heap := (s.heap.push { cls := .type "tuple_iterator", data := .fields #[.ref l, .int 0 0] }).push { cls := .type "enumerate", data := .fields #[.none, .bool false, .ref s.heap.objs.size, rawInt 0, .none, .none] } }) := by
  refine .of_wp fun prog w A R s h => ?_
  obtain ⟨hp, g, d, tk, os⟩ := s
  obtain ⟨hl, h⟩ := h
  have hsub := sub_enumerate
  have hL : Heap.IsTuple (Shared.heap ⟨hp, g, d, tk, os⟩) l items := ⟨_, hl, hc, n, hd⟩
  wp_walk using wpAny_pyIter_tuple hL
  refine wpAny_stack_any fun st => wpAny_pure ?_
  split
  · rename_i c _ _ _ _ _
    cases (c == Value.type "enumerate") <;> (wp_walk using wpAny_pyIter_tuple hL; exact ⟨_, rfl, h⟩)
  · wp_walk using wpAny_pyIter_tuple hL
    exact ⟨_, rfl, h⟩
theorem call_enum_tup {prog : Program} {w : World} {A : Around} {E : Value → Shared → Prop} {s : Shared} {l : Addr} {items : Array Value} {Q : Value → Shared → Prop} (hL : s.heap.IsTuple l items)
    (h : ∀ h', IsEnum h' (s.heap.objs.size + 1) s.heap.objs.size 0 .none → h'.IsTupleIter s.heap.objs.size l 0 →
      (∀ b o, s.heap.get? b = some o → h'.get? b = some o) → Q (.ref (s.heap.objs.size + 1)) { s with heap := h' }) :
    wpAny (model prog w) A (call (.type "enumerate") [.ref l]) Q E s := by
  obtain ⟨o, hl, hc, n, hd⟩ := hL
  refine callType_new F.called_enumerate (by decide) (F.typeCall_enumerate_1 _) (F.newCall_enumerate_1 _) (fun obj => F.args_object_init_2 obj _) F.entry_enumerate_new (meets_enum_tup l items o hc n hd) ⟨hl, ?_⟩
  have hz : (s.heap.push { cls := .type "tuple_iterator", data := .fields #[.ref l, .int 0 0] }).objs.size = s.heap.objs.size + 1 := Heap.size_push ..
  show _ ∧ _
  rw [hz]
  have he := Heap.get?_push_size (s.heap.push { cls := .type "tuple_iterator", data := .fields #[.ref l, .int 0 0] }) (o := { cls := .type "enumerate", data := .fields #[.none, .bool false, .ref s.heap.objs.size, rawInt 0, .none, .none] }) rfl
  rw [hz] at he
  exact ⟨⟨_, he, rfl⟩, h _ he ⟨_, Heap.get?_push_of_some _ (Heap.get?_push_size _ rfl), rfl, rfl⟩ fun b o x => Heap.get?_push_of_some _ (Heap.get?_push_of_some _ x)⟩
def iEt (K : PySem.W.Frag) (ta : TA) : TI := fun σ H R => ta σ H fun vs H1 => ∃ a xs, vs = [.ref a] ∧ SqT K H1 a xs ∧ R (ItEt K a) H1
theorem pi_et {X : Cx} {e : Expr} {ta : TA} {p pos tp : Pos} {elts : List Expr} {kk : Nat} (hg : Gl X "enumerate") (hm : X.mg "enumerate" = none) (ha : PA X [e] ta) (hs : starEach [e] X.env = [(false, eval e X.env)] := by rfl) :
    PI X (.Tuple elts kk tp) (.Call (.Name "enumerate" p) [e] [] pos) (iEt X.K ta) := by
  constructor
  intro pins s σ H R I h
  refine Call_ (ld_blt I hg hm boot_enumerate (PyProof.Rows.callWith_type1 (thn (ha.run pos pins s σ H _ I h) ?_) hs rfl))
  rintro us s1 ⟨vs, H1, I1, r1, a, xs, rfl, hq, q⟩
  cases r1 with
  | cons r rr =>
    cases rr
    cases r
    obtain ⟨its, rv, pt, hz⟩ := I1.tuple hq
    refine call_enum_tup (show s1.heap.IsTuple a its.toArray from pt) fun h' he hit hk => wpAny_pyIter_enum he ?_
    have I2 : Inv X pins σ H1 { s1 with heap := h' } := I1.kept (t' := s1.toks) hk
    refine ⟨s1.heap.objs.size + 1, _, _, _, H1, rfl, I2, turn_et a (s1.heap.objs.size + 1) s1.heap.objs.size, ⟨⟨.none, he⟩, hit⟩, fun b hb => ?_, q⟩
    have hle : s1.heap.objs.size ≤ b := by
      have e' : b = s1.heap.objs.size + 1 ∨ b = s1.heap.objs.size := by simpa using hb
      rcases e' with e | e <;> rw [e]
      · exact Nat.le_add_right _ _
      · exact Nat.le_refl _
    exact I1.fpOk hle (I1.hok.fresh hle)
theorem walk_et {K : PySem.W.Frag} {a : Addr} {xs : List V} : Walk (ItEt K a) xs.length (fun H => SqT K H a xs) (YPair (fun i => some (.int (i : Nat))) (fun i => xs[i]?)) := by
  refine ⟨fun i _ hi q => ⟨xs, xs[i], q, by simp [hi]⟩, fun _ q => ⟨xs, q, rfl⟩, ?_⟩
  rintro i H v H' _ q ⟨T, x, h1, h2, h3, h4⟩
  exact ⟨T, .int (i : Nat), x, h1, h2, h3, rfl, h4 xs q⟩
end KL

set_option Elab.async false
set_option linter.all false
set_option maxRecDepth 100000
set_option maxHeartbeats 2000000
/-! K2: a dict comprehension of two clauses without tests -/
namespace KL
open PySem PySem.Spec PyProof.Rows L2

abbrev dcE (kx vx t0 i0 t1 i1 : Expr) (scope : Scope) (pos : Pos) : Expr := .DictComp kx vx [⟨t0, i0, [], 0⟩, ⟨t1, i1, [], 0⟩] scope pos
abbrev noE : Value → Shared → Prop := fun _ _ => False

theorem dcE_turn0 (kx vx t0 i0 t1 i1 : Expr) (scope : Scope) (pos : Pos) (it acc : Value) (env : Env) :
    compTurn (dcE kx vx t0 i0 t1 i1 scope pos) 0 it acc env = (do
      standAt i0.pos
      match ← pyNext it with
      | none => pure (.done .next)
      | some v =>
        letOwnedTupleGo t0 it v
        assign t0 env v
        let mut ok := true
        for c in ([] : List Expr) do
          if ok then ok ← isTrue c env (eval c env)
        if ok then
          let x ← eval i1 env
          standAt i1.pos
          let x ← foldedSetIterable i1 env x
          let _ ← runOwn (.compStart (dcE kx vx t0 i0 t1 i1 scope pos) 1 (← holding [x] (pyIter x)) acc env) env
        again (.compLoop (dcE kx vx t0 i0 t1 i1 scope pos) 0 it acc env)) := by rfl
theorem dcE_turn1 (kx vx t0 i0 t1 i1 : Expr) (scope : Scope) (pos : Pos) (it : Value) (D : Addr) (env : Env) :
    compTurn (dcE kx vx t0 i0 t1 i1 scope pos) 1 it (.ref D) env = (do
      standAt i1.pos
      match ← pyNext it with
      | none => pure (.done .next)
      | some v =>
        letOwnedTupleGo t1 it v
        assign t1 env v
        let mut ok := true
        for c in ([] : List Expr) do
          if ok then ok ← isTrue c env (eval c env)
        if ok then
          (do
            let kv ← eval kx env
            let vv ← holding [kv] (eval vx env)
            standAt { kx.pos with endLine := vx.pos.endLine, endCol := vx.pos.endCol }
            holding [kv, vv] (dictSet D kv vv))
        again (.compLoop (dcE kx vx t0 i0 t1 i1 scope pos) 1 it (.ref D) env)) := by rfl

section
variable {prog : Program} {w : World} {A : Around} {R : Result → Shared → Prop} {s : Shared} {kx vx t0 i0 t1 i1 : Expr} {scope : Scope} {pos : Pos} {it acc : Value} {D : Addr} {env : Env}
theorem offE {α : Type} {t : Sem α} {Q Q' : α → Shared → Prop} {M : Model} {E : Value → Shared → Prop} (h : wpAny M A t Q noE s) (k : ∀ a s, Q a s → Q' a s) : wpAny M A t Q' E s :=
  wpAny_mono h k fun _ _ z => z.elim
/-- the first clause's loop -/
theorem dcLoop0 (hs : ∀ x, foldedSetIterable i1 env x = pure x) (I : Nat → Shared → Prop)
    (turn : ∀ n s, I n s → wpAny (model prog w) A (pyNext it) (fun r s1 => match r with
      | none => R (.ok .next) s1
      | some v => wpAny (model prog w) A (letOwnedTupleGo t0 it v) (fun _ s2 => wpAny (model prog w) A (assign t0 env v) (fun _ s3 =>
          wpAny (model prog w) A (eval i1 env) (fun x s4 => wpAny (model prog w) A (pyIter x) (fun it1 s5 =>
            codeAny (model prog w) A (.compStart (dcE kx vx t0 i0 t1 i1 scope pos) 1 it1 acc env) (fun r s' => match r with
              | .ok _ => ∃ m, m < n ∧ I m s'
              | .error _ => False) s5) noE s4) noE s3) noE s2) noE s1) noE s)
    (n : Nat) (h : I n s) : codeAny (model prog w) A (.compLoop (dcE kx vx t0 i0 t1 i1 scope pos) 0 it acc env) R s := by
  refine codeAny_loop rfl I ?_ n h
  intro n s hI
  show wpAny _ A ((compTurn (dcE kx vx t0 i0 t1 i1 scope pos) 0 it acc env).onRaise fun x => do noteFrame x env; theTreesLotGoes x) _ _ s
  rw [dcE_turn0]
  refine wpAny_noted (wpAny_bind (wpAny_standAt (wpAny_bind (offE (turn n s hI) ?_))))
  rintro (_ | v) s1 h1
  · exact wpAny_pure h1
  · refine wpAny_bind (offE h1 fun _ s2 h2 => wpAny_bind (offE h2 fun _ s3 h3 => wpAny_bind (wpAny_pure ?_)))
    refine wpAny_bind (offE h3 fun x s4 h4 => wpAny_bind (wpAny_standAt (wpAny_bind (wpAny_of_eq (hs x) (wpAny_bind (wpAny_holding (offE h4 ?_)))))))
    intro it1 s5 h5
    refine wpAny_bind (wpAny_runOwn ?_)
    rw [Around.mark_none]
    refine codeAny_mono h5 ?_
    intro r s6 h6
    cases r with
    | error e => exact h6.elim
    | ok f =>
      first
        | exact wpAny_pure (And.intro rfl h6)
        | exact wpAny_bind (wpAny_pure (wpAny_pure (And.intro rfl h6)))
/-- the second clause's loop -/
theorem dcLoop1 (I : Nat → Shared → Prop)
    (turn : ∀ n s, I n s → wpAny (model prog w) A (pyNext it) (fun r s1 => match r with
      | none => R (.ok .next) s1
      | some v => wpAny (model prog w) A (letOwnedTupleGo t1 it v) (fun _ s2 => wpAny (model prog w) A (assign t1 env v) (fun _ s3 =>
          wpAny (model prog w) A (eval kx env) (fun kv s4 => wpAny (model prog w) A (eval vx env) (fun vv s5 =>
            wpAny (model prog w) A (dictSet D kv vv) (fun _ s6 => ∃ m, m < n ∧ I m s6) noE s5) noE s4) noE s3) noE s2) noE s1) noE s)
    (n : Nat) (h : I n s) : codeAny (model prog w) A (.compLoop (dcE kx vx t0 i0 t1 i1 scope pos) 1 it (.ref D) env) R s := by
  refine codeAny_loop rfl I ?_ n h
  intro n s hI
  show wpAny _ A ((compTurn (dcE kx vx t0 i0 t1 i1 scope pos) 1 it (.ref D) env).onRaise fun x => do noteFrame x env; theTreesLotGoes x) _ _ s
  rw [dcE_turn1]
  refine wpAny_noted (wpAny_bind (wpAny_standAt (wpAny_bind (offE (turn n s hI) ?_))))
  rintro (_ | v) s1 h1
  · exact wpAny_pure h1
  · refine wpAny_bind (offE h1 fun _ s2 h2 => wpAny_bind (offE h2 fun _ s3 h3 => wpAny_bind (wpAny_pure ?_)))
    exact wpAny_bind (wpAny_bind (offE h3 fun kv s4 h4 => wpAny_bind (wpAny_holding (offE h4 fun vv s5 h5 => wpAny_bind (wpAny_standAt (wpAny_holding (offE h5 fun _ s6 h6 => wpAny_pure (And.intro rfl h6))))))))
/-- the second clause's start -/
theorem dcStart1 (h0 : codeAny (model prog w) A (.compLoop (dcE kx vx t0 i0 t1 i1 scope pos) 1 it acc env) R s)
    (h : wpAny (model prog w) A (pyIter it) (fun it' s' => codeAny (model prog w) A (.compLoop (dcE kx vx t0 i0 t1 i1 scope pos) 1 it' acc env) R s') noE s) :
    codeAny (model prog w) A (.compStart (dcE kx vx t0 i0 t1 i1 scope pos) 1 it acc env) R s := by
  refine codeAny_of_tree ?_
  show wpAny _ _ ((compStart (dcE kx vx t0 i0 t1 i1 scope pos) 1 it acc env).onRaise fun x => do noteFrame x env; standAt theWindowsPlace) _ _ s
  refine wpAny_notedAt ?_
  unfold compStart
  show wpAny _ _ (ask >>= _) _ _ s
  refine wpAny_bind (wpAny_askSetting (wpAny_ite ?_))
  split
  · first
      | exact wpAny_bind (wpAny_pure (wpAny_pure (And.intro rfl h0)))
      | exact wpAny_pure (And.intro rfl h0)
  · refine wpAny_bind (wpAny_rule ?_)
    show wpAny _ _ (standAt i1.pos >>= _) _ _ s
    exact wpAny_bind (wpAny_standAt (wpAny_bind (offE h fun it' s' h' => wpAny_pure (And.intro rfl h'))))
end
end KL

set_option Elab.async false
set_option linter.all false
set_option maxRecDepth 100000
set_option maxHeartbeats 4000000
/-! K3: the rule for a dict comprehension of two clauses -/
namespace KL
open PySem PySem.Spec PyProof.Rows L2
section
variable {X : Cx}
/-- behind the first target's store the second source's own walk; D the new dict -/
def tDc2 (wi : TI) (g : TG) (wi1 : TI) (g1 : TG) (tk tv : TE) (vs vs1 : List Nat) : TE := fun σ H Q => wi σ H fun J H1 => ∀ D, H1 D = none → ∃ W : Nat → Nat → Hp → Prop, (∃ m, W 0 m (upd H1 D (.dK []))) ∧ ∀ i m H, W i m H →
  (J.stop i H ∧ Q (.ref D) H) ∨ (J.go i H ∧ ∃ Nx : Hp → Prop, (∀ H', Nx H' → ∃ m', m' < m ∧ W (i + 1) m' H') ∧ ∀ x H', J.yld i H x H' → g x (wipe σ vs) H' fun σ2 H2 => wipe σ2 vs = wipe σ vs ∧
    wi1 σ2 H2 fun J1 H4 => ∃ W1 : Nat → Nat → Hp → Prop, (∃ m, W1 0 m H4) ∧ ∀ j k H, W1 j k H →
      (J1.stop j H ∧ Nx H) ∨ (J1.go j H ∧ ∃ Nx1 : Hp → Prop, (∀ H', Nx1 H' → ∃ k', k' < k ∧ W1 (j + 1) k' H') ∧ ∀ x H', J1.yld j H x H' → g1 x (wipe σ2 vs1) H' fun σ3 H5 => wipe σ3 vs1 = wipe σ2 vs1 ∧
        tk σ3 H5 fun y H6 => tv σ3 H6 fun z H7 => ∃ kvs k, y = kV k ∧ H7 D = some (.dK kvs) ∧ kvs.length < sizeLine ∧ Nx1 (upd H7 D (.dK (putK kvs k z)))))
theorem pe_dc2 {kx vx t0 i0 t1 i1 : Expr} {scope : Scope} {own : List (Str × Nat)} {vs1 : List Nat} {pos : Pos} {wi wi1 : TI} {g g1 : TG} {tk tv : TE} (hc : X.calm = true) (hN : X.N.Nodup) (hi : PI X t0 i0 wi) (ok : BlkOk X.N X.env.scope scope own) (hv : ∀ i ∈ vs1, i ∈ own.map (·.2))
    (hg : ∀ (s : Shared) (H : Hp) (C : Addr) (cl : List (Str × Addr)) (fp : List Addr), PG (X.blk s H scope (compEnvC scope cl C X.env) fp) t0 g)
    (hi1 : ∀ (s : Shared) (H : Hp) (C : Addr) (cl : List (Str × Addr)) (fp : List Addr), PI (X.blk s H scope (compEnvC scope cl C X.env) fp) t1 i1 wi1)
    (hg1 : ∀ (s : Shared) (H : Hp) (C : Addr) (cl : List (Str × Addr)) (fp : List Addr), PG (X.blk s H scope (compEnvC scope cl C X.env) fp) t1 g1)
    (hk : ∀ (s : Shared) (H : Hp) (C : Addr) (cl : List (Str × Addr)) (fp : List Addr), PE (X.blk s H scope (compEnvC scope cl C X.env) fp) kx tk)
    (he : ∀ (s : Shared) (H : Hp) (C : Addr) (cl : List (Str × Addr)) (fp : List Addr), PE (X.blk s H scope (compEnvC scope cl C X.env) fp) vx tv)
    (hs : ∀ x, foldedSetIterable i0 X.env x = pure x := by intro _; rfl) (hs1 : ∀ env x, foldedSetIterable i1 env x = pure x := by intro _ _; rfl) :
    PE X (dcE kx vx t0 i0 t1 i1 scope pos) (tDc2 wi g wi1 g1 tk tv (own.map (·.2)) vs1) := by
  constructor
  intro pins s σ H Q I h
  rw [arm_eval_DictComp]
  have cells : ∀ y ∈ scope.names, y.2 = .free → ∃ c, X.env.cells.lookup y.1 = some c := fun y hy e => I.ok.has _ (ok.free y hy e)
  refine wpAny_comprehension_free (use := none) rfl hs (closure_ok cells) ok.kind (fun y hy e => by rw [ok.uniq y hy, e]) (thn (hi.run pins s σ H _ I h) fun xv s1 hx => thn hx ?_)
  rintro itv s2 ⟨it, fp, tn, J, H2, rfl, I2, T, st2, f2, q⟩
  refine wpAny_newObj_type (newEnv_comp ?_)
  generalize hD : s2.heap.objs.size = D
  have nD : H2 D = none := I2.hok.fresh (Nat.le_of_eq hD)
  obtain ⟨W, ⟨m0, w0⟩, turn⟩ := q D nD
  generalize es3 : ({ s2 with heap := s2.heap.push { cls := .type "dict", data := .dict #[] } } : Shared) = s3
  have hp3 : s3.heap = s2.heap.push { cls := .type "dict", data := .dict #[] } := by rw [← es3]
  have up : ∀ b o, s2.heap.get? b = some o → s3.heap.get? b = some o := fun b o e => by
    rw [hp3]
    exact Heap.get?_push_of_some _ e
  generalize eH3 : upd H2 D (.dK []) = H3 at w0
  have I3 : Inv X pins σ H3 s3 := by
    rw [← es3, ← eH3]
    refine I2.laid (t' := s2.toks) (fun b o e => Heap.get?_push_of_some _ e) (Nat.le_of_eq hD) ?_
    rw [← hD]
    exact dk_empty s2.heap I2.big
  have below : ∀ b ∈ fp, b < s2.heap.objs.size := fun b hb => let ⟨_, e, _⟩ := T.obj _ _ st2 b hb; Heap.lt_size e
  have f3 : ∀ b ∈ fp, FpOk X pins H3 b ∧ b < s3.heap.objs.size := fun b hb => by
    have lt := below b hb
    refine ⟨⟨?_, (f2 b hb).2⟩, ?_⟩
    · rw [← eH3, upd_ne (by rw [← hD]; exact Nat.ne_of_lt lt)]
      exact (f2 b hb).1
    · rw [hp3, Heap.size_push]
      exact Nat.lt_succ_of_lt lt
  have st3 : tn 0 s3.heap := T.keep _ _ _ st2 fun b _ o e => up b o e
  have I4 := block_start I3 ok hN f3
  generalize eC : s3.heap.objs.size = C at I4
  generalize ecl : cellsFrom (C + 1) scope.names (cloFrom X.env.cells scope.names []) = cl at I4
  have pg := hg s3 H3 C cl fp
  have pk := hk s3 H3 C cl fp
  have pv := he s3 H3 C cl fp
  have pi1 := hi1 s3 H3 C cl fp
  have pg1 := hg1 s3 H3 C cl fp
  show codeAny _ _ (.compStart (dcE kx vx t0 i0 t1 i1 scope pos) 0 (.ref it) (.ref D) (compEnvC scope cl C X.env)) (compPost (model X.prog X.w) X.A X.xe none (EP X pins σ Q) (.ref D) C) { s3 with heap := pushCells (s3.heap.push { cls := .type "dict", data := .dict #[] }) scope.names }
  generalize ece : compEnvC scope cl C X.env = ce at I4 pg pk pv pi1 pg1 ⊢
  have cL : ce.locals = C := by subst ece; rfl
  generalize es4 : ({ s3 with heap := pushCells (s3.heap.push { cls := .type "dict", data := .dict #[] }) scope.names } : Shared) = s4 at I4 ⊢
  have st4 : tn 0 s4.heap := T.keep _ _ _ st3 fun b _ o e => by
    rw [← es4]
    exact pushCells_keeps _ _ _ _ (Heap.get?_push_of_some _ e)
  have fpO : ∀ {σ' : L2.St} {H' : Hp} {s' : Shared}, Inv (X.blk s3 H3 scope ce fp) [] σ' H' s' → (∀ b ∈ fp, H' b = none) → ∀ b ∈ fp, FpOk (X.blk s3 H3 scope ce fp) [] H' b := fun {σ' H' s'} J' hn b hb =>
    ⟨hn b hb, (J'.ok.exf b hb).1, J'.ok.exfs b hb, .inl hb, fun x c e => (J'.ok.exf b hb).2 x c e, fun p hp => absurd (show p ∈ ([] : List (Addr × Obj)) ++ [] from hp) (by simp)⟩
  generalize evs : own.map (·.2) = vs at I4 hv turn
  have big : codeAny (model X.prog X.w) X.A (.compLoop (dcE kx vx t0 i0 t1 i1 scope pos) 0 (.ref it) (.ref D) ce) (compPost (model X.prog X.w) X.A X.xe none (EP X pins σ Q) (.ref D) C) s4 := by
    refine dcLoop0 (hs1 ce) (fun n s' => ∃ i H', Inv (X.blk s3 H3 scope ce fp) [] (wipe σ vs) H' s' ∧ tn i s'.heap ∧ (∀ b ∈ fp, H' b = none) ∧ W i n H') ?_ m0 ⟨0, H3, I4, st4, fun b hb => (f3 b hb).1.1, w0⟩
    rintro n s5 ⟨i, H5, I5, st5, n5, w5⟩
    rcases turn i n H5 w5 with ⟨stop, qq⟩ | ⟨go, Nx, hNx, step⟩
    · refine thn (T.done (X.blk s3 H3 scope ce fp) rfl rfl rfl hc i [] s5 _ H5 noE I5 (fpO I5 n5) st5 stop) ?_
      rintro r s6 ⟨rfl, I6⟩
      have I7 : Inv X pins σ H5 s6 := I3.call' (ch := fp) I6.os I6.base I6.hok I6.bare fun b hb => ⟨(f3 b hb).1.2.2.2.1, (f3 b hb).1.2.1, (f3 b hb).1.2.2.2.2.1, (f3 b hb).1.2.2.2.2.2⟩
      have nC : H5 C = none := by
        rw [← cL]
        exact I6.free
      obtain ⟨m, hn, _⟩ := I6.loc
      replace hn : s6.heap.Ns C m := by
        rw [← cL]
        exact hn
      obtain ⟨c0, c1, c2, c3, c4, c5⟩ := I3.fpOk (Nat.le_of_eq eC) nC
      exact ⟨m, hn, fun h2 sb => ⟨.ref D, H5, I7.turned (t' := s6.toks) (fun b o hb e => (sb.2 b hb).trans e) c0 c1 c3 c4 c5, rfl, qq⟩⟩
    · refine thn (T.item (X.blk s3 H3 scope ce fp) rfl rfl rfl hc i [] s5 _ H5 noE I5 (fpO I5 n5) st5 go) ?_
      rintro r s6 ⟨u, rfl, h6⟩
      refine thn h6 ?_
      rintro _ s7 ⟨x, H7, I7, r7, y7, st7, n7⟩
      have I7p := I7.pinned (fpO I7 n7) (T.obj _ _ st7)
      refine thn (pg.run _ s7 _ H7 x u _ I7p r7 (step x H7 y7)) ?_
      rintro _ s8 ⟨σ8, H8, I8, hw8, q8⟩
      have len8 : (wipe σ vs).length = σ8.length := by rw [← hw8, wipe_length]
      have old9 : ∀ (j : Nat) v, (wipe σ vs)[j]? = some (some v) → (wipe σ8 vs1)[j]? = some (some v) := fun j v e => by
        rw [← hw8] at e
        obtain ⟨e1, e2⟩ := wipe_some e
        rw [wipe_out fun z => e2 (hv j z)]
        exact e1
      have back : ∀ {s' : Shared} {H' : Hp}, Inv (X.blk s3 H3 scope ce fp) ([] ++ pinsAt fp s7.heap) (wipe σ8 vs1) H' s' → Nx H' →
          ∃ m, m < n ∧ ∃ i H', Inv (X.blk s3 H3 scope ce fp) [] (wipe σ vs) H' s' ∧ tn i s'.heap ∧ (∀ b ∈ fp, H' b = none) ∧ W i m H' := fun {s' H'} J' nx => by
        obtain ⟨m', hm, w'⟩ := hNx H' nx
        have pin : ∀ b ∈ fp, ∀ o, s7.heap.get? b = some o → s'.heap.get? b = some o ∧ H' b = none := fun b hb o e =>
          let z := J'.pin (b, o) (List.mem_append_right _ (List.mem_append_right _ (mem_pinsAt hb e)))
          ⟨z.1, z.2.1⟩
        refine ⟨m', hm, i + 1, H', (J'.unpinned (pins := [])).weak (len8.trans (wipe_length σ8 vs1).symm) old9, T.keep _ _ _ st7 fun b hb o e => (pin b hb o e).1, fun b hb => ?_, w'⟩
        obtain ⟨o, e, _⟩ := T.obj _ _ st7 b hb
        exact (pin b hb o e).2
      refine thn (pi1.run _ s8 σ8 H8 _ I8 q8) fun xv s9 hx9 => thn hx9 ?_
      rintro itv s10 ⟨it1, fp1, tn1, J1, H10, rfl, I10, T1, st10, f10, W1, ⟨m1, w1⟩, turn1⟩
      have fpI : ∀ {H' : Hp}, (∀ b ∈ fp1, H' b = none) → ∀ b ∈ fp1, FpOk (X.blk s3 H3 scope ce fp) ([] ++ pinsAt fp s7.heap) H' b := fun hn b hb => ⟨hn b hb, (f10 b hb).2⟩
      have small : codeAny (model X.prog X.w) X.A (.compLoop (dcE kx vx t0 i0 t1 i1 scope pos) 1 (.ref it1) (.ref D) ce)
          (fun r s' => match r with
            | .ok _ => ∃ m, m < n ∧ ∃ i H', Inv (X.blk s3 H3 scope ce fp) [] (wipe σ vs) H' s' ∧ tn i s'.heap ∧ (∀ b ∈ fp, H' b = none) ∧ W i m H'
            | .error _ => False) s10 := by
        refine dcLoop1 (fun k s' => ∃ j H', Inv (X.blk s3 H3 scope ce fp) ([] ++ pinsAt fp s7.heap) (wipe σ8 vs1) H' s' ∧ tn1 j s'.heap ∧ (∀ b ∈ fp1, H' b = none) ∧ W1 j k H') ?_ m1 ⟨0, H10, I10.weak (wipe_length _ _) (fun j v e => (wipe_some e).1), st10, fun b hb => (f10 b hb).1, w1⟩
        rintro k s11 ⟨j, H11, I11, st11, n11, w11⟩
        rcases turn1 j k H11 w11 with ⟨stop1, nx1⟩ | ⟨go1, Nx1, hNx1, step1⟩
        · refine thn (T1.done (X.blk s3 H3 scope ce fp) rfl rfl rfl hc j _ s11 (wipe σ8 vs1) H11 noE I11 (fpI n11) st11 stop1) ?_
          rintro r s12 ⟨rfl, I12⟩
          exact back I12 nx1
        · refine thn (T1.item (X.blk s3 H3 scope ce fp) rfl rfl rfl hc j _ s11 (wipe σ8 vs1) H11 noE I11 (fpI n11) st11 go1) ?_
          rintro r s12 ⟨u1, rfl, h12⟩
          refine thn h12 ?_
          rintro _ s13 ⟨x1, H13, I13, r13, y13, st13, n13⟩
          have I13p := I13.pinned (fpI n13) (T1.obj _ _ st13)
          refine thn (pg1.run _ s13 (wipe σ8 vs1) H13 x1 u1 _ I13p r13 (step1 x1 H13 y13)) ?_
          rintro _ s14 ⟨σ14, H14, I14, hw14, q14⟩
          refine thn (pk.run _ s14 σ14 H14 _ I14 q14) ?_
          rintro z s15 ⟨yk, H15, I15, r15, q15⟩
          refine thn (pv.run _ s15 σ14 H15 _ I15 q15) ?_
          rintro z2 s16 ⟨yv, H16, I16, r16, kvs, key, rfl, hD16, hz16, nx⟩
          refine d_dictSet (X := X.blk s3 H3 scope ce fp) I16 hD16 hz16 r15 r16 fun s17 I17 => ?_
          obtain ⟨m', hm, w'⟩ := hNx1 _ nx
          have pin : ∀ b ∈ fp1, ∀ o, s13.heap.get? b = some o → s17.heap.get? b = some o ∧ (upd H16 D (.dK (putK kvs key yv))) b = none := fun b hb o e =>
            let z := I17.pin (b, o) (List.mem_append_right _ (List.mem_append_right _ (mem_pinsAt hb e)))
            ⟨z.1, z.2.1⟩
          refine ⟨m', hm, j + 1, _, I17.unpinned.weak (by rw [← hw14, wipe_length]) (fun j v e => by rw [← hw14] at e; exact (wipe_some e).1), T1.keep _ _ _ st13 fun b hb o e => (pin b hb o e).1, fun b hb => ?_, w'⟩
          obtain ⟨o, e, _⟩ := T1.obj _ _ st13 b hb
          exact (pin b hb o e).2
      exact dcStart1 small (T1.self X.A 0 _ _ _ st10 small)
  exact codeAny_compStart_dict big (T.self X.A 0 _ _ _ st4 big)
end
end KL

set_option Elab.async false
set_option linter.all false
set_option maxRecDepth 100000
set_option maxHeartbeats 4000000
/-! K4: set(list of texts), sorted(set of texts) -/
namespace KL
open PySem PySem.Spec PyProof.Rows L2

abbrev emptySet (w : World) : Obj := { cls := .type "set", dict := none, data := .set #[] 0 (.fresh 0 0 (!w.params.followText "set-order")) }
def txOf (e : Int × Value) : Str := match e.2 with | .str k _ => k | _ => Str.empty
def TxE (w : World) (e : Int × Value) : Prop := ∃ k tk, e.2 = Value.str k tk ∧ e.1 = hashStr w k
def IsLed (w : World) (t : SetTable) : Prop := w.params.followText "set-order" = true ∨ t.led = true
/-- at a stands a set of the texts l -/
def SetT (w : World) (h : Heap) (a : Addr) (l : List Str) : Prop :=
  ∃ o es ep t, h.get? a = some o ∧ o.ExactSet ∧ o.data = .set es ep t ∧ (∀ e ∈ es.toList, TxE w e) ∧ (es.toList.map txOf).Perm l ∧ l.Nodup ∧ es.size < scanBound ∧ t.fits es.size = true ∧ Ris t.place.toList ∧ IsLed w t

section
variable {P : Program} {w : World} {h h' : Heap} {a : Addr} {l : List Str}
theorem SetT.mov (R : SetT w h a l) (k : ∀ o, h.get? a = some o → h'.get? a = some o) : SetT w h' a l :=
  let ⟨o, es, ep, t, e, r⟩ := R
  ⟨o, es, ep, t, k o e, r⟩
theorem tx_elems {es : List (Int × Value)} (g : ∀ e ∈ es, TxE w e) : ElemsOf (PySem.strKind P w) es := by
  intro e he
  obtain ⟨k, tk, h1, h2⟩ := g e he
  exact ⟨⟨k, by rw [h1]; exact PySem.strKind_is P w k tk, h2⟩, by rw [h1] <;> rfl⟩
theorem tx_is {e : Int × Value} (g : TxE w e) (k : Str) : (PySem.strKind P w).is k e.2 = true ↔ txOf e = k := by
  obtain ⟨k0, tk, h1, _⟩ := g
  unfold txOf
  rw [h1]
  constructor
  · intro q
    obtain ⟨t, e⟩ := Value.isStrOf_shape (x := k) (v := .str k0 tk) q
    exact (Value.str.inj e).1
  · intro q
    rw [← q]
    exact PySem.strKind_is P w k0 tk
end

section
variable {P : Program} {w : World} {A : Around} {E : Value → Shared → Prop} {s : Shared} {a : Addr} {l : List Str}

theorem setT_tail {g : Bool → Sem Unit} (hg : ∀ (b : Bool) (s₁ : Shared) (Q' : Unit → Shared → Prop), Q' () s₁ → wpAny (model P w) A (g b) Q' E s₁)
    {o : Obj} {es es1 : Array (Int × Value)} {ep : Nat} {t t2 : SetTable} (ho : s.heap.get? a = some o) (hex : o.ExactSet) (hd : o.data = .set es ep t) (g1 : ∀ e ∈ es1.toList, TxE w e)
    (p1 : (es1.toList.map txOf).Perm l) (nd : l.Nodup) (hb1 : es1.size < scanBound) (hf2 : t2.fits es1.size = true) (hr : Ris t2.place.toList) (hl : IsLed w t2) {wasDummy : Bool} {R : Option Bool → Shared → Prop}
    (hR : ∀ h', Heap.SameBut a s.heap h' → SetT w h' a l → R (some true) { s with heap := h' }) :
    wpAny (model P w) A (do
        storeSet a es1 t2
        if (!wasDummy && t2.tooFull) = true then do
            g (relayAll t2 es1 (SetTable.grown es1.size)).2.2
            storeSet a (relayAll t2 es1 (SetTable.grown es1.size)).1 (relayAll t2 es1 (SetTable.grown es1.size)).2.1
            pure (some true)
          else pure (some true)) R E s := by
  have ho1 := store_at (es' := es1) (t' := t2) ho hd
  have sb1 := Heap.SameBut.update s.heap a (Obj.putSet es1 t2)
  refine wpAny_bind (wpAny_storeSet_of ho hd ?_ (fits_of_scanBound hb1))
  split
  · have pm := relayAll_perm t2 es1 (SetTable.grown es1.size)
    have hf3 := relayAll_fits t2 es1 (SetTable.grown es1.size)
    have hr3 := relayAll_ris t2 es1 (SetTable.grown es1.size)
    have hl3 := relayAll_led t2 es1 (SetTable.grown es1.size)
    generalize relayAll t2 es1 (SetTable.grown es1.size) = Z at pm hf3 hr3 hl3 ⊢
    obtain ⟨es2, t3, gave⟩ := Z
    dsimp only at pm hf3 hr3 hl3 ⊢
    have hb2 : es2.size < scanBound := by
      have hz : es2.size = es1.size := by rw [← Array.length_toList, pm.length_eq, Array.length_toList]
      omega
    refine wpAny_bind (hg _ _ _ (wpAny_bind (wpAny_storeSet_of ho1 rfl ?_ (fits_of_scanBound hb2))))
    refine wpAny_pure (hR _ (sb1.trans (Heap.SameBut.update _ a _)) ⟨_, es2, _, t3, store_at (es' := es2) (t' := t3) ho1 rfl, hex, rfl, fun e he => g1 e (pm.mem_iff.mp he), (pm.map txOf).trans p1, nd, hb2, hf3, hr3, ?_⟩)
    rcases hl with z | z
    · exact .inl z
    · exact .inr (by rw [hl3]; exact z)
  · exact wpAny_pure (hR _ sb1 ⟨_, es1, _, t2, ho1, hex, rfl, g1, p1, nd, hb1, hf2, hr, hl⟩)

theorem setT_add {k : Str} {tk : Tok} {Q : Bool → Shared → Prop} (R : SetT w s.heap a l) (room : l.length + 1 < scanBound)
    (hQ : ∀ h' b, Heap.SameBut a s.heap h' → SetT w h' a (if k ∈ l then l else k :: l) → Q b { s with heap := h' }) :
    wpAny (model P w) A (setAddHashed a (.str k tk) ((PySem.strKind P w).hash k)) Q E s := by
  obtain ⟨o, es, ep, t, ho, hex, hd, g, pm0, nd, hb, hf, hr, hl⟩ := R
  have hkey : (PySem.strKind P w).is k (.str k tk) = true := PySem.strKind_is P w k tk
  have hsc : (Value.str k tk).scannable = true := rfl
  have hel : ElemsOf (PySem.strKind P w) es.toList := tx_elems g
  have hn : es.size = l.length := by rw [← pm0.length_eq, List.length_map, Array.length_toList]
  unfold setAddHashed setAddHashedIn
  refine wpAny_holding (wpAny_bind (wpAny_setState_of ho hd hf ?_))
  dsimp only
  rw [byScan_of hsc hb hel]
  simp only [↓reduceIte]
  unfold setAddByScan
  refine wpAny_bind (wpAny_bind (wpAny_rule (wpAny_bind (wpAny_setScan_of hkey ho hd hf hel ?_))))
  cases hfi : List.findIdx? (fun e => (PySem.strKind P w).is k e.2) es.toList with
  | some j =>
    obtain ⟨hj, pj, _⟩ := List.findIdx?_eq_some_iff_getElem.mp hfi
    have hk : k ∈ l := pm0.mem_iff.mp (List.mem_map.mpr ⟨es.toList[j], List.getElem_mem hj, (tx_is (P := P) (g _ (List.getElem_mem hj)) k).mp pj⟩)
    have q := fun b => hQ s.heap b (Heap.SameBut.refl a s.heap)
    rw [if_pos hk] at q
    dsimp only
    exact wpAny_pure (wpAny_pure (q _ ⟨o, es, ep, t, ho, hex, hd, g, pm0, nd, hb, hf, hr, hl⟩))
  | none =>
    have hk : k ∉ l := fun z => by
      obtain ⟨e, he, q⟩ := List.mem_map.mp (pm0.mem_iff.mpr z)
      have c := List.findIdx?_eq_none_iff.mp hfi e he
      rw [(tx_is (P := P) (g e he) k).mpr q] at c
      cases c
    have q := fun h' b => hQ h' b
    rw [if_neg hk] at q
    dsimp only
    have gave : ∀ (b : Bool) {s₁ : Shared} {Q' : Unit → Shared → Prop}, Q' () s₁ → wpAny (model P w) A (match b with | true => rule "set.scan.the-table-gave-way" | false => pure ()) Q' E s₁ := by
      intro b s₁ Q' z
      cases b
      · exact wpAny_pure z
      · exact wpAny_rule z
    have pm := layNew_perm t es ((PySem.strKind P w).hash k) (.str k tk)
    have hf1 := layNew_fits t es ((PySem.strKind P w).hash k) (.str k tk)
    have hr1 := layNew_ris t es ((PySem.strKind P w).hash k) (.str k tk) hr
    have hl1 := layNew_led t es ((PySem.strKind P w).hash k) (.str k tk)
    generalize layNew t es ((PySem.strKind P w).hash k) (.str k tk) = Z at pm hf1 hr1 hl1 ⊢
    obtain ⟨es1, t1, wasDummy, gv⟩ := Z
    dsimp only at pm hf1 hr1 hl1 ⊢
    rw [Array.toList_push] at pm
    have pc : es1.toList.Perm (((PySem.strKind P w).hash k, Value.str k tk) :: es.toList) := pm.trans (List.perm_append_singleton _ _)
    have g1 : ∀ e ∈ es1.toList, TxE w e := fun e he => by
      rcases List.mem_cons.mp (pc.mem_iff.mp he) with z | z
      · rw [z]
        exact ⟨k, tk, rfl, rfl⟩
      · exact g e z
    have p1 : (es1.toList.map txOf).Perm (k :: l) := (pc.map txOf).trans (pm0.cons k)
    have nd1 : (k :: l).Nodup := List.nodup_cons.mpr ⟨hk, nd⟩
    have hb1 : es1.size < scanBound := by
      have hz : es1.size = es.size + 1 := by rw [← Array.length_toList, pc.length_eq, List.length_cons, Array.length_toList]
      omega
    have hled : IsLed w t1 := hl.imp id fun z => by rw [hl1]; exact z
    refine wpAny_bind (gave _ ?_)
    split
    · refine wpAny_bind ?_
      rw [hashByValue_scannable 8 hsc]
      refine wpAny_pure (setT_tail (fun b s₁ Q' z => gave b z) ho hex hd g1 p1 nd1 hb1 ?_ ?_ ?_ fun h' sb r => wpAny_pure (q h' _ sb r))
      · split
        · exact hf1
        · exact SetTable.fits_plain_off hf1
      · split <;> exact hr1
      · split <;> exact hled
    · refine wpAny_bind (wpAny_pure ?_)
      simp only [↓reduceIte]
      exact setT_tail (fun b s₁ Q' z => gave b z) ho hex hd g1 p1 nd1 hb1 hf1 hr1 hled fun h' sb r => wpAny_pure (q h' _ sb r)
end
/-- the members behind the adds of xs, in turn -/
def addAll : List Str → List Str → List Str
  | [], l => l
  | k :: r, l => addAll r (if k ∈ l then l else k :: l)
theorem addAll_nodup : ∀ (xs l : List Str), l.Nodup → (addAll xs l).Nodup
  | [], _, h => h
  | k :: r, l, h => by
    refine addAll_nodup r _ ?_
    split
    · exact h
    · exact List.nodup_cons.mpr ⟨by assumption, h⟩
theorem addAll_mem : ∀ (xs l : List Str) (x : Str), x ∈ addAll xs l → x ∈ xs ∨ x ∈ l
  | [], _, _, h => .inr h
  | k :: r, l, x, h => by
    rcases addAll_mem r _ x h with z | z
    · exact .inl (List.mem_cons_of_mem _ z)
    · split at z
      · exact .inr z
      · rcases List.mem_cons.mp z with e | z
        · rw [e]
          exact .inl List.mem_cons_self
        · exact .inr z
theorem addAll_len : ∀ (xs l : List Str), (addAll xs l).length ≤ xs.length + l.length
  | [], l => by show l.length ≤ 0 + l.length; omega
  | k :: r, l => by
    have q := addAll_len r (if k ∈ l then l else k :: l)
    have z : (if k ∈ l then l else k :: l).length ≤ l.length + 1 := by
      split
      · omega
      · simp
    show (addAll r (if k ∈ l then l else k :: l)).length ≤ (r.length + 1) + l.length
    omega
section
variable {P : Program} {w : World} {A : Around} {E : Value → Shared → Prop} {s : Shared}
theorem set_update_tx {I : Addr} {fp wr : List Addr} {G : Array GenState → Array GenState → Prop} {n : Nat} {Pv : Nat → Value → Prop} {St : Nat → Shared → Prop} {R : Result → Shared → Prop}
    (W : WalksS P w A.in1 I fp wr G n Pv St) (S : Addr) (hSf : S ∉ fp) (xs : List Str) (hn : n = xs.length) (hval : ∀ i v, Pv i v → ∃ k t, xs[i]? = some k ∧ v = .str k t) :
    ∀ (k i : Nat) (s : Shared) (l : List Str), n - i = k → i ≤ n → l.length + (n - i) + 1 < scanBound → St i s → SetT w s.heap S l →
      (∀ s', Moved (S :: wr) G s s' → SetT w s'.heap S (addAll (xs.drop i) l) → R (.ok (.ret .none)) s') →
      codeAny (model P w) A (.builtin "set.update.loop" ⟨[.ref S, .ref I], []⟩) R s := by
  have hSw : S ∉ wr := fun h => hSf (W.sub _ h)
  have hsub : ∀ b ∈ wr, b ∈ S :: wr := fun b hb => List.mem_cons_of_mem _ hb
  intro k
  induction k with
  | zero =>
    intro i s l hk hi hb hst hS hR
    refine codeAny_builtin F.entry_set_update_loop ?_
    rw [Around.under_plainId F.plain_set_update_loop _]
    have hin : i = n := by omega
    subst hin
    show wpAny _ A.in1 (pyNext (.ref I) >>= _) _ _ s
    refine wpAny_bind (W.done s _ _ hst fun s' hm => ?_)
    show wpAny _ A.in1 (ret Value.none) _ _ s'
    refine wpAny_pure (hR s' (hm.mono hsub) ?_)
    rw [List.drop_of_length_le (by omega)]
    exact hS.mov fun o e => hm.heap S o hSw e
  | succ k ih =>
    intro i s l hk hi hb hst hS hR
    have hlt : i < n := by omega
    refine codeAny_builtin F.entry_set_update_loop ?_
    rw [Around.under_plainId F.plain_set_update_loop _]
    show wpAny _ A.in1 (pyNext (.ref I) >>= _) _ _ s
    refine wpAny_bind (W.item i s _ _ hlt hst fun v s' hP hst' hm => ?_)
    obtain ⟨z, t, hz, rfl⟩ := hval i v hP
    have hS1 : SetT w s'.heap S l := hS.mov fun o e => hm.heap S o hSw e
    show wpAny _ A.in1 (holding [Value.str z t] (setAdd S (.str z t)) >>= _) _ _ s'
    refine wpAny_bind (wpAny_holding ?_)
    unfold setAdd
    refine wpAny_holding (wpAny_bind ((PySem.strKind P w).pyHash (k := z) (PySem.strKind_is _ _ _ _) ?_))
    refine setT_add (s := { s' with toks := s'.toks + 1 }) hS1 (by omega) fun h' b hsb hS2 => ?_
    have dr : xs.drop i = z :: xs.drop (i + 1) := by
      obtain ⟨h1, h2⟩ := List.getElem?_eq_some_iff.mp hz
      rw [List.drop_eq_getElem_cons h1, h2]
    have hl : (if z ∈ l then l else z :: l).length ≤ l.length + 1 := by
      split
      · omega
      · simp
    refine wpAny_pure ⟨plainId_quiet F.plain_set_update_loop _, ih (i + 1) _ _ (by omega) hlt (by omega) (W.frame _ s' _ _ hst' (Nat.le_succ _) fun b hb o e => ?_) hS2 fun s'' hm'' hS'' => ?_⟩
    · rw [hsb.2 b fun h : b = S => hSf (by rw [← h]; exact hb)]
      exact e
    · refine hR s'' (Moved.trans W.gtrans ((hm.mono hsub).then_heap (Nat.le_succ _) fun b o hb e => ?_) hm'') ?_
      · rw [hsb.2 b fun h : b = S => hb (by rw [h]; exact List.mem_cons_self)]
        exact e
      · rw [dr]
        exact hS''
end
end KL

set_option Elab.async false
set_option linter.all false
set_option maxRecDepth 100000
set_option maxHeartbeats 4000000
/-! K5: set(list of texts), sorted(set of texts): the calls -/
namespace KL
open PySem PySem.Spec PyProof.Rows L2
theorem tx_get : ∀ {us : List Value} {xs : List Str}, StrsAre us xs → ∀ (i : Nat) (v : Value), us[i]? = some v → ∃ k t, xs[i]? = some k ∧ v = .str k t
  | _, _, .nil, _, _, h => by simp at h
  | _, _, .cons k t _, 0, v, h => ⟨k, t, rfl, (Option.some.inj h).symm⟩
  | _, _, .cons _ _ q, i + 1, v, h => tx_get q i v h
section
variable {P : Program} {w : World} {A : Around} {E : Value → Shared → Prop} {s : Shared}
theorem call_set_tx {l : Addr} {items : Array Value} (xs : List Str) {Q : Value → Shared → Prop} (hh : A.handled = none) (hl : s.heap.IsList l items) (hit : StrsAre items.toList xs) (hb : xs.length + 1 < scanBound)
    (h : ∀ (h' : Heap) (tk : Nat), SetT w h' s.heap.objs.size (addAll xs []) → (∀ b o, s.heap.get? b = some o → h'.get? b = some o) → Q (.ref s.heap.objs.size) { s with heap := h', toks := tk }) :
    wpAny (model P w) A (call (.type "set") [.ref l]) Q E s := by
  have hisz : items.size = xs.length := by rw [← StrsAre.len_eq hit, Array.length_toList]
  obtain ⟨c, tl, hmro⟩ := F.called_set.mro
  have hmade := F.called_set.made
  have hsub := F.called_set.sub
  refine wpAny_call (codeAny_of_tree ?_)
  show wpAny _ _ (callAny (.type "set") _) _ _ _
  refine wpAny_pure ⟨Code.quiet_builtin _ (by decide +kernel), codeAny_builtin F.entry_type_call ?_⟩
  rw [Around.under_plain (weight_type_call_type "set" [.ref l] []) rfl]
  have h1 := F.called_set.notType
  have h2 := F.called_set.canCreate
  have hct := F.typeCall_set_1 (.ref l)
  repeat (any_goals (first | assumption | wp_step))
  refine codeAny_mono (code_set_led1 (.ref l) (E := E) (Q₁ := fun obj s₁ => obj = .ref s.heap.objs.size ∧ s₁ = { s with heap := s.heap.push (emptySet w) }) ⟨rfl, rfl⟩) fun r s₁ hr => ?_
  cases r with
  | error e => exact hr
  | ok fl =>
    cases fl with
    | ret obj =>
      obtain ⟨rfl, rfl⟩ := hr
      have hS : (s.heap.push (emptySet w)).get? s.heap.objs.size = some (emptySet w) := Heap.get?_push_size _ rfl
      have hT : Shared.TypeIs { s with heap := s.heap.push (emptySet w) } (.ref s.heap.objs.size) "set" := ⟨_, hS, rfl⟩
      have hli := F.called_set.init.lookup
      have hbi := F.called_set.init.bind (.ref s.heap.objs.size)
      repeat (any_goals (first | assumption | wp_step))
      refine codeAny_mono (codeAny_call_builtin (R := wants (fun r s₂ => r = .none ∧ ∃ h' tk, s₂ = { s with heap := h', toks := tk } ∧ SetT w h' s.heap.objs.size (addAll xs []) ∧
          (∀ b o, s.heap.get? b = some o → h'.get? b = some o)) E) F.called_set.init.plain F.entry_set_init (check_set_init_1 hT ?_)) fun r₂ s₂ hr₂ => ?_
      · obtain ⟨ol, hol, hcl, nl, hdl⟩ := hl
        obtain ⟨ocls, odict, odata, oslots⟩ := ol
        simp only at hcl hdl
        subst hcl
        subst hdl
        have hol' : (s.heap.push (emptySet w)).get? l = some { cls := .type "list", dict := odict, data := .seq items nl, slots := oslots } := Heap.get?_push_of_some _ hol
        have hsls := F.sub_list_set
        have hslf := F.sub_list_frozenset
        have hne : (Value.type "list" == Value.type "dict") = false := by decide
        have hl1 : (s.heap.push (emptySet w)).IsList l items := ⟨_, hol', rfl, nl, rfl⟩
        unfold Builtin.«set.__init__» noKeywords Builtin.Frozenset.updateFrom
        generalize hPI : pyIter = PI
        wp_walk
        subst hPI
        refine wpAny_pyIter_list hl1 ?_
        refine wpAny_bind (wpAny_runValue ?_)
        have hlS : l < s.heap.objs.size := Heap.lt_size hol
        have hh3 : A.in1.in1.in1.handled = none := by simp [hh]
        have hz1 : (s.heap.push (emptySet w)).objs.size = s.heap.objs.size + 1 := Heap.size_push ..
        have hneI : l ≠ (s.heap.push (emptySet w)).objs.size := by
          rw [hz1]
          exact Nat.ne_of_lt (Nat.lt_succ_of_lt hlS)
        have hSf : s.heap.objs.size ∉ [(s.heap.push (emptySet w)).objs.size, l] := by
          rw [hz1]
          simp only [List.mem_cons, List.not_mem_nil, or_false, not_or]
          exact ⟨Nat.ne_of_lt (Nat.lt_succ_self _), Nat.ne_of_gt hlS⟩
        have hval : ∀ (i : Nat) (v : Value), items[i]? = some v → ∃ k t, xs[i]? = some k ∧ v = .str k t := fun i v hv => tx_get hit i v (by rw [Array.getElem?_toList]; exact hv)
        refine set_update_tx ((Walks.list hh3 _ l hneI items).toS) s.heap.objs.size hSf xs hisz hval (items.size - 0) 0 _ [] (by omega) (Nat.zero_le _) (by show 0 + (items.size - 0) + 1 < scanBound; omega)
          ⟨⟨_, Heap.get?_push_size _ rfl, rfl, rfl⟩, (hl1.push _)⟩ ?hS0 ?hR
        case hS0 =>
          refine ⟨_, #[], 0, _, Heap.get?_push_of_some _ hS, ⟨rfl, rfl, rfl⟩, rfl, fun e he => by simp at he, by simp, by simp, by decide, by rfl, List.Pairwise.nil, ?_⟩
          show _ ∨ (!w.params.followText "set-order") = true
          cases w.params.followText "set-order"
          · exact .inr rfl
          · exact .inl rfl
        case hR =>
          intro s' hm hS'
          obtain ⟨h', g2, d', tk', os'⟩ := s'
          have eg : g2 = s.gens := hm.gens
          have ed : d' = s.drawn := hm.drawn
          have eo : os' = s.os := hm.os
          subst eg
          subst ed
          subst eo
          show wpAny _ _ _ _ _ _
          refine wpAny_pure ?_
          show wpAny _ _ (ret Value.none) _ _ _
          refine wpAny_pure ⟨rfl, h', tk', rfl, hS', fun b o e => ?_⟩
          have hb0 : b < s.heap.objs.size := Heap.lt_size e
          refine hm.heap b o ?_ (Heap.get?_push_of_some _ (Heap.get?_push_of_some _ e))
          have q1 : b ≠ s.heap.objs.size := Nat.ne_of_lt hb0
          have q2 : b ≠ (s.heap.push (emptySet w)).objs.size := by
            rw [hz1]
            exact Nat.ne_of_lt (Nat.lt_succ_of_lt hb0)
          simp only [List.mem_cons, List.not_mem_nil, or_false, not_or]
          exact ⟨q1, q2⟩
      · cases r₂ with
        | error e => exact hr₂
        | ok fl₂ =>
          cases fl₂ with
          | ret r =>
            obtain ⟨rfl, h', tk, rfl, hS', hk'⟩ := hr₂
            repeat (any_goals (first | assumption | wp_step))
            exact h _ _ hS' hk'
          | _ => exact hr₂.elim
    | _ => exact hr.elim

theorem strs_of : ∀ (l : List Value), (∀ v ∈ l, ∃ k tk, v = Value.str k tk) → ∃ xs, StrsAre l xs
  | [], _ => ⟨[], .nil⟩
  | v :: l, h => by
    obtain ⟨k, tk, rfl⟩ := h v List.mem_cons_self
    obtain ⟨xs, q⟩ := strs_of l fun u hu => h u (List.mem_cons_of_mem _ hu)
    exact ⟨k :: xs, .cons _ _ q⟩
theorem strs_map : ∀ {l : List Value} {xs : List Str}, StrsAre l xs → ∀ g : Value → Str, (∀ k t, g (.str k t) = k) → l.map g = xs
  | _, _, .nil, _, _ => rfl
  | _, _, .cons k t q, g, hg => by
    rw [List.map_cons, hg, strs_map q g hg]
theorem sorted_setT {a : Addr} {l : List Str} {Q : Value → Shared → Prop} (R : SetT w s.heap a l) (hh : A.handled = none) (h64 : l.length < 64)
    (hQ : ∀ s' p (out : Array Value) (c : Nat) (ys : List Str), (∀ b o, s.heap.get? b = some o → s'.heap.get? b = some o) → s'.gens = s.gens → s'.os = s.os → s.heap.objs.size ≤ p →
      s'.heap.get? p = some (seqObj "list" out c) → StrsAre out.toList ys → sortedS ys = true → ys.Perm l → Q (.ref p) s') :
    wpAny (model P w) A (call (.builtin "sorted") [.ref a]) Q E s := by
  obtain ⟨o, es, ep, t, ho, hex, hd, g, pm0, nd, hb, hf, hr, hl⟩ := R
  refine Calls.call_function_entry kind_sorted plain_sorted entry_sorted (args_sorted1 _) ?_
  unfold Builtin.«sorted»
  refine wpAny_bind (m := checkCount "sorted" 1 1 _) (wpAny_pure ?_)
  refine wpAny_bind (collect_set (A := A.in1) hh ⟨o, ho, hex.1, hd⟩ hf hb hr hl fun s1 vs k1 hz g1 o1 pm => ?_)
  have hvl : vs.length = l.length := by rw [pm.length_eq, List.length_map, ← pm0.length_eq, List.length_map]
  obtain ⟨xs, hS⟩ := strs_of vs fun v hv => by
    obtain ⟨e, he, q⟩ := List.mem_map.mp (pm.mem_iff.mp hv)
    obtain ⟨k, tk, h1, _⟩ := g e he
    exact ⟨k, tk, by rw [← q]; exact h1⟩
  have px : xs.Perm l := by
    have q := pm.map (fun v => match v with | .str k _ => k | _ => Str.empty)
    rw [strs_map hS _ (fun _ _ => rfl), List.map_map] at q
    exact q.trans pm0
  refine wpAny_bind (wpAny_newList ?_ (by rw [hvl, sizeLine_eq]; omega))
  have hoL : (s1.heap.push (seqObj "list" vs.toArray 0)).get? s1.heap.objs.size = some (seqObj "list" vs.toArray 0) := Heap.get?_push_size _ rfl
  refine wpAny_bind (wpAny_holding (wpAny_call_entry slot_list_sort ⟨_, hoL, rfl⟩ entry_list_sort
    (list_sort_treeK strKind_oneLt hoL hS.keysOf (fun v₁ v₂ rest e => keyKind_strs (by rw [← e]; exact hS)) (by rw [hvl]; exact h64) fun st' hp hs => ⟨_, rfl, ?_⟩) (args_list_sort _)))
  obtain ⟨ys, a1, a2, a3⟩ := sorted_out_str hS hp hs
  obtain ⟨c, hc⟩ := sortedHeap_at (vs := vs) (out := (arrOf st').map (·.2)) hoL
  refine wpAny_pure ⟨_, rfl, hQ _ s1.heap.objs.size _ c ys (fun b u e => ?_) g1 o1 hz hc a1 a3 (a2.trans px)⟩
  have q := k1 b u e
  have hlt := Heap.lt_size q
  show (sortedHeap (s1.heap.push (seqObj "list" vs.toArray 0)) s1.heap.objs.size vs _).get? b = some u
  rw [sortedHeap_old (Nat.ne_of_lt hlt) (by rw [size_push']; exact Nat.lt_succ_of_lt hlt)]
  exact Heap.get?_push_of_some _ q
end
end KL

set_option Elab.async false
set_option linter.all false
set_option maxRecDepth 100000
set_option maxHeartbeats 4000000
/-! K6: the calls as rules of the layer; `<` of data -/
namespace KL
open PySem PySem.Spec PyProof.Rows L2
section
variable {X : Cx}
/-- a set of the texts l stands at a -/
def TxO (w : World) (a : Addr) (l : List Str) : HO := .ext fun h => SetT w h a l
theorem txO_new {w : World} {P : Program} {H : Hp} {h : Heap} {a : Addr} {l : List Str} (R : SetT w h a l) : ObjOk P w H h a (TxO w a l) :=
  ⟨R, (let ⟨o, _, _, _, e, _⟩ := R; ⟨o, e⟩), fun _ _ r k => r.mov k⟩
theorem txO_get {pins : List (Addr × Obj)} {σ : L2.St} {H : Hp} {s : Shared} {a : Addr} {l : List Str} (I : Inv X pins σ H s) (ha : H a = some (TxO X.w a l)) : SetT X.w s.heap a l := (I.hok a _ ha).1
def rSetTx (X : Cx) : List V → Hp → VK → Prop := fun vs H Q => ∃ (a : Addr) (xs : List Str), vs = [V.ref a] ∧ SqL X.K H a (xs.map V.str) ∧ xs.length < 64 ∧
  ∀ p, H p = none → Q (.ref p) (upd H p (TxO X.w p (addAll xs [])))
theorem cr_setTx (hc : X.calm = true) : CallR X (.type "set") (rSetTx X) := by
  intro pins s σ H vs us Q I r h
  obtain ⟨a, xs, rfl, hs, h64, q⟩ := h
  obtain ⟨its, rv, hl, _⟩ := I.list hs
  rw [Vals.ref1 r]
  refine call_set_tx xs (I.ok.hd hc) hl.isList rv.strs (by unfold scanBound; omega) fun h' tk R k => ?_
  exact ⟨.ref _, _, I.laid k (Nat.le_refl _) (txO_new R), rfl, q _ (I.hok.fresh (Nat.le_refl _))⟩
def rSortTx (X : Cx) : List V → Hp → VK → Prop := fun vs H Q => ∃ (a : Addr) (l : List Str), vs = [V.ref a] ∧ H a = some (TxO X.w a l) ∧ l.length < 64 ∧
  ∀ (ys : List Str) (p : Addr), sortedS ys = true → ys.Perm l → H p = none → Q (.ref p) (upd H p (.lst (ys.map V.str)))
theorem cr_sortTx (hc : X.calm = true) : CallR X (.builtin "sorted") (rSortTx X) := by
  intro pins s σ H vs us Q I r h
  obtain ⟨a, l, rfl, ha, h64, q⟩ := h
  rw [Vals.ref1 r]
  refine sorted_setT (txO_get I ha) (I.ok.hd hc) h64 fun s' p out c ys k g o hp hg hi hs pm => ?_
  have hlen : (ys.map V.str).length ≤ sizeLine := by rw [List.length_map, pm.length_eq, sizeLine_eq]; omega
  have hn : H p = none := I.hok.fresh hp
  have J : Inv X pins σ (upd H p (.lst (ys.map V.str))) { s with heap := s'.heap, gens := s'.gens, drawn := s'.drawn, toks := s'.toks } :=
    I.call (ch := []) (Un.laid k hp hn) (I.hok.laid k hp ⟨hlen, out.toList, c, vals_of_strs hi, hg⟩) (by rw [g]; exact I.bare) fun _ z => nomatch z
  have e : s' = { s with heap := s'.heap, gens := s'.gens, drawn := s'.drawn, toks := s'.toks } := by
    cases s'
    cases s
    cases o
    rfl
  rw [e]
  exact ⟨.ref p, _, J, rfl, q ys p hs pm hn⟩
/-- d < e, data that are alike -/
def rLtD (K : PySem.W.Frag) : R2 := fun x y H Q => ∃ d e, Dp K H x d ∧ Dp K H y e ∧ PySem.W.alike d e = true ∧ d ≠ .none ∧ min d.depth e.depth ≤ 60 ∧ Q (.bl (PySem.W.dataLt d e)) H
theorem op_ltD (hu : X.A.units + 64 < cLine) : OpR X (compareOp .Lt) (rLtD X.K) := by
  intro pins s σ H x y v u Q I rx ry h
  obtain ⟨d, e, hd, he, al, hn, hm, q⟩ := h
  obtain ⟨as, r1⟩ := Dp.reads I d x v hd rx
  obtain ⟨bs, r2⟩ := Dp.reads I e y u he ry
  exact PySem.W.lt_data r1 r2 al hn (by omega) ⟨.bl _, H, I, rfl, q⟩
end
end KL

set_option Elab.async false
set_option linter.all false
set_option maxRecDepth 100000
set_option maxHeartbeats 4000000
/-! K7: name = {k: v for ..}, the name a local on the same row -/
namespace KL
open PySem PySem.Spec PyProof.Rows L2
section
variable {X : Cx}
theorem ps_setDc {i : Nat} {y : Str} {py : Pos} {kx vx tg iter : Expr} {ifs : List Expr} {scope : Scope} {own : List (Str × Nat)} {pos sp : Pos} {wi : TI} {g : TG} {tt : TT} {tk tv : TE} (hc : X.calm = true) (hN : X.N.Nodup) (hy : X.N[i]? = some y) (hyl : X.env.scope.names.lookup y = some .local)
    (hsw : swapsWith (.DictComp kx vx [⟨tg, iter, ifs, 0⟩] scope pos) (some (.Name y py)) sp.line X.env = pure true) (hi : PI X tg iter wi) (ok : BlkOk X.N X.env.scope scope own)
    (hg : ∀ (s : Shared) (H : Hp) (C : Addr) (cl : List (Str × Addr)) (fp : List Addr), PG (X.blk s H scope (compEnvC scope cl C X.env) fp) tg g) (ht : ∀ (s : Shared) (H : Hp) (C : Addr) (cl : List (Str × Addr)) (fp : List Addr), PTs (X.blk s H scope (compEnvC scope cl C X.env) fp) ifs tt)
    (hk : ∀ (s : Shared) (H : Hp) (C : Addr) (cl : List (Str × Addr)) (fp : List Addr), PE (X.blk s H scope (compEnvC scope cl C X.env) fp) kx tk)
    (he : ∀ (s : Shared) (H : Hp) (C : Addr) (cl : List (Str × Addr)) (fp : List Addr), PE (X.blk s H scope (compEnvC scope cl C X.env) fp) vx tv) (hs : ∀ x, foldedSetIterable iter X.env x = pure x := by intro _; rfl) :
    PS X (.Assign [.Name y py] (.DictComp kx vx [⟨tg, iter, ifs, 0⟩] scope pos) sp) (tAsg (tDc wi g tt tk tv (own.map (·.2))) (gName i)) := by
  constructor
  intro pins s σ H D I h
  replace h : tDc wi g tt tk tv (own.map (·.2)) σ H (fun x H1 => gName i x σ H1 D.nx) := h
  rw [exec_Assign_Name_used _ _ _ _ hsw]
  refine wpAny_bind (wpAny_standAt (wpAny_bind ?_))
  show wpAny _ X.A (do let _ ← comprehension (.DictComp kx vx [⟨tg, iter, ifs, 0⟩] scope pos) scope X.env (firstIterPos [⟨tg, iter, ifs, 0⟩] pos) newDict false (eval iter X.env) (some (assign (.Name y py) X.env))) _ _ s
  refine wpAny_bind (thn (dc_core (Qf := fun _ s' => SP X pins D .next s') hc hN I hi ok hg ht hk he hs h fun L C s' m H' I' q hn f => ?_) fun _ s' z => wpAny_pure (wpAny_pure z))
  show wpAny _ _ (assign (.Name y py) X.env (.ref L)) _ _ _
  obtain ⟨f0, f1, f2, f3, f4, f5⟩ := f
  refine wpAny_assign_Name (store_ok2 (v := V.ref L) I' hN hy (.inl hyl) rfl (fun s2 I2 ⟨a, sb, ha⟩ => ?_) (.inr hyl))
  have nCa : C ≠ a := by
    rcases ha with z | z
    · rw [z]
      exact f1
    · exact fun e => f4 y a z e.symm
  exact ⟨m, hn.sameBut sb nCa, fun h3 sb3 => ⟨_, H', I2.turned (t' := s2.toks) (fun b o hb e => (sb3.2 b hb).trans e) f0 f1 f3 f4 f5, q⟩⟩
theorem sw_dict {kx vx : Expr} {gs : List Comprehension} {scope : Scope} {pos py : Pos} {y : Str} {l : Nat} {env : Env} (hk : env.scope.kind = .function) (hy : env.scope.names.lookup y = some .local) (hl : (py.line == pos.line) = true)
    (ha : (scope.names.any fun (n, k) => n == y && (k == .local || k == .cell)) = false) : swapsWith (.DictComp kx vx gs scope pos) (some (.Name y py)) l env = pure true := by
  have ky : env.kindOf y = some .local := hy
  have hb : env.blockKind = .function := by
    unfold Env.blockKind
    rw [hk]
    rfl
  unfold swapsWith
  simp only [hb, ky, ha, Expr.pos, hl]
  rfl
end
/-! ### what stays -/
section
variable {K : PySem.W.Frag} {H H1 H2 : Hp} {p a : Addr} {o : HO} {xs : List V}
theorem sm_upd (n : H p = none) : Same H (upd H p o) := fun b u e => by
  rw [upd_ne (ne_of_none e n)]
  exact e
theorem sm_seqT (e : Same H H1) (h : SqT K H a xs) : SqT K H1 a xs := by
  rcases h with (h | ⟨u, h⟩) | h
  · exact .inl (.inl (e _ _ h))
  · exact .inl (.inr ⟨u, e _ _ h⟩)
  · exact .inr h
/-- all that was tracked stays, but what stands at p -/
def SameBut (p : Addr) (H H1 : Hp) : Prop := ∀ b u, b ≠ p → H b = some u → H1 b = some u
theorem SameBut.of (e : Same H H1) : SameBut p H H1 := fun b u _ h => e b u h
theorem SameBut.trans (e : SameBut p H H1) (f : SameBut p H1 H2) : SameBut p H H2 := fun b u n h => f b u n (e b u n h)
theorem SameBut.upd (e : SameBut p H H1) : SameBut p H (upd H1 p o) := fun b u n h => by
  rw [upd_ne n]
  exact e b u n h
theorem SameBut.new (e : SameBut p H H1) (n : H p = none) : Same H H1 := fun b u h => e b u (ne_of_none h n) h
end
end KL

/-! M1: the mathematics: what is seen; ascending sets of places; the least good one -/
namespace KL

/-! ### what comes to be seen -/
def cod (ts : List (List Nat)) (j : Int) : List Nat := ts.getD j.toNat []
def roomsN (ts : List (List Nat)) : Nat := ts.length / 2 + 1
def Clos (ts : List (List Nat)) (S : Int → Prop) : Prop :=
  ∀ r t d : Int, S r → ((t = r - 1 ∧ d = 2 * r - 1) ∨ (t = r + 1 ∧ d = 2 * r + 1)) → 0 ≤ t → t < (roomsN ts : Int) → (∀ c ∈ cod ts d, ∃ q, S q ∧ c ∈ cod ts (2 * q)) → S t
def Rch (ts : List (List Nat)) (B : List Int) (x : Int) : Prop := ∀ S : Int → Prop, (∀ b ∈ B, S b) → Clos ts S → S x
def Sees (ts : List (List Nat)) (B L : List Int) : Prop := L.Pairwise (· < ·) ∧ ∀ x, x ∈ L ↔ Rch ts B x

theorem asc_uniq : ∀ {a b : List Int}, a.Pairwise (· < ·) → b.Pairwise (· < ·) → (∀ x, x ∈ a ↔ x ∈ b) → a = b
  | [], [], _, _, _ => rfl
  | [], y :: b, _, _, h => by
    have := (h y).mpr List.mem_cons_self
    cases this
  | x :: a, [], _, _, h => by
    have := (h x).mp List.mem_cons_self
    cases this
  | x :: a, y :: b, ha, hb, h => by
    obtain ⟨ha1, ha2⟩ := List.pairwise_cons.mp ha
    obtain ⟨hb1, hb2⟩ := List.pairwise_cons.mp hb
    have e : x = y := by
      rcases List.mem_cons.mp ((h x).mp List.mem_cons_self) with e | m
      · exact e
      · rcases List.mem_cons.mp ((h y).mpr List.mem_cons_self) with e | m2
        · exact e.symm
        · have p := hb1 x m
          have q := ha1 y m2
          omega
    subst e
    rw [asc_uniq ha2 hb2 fun z => ?_]
    constructor
    · intro m
      rcases List.mem_cons.mp ((h z).mp (List.mem_cons_of_mem _ m)) with e | m2
      · have := ha1 z m
        omega
      · exact m2
    · intro m
      rcases List.mem_cons.mp ((h z).mpr (List.mem_cons_of_mem _ m)) with e | m2
      · have := hb1 z m
        omega
      · exact m2
theorem Sees.uniq {ts : List (List Nat)} {B L M : List Int} (h : Sees ts B L) (k : Sees ts B M) : L = M :=
  asc_uniq h.1 k.1 fun x => (h.2 x).trans (k.2 x).symm
open Classical in
noncomputable def seenL (ts : List (List Nat)) (B : List Int) : List Int := if h : ∃ L, Sees ts B L then h.choose else []
theorem Sees.seenL {ts : List (List Nat)} {B L : List Int} (h : Sees ts B L) : seenL ts B = L := by
  unfold KL.seenL
  have e : ∃ L, Sees ts B L := ⟨L, h⟩
  rw [dif_pos e]
  exact e.choose_spec.uniq h
theorem rch_base {ts : List (List Nat)} {B : List Int} {b : Int} (h : b ∈ B) : Rch ts B b := fun _ hB _ => hB b h
theorem rch_step {ts : List (List Nat)} {B : List Int} {r t d : Int} (h : Rch ts B r) (e : (t = r - 1 ∧ d = 2 * r - 1) ∨ (t = r + 1 ∧ d = 2 * r + 1)) (h0 : 0 ≤ t) (h1 : t < (roomsN ts : Int)) (k : ∀ c ∈ cod ts d, ∃ q, Rch ts B q ∧ c ∈ cod ts (2 * q)) : Rch ts B t :=
  fun S hB hS => hS r t d (h S hB hS) e h0 h1 fun c hc => let ⟨q, hq, m⟩ := k c hc; ⟨q, hq S hB hS, m⟩
theorem rch_in {ts : List (List Nat)} {B : List Int} (hB : ∀ b ∈ B, 0 ≤ b ∧ b < (roomsN ts : Int)) {x : Int} (h : Rch ts B x) : 0 ≤ x ∧ x < (roomsN ts : Int) :=
  h (fun x => 0 ≤ x ∧ x < (roomsN ts : Int)) hB fun _ _ _ _ _ h0 h1 _ => ⟨h0, h1⟩
/-- ascending numbers from lo below n are at most n - lo -/
theorem asc_len : ∀ {a : List Int} {lo n : Int}, a.Pairwise (· < ·) → (∀ x ∈ a, lo ≤ x ∧ x < n) → (a.length : Int) ≤ max 0 (n - lo)
  | [], _, _, _, _ => by simp; omega
  | x :: a, lo, n, ha, h => by
    obtain ⟨h1, h2⟩ := List.pairwise_cons.mp ha
    have hx := h x List.mem_cons_self
    have := asc_len (lo := x + 1) (n := n) h2 fun y hy => ⟨by have := h1 y hy; omega, (h y (List.mem_cons_of_mem _ hy)).2⟩
    rw [List.length_cons]
    omega
theorem range_asc : ∀ (n : Nat) (lo : Int), ((List.range n).map fun (i : Nat) => lo + (i : Int)).Pairwise (· < ·) := by
  intro n lo
  rw [List.pairwise_map]
  exact (List.pairwise_lt_range (n := n)).imp fun h => by omega
theorem sees_all {ts : List (List Nat)} {B L : List Int} (h : Sees ts B L) (hB : ∀ b ∈ B, 0 ≤ b ∧ b < (roomsN ts : Int)) (all : ∀ x : Int, 0 ≤ x → x < (roomsN ts : Int) → x ∈ B) : L.length = roomsN ts := by
  have e : L = (List.range (roomsN ts)).map fun (i : Nat) => (0 : Int) + (i : Int) := asc_uniq h.1 (range_asc _ _) fun x => by
    rw [h.2 x]
    constructor
    · intro r
      obtain ⟨a, b⟩ := rch_in hB r
      exact List.mem_map.mpr ⟨x.toNat, List.mem_range.mpr (by omega), by omega⟩
    · intro m
      obtain ⟨i, hi, e⟩ := List.mem_map.mp m
      have := List.mem_range.mp hi
      exact rch_base (all x (by omega) (by omega))
  rw [e, List.length_map, List.length_range]

/-! ### ascending places -/
def Asc (n : Nat) (b : List Int) : Prop := b.Pairwise (· < ·) ∧ ∀ x ∈ b, 0 ≤ x ∧ x < (n : Int)
def lo (b : List Int) : Int := match b.getLast? with
  | none => 0
  | some x => x + 1
def ext (n : Nat) (b : List Int) : List (List Int) := (List.range ((n : Int) - lo b).toNat).map fun (i : Nat) => b ++ [lo b + (i : Int)]
def bs (n : Nat) : Nat → List (List Int)
  | 0 => [[]]
  | k + 1 => (bs n k).flatMap (ext n)
def pw : Nat → List (List Int)
  | 0 => [[]]
  | r + 1 => pw r ++ (pw r).map fun b => b ++ [(r : Int)]

theorem asc_snoc {n : Nat} {b : List Int} {x : Int} : Asc n (b ++ [x]) ↔ Asc n b ∧ lo b ≤ x ∧ x < (n : Int) := by
  have key : b.Pairwise (· < ·) → (∀ y ∈ b, 0 ≤ y) → ((∀ y ∈ b, y < x) ∧ 0 ≤ x ↔ lo b ≤ x) := by
    intro hp h0
    rcases List.eq_nil_or_concat b with e | ⟨c, z, e⟩
    · subst e
      simp [lo]
    · rw [List.concat_eq_append] at e
      subst e
      have el : lo (c ++ [z]) = z + 1 := by simp [lo]
      rw [el]
      have hz := h0 z (by simp)
      constructor
      · rintro ⟨h, _⟩
        have := h z (by simp)
        omega
      · intro h
        refine ⟨fun y hy => ?_, by omega⟩
        rcases List.mem_append.mp hy with m | m
        · have := (List.pairwise_append.mp hp).2.2 y m z (by simp)
          omega
        · have : y = z := by simpa using m
          omega
  unfold Asc
  rw [List.pairwise_append]
  constructor
  · rintro ⟨⟨h1, _, h3⟩, h4⟩
    have hb : ∀ y ∈ b, 0 ≤ y ∧ y < (n : Int) := fun y hy => h4 y (List.mem_append_left _ hy)
    have hx := h4 x (by simp)
    exact ⟨⟨h1, hb⟩, (key h1 fun y hy => (hb y hy).1).mp ⟨fun y hy => h3 y hy x (by simp), hx.1⟩, hx.2⟩
  · rintro ⟨⟨h1, h2⟩, h3, h4⟩
    obtain ⟨k1, k2⟩ := (key h1 fun y hy => (h2 y hy).1).mpr h3
    refine ⟨⟨h1, by simp, fun y hy z hz => ?_⟩, fun y hy => ?_⟩
    · have : z = x := by simpa using hz
      subst this
      exact k1 y hy
    · rcases List.mem_append.mp hy with m | m
      · exact h2 y m
      · have : y = x := by simpa using m
        subst this
        exact ⟨k2, h4⟩
theorem mem_ext {n : Nat} {b c : List Int} (hb : Asc n b) : c ∈ ext n b ↔ ∃ x, c = b ++ [x] ∧ lo b ≤ x ∧ x < (n : Int) := by
  unfold ext
  rw [List.mem_map]
  constructor
  · rintro ⟨i, hi, rfl⟩
    have := List.mem_range.mp hi
    exact ⟨_, rfl, by omega, by omega⟩
  · rintro ⟨x, rfl, h1, h2⟩
    refine ⟨(x - lo b).toNat, List.mem_range.mpr (by omega), ?_⟩
    rw [show lo b + ((x - lo b).toNat : Int) = x by omega]
theorem mem_bs {n : Nat} : ∀ {k : Nat} {b : List Int}, b ∈ bs n k ↔ Asc n b ∧ b.length = k
  | 0, b => by
    unfold bs
    rw [List.mem_singleton]
    constructor
    · rintro rfl
      exact ⟨⟨List.Pairwise.nil, fun x hx => by cases hx⟩, rfl⟩
    · rintro ⟨_, h⟩
      exact List.length_eq_zero_iff.mp h
  | k + 1, b => by
    unfold bs
    rw [List.mem_flatMap]
    constructor
    · rintro ⟨a, ha, hb⟩
      obtain ⟨h1, h2⟩ := mem_bs.mp ha
      obtain ⟨x, rfl, h3, h4⟩ := (mem_ext h1).mp hb
      exact ⟨asc_snoc.mpr ⟨h1, h3, h4⟩, by simp [h2]⟩
    · rintro ⟨h1, h2⟩
      rcases List.eq_nil_or_concat b with e | ⟨c, z, e⟩
      · subst e
        simp at h2
      · rw [List.concat_eq_append] at e
        subst e
        obtain ⟨h3, h4, h5⟩ := asc_snoc.mp h1
        exact ⟨c, mem_bs.mpr ⟨h3, by simpa using h2⟩, (mem_ext h3).mpr ⟨z, rfl, h4, h5⟩⟩
theorem asc_succ {r : Nat} {b : List Int} : Asc (r + 1) b ↔ Asc r b ∨ ∃ a, b = a ++ [(r : Int)] ∧ Asc r a := by
  constructor
  · intro h
    rcases List.eq_nil_or_concat b with e | ⟨c, z, e⟩
    · subst e
      exact .inl ⟨List.Pairwise.nil, fun x hx => by cases hx⟩
    · rw [List.concat_eq_append] at e
      subst e
      have hp := List.pairwise_append.mp h.1
      have hlt : ∀ y ∈ c, 0 ≤ y ∧ y < z := fun y hy => ⟨(h.2 y (by simp [hy])).1, hp.2.2 y hy z (by simp)⟩
      have hz := h.2 z (by simp)
      by_cases e : z = (r : Int)
      · subst e
        exact .inr ⟨c, rfl, hp.1, hlt⟩
      · refine .inl ⟨h.1, fun y hy => ?_⟩
        rcases List.mem_append.mp hy with m | m
        · have := hlt y m
          omega
        · have : y = z := by simpa using m
          omega
  · rintro (h | ⟨a, rfl, h⟩)
    · exact ⟨h.1, fun y hy => by have := h.2 y hy; omega⟩
    · refine ⟨List.pairwise_append.mpr ⟨h.1, by simp, fun y hy z hz => ?_⟩, fun y hy => ?_⟩
      · have : z = (r : Int) := by simpa using hz
        have := h.2 y hy
        omega
      · rcases List.mem_append.mp hy with m | m
        · have := h.2 y m
          omega
        · have : y = (r : Int) := by simpa using m
          omega
theorem mem_pw : ∀ {n : Nat} {b : List Int}, b ∈ pw n ↔ Asc n b
  | 0, b => by
    unfold pw
    rw [List.mem_singleton]
    constructor
    · rintro rfl
      exact ⟨List.Pairwise.nil, fun x hx => by cases hx⟩
    · rintro ⟨_, h⟩
      cases b with
      | nil => rfl
      | cons x r =>
        have := h x List.mem_cons_self
        omega
  | r + 1, b => by
    unfold pw
    rw [List.mem_append, List.mem_map, asc_succ, mem_pw]
    constructor
    · rintro (h | ⟨a, ha, rfl⟩)
      · exact .inl h
      · exact .inr ⟨a, rfl, mem_pw.mp ha⟩
    · rintro (h | ⟨a, rfl, ha⟩)
      · exact .inl h
      · exact .inr ⟨a, mem_pw.mpr ha, rfl⟩
theorem pw_len : ∀ n : Nat, (pw n).length = 2 ^ n
  | 0 => rfl
  | r + 1 => by
    unfold pw
    rw [List.length_append, List.length_map, pw_len r, Nat.pow_succ]
    omega
theorem pw_cons : ∀ n : Nat, ∃ t, pw n = [] :: t ∧ ∀ b ∈ t, b ≠ []
  | 0 => ⟨[], rfl, fun b hb => by cases hb⟩
  | r + 1 => by
    obtain ⟨t, e, h⟩ := pw_cons r
    refine ⟨t ++ ((pw r).map fun b => b ++ [(r : Int)]), ?_, fun b hb => ?_⟩
    · show pw r ++ _ = _
      rw [e]
      rfl
    · rcases List.mem_append.mp hb with m | m
      · exact h b m
      · obtain ⟨a, _, rfl⟩ := List.mem_map.mp m
        simp

/-! ### the order -/
def lexI : List Int → List Int → Bool
  | [], [] => false
  | [], _ :: _ => true
  | _ :: _, [] => false
  | x :: a, y :: b => decide (x < y) || (decide (x = y) && lexI a b)
theorem lexI_irr : ∀ a : List Int, lexI a a = false
  | [] => rfl
  | x :: a => by simp [lexI, lexI_irr a]
theorem lexI_trans : ∀ {a b c : List Int}, lexI a b = true → lexI b c = true → lexI a c = true
  | [], [], _, h, _ => by cases h
  | [], _ :: _, [], _, h => by cases h
  | [], _ :: _, _ :: _, _, _ => rfl
  | _ :: _, [], _, h, _ => by cases h
  | _ :: _, _ :: _, [], _, h => by cases h
  | x :: a, y :: b, z :: c, h1, h2 => by
    simp only [lexI, Bool.or_eq_true, Bool.and_eq_true, decide_eq_true_eq] at h1 h2 ⊢
    rcases h1 with h1 | ⟨e1, h1⟩
    · rcases h2 with h2 | ⟨e2, h2⟩
      · exact .inl (by omega)
      · exact .inl (by omega)
    · rcases h2 with h2 | ⟨e2, h2⟩
      · exact .inl (by omega)
      · exact .inr ⟨by omega, lexI_trans h1 h2⟩
theorem lexI_app : ∀ {a b : List Int} (u v : List Int), a.length = b.length → lexI a b = true → lexI (a ++ u) (b ++ v) = true
  | [], [], _, _, _, h => by cases h
  | [], _ :: _, _, _, h, _ => by cases h
  | _ :: _, [], _, _, h, _ => by cases h
  | x :: a, y :: b, u, v, h, k => by
    simp only [lexI, List.cons_append, Bool.or_eq_true, Bool.and_eq_true, decide_eq_true_eq] at k ⊢
    rcases k with k | ⟨e, k⟩
    · exact .inl k
    · exact .inr ⟨e, lexI_app u v (by simpa using h) k⟩
theorem lexI_same : ∀ (a : List Int) (x y : Int), x < y → lexI (a ++ [x]) (a ++ [y]) = true
  | [], x, y, h => by simp [lexI, h]
  | z :: a, x, y, h => by
    have := lexI_same a x y h
    simp [lexI, this]
theorem bs_sorted (n : Nat) : ∀ k : Nat, (bs n k).Pairwise fun a b => lexI a b = true
  | 0 => by
    unfold bs
    simp
  | k + 1 => by
    unfold bs
    rw [List.pairwise_flatMap]
    refine ⟨fun a ha => ?_, ?_⟩
    · unfold ext
      rw [List.pairwise_map]
      exact (List.pairwise_lt_range (n := _)).imp fun h => lexI_same _ _ _ (by omega)
    · refine List.Pairwise.imp_of_mem (fun {a b} ha hb h => ?_) (bs_sorted n k)
      obtain ⟨h1, h2⟩ := mem_bs.mp ha
      obtain ⟨h3, h4⟩ := mem_bs.mp hb
      intro u hu v hv
      obtain ⟨x, rfl, _⟩ := (mem_ext h1).mp hu
      obtain ⟨y, rfl, _⟩ := (mem_ext h3).mp hv
      exact lexI_app [x] [y] (h2.trans h4.symm) h
def ltB (a b : List Int) : Bool := decide (a.length < b.length) || (decide (a.length = b.length) && lexI a b)
theorem ltB_trans {a b c : List Int} (h1 : ltB a b = true) (h2 : ltB b c = true) : ltB a c = true := by
  simp only [ltB, Bool.or_eq_true, Bool.and_eq_true, decide_eq_true_eq] at h1 h2 ⊢
  rcases h1 with h1 | ⟨e1, h1⟩
  · rcases h2 with h2 | ⟨e2, h2⟩
    · exact .inl (by omega)
    · exact .inl (by omega)
  · rcases h2 with h2 | ⟨e2, h2⟩
    · exact .inl (by omega)
    · exact .inr ⟨by omega, lexI_trans h1 h2⟩
theorem nodup_len {α : Type} : ∀ {l D : List α}, l.Nodup → (∀ x ∈ l, x ∈ D) → l.length ≤ D.length
  | [], _, _, _ => Nat.zero_le _
  | x :: l, D, h, k => by
    obtain ⟨h1, h2⟩ := List.nodup_cons.mp h
    obtain ⟨a, b, e⟩ := List.append_of_mem (k x List.mem_cons_self)
    subst e
    have := nodup_len (l := l) (D := a ++ b) h2 fun y hy => by
      have := k y (List.mem_cons_of_mem _ hy)
      rcases List.mem_append.mp this with m | m
      · exact List.mem_append_left _ m
      · rcases List.mem_cons.mp m with e | m
        · subst e
          exact absurd hy h1
        · exact List.mem_append_right _ m
    simp only [List.length_append, List.length_cons] at this ⊢
    omega
theorem bs_len (n k : Nat) : (bs n k).length ≤ 2 ^ n := by
  rw [← pw_len n]
  refine nodup_len ?_ fun b hb => mem_pw.mpr (mem_bs.mp hb).1
  exact (bs_sorted n k).imp fun {a b} h e => by
    subst e
    rw [lexI_irr] at h
    cases h

/-! ### the least good one -/
def pickMin (good : List Int → Bool) : List (List Int) → Option (List Int) → Option (List Int)
  | [], o => o
  | b :: r, o => pickMin good r (if good b = true then (match o with
    | none => some b
    | some c => if ltB b c = true then some b else some c) else o)
theorem pickMin_spec {good : List Int → Bool} : ∀ (l done : List (List Int)) (o : Option (List Int)), (o = none → ∀ b ∈ done, good b = false) → (∀ c, o = some c → c ∈ done ∧ good c = true ∧ ∀ b ∈ done, good b = true → ltB b c = false) →
    (pickMin good l o = none → ∀ b ∈ done ++ l, good b = false) ∧ (∀ c, pickMin good l o = some c → c ∈ done ++ l ∧ good c = true ∧ ∀ b ∈ done ++ l, good b = true → ltB b c = false)
  | [], done, o, h1, h2 => by
    rw [List.append_nil]
    exact ⟨h1, h2⟩
  | b :: r, done, o, h1, h2 => by
    have e : done ++ b :: r = (done ++ [b]) ++ r := by simp
    rw [e]
    unfold pickMin
    refine pickMin_spec r (done ++ [b]) _ (fun hn x hx => ?_) (fun c hc => ?_)
    · by_cases g : good b = true
      · rw [if_pos g] at hn
        cases o with
        | none => cases hn
        | some c =>
          dsimp only at hn
          split at hn <;> cases hn
      · rw [if_neg g] at hn
        rcases List.mem_append.mp hx with m | m
        · exact h1 hn x m
        · have : x = b := by simpa using m
          subst this
          simpa using g
    · by_cases g : good b = true
      · rw [if_pos g] at hc
        cases o with
        | none =>
          have : b = c := Option.some.inj hc
          subst this
          refine ⟨by simp, g, fun x hx gx => ?_⟩
          rcases List.mem_append.mp hx with m | m
          · rw [h1 rfl x m] at gx
            cases gx
          · have : x = b := by simpa using m
            subst this
            simp [ltB, lexI_irr]
        | some d =>
          obtain ⟨k1, k2, k3⟩ := h2 d rfl
          dsimp only at hc
          by_cases q : ltB b d = true
          · rw [if_pos q] at hc
            have : b = c := Option.some.inj hc
            subst this
            refine ⟨by simp, g, fun x hx gx => ?_⟩
            rcases List.mem_append.mp hx with m | m
            · have z := k3 x m gx
              cases y : ltB x b with
              | false => rfl
              | true =>
                rw [ltB_trans y q] at z
                cases z
            · have : x = b := by simpa using m
              subst this
              simp [ltB, lexI_irr]
          · rw [if_neg q] at hc
            have : d = c := Option.some.inj hc
            subst this
            refine ⟨by simp [k1], k2, fun x hx gx => ?_⟩
            rcases List.mem_append.mp hx with m | m
            · exact k3 x m gx
            · have : x = b := by simpa using m
              subst this
              simpa using q
      · rw [if_neg g] at hc
        obtain ⟨k1, k2, k3⟩ := h2 c hc
        refine ⟨by simp [k1], k2, fun x hx gx => ?_⟩
        rcases List.mem_append.mp hx with m | m
        · exact k3 x m gx
        · have : x = b := by simpa using m
          subst this
          exact absurd gx g
/-- the first good one by size, then in the list's order -/
def First (n : Nat) (good : List Int → Bool) (f : List Int) : Prop :=
  ∃ (k : Nat) (pre post : List (List Int)), 1 ≤ k ∧ bs n k = pre ++ f :: post ∧ good f = true ∧ (∀ b ∈ pre, good b = false) ∧ ∀ j, 1 ≤ j → j < k → ∀ b ∈ bs n j, good b = false
theorem first_law {n : Nat} {good : List Int → Bool} {f : List Int} (hf : First n good f) :
    (pickMin (fun b => decide (b.length ≤ 6) && good b) (pw n).tail none = none → 7 ≤ f.length) ∧
    ∀ b, pickMin (fun b => decide (b.length ≤ 6) && good b) (pw n).tail none = some b → f = b := by
  obtain ⟨k, pre, post, hk, eb, gf, hpre, hj⟩ := hf
  obtain ⟨t, et, ht⟩ := pw_cons n
  have hm : f ∈ bs n k := by rw [eb]; simp
  obtain ⟨af, lf⟩ := mem_bs.mp hm
  have inT : ∀ b, Asc n b → b ≠ [] → b ∈ (pw n).tail := fun b hb hn => by
    have := mem_pw.mpr hb
    rw [et] at this ⊢
    rcases List.mem_cons.mp this with e | m
    · exact absurd e hn
    · exact m
  have hfn : f ≠ [] := fun e => by
    subst e
    simp at lf
    omega
  have S := pickMin_spec (good := fun b => decide (b.length ≤ 6) && good b) (pw n).tail [] none (fun _ b hb => by cases hb) (fun c hc => by cases hc)
  rw [List.nil_append] at S
  constructor
  · intro hn
    have q := S.1 hn f (inT f af hfn)
    rw [gf, Bool.and_true, decide_eq_false_iff_not] at q
    omega
  · intro b hb
    obtain ⟨q1, q2, q3⟩ := S.2 b hb
    simp only [Bool.and_eq_true, decide_eq_true_eq] at q2 q3
    obtain ⟨l6, gb⟩ := q2
    have hbn : b ≠ [] := by
      rw [et] at q1
      exact ht b q1
    have ab : Asc n b := mem_pw.mp (by rw [et] at q1 ⊢; exact List.mem_cons_of_mem _ q1)
    have hb1 : 1 ≤ b.length := List.length_pos_iff.mpr hbn
    have kb : k ≤ b.length := by
      rcases Nat.lt_or_ge b.length k with h | h
      · have := hj b.length hb1 h b (mem_bs.mpr ⟨ab, rfl⟩)
        rw [gb] at this
        cases this
      · exact h
    have z := q3 f (inT f af hfn) ⟨by omega, gf⟩
    simp only [ltB, Bool.or_eq_false_iff, Bool.and_eq_false_iff, decide_eq_false_iff_not] at z
    have lb : b.length = k := by omega
    have z2 : lexI f b = false := by
      rcases z.2 with h | h
      · omega
      · exact h
    have mb : b ∈ bs n k := mem_bs.mpr ⟨ab, lb⟩
    rw [eb] at mb
    rcases List.mem_append.mp mb with m | m
    · rw [hpre b m] at gb
      cases gb
    · rcases List.mem_cons.mp m with e | m
      · exact e.symm
      · have srt := bs_sorted n k
        rw [eb] at srt
        have := (List.pairwise_cons.mp (List.pairwise_append.mp srt).2.1).1 b m
        rw [this] at z2
        cases z2
/-- a greatest number is one -/
theorem max_uniq {l : List Int} {m m' : Int} (h1 : m ∈ l) (h2 : ∀ y ∈ l, y ≤ m) (h3 : m' ∈ l) (h4 : ∀ y ∈ l, y ≤ m') : m = m' := by
  have := h2 m' h3
  have := h4 m h1
  omega
end KL

set_option Elab.async false
set_option linter.all false
set_option maxRecDepth 100000
/-! D0: the text by places -/
namespace KL
open PySem PySem.Spec PyProof.Rows L2
def topS (i : Nat) : Stmt := PySem.Challenge.pw_keylanes_k71_whole_fewest_begins.main.body.getD i (.Pass ⟨0, 0, 0, 0⟩)
abbrev sIsInt : Stmt := topS 8
abbrev sIsIn : Stmt := topS 9
abbrev sIsSet : Stmt := topS 10
abbrev sNeedLane : Stmt := topS 11
abbrev sRooms : Stmt := topS 15
abbrev sNeedB : Stmt := topS 16
abbrev sFrom : Stmt := topS 17
abbrev sSeen : Stmt := topS 18
abbrev sBSets : Stmt := topS 19
abbrev sFewest : Stmt := topS 20
abbrev sBest : Stmt := topS 21
abbrev sPairs : Stmt := topS 22
abbrev sTaken : Stmt := topS 24
abbrev sPick : Stmt := topS 25
abbrev sAlike : Stmt := topS 26
abbrev sLane : Stmt := topS 27
abbrev sLaw : Stmt := topS 28
theorem scIsInt : FnScope ["value"] ["value"] (defScope sIsInt) := ⟨rfl, rfl, rfl, by decide +kernel, rfl, by decide +kernel, by decide +kernel⟩
theorem scIsIn : FnScope ["value", "least", "most"] ["value", "least", "most"] (defScope sIsIn) := ⟨rfl, rfl, rfl, by decide +kernel, rfl, by decide +kernel, by decide +kernel⟩
theorem scIsSet : FnScope ["value", "sign", "one", "other"] ["value"] (defScope sIsSet) := ⟨rfl, rfl, rfl, by decide +kernel, rfl, by decide +kernel, by decide +kernel⟩
theorem scNeedLane : FnScope ["value", "many", "index", "thing"] ["value"] (defScope sNeedLane) := ⟨rfl, rfl, rfl, by decide +kernel, rfl, by decide +kernel, by decide +kernel⟩
theorem scRooms : FnScope ["lane"] ["lane"] (defScope sRooms) := ⟨rfl, rfl, rfl, by decide +kernel, rfl, by decide +kernel, by decide +kernel⟩
theorem scNeedB : FnScope ["lane", "value", "room", "one", "other"] ["lane", "value"] (defScope sNeedB) := ⟨rfl, rfl, rfl, by decide +kernel, rfl, by decide +kernel, by decide +kernel⟩
theorem scFrom : FnScope ["lane", "begins", "room", "seen", "sign", "had", "is_new", "there", "door"] ["lane", "begins"] (defScope sFrom) := ⟨rfl, rfl, rfl, by decide +kernel, rfl, by decide +kernel, by decide +kernel⟩
theorem scSeen : FnScope ["lane", "begins"] ["lane", "begins"] (defScope sSeen) := ⟨rfl, rfl, rfl, by decide +kernel, rfl, by decide +kernel, by decide +kernel⟩
theorem scBSets : FnScope ["many", "size", "found", "turn", "told", "room"] ["many", "size"] (defScope sBSets) := ⟨rfl, rfl, rfl, by decide +kernel, rfl, by decide +kernel, by decide +kernel⟩
theorem scFewest : FnScope ["lane", "many", "size", "begins"] ["lane"] (defScope sFewest) := ⟨rfl, rfl, rfl, by decide +kernel, rfl, by decide +kernel, by decide +kernel⟩
theorem scBest : FnScope ["lane", "told", "room", "many"] ["lane"] (defScope sBest) := ⟨rfl, rfl, rfl, by decide +kernel, rfl, by decide +kernel, by decide +kernel⟩
theorem scPairs : FnScope ["lane", "found", "room", "there"] ["lane"] (defScope sPairs) := ⟨rfl, rfl, rfl, by decide +kernel, rfl, by decide +kernel, by decide +kernel⟩
theorem scTaken : FnScope ["_law_row", "_law_many", "_law_found", "_law_cell"] ["_law_row", "_law_many"] (defScope sTaken) := ⟨rfl, rfl, rfl, by decide +kernel, rfl, by decide +kernel, by decide +kernel⟩
theorem scPick : FnScope ["_law_row", "_law_things"] ["_law_row", "_law_things"] (defScope sPick) := ⟨rfl, rfl, rfl, by decide +kernel, rfl, by decide +kernel, by decide +kernel⟩
theorem scAlike : FnScope ["_law_found", "_law_due", "_law_k"] ["_law_found", "_law_due"] (defScope sAlike) := ⟨rfl, rfl, rfl, by decide +kernel, rfl, by decide +kernel, by decide +kernel⟩
theorem scLane : FnScope ["_law_row", "_law_most", "_law_many", "_law_kinds", "_law_things", "_law_at", "_law_thing", "_law_turn"] ["_law_row", "_law_most"] (defScope sLane) := ⟨rfl, rfl, rfl, by decide +kernel, rfl, by decide +kernel, by decide +kernel⟩
theorem scLaw : FnScope ["_law_script", "_law_row", "_law_lane_here", "_law_many", "_law_sets", "_law_best", "_law_room", "_law_begins", "_law_found", "_law_alone", "_law_most", "_law_pairs", "_law_one", "_law_rooms", "_law_there"] ["_law_script"] (defScope sLaw) := ⟨rfl, rfl, rfl, by decide +kernel, rfl, by decide +kernel, by decide +kernel⟩
end KL

set_option Elab.async false
set_option linter.all false
set_option maxRecDepth 100000
set_option maxHeartbeats 4000000
/-! E1: is_int, is_in, rooms_of -/
namespace KL
open PySem PySem.Spec PyProof.Rows L2
/-- built-in names that the module leaves alone -/
structure Nn (mg : Str → Option Value) : Prop where
  isi : mg "isinstance" = none
  int : mg "int" = none
  bool : mg "bool" = none
  str : mg "str" = none
  tuple : mg "tuple" = none
  list : mg "list" = none
  len : mg "len" = none
  all : mg "all" = none
  zip : mg "zip" = none
  enum : mg "enumerate" = none
  sorted : mg "sorted" = none
  range : mg "range" = none
  max : mg "max" = none
  set : mg "set" = none
section
variable {P : Program} {w : World} {K : PySem.W.Frag} {mg : Str → Option Value} {base : Heap}
def spIsInt : Sp := fun vs H Q _ => ∃ i : Int, vs = [.int i] ∧ Q (.bl true) H
theorem ok_isInt {f : Addr} {fd : FuncData} {k : Nat} (F : Fun K "is_int" "is_int" sIsInt f fd) (N : Nn mg) : FnOk P w K mg base CX0 (k + 1) f fd ["value"] spIsInt := by
  refine F.ok scIsInt (fun vs H Q E h => ?_) (fun cdv A outer s H vs Q E hr h => ?_)
  · obtain ⟨i, rfl, _⟩ := h
    rfl
  · obtain ⟨i, rfl, q⟩ := h
    refine ⟨_, pss_one (ps_ret (pe_and (pe_callB call_isi (by rfl) N.isi (by decide +kernel) (pa_cons (pv 0) (pa_cons (pe_bltn (v := .ty "int") (u := .type "int") (by rfl) N.int (by decide +kernel) rfl) pa_nil)))
      (pe_one (pe_not (pe_callB call_isi (by rfl) N.isi (by decide +kernel) (pa_cons (pv 0) (pa_cons (pe_bltn (v := .ty "bool") (u := .type "bool") (by rfl) N.bool (by decide +kernel) rfl) pa_nil))))))), ?_⟩
    refine ⟨_, rfl, _, _, _, _, true, rfl, .ty _, .base (.int i), kit_ty (by decide +kernel), true, rfl, iteT ?_⟩
    exact ⟨_, rfl, _, _, _, _, false, rfl, .ty _, .base (.int i), kit_ty (by decide +kernel), false, rfl, q⟩
def spIsIn : Sp := fun vs H Q _ => ∃ i a b : Int, vs = [.int i, .int a, .int b] ∧ Q (.bl (decide (a ≤ i) && decide (i ≤ b))) H
theorem ok_isIn {f f1 : Addr} {fd fd1 : FuncData} {k : Nat} (F : Fun K "is_in" "is_in" sIsIn f fd) (G1 : FnOk P w K mg base CX0 k f1 fd1 ["value"] spIsInt) (b1 : Binds K fd1 ["value"] []) (g1 : mg "is_int" = some (.ref f1)) (k1 : PySem.W.keepIn K (.ref f1) = true) :
    FnOk P w K mg base CX0 (k + 1) f fd ["value", "least", "most"] spIsIn := by
  refine F.ok scIsIn (fun vs H Q E h => ?_) (fun cdv A outer s H vs Q E hr h => ?_)
  · obtain ⟨i, a, b, rfl, _⟩ := h
    rfl
  · obtain ⟨i, a, b, rfl, q⟩ := h
    refine ⟨_, pss_one (ps_ret (pe_and (pe_call G1 hr (by rfl) g1 k1 b1 .nil pass0 (pa_cons (pv 0) pa_nil)) (pe_one (pe_chain op_le op_le (pv 1) (pv 0) (pv 2))))), ?_⟩
    refine ⟨_, rfl, i, rfl, true, rfl, iteT ?_⟩
    refine ⟨_, rfl, _, rfl, _, _, rfl, rfl, _, rfl, ?_⟩
    by_cases h1 : a ≤ i
    · rw [decide_eq_true h1] at q ⊢
      exact iteT ⟨_, rfl, _, _, rfl, rfl, q⟩
    · rw [decide_eq_false h1] at q ⊢
      exact iteF q
/-- the lane at p: its begin, its things (as codes) -/
def tx (l : List Nat) : Str := ⟨l.toArray⟩
def LaneAt (H : Hp) (p : Addr) (b : Int) (ts : List (List Nat)) : Prop := ∃ q, H p = some (.tup [.int b, .ref q]) ∧ H q = some (.tup (ts.map fun l => V.str (tx l)))
structure LaneOk (b : Int) (ts : List (List Nat)) : Prop where
  odd : ts.length % 2 = 1
  small : ts.length ≤ 15
  b0 : 0 ≤ b
  b1 : b < (roomsN ts : Int)
  asc : ∀ l ∈ ts, l.Pairwise (· < ·)
  low : ∀ l ∈ ts, ∀ c ∈ l, 97 ≤ c ∧ c ≤ 108
  len : ∀ l ∈ ts, l.length ≤ 12
theorem LaneAt.mov {H H1 : Hp} {p : Addr} {b : Int} {ts : List (List Nat)} (e : Same H H1) (h : LaneAt H p b ts) : LaneAt H1 p b ts :=
  let ⟨q, h1, h2⟩ := h
  ⟨q, e _ _ h1, e _ _ h2⟩
def spRooms : Sp := fun vs H Q _ => ∃ p b ts, vs = [.ref p] ∧ LaneAt H p b ts ∧ Q (.int (roomsN ts : Int)) H
theorem ok_rooms {f : Addr} {fd : FuncData} {k : Nat} (F : Fun K "rooms_of" "rooms_of" sRooms f fd) (N : Nn mg) : FnOk P w K mg base CX0 (k + 1) f fd ["lane"] spRooms := by
  refine F.ok scRooms (fun vs H Q E h => ?_) (fun cdv A outer s H vs Q E hr h => ?_)
  · obtain ⟨p, b, ts, rfl, _⟩ := h
    rfl
  · obtain ⟨p, b, ts, rfl, ⟨c, h1, h2⟩, q⟩ := h
    refine ⟨_, pss_one (ps_ret (pe_op op_add (pe_op op_fdivN (pe_callB call_len_seq (by rfl) N.len PySem.boot_len (pa_cons (pe_ix ix_tup (pv 0) pe_int (fun _ _ => rfl)) pa_nil)) pe_int) pe_int)), ?_⟩
    refine ⟨_, rfl, p, _, 1, _, rfl, rfl, SqT.of h1, atI_nat (j := 1) rfl, c, _, rfl, .inr (SqT.of h2), _, _, rfl, rfl, ⟨by decide, by decide⟩, _, _, rfl, rfl, ?_⟩
    have e : (((ts.map fun l => V.str (tx l)).length : Nat) : Int).fdiv 2 + 1 = (roomsN ts : Int) := by
      rw [List.length_map, Int.fdiv_eq_ediv_of_nonneg _ (by decide)]
      unfold roomsN
      omega
    show Q (.int ((((ts.map fun l => V.str (tx l)).length : Nat) : Int).fdiv 2 + 1)) H
    rw [e]
    exact q
end
end KL

set_option Elab.async false
set_option linter.all false
set_option maxRecDepth 100000
set_option maxHeartbeats 4000000
/-! E2: is_set, need_lane -/
namespace KL
open PySem PySem.Spec PyProof.Rows L2
theorem kinds_codes : (Str.ofString "abcdefghijkl").cps.toList = [97, 98, 99, 100, 101, 102, 103, 104, 105, 106, 107, 108] := by decide +kernel
theorem kinds_mem {c : Nat} (h : 97 ≤ c ∧ c ≤ 108) : decide (c ∈ (Str.ofString "abcdefghijkl").cps.toList) = true := by
  rw [kinds_codes]
  refine decide_eq_true ?_
  simp only [List.mem_cons, List.not_mem_nil, or_false]
  omega
theorem tx_codes (l : List Nat) : (tx l).cps.toList = l := by
  unfold tx
  simp
theorem tx_at (l : List Nat) (i : Nat) : (tx l).cps[i]? = l[i]? := by
  unfold tx
  simp
theorem tx_size (l : List Nat) : (tx l).cps.size = l.length := by
  unfold tx
  simp
theorem tx_len (l : List Nat) : (tx l).length = l.length := tx_size l
theorem cut_tx (l : List Nat) : cutS (tx l) (some 1) none = tx (l.drop 1) := by
  unfold cutS
  rw [tx_codes, tx_len, show HT.sIx l.length 0 (some 1) = min 1 l.length from HT.sIx_nat l.length 0 1, HT.sIx_none]
  cases l with
  | nil => rfl
  | cons x r =>
    have e : min 1 (x :: r).length = 1 := by
      rw [List.length_cons]
      omega
    rw [e]
    unfold tx
    congr 1
    show (List.take ((x :: r).length - 1) r).toArray = r.toArray
    rw [List.take_of_length_le (by simp)]
theorem all_rep (n : Nat) : (List.replicate n true).all id = true := by
  rw [List.all_eq_true]
  intro b hb
  rw [(List.mem_replicate.mp hb).2]
  rfl
theorem rep_map (n : Nat) : List.replicate n (V.bl true) = (List.replicate n true).map V.bl := by simp
theorem small16 {n : Nat} (h : n < 16777216) : n < sizeLine := by
  rw [sizeLine_eq]
  exact h
theorem lt_two (c d : Nat) : decide (([c] : List Nat) < [d]) = decide (c < d) := by
  by_cases h : c < d
  · rw [decide_eq_true h]
    refine decide_eq_true ?_
    exact List.Lex.rel h
  · rw [decide_eq_false h]
    refine decide_eq_false fun z => ?_
    cases z with
    | rel z => exact h z
    | cons z => cases z
theorem yesT {σ : L2.St} {H : Hp} {A B : Hp → Prop} (h : A H) : tYes σ H fun b H3 => if b = true then A H3 else B H3 := by
  show if true = true then A H else B H
  rw [if_pos rfl]
  exact h
section
variable {P : Program} {w : World} {K : PySem.W.Frag} {mg : Str → Option Value} {base : Heap}
def spIsSet : Sp := fun vs H Q _ => ∃ l : List Nat, vs = [.str (tx l)] ∧ l.Pairwise (· < ·) ∧ (∀ c ∈ l, 97 ≤ c ∧ c ≤ 108) ∧ l.length ≤ 12 ∧ ∀ H', Same H H' → Q (.bl true) H'
theorem ok_isSet {f : Addr} {fd : FuncData} {k : Nat} {tK : Tok} (F : Fun K "is_set" "is_set" sIsSet f fd) (N : Nn mg) (gK : mg "KINDS" = some (.str "abcdefghijkl" tK)) : FnOk P w K mg base CX0 (k + 1) f fd ["value"] spIsSet := by
  refine F.ok scIsSet (fun vs H Q E h => ?_) (fun cdv A outer s H vs Q E hr h => ?_)
  · obtain ⟨l, rfl, _⟩ := h
    rfl
  · obtain ⟨l, rfl, hp, hlow, hlen, q⟩ := h
    refine ⟨_, pss_cons (ps_if (PW.pt (pw_or (pt_not (pt_val (pe_callB call_isi (by rfl) N.isi (by decide +kernel) (pa_cons (pv 0) (pa_cons (pe_bltn (v := .ty "str") (u := .type "str") (by rfl) N.str (by decide +kernel) rfl) pa_nil)))))
        (pw_or1 (pt_not (pt_val (pe_callB (cr_all rfl) (by rfl) N.all (by decide +kernel) (pa_cons
          (pe_lc (own := [("sign", 1)]) (g := gName 1) (tt := tYes) rfl scIsSet.nd (pi_str (pv 0)) (blkOk_by (own := [("sign", 1)]) (N := ["value", "sign", "one", "other"]) (sc := defScope sIsSet) (by decide +kernel))
            (fun _ _ _ _ _ => pg_name (i := 1) scIsSet.nd rfl (Or.inl rfl)) (fun _ _ _ _ _ => pts_nil) (fun _ _ _ _ _ => pe_cmpR op_in_sign (pv 1) (pe_glob (v := .str "abcdefghijkl") (by rfl) gK ⟨_, rfl⟩) (by rfl))) pa_nil)))))))
        pss_never pss_nil)
      (pss_one (ps_ret (pe_callB (cr_all rfl) (by rfl) N.all (by decide +kernel) (pa_cons
          (pe_lc (own := [("one", 2), ("other", 3)]) (g := gTup K 2 (gCons (gName 2) (gCons (gName 3) gNil))) (tt := tYes) rfl scIsSet.nd (pi_zs (by rfl) N.zip (pa_cons (pv 0) (pa_cons (pe_slice sl_str (pv 0) (po_some pe_int) po_none) pa_nil)))
            (blkOk_by (own := [("one", 2), ("other", 3)]) (N := ["value", "sign", "one", "other"]) (sc := defScope sIsSet) (by decide +kernel))
            (fun _ _ _ _ _ => pg_tup rfl (pgs_cons (pg_name (i := 2) scIsSet.nd rfl (Or.inl rfl)) (pgs_cons (pg_name (i := 3) scIsSet.nd rfl (Or.inl rfl)) pgs_nil))) (fun _ _ _ _ _ => pts_nil)
            (fun _ _ _ _ _ => pe_cmpR op_lt_str (pv 2) (pv 3) (nomark _))) pa_nil)))), ?_⟩
    -- isinstance(value, str)
    refine ⟨_, rfl, _, _, _, _, true, rfl, .ty _, .base (.str _), kit_ty (by decide +kernel), true, rfl, iteF ?_⟩
    -- all([sign in KINDS for sign in value])
    refine ⟨_, rfl, _, rfl, fun D hD => lc_it walk_str (fun i H' => Same H H' ∧ H' D = some (.lst (List.replicate i (.bl true)))) ⟨sm_upd hD, upd_same⟩ (fun _ _ _ _ => True.intro) (fun i x H2 H3 hi hP hY => ?_) (fun H2 hP => ?_)⟩
    · obtain ⟨rfl, c, hc, rfl⟩ := hY
      obtain ⟨sm, hD2⟩ := hP
      rw [tx_at] at hc
      refine ⟨rfl, yesT ?_⟩
      refine ⟨_, rfl, c, _, rfl, rfl, _, hD2, ?_, ?_, ?_⟩
      · rw [List.length_replicate]
        rw [tx_size] at hi
        exact small16 (by omega)
      · intro b u e
        rw [upd_ne (ne_of_none e hD)]
        exact sm b u e
      · rw [upd_same, kinds_mem (hlow c (List.mem_of_getElem? hc)), List.replicate_succ']
    · obtain ⟨sm, hD2⟩ := hP
      rw [rep_map] at hD2
      refine ⟨D, _, rfl, SqL.of hD2, true, by rw [all_rep], iteF ?_⟩
      -- all([one < other for one, other in zip(value, value[1:])])
      refine ⟨_, rfl, _, rfl, 1, rfl, _, rfl, ?_, _, _, rfl, fun D2 hD3 => lc_it walk_zs (fun i H' => Same H H' ∧ H' D2 = some (.lst (List.replicate i (.bl true)))) ⟨sm.trans (sm_upd hD3), upd_same⟩ (fun _ _ _ _ => True.intro) (fun i x H3 H4 hi hP hY => ?_) (fun H3 hP => ?_)⟩
      · rw [tx_len, sizeLine_eq]
        omega
      · obtain ⟨T, a, b, rfl, nT, rfl, ha, hb⟩ := hY
        obtain ⟨sm3, hD4⟩ := hP
        replace ha : ((tx l).cps[i]?).map (fun c => V.str ⟨#[c]⟩) = some a := ha
        replace hb : ((cutS (tx l) (some 1) none).cps[i]?).map (fun c => V.str ⟨#[c]⟩) = some b := hb
        rw [tx_at] at ha
        rw [cut_tx, tx_at, List.getElem?_drop] at hb
        have hi2 : i < zLen (tx l) (cutS (tx l) (some 1) none) := hi
        unfold zLen at hi2
        rw [cut_tx, tx_size, tx_size, List.length_drop] at hi2
        have h1 : i < l.length := by omega
        have h2 : 1 + i < l.length := by omega
        rw [List.getElem?_eq_getElem h1] at ha
        rw [List.getElem?_eq_getElem h2] at hb
        obtain rfl : V.str ⟨#[l[i]]⟩ = a := Option.some.inj ha
        obtain rfl : V.str ⟨#[l[1 + i]]⟩ = b := Option.some.inj hb
        have lt : l[i] < l[1 + i] := List.pairwise_iff_getElem.mp hp i (1 + i) h1 h2 (by omega)
        have nDT : D2 ≠ T := ne_of_none hD4 nT
        refine ⟨T, _, rfl, SqT.of upd_same, rfl, _, _, rfl, _, _, rfl, ⟨rfl, rfl, yesT ?_⟩⟩
        refine ⟨_, rfl, _, rfl, _, _, rfl, rfl, List.replicate i (.bl true), ?_, ?_, ?_⟩
        · rw [upd_ne nDT]
          exact hD4
        · rw [List.length_replicate]
          exact small16 (by omega)
        · refine ⟨fun b u e => ?_, ?_⟩
          · have n1 : b ≠ D2 := ne_of_none (sm _ _ e) hD3
            have n2 : b ≠ T := ne_of_none (sm3 _ _ e) nT
            rw [upd_ne n1, upd_ne n2]
            exact sm3 _ _ e
          · rw [upd_same]
            have e : decide ((#[l[i]] : Array Nat).toList < (#[l[1 + i]] : Array Nat).toList) = true := by
              rw [show (#[l[i]] : Array Nat).toList = [l[i]] from rfl, show (#[l[1 + i]] : Array Nat).toList = [l[1 + i]] from rfl, lt_two]
              exact decide_eq_true lt
            rw [List.replicate_succ']
            show some (HO.lst (List.replicate i (V.bl true) ++ [V.bl (decide ((#[l[i]] : Array Nat).toList < (#[l[1 + i]] : Array Nat).toList))])) = _
            rw [e]
      · obtain ⟨sm3, hD4⟩ := hP
        rw [rep_map] at hD4
        refine ⟨D2, _, rfl, SqL.of hD4, ?_⟩
        rw [all_rep]
        exact q _ sm3
end
end KL

set_option Elab.async false
set_option linter.all false
set_option maxRecDepth 100000
set_option maxHeartbeats 4000000
/-! E3: need_lane -/
namespace KL
open PySem PySem.Spec PyProof.Rows L2
section
variable {P : Program} {w : World} {K : PySem.W.Frag} {mg : Str → Option Value} {base : Heap}
def spNeedLane : Sp := fun vs H Q _ => ∃ p b ts, vs = [.ref p] ∧ LaneAt H p b ts ∧ LaneOk b ts ∧ ∀ H', Same H H' → Q .non H'
theorem ok_needLane {f f1 f2 : Addr} {fd fd1 fd2 : FuncData} {k : Nat} {tM : Tok} (F : Fun K "need_lane" "need_lane" sNeedLane f fd) (N : Nn mg) (gM : mg "MOST_ROOMS_lanes" = some (.int 60 tM))
    (G1 : FnOk P w K mg base CX0 k f1 fd1 ["value", "least", "most"] spIsIn) (b1 : Binds K fd1 ["value", "least", "most"] []) (g1 : mg "is_in" = some (.ref f1)) (k1 : PySem.W.keepIn K (.ref f1) = true)
    (G2 : FnOk P w K mg base CX0 k f2 fd2 ["value"] spIsSet) (b2 : Binds K fd2 ["value"] []) (g2 : mg "is_set" = some (.ref f2)) (k2 : PySem.W.keepIn K (.ref f2) = true) :
    FnOk P w K mg base CX0 (k + 1) f fd ["value"] spNeedLane := by
  refine F.ok scNeedLane (fun vs H Q E h => ?_) (fun cdv A outer s H vs Q E hr h => ?_)
  · obtain ⟨p, b, ts, rfl, _⟩ := h
    rfl
  · obtain ⟨p, b, ts, rfl, hL, O, q⟩ := h
    obtain ⟨c, h1, h2⟩ := id hL
    refine ⟨_, pss_cons (ps_if (PW.pt <| pw_or (pt_not <| pt_val <| pe_callB call_isi (by rfl) N.isi (by decide +kernel) <| pa_cons (pv 0) <| pa_cons (pe_bltn (v := .ty "tuple") (u := .type "tuple") (by rfl) N.tuple (by decide +kernel) rfl) pa_nil) <|
        pw_or (pt_cmpR op_ne (pe_callB call_len_seq (by rfl) N.len PySem.boot_len <| pa_cons (pv 0) pa_nil) pe_int (nomark _)) <|
        pw_or1 <| pt_not <| pt_val <| pe_callB call_isi (by rfl) N.isi (by decide +kernel) <| pa_cons (pe_ix ix_tup (pv 0) pe_int (fun _ _ => rfl)) <| pa_cons (pe_bltn (v := .ty "tuple") (u := .type "tuple") (by rfl) N.tuple (by decide +kernel) rfl) pa_nil) pss_never pss_nil) <|
      pss_cons (ps_set (i := 1) scNeedLane.nd rfl (.inl rfl) <| pe_callB call_len_seq (by rfl) N.len PySem.boot_len <| pa_cons (pe_ix ix_tup (pv 0) pe_int (fun _ _ => rfl)) pa_nil) <|
      pss_cons (ps_if (PW.pt <| pw_or (pt_cmpR op_eq (pe_op op_modN (pv 1) pe_int) pe_int (nomark _)) <|
          pw_or (pt_cmpR op_ge (pv 1) (pe_op op_mul pe_int (pe_glob (v := .int 60) (by rfl) gM ⟨_, rfl⟩)) (nomark _)) <|
          pw_or1 <| pt_not <| pt_val <| pe_call G1 hr (by rfl) g1 k1 b1 .nil pass0 <| pa_cons (pe_ix ix_tup (pv 0) pe_int (fun _ _ => rfl)) <| pa_cons pe_int <| pa_cons (pe_op op_fdivN (pv 1) pe_int) pa_nil) pss_never pss_nil) <|
      pss_one <| ps_for PassesOwn.never rfl (pi_et (by rfl) N.enum <| pa_cons (pe_ix ix_tup (pv 0) pe_int (fun _ _ => rfl)) pa_nil)
        (pg_tup rfl <| pgs_cons (pg_name (i := 2) scNeedLane.nd rfl (Or.inl rfl)) <| pgs_cons (pg_name (i := 3) scNeedLane.nd rfl (Or.inl rfl)) pgs_nil)
        (pss_one <| ps_if (pt_not <| pt_val <| pe_call G2 hr (by rfl) g2 k2 b2 .nil pass0 <| pa_cons (pv 3) pa_nil) pss_never pss_nil), ?_⟩
    -- the first test
    refine ⟨_, rfl, _, _, _, _, true, rfl, .ty _, .base (.tup h1), kit_ty (by decide +kernel), true, rfl, iteF ?_⟩
    refine ⟨_, rfl, p, _, rfl, .inr (SqT.of h1), rfl, _, rfl, iteNS rfl ?_⟩
    refine ⟨_, rfl, p, _, 1, _, rfl, rfl, SqT.of h1, atI_nat (j := 1) rfl, _, _, _, _, true, rfl, .ty _, .base (.tup h2), kit_ty (by decide +kernel), true, rfl, iteF ?_⟩
    -- many
    refine ⟨_, rfl, p, _, 1, _, rfl, rfl, SqT.of h1, atI_nat (j := 1) rfl, c, _, rfl, .inr (SqT.of h2), ?_⟩
    have odd := O.odd
    have small := O.small
    have bb0 := O.b0
    have bb1 := O.b1
    unfold roomsN at bb1
    -- the second test
    refine ⟨_, rfl, _, _, rfl, rfl, (show (2 : Int) ≠ 0 by decide), rfl, _, rfl, ite2 (fun e => ?_) fun _ => ?_⟩
    · exfalso
      have e2 := V.int.inj (of_decide_eq_true e)
      rw [List.length_map, Int.fmod_eq_emod_of_nonneg _ (by decide)] at e2
      omega
    refine ⟨_, rfl, _, _, rfl, rfl, .inl ⟨by decide, by decide⟩, _, _, rfl, rfl, _, rfl, ite2 (fun e => ?_) fun _ => ?_⟩
    · exfalso
      have e2 := of_decide_eq_true e
      rw [List.length_map] at e2
      omega
    refine ⟨_, rfl, p, _, 0, _, rfl, rfl, SqT.of h1, atI_nat (j := 0) rfl, _, rfl, _, _, rfl, rfl, ⟨by decide, by decide⟩, b, 0, _, rfl, ?_⟩
    have e3 : (decide ((0 : Int) ≤ b) && decide (b ≤ (((ts.map fun l => V.str (tx l)).length : Nat) : Int).fdiv 2)) = true := by
      rw [List.length_map, Int.fdiv_eq_ediv_of_nonneg _ (by decide), decide_eq_true bb0, decide_eq_true (by omega)]
      rfl
    refine ⟨_, rfl, ?_⟩
    rw [e3]
    refine iteF ?_
    -- the loop
    refine ⟨_, rfl, p, _, 1, _, rfl, rfl, SqT.of h1, atI_nat (j := 1) rfl, c, _, rfl, SqT.of h2, for_it (walk_et (xs := ts.map fun l => V.str (tx l))) (fun i σ H' => Same H H' ∧ ∃ y2 y3, σ = [some (.ref p), some (.int ((ts.map fun l => V.str (tx l)).length : Nat)), y2, y3])
      ⟨Same.refl _, _, _, rfl⟩ (fun i σ H' hi hP => SqT.of (hP.1 _ _ h2)) (fun i x σ H2 H3 hi hP hY => ?_) (fun σ H2 hP => q H2 hP.1)⟩
    obtain ⟨sm, y2, y3, rfl⟩ := hP
    obtain ⟨T, x1, x2, rfl, nT, rfl, hx1, hx2⟩ := hY
    replace hx2 : (ts.map fun l => V.str (tx l))[i]? = some x2 := hx2
    rw [List.getElem?_map] at hx2
    have hi2 : i < ts.length := by rw [List.length_map] at hi; exact hi
    rw [List.getElem?_eq_getElem hi2] at hx2
    obtain rfl : V.str (tx ts[i]) = x2 := Option.some.inj hx2
    have mem : ts[i] ∈ ts := List.getElem_mem hi2
    refine ⟨T, _, rfl, SqT.of upd_same, rfl, _, _, rfl, _, _, rfl, rfl, ?_⟩
    refine ⟨_, rfl, ts[i], rfl, O.asc _ mem, O.low _ mem, O.len _ mem, fun H4 sm4 => ⟨true, rfl, iteF ?_⟩⟩
    exact ⟨sm.trans ((sm_upd nT).trans sm4), _, _, rfl⟩
end
end KL

set_option Elab.async false
set_option linter.all false
set_option maxRecDepth 100000
set_option maxHeartbeats 4000000
/-! E4: need_begins -/
namespace KL
open PySem PySem.Spec PyProof.Rows L2
theorem walk_zipT {K : PySem.W.Frag} {a b : Addr} {xs ys : List V} {n : Nat} (hn : n = min xs.length ys.length) : Walk (RZ.ItzT K a b) n (fun H => SqT K H a xs ∧ SqT K H b ys) (YPair (fun i => xs[i]?) (fun i => ys[i]?)) := by
  subst hn
  refine ⟨fun i _ hi q => ?_, fun _ q => ⟨xs, ys, q.1, q.2, by omega⟩, ?_⟩
  · have h1 : i < xs.length := by omega
    have h2 : i < ys.length := by omega
    exact ⟨xs, ys, xs[i], ys[i], q.1, q.2, by simp [h1], by simp [h2]⟩
  · rintro i H v H' _ q ⟨T, x, z, h1, h2, h3, h4, h5⟩
    exact ⟨T, x, z, h1, h2, h3, h4 xs q.1, h5 ys q.2⟩
theorem cut_one (xs : List V) (h : xs ≠ []) : cutV xs (some 1) none = xs.drop 1 ∧ ¬ (HT.sIx xs.length 0 (some 1) = 0 ∧ HT.sIx xs.length xs.length none = xs.length) := by
  have e : HT.sIx xs.length 0 (some 1) = 1 := by
    rw [show HT.sIx xs.length 0 (some 1) = min 1 xs.length from HT.sIx_nat xs.length 0 1]
    have := List.length_pos_iff.mpr h
    omega
  refine ⟨?_, fun z => ?_⟩
  · unfold cutV
    rw [e, HT.sIx_none]
    exact List.take_of_length_le (by simp)
  · rw [e] at z
    exact absurd z.1 (by decide)
section
variable {P : Program} {w : World} {K : PySem.W.Frag} {mg : Str → Option Value} {base : Heap}
def spNeedB : Sp := fun vs H Q _ => ∃ p b ts a B, vs = [.ref p, .ref a] ∧ LaneAt H p b ts ∧ H a = some (.tup (B.map V.int)) ∧ 1 ≤ B.length ∧ B.length ≤ 6 ∧ Asc (roomsN ts) B ∧ ∀ H', Same H H' → Q .non H'
theorem ok_needB {f f1 f2 : Addr} {fd fd1 fd2 : FuncData} {k : Nat} {tM : Tok} (F : Fun K "need_begins" "need_begins" sNeedB f fd) (N : Nn mg) (gM : mg "MOST_BEGINS" = some (.int 6 tM))
    (G1 : FnOk P w K mg base CX0 k f1 fd1 ["value", "least", "most"] spIsIn) (b1 : Binds K fd1 ["value", "least", "most"] []) (g1 : mg "is_in" = some (.ref f1)) (k1 : PySem.W.keepIn K (.ref f1) = true)
    (G2 : FnOk P w K mg base CX0 k f2 fd2 ["lane"] spRooms) (b2 : Binds K fd2 ["lane"] []) (g2 : mg "rooms_of" = some (.ref f2)) (k2 : PySem.W.keepIn K (.ref f2) = true) :
    FnOk P w K mg base CX0 (k + 1) f fd ["lane", "value"] spNeedB := by
  refine F.ok scNeedB (fun vs H Q E h => ?_) (fun cdv A outer s H vs Q E hr h => ?_)
  · obtain ⟨p, b, ts, a, B, rfl, _⟩ := h
    rfl
  · obtain ⟨p, b, ts, a, B, rfl, hL, hB, l1, l6, hA, q⟩ := h
    refine ⟨_, pss_cons (ps_if (PW.pt <| pw_or (pt_not <| pt_val <| pe_callB call_isi (by rfl) N.isi (by decide +kernel) <| pa_cons (pv 1) <| pa_cons (pe_bltn (v := .ty "tuple") (u := .type "tuple") (by rfl) N.tuple (by decide +kernel) rfl) pa_nil) <|
        pw_or1 <| pt_not <| pt_chain op_le op_le pe_int (pe_callB call_len_seq (by rfl) N.len PySem.boot_len <| pa_cons (pv 1) pa_nil) (pe_glob (v := .int 6) (by rfl) gM ⟨_, rfl⟩)) pss_never pss_nil) <|
      pss_cons (ps_if (pt_not <| pt_val <| pe_callB (cr_all rfl) (by rfl) N.all (by decide +kernel) <| pa_cons
          (pe_lc (own := [("room", 2)]) (g := gName 2) (tt := tYes) rfl scNeedB.nd (pi_tup (pv 1)) (blkOk_by (own := [("room", 2)]) (N := ["lane", "value", "room", "one", "other"]) (sc := defScope sNeedB) (by decide +kernel))
            (fun _ _ _ _ _ => pg_name (i := 2) scNeedB.nd rfl (Or.inl rfl)) (fun _ _ _ _ _ => pts_nil)
            (fun _ _ _ _ _ => pe_call G1 hr (by rfl) g1 k1 b1 .nil pass0 <| pa_cons (pv 2) <| pa_cons pe_int <| pa_cons (pe_op op_sub (pe_call G2 hr (by rfl) g2 k2 b2 .nil pass0 <| pa_cons (pv 0) pa_nil) pe_int) pa_nil)) pa_nil) pss_never pss_nil) <|
      pss_one (ps_if (pt_not <| pt_val <| pe_callB (cr_all rfl) (by rfl) N.all (by decide +kernel) <| pa_cons
          (pe_lc (own := [("one", 3), ("other", 4)]) (g := gTup K 2 (gCons (gName 3) (gCons (gName 4) gNil))) (tt := tYes) rfl scNeedB.nd (RZ.pi_zipA (by rfl) N.zip <| pa_cons (pv 1) <| pa_cons (pe_slice sl_tup (pv 1) (po_some pe_int) po_none) pa_nil)
            (blkOk_by (own := [("one", 3), ("other", 4)]) (N := ["lane", "value", "room", "one", "other"]) (sc := defScope sNeedB) (by decide +kernel))
            (fun _ _ _ _ _ => pg_tup rfl <| pgs_cons (pg_name (i := 3) scNeedB.nd rfl (Or.inl rfl)) <| pgs_cons (pg_name (i := 4) scNeedB.nd rfl (Or.inl rfl)) pgs_nil) (fun _ _ _ _ _ => pts_nil)
            (fun _ _ _ _ _ => pe_cmpR op_lt (pv 3) (pv 4) (nomark _))) pa_nil) pss_never pss_nil), ?_⟩
    -- the first test
    refine ⟨_, rfl, _, _, _, _, true, rfl, .ty _, .base (.tup hB), kit_ty (by decide +kernel), true, rfl, iteF ?_⟩
    refine ⟨_, rfl, a, _, rfl, .inr (SqT.of hB), _, _, rfl, rfl, _, rfl, ?_⟩
    rw [decide_eq_true (show (1 : Int) ≤ ((B.map V.int).length : Nat) by rw [List.length_map]; omega)]
    refine iteT ⟨_, _, rfl, rfl, _, rfl, ?_⟩
    rw [decide_eq_true (show (((B.map V.int).length : Nat) : Int) ≤ 6 by rw [List.length_map]; omega)]
    refine iteF ?_
    -- all([is_in(..) for room in value])
    refine ⟨_, rfl, a, rfl, ⟨_, SqT.of hB⟩, fun D hD => lc_tup (xs := B.map V.int) (fun i H' => Same H H' ∧ H' D = some (.lst (List.replicate i (.bl true)))) ⟨sm_upd hD, upd_same⟩ (fun i H' hi hP => SqT.of (hP.1 _ _ hB)) (fun i x H2 hx hP => ?_) (fun H2 hP => ?_)⟩
    · obtain ⟨sm, hD2⟩ := hP
      rw [List.getElem?_map] at hx
      have hi : i < B.length := by
        rcases Nat.lt_or_ge i B.length with h | h
        · exact h
        · rw [List.getElem?_eq_none h] at hx
          cases hx
      rw [List.getElem?_eq_getElem hi] at hx
      obtain rfl : V.int B[i] = x := Option.some.inj hx
      obtain ⟨x0, x1⟩ := hA.2 _ (List.getElem_mem hi)
      refine ⟨rfl, yesT ?_⟩
      refine ⟨_, rfl, _, rfl, p, b, ts, rfl, hL.mov sm, _, _, rfl, rfl, B[i], 0, _, rfl, ?_⟩
      rw [decide_eq_true x0, decide_eq_true (show B[i] ≤ (roomsN ts : Int) - 1 by omega)]
      refine ⟨_, hD2, ?_, ?_, ?_⟩
      · rw [List.length_replicate]
        exact small16 (by omega)
      · intro c u e
        rw [upd_ne (ne_of_none e hD)]
        exact sm c u e
      · rw [upd_same, List.replicate_succ']
        rfl
    · obtain ⟨sm, hD2⟩ := hP
      rw [rep_map] at hD2
      refine ⟨D, _, rfl, SqL.of hD2, true, by rw [all_rep], iteF ?_⟩
      have hB2 := sm _ _ hB
      obtain ⟨c1, c2⟩ := cut_one (B.map V.int) (fun e => by
        rw [List.map_eq_nil_iff] at e
        subst e
        cases l1)
      refine ⟨_, rfl, _, rfl, 1, rfl, a, _, rfl, SqT.of hB2, c2, fun c nc => ?_⟩
      rw [c1]
      refine ⟨a, c, B.map V.int, (B.map V.int).drop 1, rfl, .inr ⟨SqT.of (sm_upd nc _ _ hB2), SqT.of upd_same, fun D2 hD3 => ?_⟩⟩
      refine lc_it (walk_zipT (xs := B.map V.int) (ys := (B.map V.int).drop 1) rfl) (fun i H' => Same (upd H2 c (.tup ((B.map V.int).drop 1))) H' ∧ H' D2 = some (.lst (List.replicate i (.bl true)))) ⟨sm_upd hD3, upd_same⟩
        (fun i H' hi hP => ⟨SqT.of (hP.1 _ _ (sm_upd nc _ _ hB2)), SqT.of (hP.1 _ _ upd_same)⟩) (fun i x H3 H4 hi hP hY => ?_) (fun H3 hP => ?_)
      · obtain ⟨T, x1, x2, rfl, nT, rfl, ha, hb⟩ := hY
        obtain ⟨sm3, hD4⟩ := hP
        replace ha : (B.map V.int)[i]? = some x1 := ha
        replace hb : ((B.map V.int).drop 1)[i]? = some x2 := hb
        rw [List.length_drop, List.length_map] at hi
        have h1 : i < B.length := by omega
        have h2 : 1 + i < B.length := by omega
        rw [List.getElem?_map, List.getElem?_eq_getElem h1] at ha
        rw [List.getElem?_drop, List.getElem?_map, List.getElem?_eq_getElem h2] at hb
        obtain rfl : V.int B[i] = x1 := Option.some.inj ha
        obtain rfl : V.int B[1 + i] = x2 := Option.some.inj hb
        have lt : B[i] < B[1 + i] := List.pairwise_iff_getElem.mp hA.1 i (1 + i) h1 h2 (by omega)
        have nDT : D2 ≠ T := ne_of_none hD4 nT
        refine ⟨T, _, rfl, SqT.of upd_same, rfl, _, _, rfl, _, _, rfl, ⟨rfl, rfl, yesT ?_⟩⟩
        refine ⟨_, rfl, _, rfl, _, _, rfl, rfl, List.replicate i (.bl true), ?_, ?_, ?_, ?_⟩
        · rw [upd_ne nDT]
          exact hD4
        · rw [List.length_replicate]
          exact small16 (by omega)
        · intro d u e
          have n1 : d ≠ D2 := ne_of_none e hD3
          have n2 : d ≠ T := ne_of_none (sm3 _ _ e) nT
          rw [upd_ne n1, upd_ne n2]
          exact sm3 _ _ e
        · rw [upd_same, List.replicate_succ']
          show some (HO.lst (List.replicate i (V.bl true) ++ [V.bl (decide (B[i] < B[1 + i]))])) = _
          rw [decide_eq_true lt]
      · obtain ⟨sm3, hD4⟩ := hP
        rw [rep_map] at hD4
        refine ⟨D2, _, rfl, SqL.of hD4, true, by rw [all_rep], iteF ?_⟩
        exact q _ (sm.trans ((sm_upd nc).trans sm3))
end
end KL

set_option Elab.async false
set_option linter.all false
set_option maxRecDepth 100000
set_option maxHeartbeats 4000000
/-! M2: what the dicts of seen_from hold -/
namespace KL
open PySem PySem.Spec PyProof.Rows L2
/-- what stays while the two dicts change -/
def K2 (S D : Addr) (H H' : Hp) : Prop := ∀ b o, b ≠ S → b ≠ D → H b = some o → H' b = some o
section
variable {S D p : Addr} {H H1 H2 : Hp} {o : HO}
theorem K2.refl : K2 S D H H := fun _ _ _ _ h => h
theorem K2.trans (a : K2 S D H H1) (b : K2 S D H1 H2) : K2 S D H H2 := fun c u n1 n2 h => b c u n1 n2 (a c u n1 n2 h)
theorem K2.of (e : Same H H1) : K2 S D H H1 := fun b u _ _ h => e b u h
theorem K2.updS (a : K2 S D H H1) : K2 S D H (upd H1 S o) := fun b u n1 n2 h => by
  rw [upd_ne n1]
  exact a b u n1 n2 h
theorem K2.updD (a : K2 S D H H1) : K2 S D H (upd H1 D o) := fun b u n1 n2 h => by
  rw [upd_ne n2]
  exact a b u n1 n2 h
theorem K2.same (a : K2 S D H1 H2) (e : Same H H1) (nS : H S = none) (nD : H D = none) : Same H H2 := fun b u h =>
  a b u (ne_of_none h nS) (ne_of_none h nD) (e b u h)
end
abbrev seenK (sk : List Int) : List (Key × V) := sk.map fun r => (Sum.inl r, V.bl true)
abbrev hasS (kvs : List (Key × V)) (c : Nat) : Bool := (valV kvs (Sum.inr (⟨#[c]⟩ : Str))).isSome
theorem valV_seen (t : Int) : ∀ sk : List Int, (valV (seenK sk) (Sum.inl t)).isSome = decide (t ∈ sk)
  | [] => rfl
  | r :: sk => by
    have ih := valV_seen t sk
    by_cases e : r = t
    · subst e
      show (valV ((Sum.inl r, V.bl true) :: seenK sk) (Sum.inl r)).isSome = _
      rw [valV_pos rfl]
      simp
    · show (valV ((Sum.inl r, V.bl true) :: seenK sk) (Sum.inl t)).isSome = _
      rw [valV_neg (fun z => e (Sum.inl.inj z)), ih]
      simp [Ne.symm e]
theorem put_seen {sk : List Int} {t : Int} (h : t ∉ sk) : putK (seenK sk) (Sum.inl t) (V.bl true) = seenK (sk ++ [t]) := by
  unfold putK
  rw [if_neg]
  · show _ = (sk ++ [t]).map fun r => ((Sum.inl r : Key), V.bl true)
    rw [List.map_append]
    rfl
  · rw [List.any_eq_true]
    rintro ⟨x, hx, e⟩
    obtain ⟨r, hr, rfl⟩ := List.mem_map.mp hx
    have := Sum.inl.inj (of_decide_eq_true e)
    exact h (this ▸ hr)
theorem has_put (kvs : List (Key × V)) (d c : Nat) : hasS (putK kvs (Sum.inr (⟨#[d]⟩ : Str)) (V.bl true)) c = (decide (c = d) || hasS kvs c) := by
  unfold hasS
  rw [valV_put]
  by_cases e : c = d
  · subst e
    simp
  · have n : ¬ ((Sum.inr (⟨#[c]⟩ : Str) : Key) = Sum.inr ⟨#[d]⟩) := fun z => by
      have q := Sum.inr.inj z
      have q2 : (#[c] : Array Nat) = #[d] := congrArg Str.cps q
      exact e (by simpa using q2)
    rw [if_neg n]
    simp [e]
theorem map_seen (sk : List Int) : (seenK sk).map (·.1) = sk.map Sum.inl := by
  unfold seenK
  rw [List.map_map]
  rfl
/-- the keys that rooms give -/
def Has (ts : List (List Nat)) (sk : List Int) (c : Nat) : Prop := ∃ r, r ∈ sk ∧ c ∈ cod ts (2 * r)
structure SF (ts : List (List Nat)) (B sk : List Int) (kvs : List (Key × V)) : Prop where
  nd : sk.Nodup
  rng : ∀ x ∈ sk, 0 ≤ x ∧ x < (roomsN ts : Int)
  base : ∀ b ∈ B, b ∈ sk
  sound : ∀ x ∈ sk, Rch ts B x
  had : ∀ c, hasS kvs c = true ↔ Has ts sk c
  len : kvs.length ≤ 12 * sk.length
theorem nodup_rng {n : Nat} {sk : List Int} (nd : sk.Nodup) (rng : ∀ x ∈ sk, 0 ≤ x ∧ x < (n : Int)) : sk.length ≤ n := by
  have := nodup_len (D := (List.range n).map fun (i : Nat) => (i : Int)) nd fun x hx => by
    obtain ⟨a, b⟩ := rng x hx
    exact List.mem_map.mpr ⟨x.toNat, List.mem_range.mpr (by omega), by omega⟩
  rwa [List.length_map, List.length_range] at this
/-- one side of a room -/
def sideT (j : Nat) (r : Int) : Int := if j = 0 then r - 1 else r + 1
def sideD (j : Nat) (r : Int) : Int := if j = 0 then 2 * r - 1 else 2 * r + 1
def BlkS (ts : List (List Nat)) (sk : List Int) (r : Int) (j : Nat) : Prop :=
  0 ≤ sideT j r → sideT j r < (roomsN ts : Int) → (∀ c ∈ cod ts (sideD j r), Has ts sk c) → sideT j r ∈ sk
theorem clos_of {ts : List (List Nat)} {sk : List Int} (h : ∀ r ∈ sk, ∀ j, j < 2 → BlkS ts sk r j) : Clos ts (· ∈ sk) := by
  intro r t d hr e h0 h1 k
  have k2 : ∀ c ∈ cod ts d, Has ts sk c := fun c hc => let ⟨q, hq, m⟩ := k c hc; ⟨q, hq, m⟩
  rcases e with ⟨rfl, rfl⟩ | ⟨rfl, rfl⟩
  · exact h r hr 0 (by decide) h0 h1 k2
  · exact h r hr 1 (by decide) h0 h1 k2
theorem sees_of {ts : List (List Nat)} {B sk ys : List Int} {kvs : List (Key × V)} (F : SF ts B sk kvs) (C : Clos ts (· ∈ sk)) (pm : ys.Perm sk) (le : ys.Pairwise (· ≤ ·)) : Sees ts B ys := by
  have nd : ys.Nodup := pm.nodup_iff.mpr F.nd
  refine ⟨?_, fun x => ?_⟩
  · refine (le.and nd).imp fun {a b} h => ?_
    have := h.2
    have := h.1
    omega
  · rw [pm.mem_iff]
    exact ⟨F.sound x, fun h => h (· ∈ sk) F.base C⟩
/-- a room is added, with its keys -/
theorem SF.add {ts : List (List Nat)} {B sk : List Int} {kvs kvs' : List (Key × V)} {r : Int} {j : Nat} (F : SF ts B sk kvs) (hr : r ∈ sk) (h0 : 0 ≤ sideT j r) (h1 : sideT j r < (roomsN ts : Int)) (hn : sideT j r ∉ sk)
    (k : ∀ c ∈ cod ts (sideD j r), hasS kvs c = true) (hh : ∀ c, hasS kvs' c = true ↔ Has ts sk c ∨ c ∈ cod ts (2 * sideT j r)) (hl : kvs'.length ≤ 12 * sk.length + 12) : SF ts B (sk ++ [sideT j r]) kvs' := by
  refine ⟨?_, fun x hx => ?_, fun b hb => List.mem_append_left _ (F.base b hb), fun x hx => ?_, fun c => ?_, ?_⟩
  · rw [List.nodup_append]
    refine ⟨F.nd, by simp, fun a ha b hb e => ?_⟩
    have : b = sideT j r := by simpa using hb
    subst this
    subst e
    exact hn ha
  · rcases List.mem_append.mp hx with m | m
    · exact F.rng x m
    · have : x = sideT j r := by simpa using m
      subst this
      exact ⟨h0, h1⟩
  · rcases List.mem_append.mp hx with m | m
    · exact F.sound x m
    · have : x = sideT j r := by simpa using m
      subst this
      refine rch_step (r := r) (d := sideD j r) (F.sound r hr) ?_ h0 h1 fun c hc => ?_
      · unfold sideT sideD
        by_cases e : j = 0
        · rw [if_pos e, if_pos e]
          exact .inl ⟨rfl, rfl⟩
        · rw [if_neg e, if_neg e]
          exact .inr ⟨rfl, rfl⟩
      · obtain ⟨q, hq, m⟩ := (F.had c).mp (k c hc)
        exact ⟨q, F.sound q hq, m⟩
  · rw [hh c]
    unfold Has
    constructor
    · rintro (⟨q, hq, m⟩ | m)
      · exact ⟨q, List.mem_append_left _ hq, m⟩
      · exact ⟨_, List.mem_append_right _ List.mem_cons_self, m⟩
    · rintro ⟨q, hq, m⟩
      rcases List.mem_append.mp hq with a | a
      · exact .inl ⟨q, a, m⟩
      · have : q = sideT j r := by simpa using a
        subst this
        exact .inr m
  · rw [List.length_append, List.length_singleton]
    omega
/-- how far a pass has come: it has grown, or all so far are blocked -/
def Prog (sk0 sk : List Int) (nb : Bool) (T : Prop) : Prop := (nb = true ∧ sk0.length < sk.length) ∨ (nb = false ∧ sk = sk0 ∧ T)
theorem Prog.le {sk0 sk : List Int} {nb : Bool} {T : Prop} (h : Prog sk0 sk nb T) : sk0.length ≤ sk.length := by
  rcases h with ⟨_, h⟩ | ⟨_, e, _⟩
  · omega
  · rw [e]
    exact Nat.le_refl _
theorem Prog.imp {sk0 sk : List Int} {nb : Bool} {T U : Prop} (h : Prog sk0 sk nb T) (k : sk = sk0 → T → U) : Prog sk0 sk nb U := by
  rcases h with h | ⟨a, e, t⟩
  · exact .inl h
  · exact .inr ⟨a, e, k e t⟩
theorem cod_at {ts : List (List Nat)} {z : Int} (h0 : 0 ≤ z) (h1 : z < (ts.length : Int)) : atI (ts.map fun l => V.str (tx l)) z = some (.str (tx (cod ts z))) := by
  obtain ⟨n, rfl⟩ := Int.eq_ofNat_of_zero_le h0
  refine atI_nat ?_
  have h2 : n < ts.length := by omega
  rw [List.getElem?_map, List.getElem?_eq_getElem h2]
  unfold cod
  rw [Int.toNat_natCast, List.getD_eq_getElem?_getD, List.getElem?_eq_getElem h2]
  rfl
theorem cod_mem {ts : List (List Nat)} {z : Int} (h1 : z < (ts.length : Int)) (h0 : 0 ≤ z) : cod ts z ∈ ts := by
  unfold cod
  have h2 : z.toNat < ts.length := by omega
  rw [List.getD_eq_getElem?_getD, List.getElem?_eq_getElem h2]
  exact List.getElem_mem h2
theorem take_mem_succ {l : List Nat} {j : Nat} {d : Nat} (h : l[j]? = some d) (c : Nat) : c ∈ l.take (j + 1) ↔ c ∈ l.take j ∨ c = d := by
  rw [List.take_add_one, h]
  simp
end KL

set_option Elab.async false
set_option linter.all false
set_option maxRecDepth 100000
set_option maxHeartbeats 8000000
/-! E5: seen_from -/
namespace KL
open PySem PySem.Spec PyProof.Rows L2
abbrev NF : List Str := ["lane", "begins", "room", "seen", "sign", "had", "is_new", "there", "door"]
theorem idx_room {ts : List (List Nat)} {r : Int} (odd : ts.length % 2 = 1) (h0 : 0 ≤ r) (h1 : r < (roomsN ts : Int)) : 0 ≤ 2 * r ∧ 2 * r < (ts.length : Int) := by
  unfold roomsN at h1
  omega
theorem idx_door {ts : List (List Nat)} {r : Int} {j : Nat} (odd : ts.length % 2 = 1) (h0 : 0 ≤ r) (h1 : r < (roomsN ts : Int)) (t0 : 0 ≤ sideT j r) (t1 : sideT j r < (roomsN ts : Int)) : 0 ≤ sideD j r ∧ sideD j r < (ts.length : Int) := by
  unfold roomsN at h1 t1
  unfold sideT at t0 t1
  unfold sideD
  by_cases e : j = 0
  · rw [if_pos e] at t0 t1 ⊢
    omega
  · rw [if_neg e] at t0 t1 ⊢
    omega
/-- behind the first i begins; behind j more signs of text l -/
theorem has_nil (ts : List (List Nat)) (c : Nat) : hasS [] c = true ↔ Has ts [] c := by
  constructor
  · intro h
    cases h
  · rintro ⟨r, hr, _⟩
    cases hr
theorem has_snoc {ts : List (List Nat)} {sk : List Int} {r : Int} {c : Nat} : Has ts (sk ++ [r]) c ↔ Has ts sk c ∨ c ∈ cod ts (2 * r) := by
  unfold Has
  constructor
  · rintro ⟨q, hq, m⟩
    rcases List.mem_append.mp hq with a | a
    · exact .inl ⟨q, a, m⟩
    · have : q = r := by simpa using a
      subst this
      exact .inr m
  · rintro (⟨q, hq, m⟩ | m)
    · exact ⟨q, List.mem_append_left _ hq, m⟩
    · exact ⟨r, List.mem_append_right _ List.mem_cons_self, m⟩
section
variable {P : Program} {w : World} {K : PySem.W.Frag} {mg : Str → Option Value} {base : Heap}
def spFrom : Sp := fun vs H Q _ => ∃ p b ts a B, vs = [.ref p, .ref a] ∧ LaneAt H p b ts ∧ LaneOk b ts ∧ H a = some (.tup (B.map V.int)) ∧ Asc (roomsN ts) B ∧
  ∀ H' r, Same H H' → H r = none → H' r = some (.lst ((seenL ts B).map V.int)) → Sees ts B (seenL ts B) → Q (.ref r) H'
theorem ok_from {f f1 : Addr} {fd fd1 : FuncData} {k : Nat} (F : Fun K "seen_from" "seen_from" sFrom f fd) (N : Nn mg)
    (G1 : FnOk P w K mg base CX0 k f1 fd1 ["lane"] spRooms) (b1 : Binds K fd1 ["lane"] []) (g1 : mg "rooms_of" = some (.ref f1)) (k1 : PySem.W.keepIn K (.ref f1) = true) :
    FnOk P w K mg base CX0 (k + 1) f fd ["lane", "begins"] spFrom := by
  refine F.ok scFrom (fun vs H Q E h => ?_) (fun cdv A outer s H vs Q E hr h => ?_)
  · obtain ⟨p, b, ts, a, B, rfl, _⟩ := h
    rfl
  · obtain ⟨p, b, ts, a, B, rfl, hL, O, hB, hA, q⟩ := h
    obtain ⟨c, h1, h2⟩ := id hL
    have hu := hu_of hr
    refine ⟨_, pss_cons (ps_setDc (i := 3) (own := [("room", 2)]) (g := gName 2) (tt := tYes) rfl scFrom.nd rfl rfl (sw_dict rfl rfl rfl (by decide +kernel)) (pi_tup (pv 1)) (blkOk_by (own := [("room", 2)]) (N := NF) (sc := defScope sFrom) (by decide +kernel))
        (fun _ _ _ _ _ => pg_name (i := 2) scFrom.nd rfl (Or.inl rfl)) (fun _ _ _ _ _ => pts_nil) (fun _ _ _ _ _ => pv 2) (fun _ _ _ _ _ => pe_bl)) <|
      pss_cons (ps_set (i := 5) scFrom.nd rfl (Or.inr rfl) <| pe_dc2 (own := [("room", 2), ("sign", 4)]) (vs1 := [4]) (g := gName 2) (g1 := gName 4) (wi1 := iStr (tOp (rIxT K) (tOp (rIxT K) (tVar 0) (tC (.int 1))) (tOp _ (tC (.int 2)) (tVar 2)))) rfl scFrom.nd (pi_tup (pv 1)) (blkOk_by (own := [("room", 2), ("sign", 4)]) (N := NF) (sc := defScope sFrom) (by decide +kernel)) (by simp)
        (fun _ _ _ _ _ => pg_name (i := 2) scFrom.nd rfl (Or.inl rfl))
        (fun _ _ _ _ _ => pi_str <| pe_ix ix_tup (pe_ix ix_tup (pv 0) pe_int (fun _ _ => rfl)) (pe_op op_mul pe_int (pv 2)) (fun _ _ => rfl))
        (fun _ _ _ _ _ => pg_name (i := 4) scFrom.nd rfl (Or.inl rfl)) (fun _ _ _ _ _ => pv 4) (fun _ _ _ _ _ => pe_bl)) <|
      pss_cons (ps_set (i := 6) scFrom.nd rfl (Or.inl rfl) pe_bl) <|
      pss_cons (ps_while PassesOwn.never (pt_val (pv 6)) <|
        pss_cons (ps_set (i := 6) scFrom.nd rfl (Or.inl rfl) pe_bl) <|
        pss_one <| ps_for PassesOwn.never rfl (pi_list <| pe_callB (call_sortedDI rfl) (by rfl) N.sorted (by decide +kernel) <| pa_cons (pv 3) pa_nil) (pg_name (i := 2) scFrom.nd rfl (Or.inl rfl)) <|
          pss_one <| ps_for PassesOwn.never rfl (pi_tup <| pe_tup <| pa_cons (pe_tup <| pa_cons (pe_op op_sub (pv 2) pe_int) <| pa_cons (pe_op op_sub (pe_op op_mul pe_int (pv 2)) pe_int) pa_nil) <|
              pa_cons (pe_tup <| pa_cons (pe_op op_add (pv 2) pe_int) <| pa_cons (pe_op op_add (pe_op op_mul pe_int (pv 2)) pe_int) pa_nil) pa_nil)
            (pg_tup rfl <| pgs_cons (pg_name (i := 7) scFrom.nd rfl (Or.inl rfl)) <| pgs_cons (pg_name (i := 8) scFrom.nd rfl (Or.inl rfl)) pgs_nil) <|
            pss_one <| ps_if (PW.pt <| pw_and (pt_chain op_le op_lt pe_int (pv 7) (pe_call G1 hr (by rfl) g1 k1 b1 .nil pass0 <| pa_cons (pv 0) pa_nil)) <|
                pw_and (pt_cmp (pc_dnotin hu (pv 7) (pv 3)) (by rfl)) <|
                pw_and1 <| pt_val <| pe_callB (cr_all rfl) (by rfl) N.all (by decide +kernel) <| pa_cons
                  (pe_lc (own := [("sign", 4)]) (g := gName 4) (tt := tYes) rfl scFrom.nd (pi_str <| pe_ix ix_tup (pe_ix ix_tup (pv 0) pe_int (fun _ _ => rfl)) (pv 8) (fun _ _ => rfl)) (blkOk_by (own := [("sign", 4)]) (N := NF) (sc := defScope sFrom) (by decide +kernel))
                    (fun _ _ _ _ _ => pg_name (i := 4) scFrom.nd rfl (Or.inl rfl)) (fun _ _ _ _ _ => pts_nil) (fun _ _ _ _ _ => pe_cmp (pc_din hu (pv 4) (pv 5)) (by rfl))) pa_nil)
              (pss_cons (ps_asg2 pe_bl (pg_sub (pv 3) (pv 7) (set_dict hu)) (pg_name (i := 6) scFrom.nd rfl (Or.inl rfl))) <|
                pss_one <| ps_for PassesOwn.never rfl (pi_str <| pe_ix ix_tup (pe_ix ix_tup (pv 0) pe_int (fun _ _ => rfl)) (pe_op op_mul pe_int (pv 7)) (fun _ _ => rfl)) (pg_name (i := 4) scFrom.nd rfl (Or.inl rfl)) <|
                  pss_one <| ps_dput hu (pv 5) (pv 4) pe_bl rfl)
              pss_nil) <|
      pss_one <| ps_ret <| pe_callB (call_sortedDI rfl) (by rfl) N.sorted (by decide +kernel) <| pa_cons (pv 3) pa_nil, ?_⟩
    have odd := O.odd
    have nd0 : B.Nodup := hA.1.imp fun {x y} h e => by omega
    have sLine : ∀ n : Nat, n ≤ 200 → n < sizeLine := fun n h => small16 (by omega)
    have hBlen : B.length ≤ 8 := by
      have e := nodup_rng nd0 hA.2
      have s := O.small
      unfold roomsN at e
      omega
    -- seen = {room: True for room in begins}
    refine ⟨_, rfl, a, rfl, ⟨_, SqT.of hB⟩, fun S nS => dc_tup (xs := B.map V.int) (fun i H' => Same H H' ∧ H' S = some (.dK (seenK (B.take i)))) ⟨sm_upd nS, upd_same⟩ (fun i H' hi hP => SqT.of (hP.1 _ _ hB)) (fun i x H2 hx hP => ?_) (fun Ha hP => ?_)⟩
    · obtain ⟨sm, hS⟩ := hP
      rw [List.getElem?_map] at hx
      have hi : i < B.length := by
        rcases Nat.lt_or_ge i B.length with h | h
        · exact h
        · rw [List.getElem?_eq_none h] at hx
          cases hx
      rw [List.getElem?_eq_getElem hi] at hx
      obtain rfl : V.int B[i] = x := Option.some.inj hx
      have nt : B[i] ∉ B.take i := fun m => by
        obtain ⟨j, hj, e⟩ := List.getElem_of_mem m
        rw [List.getElem_take] at e
        rw [List.length_take] at hj
        have := (List.getElem_inj nd0).mp e
        omega
      refine ⟨rfl, yesT ?_⟩
      refine ⟨_, rfl, _, Sum.inl B[i], rfl, hS, ?_, ?_, ?_⟩
      · refine sLine _ ?_
        rw [List.length_map, List.length_take]
        omega
      · intro d u e
        rw [upd_ne (ne_of_none e nS)]
        exact sm d u e
      · rw [upd_same, put_seen nt, List.take_append_getElem hi]
    obtain ⟨smA, hSa⟩ := hP
    have eB : B.take (B.map V.int).length = B := by rw [List.length_map, List.take_length]
    rw [eB] at hSa
    -- had = {sign: True for room in begins for sign in lane[1][2 * room]}
    refine ⟨_, rfl, a, rfl, ⟨_, SqT.of (smA _ _ hB)⟩, fun D nD => ?_⟩
    have nSD : S ≠ D := ne_of_none hSa nD
    have nDH : H D = none := smA.free nD
    refine ⟨fun i m H' => i + m = B.length ∧ Same Ha H' ∧ ∃ kvs, H' D = some (.dK kvs) ∧ (∀ d, hasS kvs d = true ↔ Has ts (B.take i) d) ∧ kvs.length ≤ 12 * i,
      ⟨B.length, by omega, sm_upd nD, [], upd_same, fun d => has_nil ts d, Nat.zero_le _⟩, fun i m H' hW => ?_⟩
    obtain ⟨em, sm, kvs, hD, hh, hl⟩ := hW
    have hB' : SqT K H' a (B.map V.int) := SqT.of (sm _ _ (smA _ _ hB))
    by_cases hi : i < B.length
    · have g : (B.map V.int)[i]? = some (V.int B[i]) := by
        rw [List.getElem?_map, List.getElem?_eq_getElem hi]
        rfl
      refine .inr ⟨⟨_, _, hB', g⟩, fun H'' => Same Ha H'' ∧ ∃ kvs, H'' D = some (.dK kvs) ∧ (∀ d, hasS kvs d = true ↔ Has ts (B.take (i + 1)) d) ∧ kvs.length ≤ 12 * (i + 1), fun H'' hN => ⟨m - 1, by omega, by omega, hN⟩, ?_⟩
      rintro x H2 ⟨rfl, fv⟩
      obtain rfl : V.int B[i] = x := Option.some.inj (g.symm.trans (fv _ hB'))
      obtain ⟨r0, r1⟩ := hA.2 _ (List.getElem_mem hi)
      obtain ⟨z0, z1⟩ := idx_room odd r0 r1
      have mem := cod_mem (ts := ts) z1 z0
      have len12 := O.len _ mem
      refine ⟨rfl, _, rfl, p, _, 1, _, rfl, rfl, SqT.of (sm _ _ (smA _ _ h1)), atI_nat (j := 1) rfl, _, rfl, _, _, rfl, rfl, .inl ⟨by decide, by decide⟩, c, _, 2 * B[i], _, rfl, rfl, SqT.of (sm _ _ (smA _ _ h2)), cod_at z0 z1, _, rfl, ?_⟩
      refine ⟨fun j k2 H3 => j + k2 = (cod ts (2 * B[i])).length ∧ Same Ha H3 ∧ ∃ kvs, H3 D = some (.dK kvs) ∧ (∀ d, hasS kvs d = true ↔ Has ts (B.take i) d ∨ d ∈ (cod ts (2 * B[i])).take j) ∧ kvs.length ≤ 12 * i + j,
        ⟨_, Nat.zero_add _, sm, kvs, hD, fun d => by rw [hh d]; simp, hl⟩, fun j k2 H3 hW => ?_⟩
      obtain ⟨em2, sm3, kvs3, hD3, hh3, hl3⟩ := hW
      by_cases hj : j < (cod ts (2 * B[i])).length
      · refine .inr ⟨by show j < (tx _).cps.size; rw [tx_size]; exact hj, fun H4 => Same Ha H4 ∧ ∃ kvs, H4 D = some (.dK kvs) ∧ (∀ d, hasS kvs d = true ↔ Has ts (B.take i) d ∨ d ∈ (cod ts (2 * B[i])).take (j + 1)) ∧ kvs.length ≤ 12 * i + (j + 1), fun H4 hN => ⟨k2 - 1, by omega, by omega, hN⟩, ?_⟩
        rintro x H4 ⟨rfl, d, hd, rfl⟩
        rw [tx_at] at hd
        refine ⟨rfl, _, rfl, kvs3, Sum.inr ⟨#[d]⟩, rfl, hD3, sLine _ (by omega), ?_, _, upd_same, fun e => ?_, ?_⟩
        · intro d2 u e
          rw [upd_ne (ne_of_none e nD)]
          exact sm3 _ _ e
        · rw [has_put, Bool.or_eq_true, decide_eq_true_eq, hh3 e, take_mem_succ hd]
          constructor
          · rintro (h | h | h)
            · exact .inr (.inr h)
            · exact .inl h
            · exact .inr (.inl h)
          · rintro (h | h | h)
            · exact .inr (.inl h)
            · exact .inr (.inr h)
            · exact .inl h
        · have := length_putK kvs3 (Sum.inr (⟨#[d]⟩ : Str)) (V.bl true)
          omega
      · refine .inl ⟨by show (tx _).cps.size ≤ j; rw [tx_size]; omega, sm3, kvs3, hD3, fun e => ?_, by omega⟩
        rw [hh3 e, List.take_of_length_le (show (cod ts (2 * B[i])).length ≤ j by omega), ← List.take_append_getElem hi, has_snoc]
    · refine .inl ⟨⟨_, hB', by rw [List.length_map]; omega⟩, ?_⟩
      -- is_new = True; while is_new
      have eB2 : B.take i = B := List.take_of_length_le (by omega)
      rw [eB2] at hh
      have leB : kvs.length ≤ 12 * B.length := by omega
      have F0 : SF ts B B kvs := ⟨nd0, hA.2, fun _ h => h, fun _ h => rch_base h, hh, leB⟩
      have nle : ∀ {sk : List Int} {kvs : List (Key × V)}, SF ts B sk kvs → sk.length ≤ roomsN ts := fun F => nodup_rng F.nd F.rng
      refine ⟨fun m σ H3 => ∃ sk kvs y2 y4 y7 y8 nb, σ = [some (.ref p), some (.ref a), y2, some (.ref S), y4, some (.ref D), some (.bl nb), y7, y8] ∧ Same H H3 ∧ H3 S = some (.dK (seenK sk)) ∧ H3 D = some (.dK kvs) ∧ SF ts B sk kvs ∧ (nb = false → Clos ts (· ∈ sk)) ∧
        m = 2 * (roomsN ts - sk.length) + (if nb = true then 1 else 0), ⟨_, B, kvs, _, _, _, _, true, rfl, smA.trans sm, sm _ _ hSa, hD, F0, fun z => Bool.noConfusion z, rfl⟩, ?_⟩
      rintro m σ Hw ⟨sk0, kvs0, y2, y4, y7, y8, nb, rfl, smW, hS0, hD0, F1, hcl, rfl⟩
      have rooms8 : roomsN ts ≤ 8 := by
        have s := O.small
        unfold roomsN
        omega
      have sk8 := nle F1
      refine ⟨_, rfl, nb, rfl, ?_⟩
      cases nb with
      | false =>
        refine iteF ?_
        -- return sorted(seen)
        refine ⟨_, rfl, S, _, sk0, rfl, .inl hS0, map_seen _, by omega, fun ys r pm le nr => ?_⟩
        have sees := sees_of F1 (hcl rfl) pm le
        have e := sees.seenL
        refine q _ r (smW.trans (sm_upd nr)) (smW.free nr) ?_ (by rw [e]; exact sees)
        rw [upd_same, e]
      | true =>
        refine iteT ?_
        refine ⟨fun σ H' => ∃ m', m' < 2 * (roomsN ts - sk0.length) + 1 ∧ ∃ sk kvs y2 y4 y7 y8 nb, σ = [some (.ref p), some (.ref a), y2, some (.ref S), y4, some (.ref D), some (.bl nb), y7, y8] ∧ Same H H' ∧ H' S = some (.dK (seenK sk)) ∧ H' D = some (.dK kvs) ∧ SF ts B sk kvs ∧ (nb = false → Clos ts (· ∈ sk)) ∧
          m' = 2 * (roomsN ts - sk.length) + (if nb = true then 1 else 0), fun σ' H' hN => hN, ?_⟩
        -- is_new = False; for room in sorted(seen)
        refine ⟨_, rfl, S, _, sk0, rfl, .inl hS0, map_seen _, by omega, fun ys L pm le nL => ?_⟩
        have nSL : S ≠ L := ne_of_none hS0 nL
        have nDL : D ≠ L := ne_of_none hD0 nL
        have ysk : ∀ r, r ∈ ys → r ∈ sk0 := fun r h => pm.mem_iff.mp h
        refine ⟨L, rfl, ⟨_, SqL.of upd_same⟩, for_list (xs := ys.map V.int) (fun i σ H' => ∃ sk kvs y2 y4 y7 y8 nb, σ = [some (.ref p), some (.ref a), y2, some (.ref S), y4, some (.ref D), some (.bl nb), y7, y8] ∧ K2 S D (upd Hw L (.lst (ys.map V.int))) H' ∧ H' S = some (.dK (seenK sk)) ∧ H' D = some (.dK kvs) ∧ SF ts B sk kvs ∧
            Prog sk0 sk nb (∀ r ∈ ys.take i, ∀ j, j < 2 → BlkS ts sk0 r j) ∧ ∀ x ∈ sk0, x ∈ sk) ?_ ?_ ?_ ?_⟩
        · refine ⟨sk0, kvs0, y2, y4, y7, y8, false, rfl, K2.refl, ?_, ?_, F1, .inr ⟨rfl, rfl, fun r hr => by cases hr⟩, fun _ h => h⟩
          · rw [upd_ne nSL]
            exact hS0
          · rw [upd_ne nDL]
            exact hD0
        · rintro i σ H' hi ⟨sk, kvs, _, _, _, _, nb, rfl, kk, _⟩
          exact SqL.of (kk L _ nSL.symm nDL.symm upd_same)
        · rintro i x σ H' hx ⟨sk, kvs, y2, y4, y7, y8, nb, rfl, kk, hS1, hD1, F2, pr, sub⟩
          rw [List.getElem?_map] at hx
          have hi : i < ys.length := by
            rcases Nat.lt_or_ge i ys.length with h | h
            · exact h
            · rw [List.getElem?_eq_none h] at hx
              cases hx
          rw [List.getElem?_eq_getElem hi] at hx
          obtain rfl : V.int ys[i] = x := Option.some.inj hx
          generalize er : ys[i] = r
          have r_sk0 : r ∈ sk0 := ysk r (er ▸ List.getElem_mem hi)
          have r_sk : r ∈ sk := sub r r_sk0
          obtain ⟨r0, r1⟩ := F2.rng r r_sk
          -- the two neighbors
          refine ⟨_, rfl, _, _, rfl, rfl, _, rfl, _, _, rfl, rfl, .inl ⟨by decide, by decide⟩, _, _, rfl, rfl, by show 2 ≤ sizeLine; decide, fun t1 n1 => ?_⟩
          refine ⟨_, rfl, _, _, rfl, rfl, _, rfl, _, _, rfl, rfl, .inl ⟨by decide, by decide⟩, _, _, rfl, rfl, by show 2 ≤ sizeLine; decide, fun t2 n2 => ?_⟩
          refine ⟨by show 2 ≤ sizeLine; decide, fun t n => ?_⟩
          generalize eHc : upd (upd (upd H' t1 (.tup [.int (r - 1), .int (2 * r - 1)])) t2 (.tup [.int (r + 1), .int (2 * r + 1)])) t (.tup [.ref t1, .ref t2]) = Hc
          have smC : Same H' Hc := by
            rw [← eHc]
            exact ((sm_upd n1).trans (sm_upd n2)).trans (sm_upd n)
          have htt : Hc t = some (.tup [.ref t1, .ref t2]) := by
            rw [← eHc]
            exact upd_same
          have ht : ∀ (j : Nat) (x : V), ([V.ref t1, V.ref t2] : List V)[j]? = some x → j < 2 ∧ ∃ tj, x = .ref tj ∧ Hc tj = some (.tup [.int (sideT j r), .int (sideD j r)]) := by
            have q2 : Hc t2 = some (.tup [.int (r + 1), .int (2 * r + 1)]) := by
              rw [← eHc]
              exact sm_upd n _ _ upd_same
            have q1 : Hc t1 = some (.tup [.int (r - 1), .int (2 * r - 1)]) := by
              rw [← eHc]
              exact sm_upd n _ _ (sm_upd n2 _ _ upd_same)
            intro j x hx
            match j, hx with
            | 0, hx => exact ⟨by decide, t1, (Option.some.inj hx).symm, q1⟩
            | 1, hx => exact ⟨by decide, t2, (Option.some.inj hx).symm, q2⟩
            | j + 2, hx => simp at hx
          refine ⟨t, rfl, ⟨_, SqT.of htt⟩, for_tup (xs := [.ref t1, .ref t2]) (fun j σ H' => ∃ sk kvs y4 y7 y8 nb, σ = [some (.ref p), some (.ref a), some (.int r), some (.ref S), y4, some (.ref D), some (.bl nb), y7, y8] ∧ K2 S D Hc H' ∧ H' S = some (.dK (seenK sk)) ∧ H' D = some (.dK kvs) ∧ SF ts B sk kvs ∧
              Prog sk0 sk nb ((∀ r ∈ ys.take i, ∀ j, j < 2 → BlkS ts sk0 r j) ∧ ∀ j', j' < j → BlkS ts sk0 r j') ∧ ∀ x ∈ sk0, x ∈ sk) ?_ ?_ ?_ ?_⟩
          · exact ⟨sk, kvs, y4, y7, y8, nb, rfl, K2.refl, smC _ _ hS1, smC _ _ hD1, F2, pr.imp fun _ h => ⟨h, fun j' h => by omega⟩, sub⟩
          · rintro j σ H2 hj ⟨_, _, _, _, _, _, rfl, kk2, _⟩
            have nSt : S ≠ t := ne_of_none (sm_upd n2 _ _ (sm_upd n1 _ _ hS1)) n
            have nDt : D ≠ t := ne_of_none (sm_upd n2 _ _ (sm_upd n1 _ _ hD1)) n
            exact SqT.of (kk2 t _ nSt.symm nDt.symm htt)
          · have hSc := smC _ _ hS1
            have hDc := smC _ _ hD1
            have keepL : ∀ H3, K2 S D Hc H3 → ∀ d o, H d = some o → H3 d = some o := fun H3 k3 d o e => by
              have nd1 : d ≠ S := ne_of_none e nS
              have nd2 : d ≠ D := ne_of_none e nDH
              exact k3 d o nd1 nd2 (smC _ _ (kk d o nd1 nd2 (sm_upd nL _ _ (smW _ _ e))))
            clear pr sub r_sk
            rintro j x σ H2 hx ⟨sk, kvs, y4, y7, y8, nb, rfl, kk2, hS2, hD2, F3, pr, sub⟩
            obtain ⟨j2, tj, rfl, htj⟩ := ht j x hx
            have nSj : tj ≠ S := ne_of htj hSc (by intro z; cases z)
            have nDj : tj ≠ D := ne_of htj hDc (by intro z; cases z)
            have keep2 := keepL H2 kk2
            generalize eT : sideT j r = T at htj
            generalize eD : sideD j r = Dd at htj
            have stay : ∀ H3, K2 S D Hc H3 → H3 S = some (.dK (seenK sk)) → H3 D = some (.dK kvs) → BlkS ts sk r j →
                ∃ sk kvs y4' y7' y8' nb', [some (.ref p), some (.ref a), some (.int r), some (.ref S), y4, some (.ref D), some (.bl nb), some (.int T), some (.int Dd)] = [some (.ref p), some (.ref a), some (.int r), some (.ref S), y4', some (.ref D), some (.bl nb'), y7', y8'] ∧
                  K2 S D Hc H3 ∧ H3 S = some (.dK (seenK sk)) ∧ H3 D = some (.dK kvs) ∧ SF ts B sk kvs ∧ Prog sk0 sk nb' ((∀ r ∈ ys.take i, ∀ j, j < 2 → BlkS ts sk0 r j) ∧ ∀ j', j' < j + 1 → BlkS ts sk0 r j') ∧ ∀ x ∈ sk0, x ∈ sk := by
              intro H3 k3 hS3 hD3 blk
              refine ⟨sk, kvs, _, _, _, nb, rfl, k3, hS3, hD3, F3, pr.imp fun e h => ⟨h.1, fun j' hj' => ?_⟩, sub⟩
              by_cases ej : j' = j
              · rw [ej, ← e]
                exact blk
              · exact h.2 j' (by omega)
            have hlane : LaneAt H2 p b ts := ⟨c, keep2 _ _ h1, keep2 _ _ h2⟩
            refine ⟨tj, _, rfl, SqT.of (kk2 tj _ nSj nDj htj), rfl, _, _, rfl, _, _, rfl, rfl, ?_⟩
            -- 0 <= there < rooms_of(lane)
            refine ⟨_, rfl, _, _, rfl, rfl, _, rfl, ?_⟩
            by_cases t0 : 0 ≤ T
            case neg =>
              rw [decide_eq_false t0]
              exact iteF ⟨_, rfl, iteF (iteF (stay H2 kk2 hS2 hD2 fun z => absurd (eT ▸ z) t0))⟩
            rw [decide_eq_true t0]
            refine iteT ⟨_, rfl, p, b, ts, rfl, hlane, _, _, rfl, rfl, _, rfl, ?_⟩
            by_cases t1 : T < (roomsN ts : Int)
            case neg =>
              rw [decide_eq_false t1]
              exact iteF (iteF (stay H2 kk2 hS2 hD2 fun _ z => absurd (eT ▸ z) t1))
            rw [decide_eq_true t1]
            refine iteT ?_
            -- there not in seen
            refine ⟨_, rfl, _, rfl, S, _, rfl, DGet.k (k := Sum.inl T) hS2, _, rfl, ?_⟩
            rw [valV_seen]
            by_cases t2' : T ∈ sk
            case pos =>
              rw [decide_eq_true t2']
              exact iteF (iteF (stay H2 kk2 hS2 hD2 fun _ _ _ => eT ▸ t2'))
            rw [decide_eq_false t2']
            refine iteT ?_
            -- all([sign in had for sign in lane[1][door]])
            obtain ⟨d0, d1⟩ := idx_door (j := j) odd r0 r1 (eT ▸ t0) (eT ▸ t1)
            rw [eD] at d0 d1
            have dmem := cod_mem (ts := ts) d1 d0
            have dlen := O.len _ dmem
            refine ⟨_, rfl, p, _, 1, _, rfl, rfl, SqT.of (keep2 _ _ h1), atI_nat (j := 1) rfl, _, rfl, c, _, Dd, _, rfl, rfl, SqT.of (keep2 _ _ h2), cod_at d0 d1, _, rfl, fun D3 nD3 => ?_⟩
            refine lc_it walk_str (fun i H' => Same H2 H' ∧ H' D3 = some (.lst (((cod ts Dd).take i).map fun e => V.bl (hasS kvs e)))) ⟨sm_upd nD3, upd_same⟩ (fun _ _ _ _ => True.intro) (fun i x H3 H4 hi hP hY => ?_) (fun H3 hP => ?_)
            · obtain ⟨rfl, e, he, rfl⟩ := hY
              obtain ⟨sm3, hD4⟩ := hP
              rw [tx_at] at he
              refine ⟨rfl, yesT ?_⟩
              refine ⟨_, rfl, _, rfl, D, _, rfl, DGet.k (k := Sum.inr ⟨#[e]⟩) (sm3 _ _ hD2), _, hD4, ?_, ?_, ?_⟩
              · refine sLine _ ?_
                rw [List.length_map, List.length_take]
                omega
              · intro d o z
                rw [upd_ne (ne_of_none z nD3)]
                exact sm3 _ _ z
              · rw [upd_same, List.take_add_one, he, List.map_append]
                rfl
            obtain ⟨sm3, hD4⟩ := hP
            have eall : ((cod ts Dd).take (tx (cod ts Dd)).cps.size).map (fun e => V.bl (hasS kvs e)) = ((cod ts Dd).map (hasS kvs)).map V.bl := by
              rw [tx_size, List.take_length, List.map_map]
              rfl
            rw [eall] at hD4
            have kk3 : K2 S D Hc H3 := kk2.trans (K2.of sm3)
            have hS3 := sm3 _ _ hS2
            have hD3 := sm3 _ _ hD2
            refine ⟨D3, _, rfl, SqL.of hD4, _, rfl, ?_⟩
            by_cases al : ((cod ts Dd).map (hasS kvs)).all id = true
            case neg =>
              rw [Bool.not_eq_true] at al
              rw [al]
              refine iteF (stay H3 kk3 hS3 hD3 fun _ _ z => absurd (List.all_eq_true.mpr fun x hx => ?_) (Bool.eq_false_iff.mp al))
              obtain ⟨e, he, rfl⟩ := List.mem_map.mp hx
              exact (F3.had e).mpr (z e (eD ▸ he))
            rw [al]
            refine iteT ?_
            have hasAll : ∀ e ∈ cod ts Dd, hasS kvs e = true := fun e he => List.all_eq_true.mp al _ (List.mem_map.mpr ⟨e, he, rfl⟩)
            -- seen[there] = is_new = True
            have skl := nle F3
            refine ⟨_, rfl, _, rfl, S, _, rfl, DPut.k (k := Sum.inl T) hS3 (sLine _ (by rw [List.length_map]; omega)), ?_⟩
            rw [put_seen t2']
            -- for sign in lane[1][2 * there]
            obtain ⟨z0, z1⟩ := idx_room odd t0 t1
            have tmem := cod_mem (ts := ts) z1 z0
            have tlen := O.len _ tmem
            have keep3 := keepL _ (kk3.updS (o := .dK (seenK (sk ++ [T]))))
            refine ⟨_, rfl, p, _, 1, _, rfl, rfl, SqT.of (keep3 _ _ h1), atI_nat (j := 1) rfl, _, rfl, _, _, rfl, rfl, .inl ⟨by decide, by decide⟩, c, _, 2 * T, _, rfl, rfl, SqT.of (keep3 _ _ h2), cod_at z0 z1, _, rfl, ?_⟩
            refine for_it walk_str (fun i σ H' => ∃ kvs' y4', σ = [some (.ref p), some (.ref a), some (.int r), some (.ref S), y4', some (.ref D), some (.bl true), some (.int T), some (.int Dd)] ∧ K2 S D Hc H' ∧ H' S = some (.dK (seenK (sk ++ [T]))) ∧ H' D = some (.dK kvs') ∧
                (∀ e, hasS kvs' e = true ↔ Has ts sk e ∨ e ∈ (cod ts (2 * T)).take i) ∧ kvs'.length ≤ 12 * sk.length + i) ?_ (fun _ _ _ _ _ => True.intro) ?_ ?_
            · refine ⟨kvs, y4, rfl, kk3.updS, upd_same, ?_, fun e => ?_, F3.len⟩
              · rw [upd_ne nSD.symm]
                exact hD3
              · rw [F3.had e]
                simp
            · rintro i' x σ H4 H5 hi' ⟨kvs', y4', rfl, kk4, hS4, hD5, hh4, hl4⟩ ⟨rfl, e, he, rfl⟩
              rw [tx_at] at he
              rw [tx_size] at hi'
              refine ⟨_, rfl, _, rfl, D, _, rfl, DPut.k (k := Sum.inr ⟨#[e]⟩) hD5 (sLine _ (by omega)), _, _, rfl, kk4.updD, ?_, upd_same, fun e2 => ?_, ?_⟩
              · rw [upd_ne nSD]
                exact hS4
              · rw [has_put, Bool.or_eq_true, decide_eq_true_eq, hh4 e2, take_mem_succ he]
                constructor
                · rintro (h | h | h)
                  · exact .inr (.inr h)
                  · exact .inl h
                  · exact .inr (.inl h)
                · rintro (h | h | h)
                  · exact .inr (.inl h)
                  · exact .inr (.inr h)
                  · exact .inl h
              · have := length_putK kvs' (Sum.inr (⟨#[e]⟩ : Str)) (V.bl true)
                omega
            · rintro σ H4 ⟨kvs', y4', rfl, kk4, hS4, hD5, hh4, hl4⟩
              rw [tx_size] at hl4
              have lel := pr.le
              refine ⟨sk ++ [T], kvs', _, _, _, true, rfl, kk4, hS4, hD5, ?_, .inl ⟨rfl, ?_⟩, fun x hx => List.mem_append_left _ (sub x hx)⟩
              · subst eT
                subst eD
                refine F3.add (sub r r_sk0) t0 t1 t2' hasAll (fun e => ?_) (by omega)
                rw [hh4 e, tx_size, List.take_length]
              · rw [List.length_append, List.length_singleton]
                omega
          · rintro σ H2 ⟨sk, kvs, y4, y7, y8, nb, rfl, kk2, hS2, hD2, F3, pr, sub⟩
            refine ⟨sk, kvs, _, _, _, _, nb, rfl, (kk.trans (K2.of smC)).trans kk2, hS2, hD2, F3, pr.imp fun _ h => ?_, sub⟩
            rw [← List.take_append_getElem hi, er]
            intro r' hr' j hj
            rcases List.mem_append.mp hr' with m | m
            · exact h.1 r' m j hj
            · have : r' = r := by simpa using m
              subst this
              exact h.2 j hj
        · rintro σ H' ⟨sk, kvs, y2, y4, y7, y8, nb, rfl, kk, hS1, hD1, F2, pr, sub⟩
          have e1 := nle F2
          refine ⟨_, ?_, sk, kvs, y2, y4, y7, y8, nb, rfl, ?_, hS1, hD1, F2, fun hn => ?_, rfl⟩
          · rcases pr with ⟨rfl, h⟩ | ⟨rfl, rfl, _⟩
            · show 2 * (roomsN ts - sk.length) + (if true = true then 1 else 0) < _
              rw [if_pos rfl]
              omega
            · show 2 * (roomsN ts - sk.length) + (if false = true then 1 else 0) < _
              rw [if_neg Bool.false_ne_true]
              omega
          · exact kk.same (smW.trans (sm_upd nL)) nS nDH
          · rcases pr with ⟨rfl, h⟩ | ⟨_, rfl, h⟩
            · cases hn
            · refine clos_of fun r hr => h r ?_
              rw [List.length_map, List.take_length]
              exact pm.mem_iff.mpr hr
end
end KL

set_option Elab.async false
set_option linter.all false
set_option maxRecDepth 100000
set_option maxHeartbeats 4000000
/-! M4: tuples of ints as data -/
namespace KL
open PySem PySem.Spec PyProof.Rows L2
/-- data of a tuple of ints -/
def dInts (b : List Int) : PyData := .tuple (b.map PyData.int)
theorem lay_ints : ∀ b : List Int, PyData.canLayAll0 (b.map PyData.int) = true
  | [] => by rw [List.map_nil]; rfl
  | x :: b => by
    rw [List.map_cons, PyData.canLayAll0, PyData.canLay0, lay_ints b]
    rfl
theorem depth_ints : ∀ b : List Int, PyData.depthAll (b.map PyData.int) = 0
  | [] => by rw [List.map_nil]; rfl
  | x :: b => by
    rw [List.map_cons, PyData.depthAll, PyData.depth, depth_ints b]
    rfl
theorem dInts_depth (b : List Int) : (dInts b).depth = 1 := by
  unfold dInts
  rw [PyData.depth, depth_ints]
theorem dInts_shaped (b : List Int) : SeqAt.shaped (dInts b) = true := by
  unfold SeqAt.shaped
  rw [dInts_depth]
  unfold dInts
  rw [PyData.canLay0, lay_ints]
  rfl
theorem eqv_nil (b : List Int) : PyData.eqv (dInts b) (dInts []) = decide (b = []) := by
  cases b with
  | nil => rfl
  | cons x b =>
    unfold dInts
    rw [PyData.eqv, List.map_cons, List.map_nil]
    simp [PyData.eqvAll]
/-- (length, tuple) as data -/
def dPair (b : List Int) : PyData := .tuple [.int (b.length : Int), dInts b]
theorem dPair_depth (b : List Int) : (dPair b).depth = 2 := by
  unfold dPair
  rw [PyData.depth, PyData.depthAll, PyData.depthAll, PyData.depthAll, PyData.depth, dInts_depth]
  rfl
theorem alike_ints : ∀ a b : List Int, PySem.W.alikeAll (a.map PyData.int) (b.map PyData.int) = true
  | [], b => by rw [List.map_nil]; cases b <;> rfl
  | x :: a, [] => by rw [List.map_nil, List.map_cons]; rfl
  | x :: a, y :: b => by
    rw [List.map_cons, List.map_cons, PySem.W.alikeAll, PySem.W.alike, alike_ints a b]
    rfl
theorem alike_pair (a b : List Int) : PySem.W.alike (dPair a) (dPair b) = true := by
  unfold dPair dInts
  rw [PySem.W.alike, PySem.W.alikeAll, PySem.W.alikeAll, PySem.W.alike, PySem.W.alike, alike_ints]
  rfl
theorem toks_ints (a : List Int) : PySem.W.keyToks (dInts a) = PySem.W.keyToksAll (a.map PyData.int) := by
  unfold dInts
  rw [PySem.W.keyToks]
theorem lex_ii (a b : Int) (r s : List (Int ⊕ List Nat)) : PyProof.Rows.lexLt itemOrd (.inl a :: r) (.inl b :: s) = (decide (a < b) || (!decide (b < a) && PyProof.Rows.lexLt itemOrd r s)) := rfl
theorem toks_nil : PySem.W.keyToksAll [] = [.inl 0] := rfl
theorem toks_cons (x : Int) (a : List Int) : PySem.W.keyToksAll ((x :: a).map PyData.int) = .inl 1 :: (.inl x :: PySem.W.keyToksAll (a.map PyData.int)) := by
  rw [List.map_cons, PySem.W.keyToksAll, PySem.W.keyToks]
  rfl
theorem three (x y : Int) (c : Bool) : (decide (x < y) || (!decide (y < x) && c)) = (decide (x < y) || (decide (x = y) && c)) := by
  by_cases h : x < y
  · simp [h]
  · by_cases e : x = y
    · subst e
      simp
    · have : y < x := by omega
      simp [h, e, this]
theorem lt_ints : ∀ (a b : List Int), PyProof.Rows.lexLt itemOrd (PySem.W.keyToksAll (a.map PyData.int) ++ [.inl 0]) (PySem.W.keyToksAll (b.map PyData.int) ++ [.inl 0]) = lexI a b
  | [], [] => rfl
  | [], y :: b => by
    rw [toks_cons]
    rfl
  | x :: a, [] => by
    rw [toks_cons]
    rfl
  | x :: a, y :: b => by
    rw [toks_cons, toks_cons]
    rw [List.cons_append, List.cons_append, List.cons_append, List.cons_append, lex_ii, lex_ii, lt_ints a b]
    simp only [lexI]
    rw [← three x y]
    simp
theorem lt_pair (a b : List Int) : PySem.W.dataLt (dPair a) (dPair b) = ltB a b := by
  have e : ∀ c : List Int, PySem.W.keyToks (dPair c) = .inl 1 :: .inl (c.length : Int) :: .inl 1 :: (PySem.W.keyToksAll (c.map PyData.int) ++ [.inl 0]) := fun c => by
    unfold dPair
    rw [PySem.W.keyToks, PySem.W.keyToksAll, PySem.W.keyToksAll, PySem.W.keyToks, toks_ints, PySem.W.keyToksAll]
    rfl
  unfold PySem.W.dataLt ltB
  rw [e, e, lex_ii, lex_ii, lex_ii, lt_ints]
  have q := three (a.length : Int) (b.length : Int) (lexI a b)
  simp only [Int.ofNat_lt, Int.ofNat_inj] at q
  rw [← q]
  simp
end KL

set_option Elab.async false
set_option linter.all false
set_option maxRecDepth 100000
set_option maxHeartbeats 8000000
/-! E6: seen, begin_sets, fewest_begins -/
namespace KL
open PySem PySem.Spec PyProof.Rows L2
/-! ### lists of tuples of ints -/
def TupAt (H : Hp) (v : V) (b : List Int) : Prop := ∃ p, v = .ref p ∧ H p = some (.tup (b.map V.int))
def TupsAt (H : Hp) (vs : List V) (bs : List (List Int)) : Prop := vs.length = bs.length ∧ ∀ (i : Nat) v, vs[i]? = some v → ∃ b, bs[i]? = some b ∧ TupAt H v b
/-- tuples stay -/
def KT (H H' : Hp) : Prop := ∀ b xs, H b = some (.tup xs) → H' b = some (.tup xs)
theorem KT.of {H H' : Hp} (e : Same H H') : KT H H' := fun b xs h => e b _ h
theorem KT.lst {H : Hp} {D : Addr} {us vs : List V} (h : H D = some (.lst us)) : KT H (upd H D (.lst vs)) := fun b xs e => by
  rw [upd_ne (ne_of e h (by intro z; cases z))]
  exact e
theorem KT.trans {H H1 H2 : Hp} (a : KT H H1) (b : KT H1 H2) : KT H H2 := fun c xs h => b c xs (a c xs h)
theorem TupAt.mov {H H' : Hp} {v : V} {b : List Int} (e : KT H H') (h : TupAt H v b) : TupAt H' v b := let ⟨p, h1, h2⟩ := h; ⟨p, h1, e _ _ h2⟩
theorem TupsAt.mov {H H' : Hp} {vs : List V} {bs : List (List Int)} (e : KT H H') (h : TupsAt H vs bs) : TupsAt H' vs bs :=
  ⟨h.1, fun i v hv => let ⟨b, h1, h2⟩ := h.2 i v hv; ⟨b, h1, h2.mov e⟩⟩
theorem TupsAt.nil {H : Hp} : TupsAt H [] [] := ⟨rfl, fun i v h => by simp at h⟩
theorem TupsAt.snoc {H : Hp} {vs : List V} {bs : List (List Int)} {v : V} {b : List Int} (h : TupsAt H vs bs) (k : TupAt H v b) : TupsAt H (vs ++ [v]) (bs ++ [b]) := by
  refine ⟨by simp [h.1], fun i u hu => ?_⟩
  rcases Nat.lt_or_ge i vs.length with hi | hi
  · rw [List.getElem?_append_left hi] at hu
    obtain ⟨c, h1, h2⟩ := h.2 i u hu
    exact ⟨c, by rw [List.getElem?_append_left (by have := h.1; omega)]; exact h1, h2⟩
  · rw [List.getElem?_append_right hi] at hu
    have e : i - vs.length = 0 := by
      rcases Nat.eq_zero_or_pos (i - vs.length) with z | z
      · exact z
      · rw [List.getElem?_eq_none (show ([v] : List V).length ≤ i - vs.length from z)] at hu
        cases hu
    rw [e] at hu
    obtain rfl : v = u := Option.some.inj hu
    refine ⟨b, ?_, k⟩
    rw [List.getElem?_append_right (by have := h.1; omega), show i - bs.length = 0 by have := h.1; omega]
    rfl
theorem TupsAt.get {H : Hp} {vs : List V} {bs : List (List Int)} (h : TupsAt H vs bs) {i : Nat} {v : V} (hv : vs[i]? = some v) : ∃ (hi : i < bs.length), TupAt H v bs[i] := by
  obtain ⟨b, h1, h2⟩ := h.2 i v hv
  obtain ⟨hi, e⟩ := List.getElem?_eq_some_iff.mp h1
  exact ⟨hi, e ▸ h2⟩
theorem flat_take_len {α β : Type} (f : α → List β) (l : List α) (i : Nat) : ((l.take i).flatMap f).length ≤ (l.flatMap f).length := by
  have e : l.flatMap f = (l.take i).flatMap f ++ (l.drop i).flatMap f := by rw [← List.flatMap_append, List.take_append_drop]
  rw [e, List.length_append]
  omega
theorem flat_snoc {α β : Type} (f : α → List β) (l : List α) (x : α) : (l ++ [x]).flatMap f = l.flatMap f ++ f x := by
  rw [List.flatMap_append]
  simp
theorem ext_at {n : Nat} {b : List Int} {j : Nat} (hj : j < ((n : Int) - lo b).toNat) : (ext n b)[j]? = some (b ++ [lo b + (j : Int)]) := by
  unfold ext
  rw [List.getElem?_map, List.getElem?_range hj]
  rfl
theorem ext_len (n : Nat) (b : List Int) : (ext n b).length = ((n : Int) - lo b).toNat := by
  unfold ext
  rw [List.length_map, List.length_range]
theorem pre_len {n t i j : Nat} {b : List Int} (hb : (bs n t)[i]? = some b) : (((bs n t).take i).flatMap (ext n) ++ (ext n b).take j).length ≤ 2 ^ n := by
  have h1 : (((bs n t).take i).flatMap (ext n) ++ (ext n b).take j).length ≤ (((bs n t).take (i + 1)).flatMap (ext n)).length := by
    rw [List.take_add_one, hb]
    show _ ≤ (((bs n t).take i ++ [b]).flatMap (ext n)).length
    rw [flat_snoc, List.length_append, List.length_append, List.length_take]
    omega
  have h2 := flat_take_len (ext n) (bs n t) (i + 1)
  have h3 := bs_len n (t + 1)
  have e : (bs n (t + 1)).length = ((bs n t).flatMap (ext n)).length := rfl
  omega
theorem ix_last {b : List Int} {x : Int} : atI ((b ++ [x]).map V.int) (-1) = some (.int x) := by
  rw [List.map_append]
  exact atI_last _ _
theorem dp_ints {K : PySem.W.Frag} {H : Hp} : ∀ b : List Int, DpAll K H (b.map V.int) (b.map PyData.int)
  | [] => .nil
  | x :: b => .cons (.int x) (dp_ints b)
theorem dp_tup {K : PySem.W.Frag} {H : Hp} {p : Addr} {b : List Int} (h : H p = some (.tup (b.map V.int))) : Dp K H (.ref p) (dInts b) := .tup (SqT.of h) (dp_ints b)
theorem lo_bound {n : Nat} {b : List Int} (h : Asc n b) : 0 ≤ lo b ∧ lo b ≤ (n : Int) := by
  rcases List.eq_nil_or_concat b with e | ⟨c, z, e⟩
  · subst e
    exact ⟨Int.le_refl _, by show (0 : Int) ≤ n; omega⟩
  · rw [List.concat_eq_append] at e
    subst e
    have el : lo (c ++ [z]) = z + 1 := by simp [lo]
    have := h.2 z (by simp)
    rw [el]
    omega
/-- told[-1] + 1 if told != () else 0 -/
def tLo (K : PySem.W.Frag) : TE := tIf (tTest (tOp (rNeD K) (tVar 4) (tTup tNil))) (tOp (rI0 fun i j => .int (i + j)) (tOp (rIxT K) (tVar 4) (tUn (rU fun i => .int (-i)) (tC (.int 1)))) (tC (.int 1))) (tC (.int 0))
theorem tLo_at {K : PySem.W.Frag} {σ : L2.St} {H : Hp} {Q : VK} {p : Addr} {b : List Int} (hσ : σ[4]? = some (some (.ref p))) (hp : H p = some (.tup (b.map V.int))) (h : ∀ H', Same H H' → Q (.int (lo b)) H') : tLo K σ H Q := by
  refine ⟨_, hσ, by show 0 ≤ sizeLine; exact Nat.zero_le _, fun e ne => ?_⟩
  have hp1 := sm_upd (o := .tup []) ne _ _ hp
  refine ⟨dInts b, dInts [], dp_tup hp1, dp_tup (b := []) upd_same, dInts_shaped b, dInts_shaped [], _, rfl, ?_⟩
  rw [eqv_nil]
  rcases List.eq_nil_or_concat b with eb | ⟨c, z, eb⟩
  · subst eb
    exact iteF (h _ (sm_upd ne))
  · rw [List.concat_eq_append] at eb
    subst eb
    have nn : ¬ (c ++ [z] = []) := by simp
    rw [decide_eq_false nn]
    have el : lo (c ++ [z]) = z + 1 := by simp [lo]
    refine iteT ⟨_, hσ, 1, rfl, p, _, _, _, rfl, rfl, SqT.of hp1, ix_last, _, _, rfl, rfl, ?_⟩
    show Q (.int (z + 1)) _
    rw [← el]
    exact h _ (sm_upd ne)
section
variable {P : Program} {w : World} {K : PySem.W.Frag} {mg : Str → Option Value} {base : Heap}
def spSeen : Sp := fun vs H Q _ => ∃ p b ts a B, vs = [.ref p, .ref a] ∧ LaneAt H p b ts ∧ LaneOk b ts ∧ H a = some (.tup (B.map V.int)) ∧ 1 ≤ B.length ∧ B.length ≤ 6 ∧ Asc (roomsN ts) B ∧
  ∀ H' r, Same H H' → H r = none → H' r = some (.tup ((seenL ts B).map V.int)) → Sees ts B (seenL ts B) → Q (.ref r) H'
theorem ok_seen {f f1 f2 f3 : Addr} {fd fd1 fd2 fd3 : FuncData} {k : Nat} (F : Fun K "seen" "seen" sSeen f fd) (N : Nn mg)
    (G1 : FnOk P w K mg base CX0 k f1 fd1 ["value"] spNeedLane) (b1 : Binds K fd1 ["value"] []) (g1 : mg "need_lane" = some (.ref f1)) (k1 : PySem.W.keepIn K (.ref f1) = true)
    (G2 : FnOk P w K mg base CX0 k f2 fd2 ["lane", "value"] spNeedB) (b2 : Binds K fd2 ["lane", "value"] []) (g2 : mg "need_begins" = some (.ref f2)) (k2 : PySem.W.keepIn K (.ref f2) = true)
    (G3 : FnOk P w K mg base CX0 k f3 fd3 ["lane", "begins"] spFrom) (b3 : Binds K fd3 ["lane", "begins"] []) (g3 : mg "seen_from" = some (.ref f3)) (k3 : PySem.W.keepIn K (.ref f3) = true) :
    FnOk P w K mg base CX0 (k + 1) f fd ["lane", "begins"] spSeen := by
  refine F.ok scSeen (fun vs H Q E h => ?_) (fun cdv A outer s H vs Q E hr h => ?_)
  · obtain ⟨p, b, ts, a, B, rfl, _⟩ := h
    rfl
  · obtain ⟨p, b, ts, a, B, rfl, hL, O, hB, l1, l6, hA, q⟩ := h
    refine ⟨_, pss_cons (ps_expr <| pe_call G1 hr (by rfl) g1 k1 b1 .nil pass0 <| pa_cons (pv 0) pa_nil) <|
      pss_cons (ps_expr <| pe_call G2 hr (by rfl) g2 k2 b2 .nil pass0 <| pa_cons (pv 0) <| pa_cons (pv 1) pa_nil) <|
      pss_one <| ps_ret <| pe_callTy call_tuple_of (by rfl) N.tuple (by decide +kernel) <| pa_cons (pe_call G3 hr (by rfl) g3 k3 b3 .nil pass0 <| pa_cons (pv 0) <| pa_cons (pv 1) pa_nil) pa_nil, ?_⟩
    refine ⟨_, rfl, p, b, ts, rfl, hL, O, fun H1 s1 => ?_⟩
    refine ⟨_, rfl, _, rfl, p, b, ts, a, B, rfl, hL.mov s1, s1 _ _ hB, l1, l6, hA, fun H2 s2 => ?_⟩
    have s12 := s1.trans s2
    refine ⟨_, rfl, _, rfl, p, b, ts, a, B, rfl, hL.mov s12, O, s12 _ _ hB, hA, fun H3 r s3 nr hl sees => ?_⟩
    have s13 := s12.trans s3
    refine ⟨r, _, rfl, .inl ⟨SqL.of hl, fun u nu => ?_⟩⟩
    exact q _ u (s13.trans (sm_upd nu)) (s13.free nu) upd_same sees
/-! ### begin_sets -/
abbrev NB : List Str := ["many", "size", "found", "turn", "told", "room"]
def spBSets : Sp := fun vs H Q _ => ∃ n k : Nat, vs = [.int (n : Int), .int (k : Int)] ∧ n ≤ 8 ∧ k ≤ 8 ∧ ∀ H' r us, Same H H' → H r = none → H' r = some (.lst us) → TupsAt H' us (bs n k) → Q (.ref r) H'
theorem ok_bsets {f : Addr} {fd : FuncData} {k : Nat} (F : Fun K "begin_sets" "begin_sets" sBSets f fd) (N : Nn mg) : FnOk P w K mg base CX0 (k + 1) f fd ["many", "size"] spBSets := by
  refine F.ok scBSets (fun vs H Q E h => ?_) (fun cdv A outer s H vs Q E hr h => ?_)
  · obtain ⟨n, z, rfl, _⟩ := h
    rfl
  · obtain ⟨n, z, rfl, n8, z8, q⟩ := h
    have n256 : 2 ^ n ≤ 256 := Nat.pow_le_pow_right (by decide) n8
    refine ⟨_, pss_cons (ps_set (i := 2) scBSets.nd rfl (Or.inl rfl) <| pe_lst <| pa_cons (pe_tup pa_nil) pa_nil) <|
      pss_cons (ps_for PassesOwn.never rfl (pi_range1 (by rfl) N.range <| pa_cons (pv 1) pa_nil) (pg_name (i := 3) scBSets.nd rfl (Or.inl rfl)) <|
        pss_one <| ps_setLc2 (i := 2) (own := [("told", 4), ("room", 5)]) (vs1 := [5]) (g := gName 4) (tt := tYes)
          (wi1 := iRng2 (tCons (tLo K) (tCons (tVar 0) tNil))) (g1 := gName 5) (tt1 := tYes)
          (te := tTup (StX.tStar K (tVar 4) (tCons (tVar 5) tNil))) rfl scBSets.nd rfl rfl (sw_true rfl rfl rfl (by decide +kernel)) (pi_list (pv 2))
          (blkOk_by (own := [("told", 4), ("room", 5)]) (N := NB) (sc := defScope sBSets) (by decide +kernel)) (by simp)
          (fun _ _ _ _ _ => pg_name (i := 4) scBSets.nd rfl (Or.inl rfl)) (fun _ _ _ _ _ => pts_nil)
          (fun _ _ _ _ _ => pi_range2 (by rfl) N.range <| pa_cons (pe_ifExp (pt_cmpR (op_neD hr.units) (pv 4) (pe_tup pa_nil) (nomark _)) (pe_op op_add (pe_ix ix_tup (pv 4) (pe_un un_neg pe_int) (fun _ _ => rfl)) pe_int) pe_int) <| pa_cons (pv 0) pa_nil)
          (fun _ _ _ _ _ => pg_name (i := 5) scBSets.nd rfl (Or.inl rfl)) (fun _ _ _ _ _ => pts_nil)
          (fun _ _ _ _ _ => pe_tup <| StX.pa_star (pv 4) <| pa_cons (pv 5) pa_nil)) <|
      pss_one <| ps_ret (pv 2), ?_⟩
    -- found = [()]
    refine ⟨by show 0 ≤ sizeLine; exact Nat.zero_le _, fun e ne => ⟨by show 1 ≤ sizeLine; decide, fun f0 nf0 => ?_⟩⟩
    refine ⟨_, rfl, (z : Int), rfl, by omega, by omega, ?_⟩
    have T0 : TupsAt (upd (upd H e (.tup [])) f0 (.lst [.ref e])) [.ref e] (bs n 0) := by
      have := TupsAt.snoc (H := upd (upd H e (.tup [])) f0 (.lst [.ref e])) TupsAt.nil (v := .ref e) (b := []) ⟨e, rfl, sm_upd nf0 _ _ upd_same⟩
      exact this
    refine for_range (lo := 0) (n := (z : Int).toNat) (fun i σ H' => ∃ y3 r us, σ = [some (.int (n : Int)), some (.int (z : Int)), some (.ref r), y3, none, none] ∧ Same H H' ∧ H r = none ∧ H' r = some (.lst us) ∧ TupsAt H' us (bs n i))
      ⟨_, f0, _, rfl, (sm_upd ne).trans (sm_upd nf0), (sm_upd ne).free nf0, upd_same, T0⟩ ?_ ?_
    · rintro i σ H1 hi ⟨y3, r, us, rfl, sm, nr, hr1, T1⟩
      -- the comprehension
      refine ⟨_, rfl, r, rfl, ⟨_, SqL.of hr1⟩, fun D nD => ?_⟩
      refine ⟨fun i' m H' => i' + m = us.length ∧ Same H1 H' ∧ ∃ ws, H' D = some (.lst ws) ∧ TupsAt H' ws (((bs n i).take i').flatMap (ext n)), ⟨us.length, Nat.zero_add _, sm_upd nD, [], upd_same, TupsAt.nil⟩, fun i' m H2 hW => ?_⟩
      obtain ⟨em, sm2, ws, hD, T2⟩ := hW
      have hus : SqL K H2 r us := SqL.of (sm2 _ _ hr1)
      by_cases hi' : i' < us.length
      · have g : us[i']? = some us[i'] := List.getElem?_eq_getElem hi'
        obtain ⟨hb, p, ep, hp⟩ := (T1.mov (KT.of sm2)).get g
        have gb : (bs n i)[i']? = some (bs n i)[i'] := List.getElem?_eq_getElem hb
        generalize eb : (bs n i)[i'] = b at gb hp
        have ab : Asc n b := (mem_bs.mp (List.mem_of_getElem? gb)).1
        refine .inr ⟨⟨_, _, hus, g⟩, fun H3 => Same H1 H3 ∧ ∃ ws, H3 D = some (.lst ws) ∧ TupsAt H3 ws (((bs n i).take (i' + 1)).flatMap (ext n)), fun H3 hN => ⟨m - 1, by omega, by omega, hN⟩, ?_⟩
        rintro x H3 ⟨rfl, fv⟩
        have ex : us[i'] = x := Option.some.inj (g.symm.trans (fv _ hus))
        rw [ep] at ex
        subst ex
        refine ⟨rfl, yesT ?_⟩
        -- range(told[-1] + 1 if told != () else 0, many)
        refine tLo_at (p := p) rfl hp fun H4 s4 => ?_
        obtain ⟨lo0, lo1⟩ := lo_bound ab
        refine ⟨_, rfl, lo b, (n : Int), rfl, by omega, ?_⟩
        refine ⟨fun j k2 H5 => j + k2 = ((n : Int) - lo b).toNat ∧ Same H1 H5 ∧ ∃ ws, H5 D = some (.lst ws) ∧ TupsAt H5 ws (((bs n i).take i').flatMap (ext n) ++ (ext n b).take j),
          ⟨_, Nat.zero_add _, sm2.trans s4, ws, s4 _ _ hD, by rw [List.take_zero, List.append_nil]; exact T2.mov (KT.of s4)⟩, fun j k2 H5 hW => ?_⟩
        obtain ⟨em2, s5, ws5, hD5, T5⟩ := hW
        by_cases hj : j < ((n : Int) - lo b).toNat
        · refine .inr ⟨hj, fun H6 => Same H1 H6 ∧ ∃ ws, H6 D = some (.lst ws) ∧ TupsAt H6 ws (((bs n i).take i').flatMap (ext n) ++ (ext n b).take (j + 1)), fun H6 hN => ⟨k2 - 1, by omega, by omega, hN⟩, ?_⟩
          rintro x H6 ⟨rfl, rfl⟩
          refine ⟨rfl, yesT ?_⟩
          -- (*told, room)
          have hp5 : TupAt H6 (.ref p) b := by
            refine ⟨p, rfl, ?_⟩
            obtain ⟨p1, e1, h1⟩ := (T1.get g).2
            have e2 : p1 = p := by
              rw [ep] at e1
              exact (V.ref.inj e1).symm
            rw [e2, eb] at h1
            exact s5 _ _ h1
          obtain ⟨p1, e1, hp6⟩ := hp5
          obtain rfl : p = p1 := V.ref.inj e1
          have xl := ext_at (n := n) (b := b) hj
          have al : Asc n (b ++ [lo b + (j : Int)]) := by
            refine asc_snoc.mpr ⟨ab, by omega, by omega⟩
          have l8 : (b ++ [lo b + (j : Int)]).length ≤ n := nodup_rng (al.1.imp fun {x y} h e => by omega) al.2
          refine ⟨_, rfl, p, _, rfl, .inl (SqT.of hp6), _, rfl, ?_, fun t nt => ?_⟩
          · rw [List.length_append, List.length_map]
            rw [List.length_append] at l8
            exact Nat.le_of_lt (small16 (by show b.length + 1 < _; have : ([lo b + (j : Int)] : List Int).length = 1 := rfl; omega))
          have hDt : D ≠ t := ne_of_none hD5 nt
          refine ⟨ws5, by rw [upd_ne hDt]; exact hD5, ?_, ?_, _, upd_same, ?_⟩
          · rw [T5.1]
            have := pre_len (j := j) gb
            exact small16 (by omega)
          · intro d o e
            rw [upd_ne (ne_of_none e nD), upd_ne (ne_of_none (s5 _ _ e) nt)]
            exact s5 _ _ e
          · rw [List.take_add_one, xl, ← List.append_assoc]
            have kt : KT H6 (upd (upd H6 t (.tup (b.map V.int ++ [V.int (lo b + (j : Int))]))) D (.lst (ws5 ++ [.ref t]))) :=
              (KT.of (sm_upd nt)).trans (KT.lst (us := ws5) (by rw [upd_ne hDt]; exact hD5))
            refine (T5.mov kt).snoc ⟨t, rfl, ?_⟩
            rw [upd_ne hDt.symm, upd_same, List.map_append]
            rfl
        · refine .inl ⟨by show ((n : Int) - lo b).toNat ≤ j; omega, s5, ws5, hD5, ?_⟩
          rw [List.take_add_one, gb]
          show TupsAt H5 ws5 (((bs n i).take i' ++ [b]).flatMap (ext n))
          rw [flat_snoc, ← List.take_of_length_le (l := ext n b) (i := j) (by rw [ext_len]; omega)]
          exact T5
      · refine .inl ⟨⟨_, hus, by omega⟩, ?_⟩
        refine ⟨_, D, ws, rfl, sm.trans (show Same H1 H2 from sm2), sm.free nD, hD, ?_⟩
        have e : (bs n i).take i' = bs n i := List.take_of_length_le (by have := T1.1; omega)
        rw [e] at T2
        exact T2
    · rintro σ H1 ⟨y3, r, us, rfl, sm, nr, hr1, T1⟩
      rw [Int.toNat_natCast] at T1
      exact ⟨_, rfl, q H1 r us sm nr hr1 T1⟩
end
end KL

set_option Elab.async false
set_option linter.all false
set_option maxRecDepth 100000
set_option maxHeartbeats 8000000
/-! E7: fewest_begins -/
namespace KL
open PySem PySem.Spec PyProof.Rows L2
noncomputable def good (ts : List (List Nat)) (b : List Int) : Bool := decide ((seenL ts b).length = roomsN ts)
theorem full_asc (n : Nat) : Asc n ((List.range n).map fun (i : Nat) => (0 : Int) + (i : Int)) := by
  refine ⟨range_asc n 0, fun x hx => ?_⟩
  obtain ⟨i, hi, rfl⟩ := List.mem_map.mp hx
  have := List.mem_range.mp hi
  omega
section
variable {P : Program} {w : World} {K : PySem.W.Frag} {mg : Str → Option Value} {base : Heap}
def spFewest : Sp := fun vs H Q _ => ∃ p b ts, vs = [.ref p] ∧ LaneAt H p b ts ∧ LaneOk b ts ∧ ∀ H' r f, Same H H' → H' r = some (.tup (f.map V.int)) → First (roomsN ts) (good ts) f → Q (.ref r) H'
theorem ok_fewest {f f1 f2 f3 f4 : Addr} {fd fd1 fd2 fd3 fd4 : FuncData} {k : Nat} {tM : Tok} (F : Fun K "fewest_begins" "fewest_begins" sFewest f fd) (N : Nn mg) (gM : mg "MOST_ROOMS_begins" = some (.int 12 tM))
    (G1 : FnOk P w K mg base CX0 k f1 fd1 ["value"] spNeedLane) (b1 : Binds K fd1 ["value"] []) (g1 : mg "need_lane" = some (.ref f1)) (k1 : PySem.W.keepIn K (.ref f1) = true)
    (G2 : FnOk P w K mg base CX0 k f2 fd2 ["lane"] spRooms) (b2 : Binds K fd2 ["lane"] []) (g2 : mg "rooms_of" = some (.ref f2)) (k2 : PySem.W.keepIn K (.ref f2) = true)
    (G3 : FnOk P w K mg base CX0 k f3 fd3 ["lane", "begins"] spFrom) (b3 : Binds K fd3 ["lane", "begins"] []) (g3 : mg "seen_from" = some (.ref f3)) (k3 : PySem.W.keepIn K (.ref f3) = true)
    (G4 : FnOk P w K mg base CX0 k f4 fd4 ["many", "size"] spBSets) (b4 : Binds K fd4 ["many", "size"] []) (g4 : mg "begin_sets" = some (.ref f4)) (k4 : PySem.W.keepIn K (.ref f4) = true) :
    FnOk P w K mg base CX0 (k + 1) f fd ["lane"] spFewest := by
  refine F.ok scFewest (fun vs H Q E h => ?_) (fun cdv A outer s H vs Q E hr h => ?_)
  · obtain ⟨p, b, ts, rfl, _⟩ := h
    rfl
  · obtain ⟨p, b, ts, rfl, hL, O, q⟩ := h
    refine ⟨_, pss_cons (ps_expr <| pe_call G1 hr (by rfl) g1 k1 b1 .nil pass0 <| pa_cons (pv 0) pa_nil) <|
      pss_cons (ps_set (i := 1) scFewest.nd rfl (Or.inl rfl) <| pe_call G2 hr (by rfl) g2 k2 b2 .nil pass0 <| pa_cons (pv 0) pa_nil) <|
      pss_cons (ps_if (pt_cmpR op_gt (pv 1) (pe_glob (v := .int 12) (by rfl) gM ⟨_, rfl⟩) (nomark _)) pss_never pss_nil) <|
      pss_cons (ps_set (i := 2) scFewest.nd rfl (Or.inl rfl) pe_int) <|
      pss_one <| ps_while PassesOwn.never (pt_val pe_bl) <|
        pss_cons (ps_for PassesOwn.never rfl (pi_list <| pe_call G4 hr (by rfl) g4 k4 b4 .nil pass0 <| pa_cons (pv 1) <| pa_cons (pv 2) pa_nil) (pg_name (i := 3) scFewest.nd rfl (Or.inl rfl)) <|
          pss_one <| ps_if (pt_cmpR op_eq (pe_callB call_len_seq (by rfl) N.len PySem.boot_len <| pa_cons (pe_call G3 hr (by rfl) g3 k3 b3 .nil pass0 <| pa_cons (pv 0) <| pa_cons (pv 3) pa_nil) pa_nil) (pv 1) (nomark _))
            (pss_one <| ps_ret (pv 3)) pss_nil) <|
        pss_one <| ps_aug (i := 2) scFewest.nd rfl (Or.inl rfl) pe_int ip_add, ?_⟩
    have rooms8 : roomsN ts ≤ 8 := by
      have s := O.small
      unfold roomsN
      omega
    have rooms1 : 1 ≤ roomsN ts := by
      unfold roomsN
      omega
    refine ⟨_, rfl, p, b, ts, rfl, hL, O, fun H0 s0 => ?_⟩
    refine ⟨_, rfl, p, b, ts, rfl, hL.mov s0, ?_⟩
    refine ⟨_, rfl, _, _, rfl, rfl, _, rfl, ite2 (fun e => ?_) fun _ => ?_⟩
    · exfalso
      have e2 := of_decide_eq_true e
      omega
    refine ⟨fun m σ H' => ∃ (z : Nat) (y3 : Option V), 1 ≤ z ∧ z ≤ roomsN ts ∧ m = roomsN ts - z ∧ σ = [some (.ref p), some (.int (roomsN ts : Int)), some (.int (z : Int)), y3] ∧ Same H H' ∧ ∀ j, 1 ≤ j → j < z → ∀ b ∈ bs (roomsN ts) j, good ts b = false,
      ⟨_, 1, _, Nat.le_refl _, rooms1, rfl, rfl, s0, fun j h1 h2 => by omega⟩, ?_⟩
    rintro m σ H1 ⟨z, y3, z1, zn, rfl, rfl, s1, hz⟩
    refine ⟨true, rfl, iteT ?_⟩
    refine ⟨fun σ H' => ∃ m', m' < roomsN ts - z ∧ ∃ (z : Nat) (y3 : Option V), 1 ≤ z ∧ z ≤ roomsN ts ∧ m' = roomsN ts - z ∧ σ = [some (.ref p), some (.int (roomsN ts : Int)), some (.int (z : Int)), y3] ∧ Same H H' ∧ ∀ j, 1 ≤ j → j < z → ∀ b ∈ bs (roomsN ts) j, good ts b = false, fun _ _ hN => hN, ?_⟩
    -- for begins in begin_sets(many, size)
    refine ⟨_, rfl, _, rfl, roomsN ts, z, rfl, rooms8, by omega, fun H2 r us s2 nr hr2 T => ?_⟩
    refine ⟨r, rfl, ⟨_, SqL.of hr2⟩, for_list (xs := us) (fun i σ H' => ∃ y3, σ = [some (.ref p), some (.int (roomsN ts : Int)), some (.int (z : Int)), y3] ∧ Same H2 H' ∧ ∀ b ∈ (bs (roomsN ts) z).take i, good ts b = false ∧ Sees ts b (seenL ts b))
      ⟨_, rfl, Same.refl _, fun b hb => by cases hb⟩ (fun i σ H' hi hP => let ⟨_, _, sm, _⟩ := hP; SqL.of (sm _ _ hr2)) ?_ ?_⟩
    · rintro i x σ H3 hx ⟨y3, rfl, s3, hi⟩
      obtain ⟨hb, c, rfl, hc⟩ := (T.mov (KT.of s3)).get hx
      have gb : (bs (roomsN ts) z)[i]? = some (bs (roomsN ts) z)[i] := List.getElem?_eq_getElem hb
      generalize eb : (bs (roomsN ts) z)[i] = B at gb hc
      have ab := (mem_bs.mp (List.mem_of_getElem? gb)).1
      have s23 := (s1.trans s2).trans s3
      refine ⟨_, rfl, _, rfl, p, b, ts, _, B, rfl, hL.mov s23, O, hc, ab, fun H4 r4 s4 nr4 hr4 sees => ?_⟩
      refine ⟨r4, _, rfl, .inl (SqL.of hr4), _, rfl, rfl, _, rfl, ite2 (fun e => ?_) fun e => ?_⟩
      · -- return begins
        have e2 := V.int.inj (of_decide_eq_true e)
        rw [List.length_map] at e2
        have gB : good ts B = true := decide_eq_true (by omega)
        refine ⟨_, rfl, q H4 c B (s23.trans s4) (s4 _ _ hc) ⟨z, (bs (roomsN ts) z).take i, (bs (roomsN ts) z).drop (i + 1), z1, ?_, gB, fun b hb => (hi b hb).1, hz⟩⟩
        rw [← eb, List.getElem_cons_drop, List.take_append_drop]
      · refine ⟨_, rfl, s3.trans s4, fun b hb => ?_⟩
        rw [List.take_add_one, gb] at hb
        rcases List.mem_append.mp hb with m | m
        · exact hi b m
        · have : b = B := by simpa using m
          subst this
          refine ⟨decide_eq_false fun z => e (decide_eq_true ?_), sees⟩
          rw [List.length_map, z]
    · rintro σ H3 ⟨y3, rfl, s3, hi⟩
      have e : (bs (roomsN ts) z).take us.length = bs (roomsN ts) z := List.take_of_length_le (by have := T.1; omega)
      rw [e] at hi
      have zlt : z < roomsN ts := by
        rcases Nat.lt_or_ge z (roomsN ts) with h | h
        · exact h
        · exfalso
          have ez : z = roomsN ts := by omega
          have fa := full_asc (roomsN ts)
          obtain ⟨g1, g2⟩ := hi _ (mem_bs.mpr ⟨fa, by rw [List.length_map, List.length_range, ez]⟩)
          have := sees_all g2 fa.2 fun x h0 h1 => List.mem_map.mpr ⟨x.toNat, List.mem_range.mpr (by omega), by omega⟩
          exact of_decide_eq_false g1 this
      refine ⟨_, rfl, _, _, rfl, rfl, roomsN ts - (z + 1), by omega, z + 1, y3, by omega, zlt, rfl, ?_, (s1.trans s2).trans s3, fun j h1 h2 b hb => ?_⟩
      · exact rfl
      · by_cases ej : j = z
        · subst ej
          exact (hi b hb).1
        · exact hz j h1 (by omega) b hb
end
end KL

set_option Elab.async false
set_option linter.all false
set_option maxRecDepth 100000
set_option maxHeartbeats 8000000
/-! E8: best_begins, entered_pairs -/
namespace KL
open PySem PySem.Spec PyProof.Rows L2
noncomputable def cnt (ts : List (List Nat)) (i : Nat) : Int := ((seenL ts [(i : Int)]).length : Int)
noncomputable def cnts (ts : List (List Nat)) (n : Nat) : List Int := (List.range n).map (cnt ts)
noncomputable def idxs (ts : List (List Nat)) (M : Int) (n : Nat) : List Int := ((List.range n).filter fun i => decide (cnt ts i = M)).map fun (i : Nat) => (i : Int)
noncomputable def prsOf (ts : List (List Nat)) (i : Nat) : List (List Int) := ((seenL ts [(i : Int)]).filter fun x => !decide (x = (i : Int))).map fun x => [(i : Int), x]
noncomputable def prs (ts : List (List Nat)) (n : Nat) : List (List Int) := (List.range n).flatMap (prsOf ts)
theorem cnts_take (ts : List (List Nat)) {i n : Nat} (h : i ≤ n) : (cnts ts n).take i = cnts ts i := by
  unfold cnts
  rw [← List.map_take, List.take_range, Nat.min_eq_left h]
theorem cnts_succ (ts : List (List Nat)) (i : Nat) : cnts ts (i + 1) = cnts ts i ++ [cnt ts i] := by
  unfold cnts
  rw [List.range_succ, List.map_append]
  rfl
theorem cnts_len (ts : List (List Nat)) (n : Nat) : (cnts ts n).length = n := by
  unfold cnts
  rw [List.length_map, List.length_range]
theorem cnts_at (ts : List (List Nat)) {i n : Nat} (h : i < n) : (cnts ts n)[i]? = some (cnt ts i) := by
  unfold cnts
  rw [List.getElem?_map, List.getElem?_range h]
  rfl
theorem idxs_succ (ts : List (List Nat)) (M : Int) (i : Nat) : idxs ts M (i + 1) = idxs ts M i ++ (if cnt ts i = M then [(i : Int)] else []) := by
  unfold idxs
  rw [List.range_succ, List.filter_append, List.map_append]
  by_cases h : cnt ts i = M
  · simp [h]
  · simp [h]
theorem idxs_len (ts : List (List Nat)) (M : Int) (n : Nat) : (idxs ts M n).length ≤ n := by
  unfold idxs
  rw [List.length_map]
  exact Nat.le_trans (List.length_filter_le _ _) (by rw [List.length_range]; exact Nat.le_refl _)
theorem prs_succ (ts : List (List Nat)) (i : Nat) : prs ts (i + 1) = prs ts i ++ prsOf ts i := by
  unfold prs
  rw [List.range_succ, flat_snoc]
theorem one_asc {n i : Nat} (h : i < n) : Asc n [(i : Int)] := by
  refine ⟨by simp, fun x hx => ?_⟩
  have : x = (i : Int) := by simpa using hx
  subst this
  omega
theorem sees_rng {ts : List (List Nat)} {B L : List Int} (h : Sees ts B L) (hB : Asc (roomsN ts) B) : (∀ x ∈ L, 0 ≤ x ∧ x < (roomsN ts : Int)) ∧ L.length ≤ roomsN ts := by
  have r : ∀ x ∈ L, 0 ≤ x ∧ x < (roomsN ts : Int) := fun x hx => rch_in hB.2 ((h.2 x).mp hx)
  exact ⟨r, nodup_rng (h.1.imp fun {x y} h e => by omega) r⟩
theorem TupsAt.app {H : Hp} {vs ws : List V} {bs cs : List (List Int)} (h : TupsAt H vs bs) (k : TupsAt H ws cs) : TupsAt H (vs ++ ws) (bs ++ cs) := by
  refine ⟨by simp [h.1, k.1], fun i v hv => ?_⟩
  rcases Nat.lt_or_ge i vs.length with hi | hi
  · rw [List.getElem?_append_left hi] at hv
    obtain ⟨b, h1, h2⟩ := h.2 i v hv
    exact ⟨b, by rw [List.getElem?_append_left (by have := h.1; omega)]; exact h1, h2⟩
  · rw [List.getElem?_append_right hi] at hv
    obtain ⟨b, h1, h2⟩ := k.2 _ v hv
    exact ⟨b, by rw [List.getElem?_append_right (by have := h.1; omega), ← h.1]; exact h1, h2⟩
abbrev rLen (K : PySem.W.Frag) : List V → Hp → VK → Prop := fun xs H Q => ∃ p ys, xs = [.ref p] ∧ (SqL K H p ys ∨ SqT K H p ys) ∧ Q (.int ys.length) H
section
variable {P : Program} {w : World} {K : PySem.W.Frag} {mg : Str → Option Value} {base : Heap}
def spBest : Sp := fun vs H Q _ => ∃ p b ts, vs = [.ref p] ∧ LaneAt H p b ts ∧ LaneOk b ts ∧ ∀ H' r r2 M, Same H H' → H' r = some (.tup [.int M, .ref r2]) → H' r2 = some (.tup ((idxs ts M (roomsN ts)).map V.int)) →
  M ∈ cnts ts (roomsN ts) → (∀ y ∈ cnts ts (roomsN ts), y ≤ M) → Q (.ref r) H'
theorem ok_best {f f1 f2 f3 : Addr} {fd fd1 fd2 fd3 : FuncData} {k : Nat} (F : Fun K "best_begins" "best_begins" sBest f fd) (N : Nn mg)
    (G1 : FnOk P w K mg base CX0 k f1 fd1 ["value"] spNeedLane) (b1 : Binds K fd1 ["value"] []) (g1 : mg "need_lane" = some (.ref f1)) (k1 : PySem.W.keepIn K (.ref f1) = true)
    (G2 : FnOk P w K mg base CX0 k f2 fd2 ["lane"] spRooms) (b2 : Binds K fd2 ["lane"] []) (g2 : mg "rooms_of" = some (.ref f2)) (k2 : PySem.W.keepIn K (.ref f2) = true)
    (G3 : FnOk P w K mg base CX0 k f3 fd3 ["lane", "begins"] spFrom) (b3 : Binds K fd3 ["lane", "begins"] []) (g3 : mg "seen_from" = some (.ref f3)) (k3 : PySem.W.keepIn K (.ref f3) = true) :
    FnOk P w K mg base CX0 (k + 1) f fd ["lane"] spBest := by
  refine F.ok scBest (fun vs H Q E h => ?_) (fun cdv A outer s H vs Q E hr h => ?_)
  · obtain ⟨p, b, ts, rfl, _⟩ := h
    rfl
  · obtain ⟨p, b, ts, rfl, hL, O, q⟩ := h
    refine ⟨_, pss_cons (ps_expr <| pe_call G1 hr (by rfl) g1 k1 b1 .nil pass0 <| pa_cons (pv 0) pa_nil) <|
      pss_cons (ps_set (i := 1) scBest.nd rfl (Or.inr rfl) <| pe_lc (own := [("room", 2)]) (g := gName 2) (tt := tYes) (te := tCB (rLen K) (tCons (tCall spFrom [] E0 (tCons (tVar 0) (tCons (tTup (tCons (tVar 2) tNil)) tNil))) tNil)) rfl scBest.nd
        (pi_range1 (by rfl) N.range <| pa_cons (pe_call G2 hr (by rfl) g2 k2 b2 .nil pass0 <| pa_cons (pv 0) pa_nil) pa_nil) (blkOk_by (own := [("room", 2)]) (N := ["lane", "told", "room", "many"]) (sc := defScope sBest) (by decide +kernel))
        (fun _ _ _ _ _ => pg_name (i := 2) scBest.nd rfl (Or.inl rfl)) (fun _ _ _ _ _ => pts_nil)
        (fun _ _ _ _ _ => pe_callB call_len_seq (by rfl) N.len PySem.boot_len <| pa_cons (pe_call G3 hr (by rfl) g3 k3 b3 .nil pass0 <| pa_cons (pv 0) <| pa_cons (pe_tup <| pa_cons (pv 2) pa_nil) pa_nil) pa_nil)) <|
      pss_one <| ps_ret <| pe_tup <| pa_cons (pe_callB (cr_max rfl) (by rfl) N.max (by decide +kernel) <| pa_cons (pv 1) pa_nil) <|
        pa_cons (pe_callTy call_tuple_of (by rfl) N.tuple (by decide +kernel) <| pa_cons (pe_lc (own := [("room", 2), ("many", 3)]) (g := gTup K 2 (gCons (gName 2) (gCons (gName 3) gNil))) (tt := tTest (tOp rEq (tVar 3) (tCB (rMax K) (tCons (tVar 1) tNil)))) (te := tVar 2) rfl scBest.nd
          (pi_enum (by rfl) N.enum <| pa_cons (pv 1) pa_nil) (blkOk_by (own := [("room", 2), ("many", 3)]) (N := ["lane", "told", "room", "many"]) (sc := defScope sBest) (by decide +kernel))
          (fun _ _ _ _ _ => pg_tup rfl <| pgs_cons (pg_name (i := 2) scBest.nd rfl (Or.inl rfl)) <| pgs_cons (pg_name (i := 3) scBest.nd rfl (Or.inl rfl)) pgs_nil)
          (fun _ _ _ _ _ => pts_one <| pt_cmpR op_eq (pv 3) (pe_callB (cr_max rfl) (by rfl) N.max (by decide +kernel) <| pa_cons (pv 1) pa_nil) (nomark _))
          (fun _ _ _ _ _ => pv 2)) pa_nil) pa_nil, ?_⟩
    have rooms8 : roomsN ts ≤ 8 := by
      have s := O.small
      unfold roomsN
      omega
    have rooms1 : 1 ≤ roomsN ts := by
      unfold roomsN
      omega
    have sLine : ∀ n : Nat, n ≤ 200 → n < sizeLine := fun n h => small16 (by omega)
    refine ⟨_, rfl, p, b, ts, rfl, hL, O, fun H0 s0 => ?_⟩
    -- told
    refine ⟨_, rfl, p, b, ts, rfl, hL.mov s0, _, rfl, by omega, by omega, fun D nD => ?_⟩
    refine lc_range (lo := 0) (n := (roomsN ts : Int).toNat) (fun i H' => Same H0 H' ∧ H' D = some (.lst ((cnts ts i).map V.int))) ⟨sm_upd nD, upd_same⟩ (fun i H1 hi hP => ?_) (fun H1 hP => ?_)
    · obtain ⟨s1, hD⟩ := hP
      rw [Int.toNat_natCast] at hi
      refine ⟨rfl, yesT ?_⟩
      refine ⟨_, rfl, _, rfl, by show 1 ≤ sizeLine; decide, fun t nt => ?_⟩
      have e0 : (0 : Int) + (i : Nat) = (i : Int) := Int.zero_add _
      rw [e0]
      have s1t := s1.trans (sm_upd (o := .tup [.int (i : Int)]) nt)
      refine ⟨p, b, ts, t, [(i : Int)], rfl, hL.mov (s0.trans s1t), O, upd_same, one_asc hi, fun H2 r s2 nr hr2 sees => ?_⟩
      refine ⟨r, _, rfl, .inl (SqL.of hr2), _, s2 _ _ (sm_upd nt _ _ hD), ?_, ?_, ?_⟩
      · rw [List.length_map, cnts_len]
        exact sLine _ (by omega)
      · intro d o e
        rw [upd_ne (ne_of_none e nD)]
        exact s2 _ _ (s1t _ _ e)
      · rw [upd_same, cnts_succ, List.map_append, List.length_map]
        rfl
    obtain ⟨s1, hD⟩ := hP
    rw [Int.toNat_natCast] at hD
    have s01 := s0.trans s1
    -- max(told)
    refine ⟨_, rfl, D, _, rfl, SqL.of hD, by rw [cnts_len]; omega, fun M hM hMle => ?_⟩
    -- the comprehension
    refine ⟨_, rfl, D, _, rfl, SqL.of hD, fun D2 nD2 => ?_⟩
    refine lc_it (walk_enum (xs := (cnts ts (roomsN ts)).map V.int)) (fun i H' => Same H1 H' ∧ H' D2 = some (.lst ((idxs ts M i).map V.int))) ⟨sm_upd nD2, upd_same⟩ (fun i H' hi hP => SqL.of (hP.1 _ _ hD)) (fun i x H2 H3 hi hP hY => ?_) (fun H2 hP => ?_)
    · obtain ⟨T, x1, x2, rfl, nT, rfl, ha, hb⟩ := hY
      obtain ⟨s2, hD3⟩ := hP
      obtain rfl : V.int (i : Nat) = x1 := Option.some.inj ha
      rw [List.length_map, cnts_len] at hi
      replace hb : ((cnts ts (roomsN ts)).map V.int)[i]? = some x2 := hb
      rw [List.getElem?_map, cnts_at ts hi] at hb
      obtain rfl : V.int (cnt ts i) = x2 := Option.some.inj hb
      have nDT : D2 ≠ T := ne_of_none hD3 nT
      have s2t := s2.trans (sm_upd (o := .tup [.int (i : Nat), .int (cnt ts i)]) nT)
      refine ⟨T, _, rfl, SqT.of upd_same, rfl, _, _, rfl, _, _, rfl, ⟨rfl, rfl, ?_⟩⟩
      refine ⟨_, rfl, _, rfl, D, _, rfl, SqL.of (s2t _ _ hD), by rw [cnts_len]; omega, fun M' hM' hMle' => ?_⟩
      have eM : M' = M := max_uniq hM' hMle' hM hMle
      subst eM
      refine ⟨rfl, _, rfl, ite2 (fun e => ?_) fun e => ?_⟩
      · have e2 : cnt ts i = M' := V.int.inj (of_decide_eq_true e)
        refine ⟨_, rfl, (idxs ts M' i).map V.int, ?_, ?_, ?_, ?_⟩
        · rw [upd_ne nDT]
          exact hD3
        · rw [List.length_map]
          have := idxs_len ts M' i
          exact sLine _ (by omega)
        · intro d o z
          rw [upd_ne (ne_of_none z nD2)]
          exact s2t _ _ z
        · rw [upd_same, idxs_succ, if_pos e2, List.map_append]
          rfl
      · have e2 : ¬ cnt ts i = M' := fun z => e (decide_eq_true (by rw [z]))
        refine ⟨s2t, ?_⟩
        rw [upd_ne nDT, hD3, idxs_succ, if_neg e2, List.append_nil]
    · obtain ⟨s2, hD3⟩ := hP
      rw [List.length_map, cnts_len] at hD3
      refine ⟨D2, _, rfl, .inl ⟨SqL.of hD3, fun r2 nr2 => ?_⟩⟩
      refine ⟨by show 2 ≤ sizeLine; decide, fun r nr => ?_⟩
      exact q _ r r2 M (((s01.trans s2).trans (sm_upd nr2)).trans (sm_upd nr)) upd_same (sm_upd nr _ _ upd_same) hM hMle
def spPairs : Sp := fun vs H Q _ => ∃ p b ts, vs = [.ref p] ∧ LaneAt H p b ts ∧ LaneOk b ts ∧ ∀ H' r us, Same H H' → H' r = some (.tup us) → TupsAt H' us (prs ts (roomsN ts)) → Q (.ref r) H'
theorem ok_pairs {f f1 f2 f3 : Addr} {fd fd1 fd2 fd3 : FuncData} {k : Nat} (F : Fun K "entered_pairs" "entered_pairs" sPairs f fd) (N : Nn mg)
    (G1 : FnOk P w K mg base CX0 k f1 fd1 ["value"] spNeedLane) (b1 : Binds K fd1 ["value"] []) (g1 : mg "need_lane" = some (.ref f1)) (k1 : PySem.W.keepIn K (.ref f1) = true)
    (G2 : FnOk P w K mg base CX0 k f2 fd2 ["lane"] spRooms) (b2 : Binds K fd2 ["lane"] []) (g2 : mg "rooms_of" = some (.ref f2)) (k2 : PySem.W.keepIn K (.ref f2) = true)
    (G3 : FnOk P w K mg base CX0 k f3 fd3 ["lane", "begins"] spFrom) (b3 : Binds K fd3 ["lane", "begins"] []) (g3 : mg "seen_from" = some (.ref f3)) (k3 : PySem.W.keepIn K (.ref f3) = true) :
    FnOk P w K mg base CX0 (k + 1) f fd ["lane"] spPairs := by
  refine F.ok scPairs (fun vs H Q E h => ?_) (fun cdv A outer s H vs Q E hr h => ?_)
  · obtain ⟨p, b, ts, rfl, _⟩ := h
    rfl
  · obtain ⟨p, b, ts, rfl, hL, O, q⟩ := h
    refine ⟨_, pss_cons (ps_expr <| pe_call G1 hr (by rfl) g1 k1 b1 .nil pass0 <| pa_cons (pv 0) pa_nil) <|
      pss_cons (ps_set (i := 1) scPairs.nd rfl (Or.inl rfl) <| pe_lst pa_nil) <|
      pss_cons (ps_for PassesOwn.never rfl (pi_range1 (by rfl) N.range <| pa_cons (pe_call G2 hr (by rfl) g2 k2 b2 .nil pass0 <| pa_cons (pv 0) pa_nil) pa_nil) (pg_name (i := 2) scPairs.nd rfl (Or.inr rfl)) <|
        pss_one <| ps_set (i := 1) scPairs.nd rfl (Or.inl rfl) <| pe_op op_cat (pv 1) <| pe_lc (own := [("there", 3)]) (g := gName 3) (tt := tTest (tOp rNe (tVar 3) (tVar 2))) (te := tTup (tCons (tVar 2) (tCons (tVar 3) tNil))) rfl scPairs.nd
          (pi_list <| pe_call G3 hr (by rfl) g3 k3 b3 .nil pass0 <| pa_cons (pv 0) <| pa_cons (pe_tup <| pa_cons (pv 2) pa_nil) pa_nil) (blkOk_by (own := [("there", 3)]) (N := ["lane", "found", "room", "there"]) (sc := defScope sPairs) (by decide +kernel))
          (fun _ _ _ _ _ => pg_name (i := 3) scPairs.nd rfl (Or.inl rfl)) (fun _ _ _ _ _ => pts_one <| pt_cmpR op_ne (pv 3) (pv 2) (nomark _))
          (fun _ _ _ _ _ => pe_tup <| pa_cons (pv 2) <| pa_cons (pv 3) pa_nil)) <|
      pss_one <| ps_ret <| pe_callTy call_tuple_of (by rfl) N.tuple (by decide +kernel) <| pa_cons (pv 1) pa_nil, ?_⟩
    have rooms8 : roomsN ts ≤ 8 := by
      have s := O.small
      unfold roomsN
      omega
    have sLine : ∀ n : Nat, n ≤ 200 → n < sizeLine := fun n h => small16 (by omega)
    refine ⟨_, rfl, p, b, ts, rfl, hL, O, fun H0 s0 => ?_⟩
    refine ⟨by show 0 ≤ sizeLine; exact Nat.zero_le _, fun f0 nf0 => ?_⟩
    have s0f := s0.trans (sm_upd (o := .lst []) nf0)
    refine ⟨_, rfl, p, b, ts, rfl, hL.mov s0f, _, rfl, by omega, by omega, ?_⟩
    refine for_range (lo := 0) (n := (roomsN ts : Int).toNat) (fun i σ H' => ∃ y2 r us, σ = [some (.ref p), some (.ref r), y2, none] ∧ Same H H' ∧ H' r = some (.lst us) ∧ TupsAt H' us (prs ts i) ∧ us.length ≤ 8 * i)
      ⟨_, f0, [], rfl, s0f, upd_same, TupsAt.nil, Nat.zero_le _⟩ ?_ ?_
    · rintro i σ H1 hi ⟨y2, r, us, rfl, s1, hr1, T1, l1⟩
      rw [Int.toNat_natCast] at hi
      have e0 : (0 : Int) + (i : Nat) = (i : Int) := Int.zero_add _
      rw [e0]
      refine ⟨_, rfl, _, rfl, _, rfl, by show 1 ≤ sizeLine; decide, fun t nt => ?_⟩
      have st : Same H1 (upd H1 t (.tup [.int (i : Int)])) := sm_upd nt
      refine ⟨p, b, ts, t, [(i : Int)], rfl, hL.mov (s1.trans st), O, upd_same, one_asc hi, fun H2 l s2 nl hl sees => ?_⟩
      obtain ⟨lr, ll⟩ := sees_rng sees (one_asc hi)
      have s12 := st.trans s2
      refine ⟨l, rfl, ⟨_, SqL.of hl⟩, fun D nD => ?_⟩
      refine lc_list (xs := (seenL ts [(i : Int)]).map V.int) (fun j H' => Same H2 H' ∧ ∃ ws, H' D = some (.lst ws) ∧ TupsAt H' ws ((((seenL ts [(i : Int)]).take j).filter fun x => !decide (x = (i : Int))).map fun x => [(i : Int), x]) ∧ ws.length ≤ j)
        ⟨sm_upd nD, [], upd_same, TupsAt.nil, Nat.zero_le _⟩ (fun j H' hj hP => SqL.of (hP.1 _ _ hl)) (fun j x H3 hx hP => ?_) (fun H3 hP => ?_)
      · obtain ⟨s3, ws, hD, T3, l3⟩ := hP
        rw [List.getElem?_map] at hx
        have hj : j < (seenL ts [(i : Int)]).length := by
          rcases Nat.lt_or_ge j (seenL ts [(i : Int)]).length with h | h
          · exact h
          · rw [List.getElem?_eq_none h] at hx
            cases hx
        have gx : (seenL ts [(i : Int)])[j]? = some (seenL ts [(i : Int)])[j] := List.getElem?_eq_getElem hj
        rw [gx] at hx
        generalize (seenL ts [(i : Int)])[j] = y at gx hx
        obtain rfl : V.int y = x := Option.some.inj hx
        refine ⟨rfl, _, rfl, _, rfl, rfl, _, rfl, ite2 (fun e => ?_) fun e => ?_⟩
        · have ne : ¬ y = (i : Int) := fun z => by
            subst z
            rw [decide_eq_true rfl] at e
            cases e
          refine ⟨_, rfl, _, rfl, by show 2 ≤ sizeLine; decide, fun t2 nt2 => ?_⟩
          have nDt : D ≠ t2 := ne_of_none hD nt2
          refine ⟨ws, by rw [upd_ne nDt]; exact hD, sLine _ (by omega), ?_, ws ++ [.ref t2], upd_same, ?_, ?_⟩
          · intro d o z
            rw [upd_ne (ne_of_none z nD), upd_ne (ne_of_none (s3 _ _ z) nt2)]
            exact s3 _ _ z
          · have kt : KT H3 (upd (upd H3 t2 (.tup [.int (i : Int), .int y])) D (.lst (ws ++ [.ref t2]))) := (KT.of (sm_upd nt2)).trans (KT.lst (us := ws) (by rw [upd_ne nDt]; exact hD))
            have q2 := (T3.mov kt).snoc (v := .ref t2) (b := [(i : Int), y]) ⟨t2, rfl, by rw [upd_ne nDt.symm, upd_same]; rfl⟩
            rw [List.take_add_one, gx, List.filter_append, List.map_append]
            have fe : (Option.some y).toList.filter (fun x => !decide (x = (i : Int))) = [y] := by simp [ne]
            rw [fe]
            exact q2
          · rw [List.length_append, List.length_singleton]
            omega
        · have eq : y = (i : Int) := by
            by_cases h : y = (i : Int)
            · exact h
            · exact absurd (by rw [decide_eq_false (fun z => h (V.int.inj z))]; rfl) e
          refine ⟨s3, ws, hD, ?_, by omega⟩
          rw [List.take_add_one, gx, List.filter_append, List.map_append]
          have fe : (Option.some y).toList.filter (fun x => !decide (x = (i : Int))) = [] := by simp [eq]
          rw [fe, List.map_nil, List.append_nil]
          exact T3
      · obtain ⟨s3, ws, hD, T3, l3⟩ := hP
        rw [List.length_map] at l3
        rw [List.length_map, List.take_length] at T3
        have hr3 := s3 _ _ (s12 _ _ hr1)
        refine ⟨r, D, us, ws, rfl, rfl, hr3, hD, Nat.le_of_lt (sLine _ (by omega)), fun r2 nr2 => ?_⟩
        refine ⟨_, r2, us ++ ws, rfl, ((s1.trans s12).trans s3).trans (sm_upd nr2), upd_same, ?_, ?_⟩
        · rw [prs_succ]
          exact ((T1.mov (KT.of (s12.trans s3))).app T3).mov (KT.of (sm_upd nr2))
        · rw [List.length_append]
          omega
    · rintro σ H1 ⟨y2, r, us, rfl, s1, hr1, T1, l1⟩
      rw [Int.toNat_natCast] at T1
      refine ⟨_, rfl, r, _, rfl, .inl ⟨SqL.of hr1, fun r2 nr2 => ?_⟩⟩
      exact q _ r2 us (s1.trans (sm_upd nr2)) upd_same (T1.mov (KT.of (sm_upd nr2)))
end
end KL

set_option Elab.async false
set_option linter.all false
set_option maxRecDepth 100000
set_option maxHeartbeats 8000000
/-! E9: the draws of the law -/
namespace KL
open PySem PySem.Spec PyProof.Rows L2
abbrev rowL (a : Addr) (x y z : Int) : HO := .lst [.ref a, .int x, .int y, .int z]
structure RowOk (x y : Int) : Prop where
  x0 : 0 ≤ x
  y0 : 0 ≤ y
  y1 : y < 2147483647
/-- the script at a, whatever stands at r -/
def Scr (K : PySem.W.Frag) (H : Hp) (r a : Addr) (ns : List Int) : Prop := (∀ H', SqL K H' a (ns.map V.int)) ∨ (a ≠ r ∧ ∃ o, H a = some o ∧ ∀ H', H' a = some o → SqL K H' a (ns.map V.int))
section
variable {K : PySem.W.Frag} {H H' : Hp} {a r : Addr} {ns : List Int}
theorem Scr.seq (h : Scr K H r a ns) : SqL K H a (ns.map V.int) := by
  rcases h with h | ⟨_, o, e, h⟩
  · exact h H
  · exact h H e
theorem Scr.mov (h : Scr K H r a ns) (e : SameBut r H H') : Scr K H' r a ns := by
  rcases h with h | ⟨n, o, e2, h⟩
  · exact .inl h
  · exact .inr ⟨n, o, e a o n e2, h⟩
theorem Scr.of (h : SqL K H a (ns.map V.int)) (n : H r = none) : Scr K H r a ns := by
  rcases h with (h | ⟨u, h⟩) | h
  · exact .inr ⟨ne_of_none h n, _, h, fun H' e => .inl (.inl e)⟩
  · exact .inr ⟨ne_of_none h n, _, h, fun H' e => .inl (.inr ⟨u, e⟩)⟩
  · exact .inl fun _ => .inr h
theorem sb_refl : SameBut r H H := fun _ _ _ h => h
theorem sb_upd {o : HO} : SameBut r H (upd H r o) := sb_refl.upd
end
theorem fmod_pos {i j : Int} (h : 0 < j) : 0 ≤ i.fmod j ∧ i.fmod j < j := ⟨Int.fmod_nonneg_of_pos _ h, Int.fmod_lt_of_pos _ h⟩
section
variable {P : Program} {w : World} {K : PySem.W.Frag} {mg : Str → Option Value} {base : Heap}
def spTaken (K : PySem.W.Frag) : Sp := fun vs H Q _ => ∃ (r a : Addr) (ns : List Int) (m x y z : Int), vs = [.ref r, .int m] ∧ 0 < m ∧ m ≤ 1000 ∧ H r = some (rowL a x y z) ∧ Scr K H r a ns ∧ RowOk x y ∧
  ∀ v x' y' z', 0 ≤ v → v < m → RowOk x' y' → Q (.int v) (upd H r (rowL a x' y' z'))
theorem ok_taken {f : Addr} {fd : FuncData} {k : Nat} (F : Fun K "_law_taken" "_law_taken" sTaken f fd) (N : Nn mg) : FnOk P w K mg base CX0 (k + 1) f fd ["_law_row", "_law_many"] (spTaken K) := by
  refine F.ok scTaken (fun vs H Q E h => ?_) (fun cdv A outer s H vs Q E hr h => ?_)
  · obtain ⟨r, a, ns, m, x, y, z, rfl, _⟩ := h
    rfl
  · obtain ⟨r, a, ns, m, x, y, z, rfl, m0, m1, hR, hS, O, q⟩ := h
    refine ⟨_, pss_cons (ps_if (pt_cmpR op_gt (pe_ix ix_list (pv 0) pe_int (fun _ _ => rfl)) pe_int (nomark _))
        (pss_cons (ps_set (i := 2) scTaken.nd rfl (Or.inl rfl) <| pe_op op_modN (pe_callTy call_int1 (by rfl) N.int (by decide +kernel) <| pa_cons (pe_ix ix_list (pv 0) pe_int (fun _ _ => rfl)) pa_nil) (pv 1)) <|
          pss_cons (ps_asg (pe_op op_fdivN (pe_ix ix_list (pv 0) pe_int (fun _ _ => rfl)) (pv 1)) (pg_sub (pv 0) pe_int set_list)) <|
          pss_one <| ps_ret (pv 2)) pss_nil) <|
      pss_cons (ps_asg (pe_op op_add (pe_ix ix_list (pv 0) pe_int (fun _ _ => rfl)) pe_int) (pg_sub (pv 0) pe_int set_list)) <|
      pss_cons (ps_if (pt_cmpR op_gt (pe_ix ix_list (pv 0) pe_int (fun _ _ => rfl)) (pe_callB call_len_seq (by rfl) N.len PySem.boot_len <| pa_cons (pe_ix ix_list (pv 0) pe_int (fun _ _ => rfl)) pa_nil) (nomark _))
        (pss_cons (ps_asg (pe_op op_modN (pe_callTy call_int1 (by rfl) N.int (by decide +kernel) <| pa_cons (pe_op op_add (pe_op op_mul (pe_ix ix_list (pv 0) pe_int (fun _ _ => rfl)) pe_int) pe_int) pa_nil) pe_int) (pg_sub (pv 0) pe_int set_list)) <|
          pss_one <| ps_ret <| pe_op op_modN (pe_callTy call_int1 (by rfl) N.int (by decide +kernel) <| pa_cons (pe_op op_fdivN (pe_ix ix_list (pv 0) pe_int (fun _ _ => rfl)) pe_int) pa_nil) (pv 1)) pss_nil) <|
      pss_cons (ps_set (i := 3) scTaken.nd rfl (Or.inl rfl) <| pe_ix ix_list (pe_ix ix_list (pv 0) pe_int (fun _ _ => rfl)) (pe_op op_sub (pe_ix ix_list (pv 0) pe_int (fun _ _ => rfl)) pe_int) (fun _ _ => rfl)) <|
      pss_cons (ps_asg (pe_op op_modN (pe_callTy call_int1 (by rfl) N.int (by decide +kernel) <| pa_cons (pe_op op_add (pe_op op_add (pe_op op_mul (pe_ix ix_list (pv 0) pe_int (fun _ _ => rfl)) pe_int) (pv 3)) pe_int) pa_nil) pe_int) (pg_sub (pv 0) pe_int set_list)) <|
      pss_cons (ps_if (pt_cmpR op_ge (pv 3) (pe_op op_pow pe_int pe_int) (nomark _)) (pss_one <| ps_asg (pe_op op_fdivN (pv 3) (pv 1)) (pg_sub (pv 0) pe_int set_list)) pss_nil) <|
      pss_one <| ps_ret <| pe_op op_modN (pe_callTy call_int1 (by rfl) N.int (by decide +kernel) <| pa_cons (pv 3) pa_nil) (pv 1), ?_⟩
    obtain ⟨x0, y0, y1⟩ := id O
    have mne : m ≠ 0 := by omega
    have cd : CDivN z m := ⟨mne, by omega⟩
    have at3 : ∀ {x y z : Int}, atI [V.ref a, .int x, .int y, .int z] 3 = some (.int z) := rfl
    have at2 : ∀ {x y z : Int}, atI [V.ref a, .int x, .int y, .int z] 2 = some (.int y) := rfl
    have at1 : ∀ {x y z : Int}, atI [V.ref a, .int x, .int y, .int z] 1 = some (.int x) := rfl
    have at0 : ∀ {x y z : Int}, atI [V.ref a, .int x, .int y, .int z] 0 = some (.ref a) := rfl
    refine ⟨_, rfl, r, _, 3, _, rfl, rfl, SqL.of hR, at3, _, _, rfl, rfl, _, rfl, ite2 (fun _ => ?_) fun _ => ?_⟩
    · -- the rest of a great cell
      refine ⟨_, rfl, r, _, 3, _, rfl, rfl, SqL.of hR, at3, .inl ⟨_, rfl, _, rfl, _, _, rfl, rfl, mne, ?_⟩⟩
      refine ⟨_, rfl, r, _, 3, _, rfl, rfl, SqL.of hR, at3, _, rfl, _, _, rfl, rfl, cd, ?_⟩
      refine ⟨_, rfl, r, _, 3, 3, rfl, rfl, hR, rfl, ?_⟩
      obtain ⟨v0, v1⟩ := fmod_pos (i := z) m0
      exact ⟨_, rfl, q _ x y _ v0 v1 O⟩
    refine ⟨_, rfl, r, _, 1, _, rfl, rfl, SqL.of hR, at1, _, _, rfl, rfl, ?_⟩
    refine ⟨_, rfl, r, _, 1, 1, rfl, rfl, hR, rfl, ?_⟩
    generalize eH1 : upd H r (.lst ([V.ref a, .int x, .int y, .int z].set 1 (.int (x + 1)))) = H1
    have hR1 : H1 r = some (rowL a (x + 1) y z) := by
      rw [← eH1]
      exact upd_same
    have hS1 : SqL K H1 a (ns.map V.int) := by
      rw [← eH1]
      exact (hS.mov sb_upd).seq
    have up1 : ∀ o, upd H1 r o = upd H r o := fun o => by
      rw [← eH1]
      exact upd_upd
    refine ⟨_, rfl, r, _, 1, _, rfl, rfl, SqL.of hR1, at1, _, rfl, r, _, 0, _, rfl, rfl, SqL.of hR1, at0, a, _, rfl, .inl hS1, _, _, rfl, rfl, _, rfl, ite2 (fun e => ?_) fun e => ?_⟩
    · -- behind the script
      refine ⟨_, rfl, r, _, 2, _, rfl, rfl, SqL.of hR1, at2, _, _, rfl, rfl, .inl ⟨by omega, by omega⟩, _, _, rfl, rfl, .inl ⟨_, rfl, _, _, rfl, rfl, (show (2147483647 : Int) ≠ 0 by decide), ?_⟩⟩
      refine ⟨_, rfl, r, _, 2, 2, rfl, rfl, hR1, rfl, ?_⟩
      obtain ⟨u0, u1⟩ := fmod_pos (i := y * 48271 + 11) (j := 2147483647) (by decide)
      rw [up1]
      refine ⟨_, rfl, r, _, 2, _, rfl, rfl, SqL.of upd_same, at2, _, _, rfl, rfl, ⟨by decide, by decide⟩, .inl ⟨_, rfl, _, rfl, _, _, rfl, rfl, mne, ?_⟩⟩
      obtain ⟨v0, v1⟩ := fmod_pos (i := ((y * 48271 + 11).fmod 2147483647).fdiv 7) m0
      exact q _ (x + 1) _ z v0 v1 ⟨by omega, u0, u1⟩
    -- a cell
    have hx : x < (ns.length : Int) := by
      have e2 : ¬ ((((ns.map V.int).length : Nat) : Int) < x + 1) := fun z => e (decide_eq_true z)
      rw [List.length_map] at e2
      omega
    obtain ⟨n, rfl⟩ := Int.eq_ofNat_of_zero_le x0
    have hn : n < ns.length := by omega
    have gn : (ns.map V.int)[n]? = some (V.int ns[n]) := by
      rw [List.getElem?_map, List.getElem?_eq_getElem hn]
      rfl
    generalize ns[n] = c at gn
    refine ⟨_, rfl, r, _, 0, _, rfl, rfl, SqL.of hR1, at0, _, rfl, r, _, 1, _, rfl, rfl, SqL.of hR1, at1, _, _, rfl, rfl, a, _, _, _, rfl, rfl, hS1, at_of (j := n) (by omega) gn, ?_⟩
    refine ⟨_, rfl, r, _, 2, _, rfl, rfl, SqL.of hR1, at2, _, _, rfl, rfl, .inl ⟨by omega, by omega⟩, _, rfl, _, _, rfl, rfl, _, _, rfl, rfl, .inl ⟨_, rfl, _, _, rfl, rfl, (show (2147483647 : Int) ≠ 0 by decide), ?_⟩⟩
    refine ⟨_, rfl, r, _, 2, 2, rfl, rfl, hR1, rfl, ?_⟩
    obtain ⟨u0, u1⟩ := fmod_pos (i := y * 48271 + c + 11) (j := 2147483647) (by decide)
    rw [up1]
    obtain ⟨v0, v1⟩ := fmod_pos (i := c) m0
    have O2 : RowOk ((n : Int) + 1) ((y * 48271 + c + 11).fmod 2147483647) := ⟨by omega, u0, u1⟩
    refine ⟨_, rfl, _, _, rfl, rfl, ⟨by decide, by decide, by decide⟩, _, _, rfl, rfl, _, rfl, ite2 (fun _ => ?_) fun _ => ?_⟩
    · refine ⟨_, rfl, _, rfl, _, _, rfl, rfl, ⟨mne, by omega⟩, ?_⟩
      refine ⟨_, rfl, r, _, 3, 3, rfl, rfl, upd_same, rfl, ?_⟩
      rw [upd_upd]
      exact ⟨_, rfl, .inl ⟨_, rfl, _, rfl, _, _, rfl, rfl, mne, q _ _ _ _ v0 v1 O2⟩⟩
    · exact ⟨_, rfl, .inl ⟨_, rfl, _, rfl, _, _, rfl, rfl, mne, q _ _ _ _ v0 v1 O2⟩⟩
end
end KL

set_option Elab.async false
set_option linter.all false
set_option maxRecDepth 100000
set_option maxHeartbeats 8000000
/-! E10: the pick of the law -/
namespace KL
open PySem PySem.Spec PyProof.Rows L2
theorem nat_of {v : Int} {m : Nat} (h0 : 0 ≤ v) (h1 : v < (m : Int)) : ∃ n : Nat, v = (n : Int) ∧ n < m := ⟨v.toNat, by omega, by omega⟩
section
variable {P : Program} {w : World} {K : PySem.W.Frag} {mg : Str → Option Value} {base : Heap}
def spPickL (K : PySem.W.Frag) : Sp := fun vs H Q _ => ∃ (r l a : Addr) (ns xs : List Int) (x y z : Int), vs = [.ref r, .ref l] ∧ H l = some (.lst (xs.map V.int)) ∧ l ≠ r ∧ 0 < xs.length ∧ xs.length ≤ 100 ∧ H r = some (rowL a x y z) ∧ Scr K H r a ns ∧ RowOk x y ∧
  ∀ v x' y' z', v ∈ xs → RowOk x' y' → Q (.int v) (upd H r (rowL a x' y' z'))
theorem ok_pickL {f f1 : Addr} {fd fd1 : FuncData} {k : Nat} (F : Fun K "_law_pick" "_law_pick" sPick f fd) (N : Nn mg)
    (G1 : FnOk P w K mg base CX0 k f1 fd1 ["_law_row", "_law_many"] (spTaken K)) (b1 : Binds K fd1 ["_law_row", "_law_many"] []) (g1 : mg "_law_taken" = some (.ref f1)) (k1 : PySem.W.keepIn K (.ref f1) = true) :
    FnOk P w K mg base CX0 (k + 1) f fd ["_law_row", "_law_things"] (spPickL K) := by
  refine F.ok scPick (fun vs H Q E h => ?_) (fun cdv A outer s H vs Q E hr h => ?_)
  · obtain ⟨r, l, a, ns, xs, x, y, z, rfl, _⟩ := h
    rfl
  · obtain ⟨r, l, a, ns, xs, x, y, z, rfl, hl, ne, l0, l1, hR, hS, O, q⟩ := h
    refine ⟨_, pss_one <| ps_ret <| pe_ix ix_list (pv 1) (pe_call G1 hr (by rfl) g1 k1 b1 .nil pass0 <| pa_cons (pv 0) <| pa_cons (pe_callB call_len_seq (by rfl) N.len PySem.boot_len <| pa_cons (pv 1) pa_nil) pa_nil) (fun _ _ => rfl), ?_⟩
    refine ⟨_, rfl, _, rfl, _, rfl, l, _, rfl, .inl (SqL.of hl), ?_⟩
    have el : ((xs.map V.int).length : Int) = (xs.length : Int) := by rw [List.length_map]
    refine ⟨r, a, ns, _, x, y, z, rfl, by omega, by omega, hR, hS, O, fun v x' y' z' v0 v1 O' => ?_⟩
    rw [el] at v1
    obtain ⟨n, rfl, hn⟩ := nat_of v0 v1
    refine ⟨l, _, _, _, rfl, rfl, SqL.of (by rw [upd_ne ne]; exact hl), at_of (j := n) rfl (by rw [List.getElem?_map, List.getElem?_eq_getElem hn]; rfl), q _ _ _ _ (List.getElem_mem hn) O'⟩
def spPickS (K : PySem.W.Frag) : Sp := fun vs H Q _ => ∃ (r a : Addr) (ns : List Int) (l : List Nat) (x y z : Int), vs = [.ref r, .str (tx l)] ∧ 0 < l.length ∧ l.length ≤ 100 ∧ H r = some (rowL a x y z) ∧ Scr K H r a ns ∧ RowOk x y ∧
  ∀ c x' y' z', c ∈ l → RowOk x' y' → Q (.str ⟨#[c]⟩) (upd H r (rowL a x' y' z'))
theorem ok_pickS {f f1 : Addr} {fd fd1 : FuncData} {k : Nat} (F : Fun K "_law_pick" "_law_pick" sPick f fd) (N : Nn mg)
    (G1 : FnOk P w K mg base CX0 k f1 fd1 ["_law_row", "_law_many"] (spTaken K)) (b1 : Binds K fd1 ["_law_row", "_law_many"] []) (g1 : mg "_law_taken" = some (.ref f1)) (k1 : PySem.W.keepIn K (.ref f1) = true) :
    FnOk P w K mg base CX0 (k + 1) f fd ["_law_row", "_law_things"] (spPickS K) := by
  refine F.ok scPick (fun vs H Q E h => ?_) (fun cdv A outer s H vs Q E hr h => ?_)
  · obtain ⟨r, a, ns, l, x, y, z, rfl, _⟩ := h
    rfl
  · obtain ⟨r, a, ns, l, x, y, z, rfl, l0, l1, hR, hS, O, q⟩ := h
    refine ⟨_, pss_one <| ps_ret <| pe_item_str (pv 1) (pe_call G1 hr (by rfl) g1 k1 b1 .nil pass0 <| pa_cons (pv 0) <| pa_cons (pe_callB call_len (by rfl) N.len PySem.boot_len <| pa_cons (pv 1) pa_nil) pa_nil) (fun _ _ => rfl), ?_⟩
    refine ⟨_, rfl, _, rfl, _, rfl, _, l.length, rfl, ⟨by rw [tx_len, sizeLine_eq]; omega, (tx_len l).symm⟩, ?_⟩
    refine ⟨r, a, ns, _, x, y, z, rfl, by omega, by omega, hR, hS, O, fun v x' y' z' v0 v1 O' => ?_⟩
    obtain ⟨n, rfl, hn⟩ := nat_of v0 v1
    exact ⟨_, _, _, rfl, rfl, v0, by omega, by rw [tx_len]; exact v1, by rw [Int.toNat_natCast, tx_at, List.getElem?_eq_getElem hn], q _ _ _ _ (List.getElem_mem hn) O'⟩
end
end KL

set_option Elab.async false
set_option linter.all false
set_option maxRecDepth 100000
set_option maxHeartbeats 4000000
/-! M5: the sorted texts of one sign, joined -/
namespace KL
open PySem PySem.Spec PyProof.Rows L2
theorem tl_tx (l : List Nat) : TL.tl (tx l) = l := tx_codes l
theorem ext_tx {z : Str} {l : List Nat} (h : TL.tl z = l) : z = tx l := TL.ext_tl (by rw [h, tl_tx])
def One (x : Str) : Prop := ∃ c, 97 ≤ c ∧ c ≤ 108 ∧ x = tx [c]
theorem join_tx (a : Str) (h : TL.tl a = []) (ys : List Str) : Txt.join a ys = tx (TL.joinL [] (ys.map TL.tl)) := ext_tx (by rw [TL.join_eq, TL.tl_join, h])
theorem join_lane (a : Str) (ha : TL.tl a = []) {xs ys : List Str} (hx : ∀ x ∈ xs, One x) (h2 : xs.length ≤ 2) (p : ys.Perm (addAll xs [])) (s : sortedS ys = true) :
    (ys.map (·.length)).sum + ys.length * a.length ≤ 16777216 ∧ ∃ l : List Nat, Txt.join a ys = tx l ∧ l.Pairwise (· < ·) ∧ (∀ c ∈ l, 97 ≤ c ∧ c ≤ 108) ∧ l.length ≤ 2 := by
  have al : a.length = 0 := by
    show a.cps.size = 0
    rw [← Array.length_toList]
    show (TL.tl a).length = 0
    rw [ha]
    rfl
  have nd : ys.Nodup := p.nodup_iff.mpr (addAll_nodup xs [] List.nodup_nil)
  have hy : ∀ y ∈ ys, One y := fun y m => by
    rcases addAll_mem xs [] y (p.mem_iff.mp m) with z | z
    · exact hx y z
    · cases z
  have ly : ys.length ≤ 2 := by
    have q := addAll_len xs []
    rw [p.length_eq]
    have : ([] : List Str).length = 0 := rfl
    omega
  rw [al, join_tx a ha]
  match ys, nd, hy, ly, s with
  | [], _, _, _, _ => exact ⟨by show 0 + 0 * 0 ≤ 16777216; omega, [], rfl, .nil, (fun c h => nomatch h), Nat.zero_le _⟩
  | [u], _, hy, _, _ =>
    obtain ⟨c, c0, c1, rfl⟩ := hy u List.mem_cons_self
    refine ⟨?_, [c], ?_, by simp, fun d h => ?_, by simp⟩
    · show (tx [c]).length + 0 + 1 * 0 ≤ _
      rw [tx_len]
      simp
    · show tx (TL.tl (tx [c])) = _
      rw [tl_tx]
    · have : d = c := by simpa using h
      subst this
      exact ⟨c0, c1⟩
  | [u, v], nd, hy, _, s =>
    obtain ⟨c, c0, c1, rfl⟩ := hy u List.mem_cons_self
    obtain ⟨d, d0, d1, rfl⟩ := hy v (by simp)
    have ne : c ≠ d := fun e => by
      subst e
      simp at nd
    have lt : c < d := by
      have q : (!ltCps (tx [d]).cps.toList (tx [c]).cps.toList && true) = true := s
      rw [tx_codes, tx_codes, ltCps_eq, lt_two] at q
      have q2 : ¬ d < c := by simpa using q
      omega
    refine ⟨?_, [c, d], ?_, by simpa using lt, fun e h => ?_, by simp⟩
    · show (tx [c]).length + ((tx [d]).length + 0) + 2 * 0 ≤ _
      rw [tx_len, tx_len]
      simp
    · show tx (TL.tl (tx [c]) ++ ([] ++ TL.tl (tx [d]))) = _
      rw [tl_tx, tl_tx]
      rfl
    · have : e = c ∨ e = d := by simpa using h
      rcases this with z | z
      · subst z
        exact ⟨c0, c1⟩
      · subst z
        exact ⟨d0, d1⟩
  | _ :: _ :: _ :: _, _, _, ly, _ =>
    simp at ly
theorem cut_kinds {k : Nat} (h0 : 1 ≤ k) (h1 : k ≤ 12) : ∃ l : List Nat, cutS "abcdefghijkl" none (some (k : Int)) = tx l ∧ l.length = k ∧ ∀ c ∈ l, 97 ≤ c ∧ c ≤ 108 := by
  refine ⟨((Str.ofString "abcdefghijkl").cps.toList.take k), ?_, ?_, fun c hc => ?_⟩
  · unfold cutS tx
    have e : (("abcdefghijkl" : Str)).length = 12 := by
      show (Str.ofString "abcdefghijkl").cps.size = 12
      rw [← Array.length_toList, kinds_codes]
      rfl
    rw [HT.sIx_none, e, show HT.sIx 12 12 (some (k : Int)) = min k 12 from HT.sIx_nat 12 12 k, Nat.min_eq_left h1]
    rfl
  · rw [kinds_codes, List.length_take]
    show min k 12 = k
    omega
  · have := kinds_codes ▸ List.mem_of_mem_take hc
    simp only [List.mem_cons, List.not_mem_nil, or_false] at this
    omega
end KL

set_option Elab.async false
set_option linter.all false
set_option maxRecDepth 100000
set_option maxHeartbeats 8000000
/-! E11: the lane of the law -/
namespace KL
open PySem PySem.Spec PyProof.Rows L2
theorem sb_put {H0 H1 : Hp} {r t : Addr} {o : HO} (e : SameBut r H0 H1) (n : H0 t = none) : SameBut r H0 (upd H1 t o) := fun b u h k => by
  rw [upd_ne (ne_of_none k n)]
  exact e b u h k
def Good1 (l : List Nat) : Prop := l.Pairwise (· < ·) ∧ (∀ c ∈ l, 97 ≤ c ∧ c ≤ 108) ∧ l.length ≤ 2
theorem lane_ok {ts : List (List Nat)} {M : Nat} {b : Int} (h : ∀ l ∈ ts, Good1 l) (e : ts.length = 2 * M - 1) (m1 : 1 ≤ M) (m8 : M ≤ 8) (b0 : 0 ≤ b) (b1 : b < (M : Int)) : LaneOk b ts := by
  refine ⟨by omega, by omega, b0, ?_, fun l m => (h l m).1, fun l m => (h l m).2.1, fun l m => by have := (h l m).2.2; omega⟩
  unfold roomsN
  omega
section
variable {P : Program} {w : World} {K : PySem.W.Frag} {mg : Str → Option Value} {base : Heap}
def spLane (K : PySem.W.Frag) : Sp := fun vs H Q _ => ∃ (r a : Addr) (ns : List Int) (m x y z : Int), vs = [.ref r, .int m] ∧ 0 < m ∧ m ≤ 8 ∧ H r = some (rowL a x y z) ∧ Scr K H r a ns ∧ RowOk x y ∧
  ∀ H' p b ts, LaneAt H' p b ts → LaneOk b ts → Q (.ref p) H'
theorem ok_lane {f f1 f2 : Addr} {fd fd1 fd2 : FuncData} {k : Nat} (F : Fun K "_law_lane" "_law_lane" sLane f fd) (N : Nn mg)
    (G1 : FnOk P w K mg base CX0 k f1 fd1 ["_law_row", "_law_many"] (spTaken K)) (b1 : Binds K fd1 ["_law_row", "_law_many"] []) (g1 : mg "_law_taken" = some (.ref f1)) (k1 : PySem.W.keepIn K (.ref f1) = true)
    (GL : FnOk P w K mg base CX0 k f2 fd2 ["_law_row", "_law_things"] (spPickL K)) (GS : FnOk P w K mg base CX0 k f2 fd2 ["_law_row", "_law_things"] (spPickS K)) (b2 : Binds K fd2 ["_law_row", "_law_things"] []) (g2 : mg "_law_pick" = some (.ref f2)) (k2 : PySem.W.keepIn K (.ref f2) = true) :
    FnOk P w K mg base CX0 (k + 1) f fd ["_law_row", "_law_most"] (spLane K) := by
  refine F.ok scLane (fun vs H Q E h => ?_) (fun cdv A outer s H vs Q E hr h => ?_)
  · obtain ⟨r, a, ns, m, x, y, z, rfl, _⟩ := h
    rfl
  · obtain ⟨r, a, ns, m, x, y, z, rfl, m0, m8, hR, hS, O, q⟩ := h
    refine ⟨_, pss_cons (ps_asg (pe_tup <| pa_cons (pe_op op_add pe_int (pe_call G1 hr (by rfl) g1 k1 b1 .nil pass0 <| pa_cons (pv 0) <| pa_cons (pv 1) pa_nil)) <|
          pa_cons (pe_op op_add pe_int (pe_call G1 hr (by rfl) g1 k1 b1 .nil pass0 <| pa_cons (pv 0) <| pa_cons pe_int pa_nil)) pa_nil)
        (pg_tup rfl <| pgs_cons (pg_name (i := 2) scLane.nd rfl (Or.inl rfl)) <| pgs_cons (pg_name (i := 3) scLane.nd rfl (Or.inr rfl)) pgs_nil)) <|
      pss_cons (ps_set (i := 4) scLane.nd rfl (Or.inl rfl) <| pe_lst pa_nil) <|
      pss_cons (ps_for PassesOwn.never rfl (pi_range1 (by rfl) N.range <| pa_cons (pe_op op_sub (pe_op op_mul pe_int (pv 2)) pe_int) pa_nil) (pg_name (i := 5) scLane.nd rfl (Or.inl rfl)) <|
        pss_cons (ps_setLc (i := 6) (own := [("_law_turn", 7)]) (g := gName 7) (tt := tYes) (te := tCall (spPickS K) [] E0 (tCons (tVar 0) (tCons (tSl rSlS (tC (.str "abcdefghijkl")) tNoPart (tPart (tVar 3))) tNil))) rfl scLane.nd rfl rfl
          (sw_true rfl rfl rfl (by decide +kernel)) (pi_range1 (by rfl) N.range <| pa_cons (pe_call GL hr (by rfl) g2 k2 b2 .nil pass0 <| pa_cons (pv 0) <| pa_cons (pe_lst <| pa_cons pe_int <| pa_cons pe_int <| pa_cons pe_int <| pa_cons pe_int <| pa_cons pe_int pa_nil) pa_nil) pa_nil)
          (blkOk_by (own := [("_law_turn", 7)]) (N := ["_law_row", "_law_most", "_law_many", "_law_kinds", "_law_things", "_law_at", "_law_thing", "_law_turn"]) (sc := defScope sLane) (by decide +kernel))
          (fun _ _ _ _ _ => pg_name (i := 7) scLane.nd rfl (Or.inl rfl)) (fun _ _ _ _ _ => pts_nil)
          (fun _ _ _ _ _ => pe_call GS hr (by rfl) g2 k2 b2 .nil pass0 <| pa_cons (pv 0) <| pa_cons (pe_slice sl_str pe_str po_none (po_some (pv 3))) pa_nil)) <|
        pss_one <| ps_expr <| pe_bm PySem.F.plainAttrs_list PySem.F.slot_list_append PySem.F.type_list_append mt_append (pv 4) <| pa_cons (pe_join pe_str (pe_callB (cr_sortTx rfl) (by rfl) N.sorted (by decide +kernel) <| pa_cons (pe_callTy (cr_setTx rfl) (by rfl) N.set (by decide +kernel) <| pa_cons (pv 6) pa_nil) pa_nil)) pa_nil) <|
      pss_one <| ps_ret <| pe_tup <| pa_cons (pe_call G1 hr (by rfl) g1 k1 b1 .nil pass0 <| pa_cons (pv 0) <| pa_cons (pv 2) pa_nil) <| pa_cons (pe_callTy call_tuple_of (by rfl) N.tuple (by decide +kernel) <| pa_cons (pv 4) pa_nil) pa_nil, ?_⟩
    have sLine : ∀ n : Nat, n ≤ 200 → n < sizeLine := fun n h => small16 (by omega)
    -- many, kinds
    refine ⟨_, rfl, _, rfl, r, a, ns, m, x, y, z, rfl, m0, by omega, hR, hS, O, fun u x y z u0 u1 O => ?_⟩
    refine ⟨_, _, rfl, rfl, ?_⟩
    refine ⟨_, rfl, r, a, ns, 6, x, y, z, rfl, by decide, by decide, upd_same, hS.mov sb_upd, O, fun v x y z v0 v1 O => ?_⟩
    rw [upd_upd]
    obtain ⟨M, eM⟩ : ∃ M : Nat, (1 : Int) + u = (M : Int) := ⟨(1 + u).toNat, by omega⟩
    obtain ⟨k, ek⟩ : ∃ k : Nat, (1 : Int) + v = (k : Int) := ⟨(1 + v).toNat, by omega⟩
    have M1 : 1 ≤ M := by omega
    have M8 : M ≤ 8 := by omega
    obtain ⟨kl, ekl, lkl, mkl⟩ := cut_kinds (k := k) (by omega) (by omega)
    refine ⟨_, _, rfl, rfl, by show 2 ≤ sizeLine; decide, fun T nT => ?_⟩
    have nTr : T ≠ r := fun e => by
      subst e
      rw [upd_same] at nT
      cases nT
    refine ⟨T, _, rfl, SqT.of upd_same, rfl, _, _, rfl, _, _, rfl, rfl, ?_⟩
    refine ⟨by show 0 ≤ sizeLine; exact Nat.zero_le _, fun t nt => ?_⟩
    have nT2 : H T = none := by
      rw [upd_ne nTr] at nT
      exact nT
    have hR0 : (upd (upd H r (rowL a x y z)) T (.tup [.int (1 + u), .int (1 + v)])) r = some (rowL a x y z) := by
      rw [upd_ne (Ne.symm nTr)]
      exact upd_same
    have hS0 : Scr K (upd (upd H r (rowL a x y z)) T (.tup [.int (1 + u), .int (1 + v)])) r a ns := hS.mov (sb_put sb_upd nT2)
    generalize (upd (upd H r (rowL a x y z)) T (.tup [.int (1 + u), .int (1 + v)])) = H0 at nt hR0 hS0 ⊢
    have ntr : t ≠ r := fun e => by
      subst e
      rw [nt] at hR0
      cases hR0
    refine ⟨_, rfl, _, _, rfl, rfl, .inl ⟨by decide, by decide⟩, _, _, rfl, rfl, _, rfl, by omega, by omega, ?_⟩
    have eN : ((2 : Int) * (1 + u) - 1).toNat = 2 * M - 1 := by omega
    refine for_range (lo := 0) (n := ((2 : Int) * (1 + u) - 1).toNat) (fun i σ H' => ∃ y5 y6 ts x y z, σ = [some (.ref r), some (.int m), some (.int (1 + u)), some (.int (1 + v)), some (.ref t), y5, y6, none] ∧ SameBut r H0 H' ∧ H' r = some (rowL a x y z) ∧ RowOk x y ∧
        H' t = some (.lst (ts.map fun l => V.str (tx l))) ∧ ts.length = i ∧ ∀ l ∈ ts, Good1 l)
      ⟨_, _, [], x, y, z, rfl, sb_put sb_refl nt, by rw [upd_ne (Ne.symm ntr)]; exact hR0, O, upd_same, rfl, fun l h => nomatch h⟩ ?_ ?_
    · rintro i σ H1 hi ⟨y5, y6, ts, x, y, z, rfl, s1, hR1, O1, ht, lt, gt⟩
      rw [eN] at hi
      have ekl2 : cutS "abcdefghijkl" none (some (1 + v)) = tx kl := by rw [ek, ekl]
      refine ⟨_, rfl, by show 5 ≤ sizeLine; decide, fun l nl => ?_⟩
      have nlr : l ≠ r := fun e => by
        subst e
        rw [nl] at hR1
        cases hR1
      have s2 : SameBut r H1 (upd H1 l (.lst [.int 0, .int 0, .int 1, .int 1, .int 2])) := sb_put sb_refl nl
      refine ⟨r, l, a, ns, [0, 0, 1, 1, 2], x, y, z, rfl, upd_same, nlr, by decide, by decide, by rw [upd_ne (Ne.symm nlr)]; exact hR1, (hS0.mov s1).mov s2, O1, fun v3 x y z hv3 O2 => ?_⟩
      have v30 : 0 ≤ v3 ∧ v3 ≤ 2 := by
        simp only [List.mem_cons, List.not_mem_nil, or_false] at hv3
        omega
      refine ⟨_, rfl, by omega, by omega, fun D nD => ?_⟩
      have s3 := s1.trans (s2.upd (o := rowL a x y z))
      have hR2 : (upd (upd H1 l (.lst [.int 0, .int 0, .int 1, .int 1, .int 2])) r (rowL a x y z)) r = some (rowL a x y z) := upd_same
      have ht2 : (upd (upd H1 l (.lst [.int 0, .int 0, .int 1, .int 1, .int 2])) r (rowL a x y z)) t = some (.lst (ts.map fun l => V.str (tx l))) := by
        rw [upd_ne ntr, upd_ne (ne_of_none ht nl)]
        exact ht
      generalize (upd (upd H1 l (.lst [.int 0, .int 0, .int 1, .int 1, .int 2])) r (rowL a x y z)) = H2 at nD s3 hR2 ht2 ⊢
      have nDr : r ≠ D := ne_of_none hR2 nD
      refine lc_range (lo := 0) (n := v3.toNat) (fun j H' => ∃ xs x y z, SameBut r H2 H' ∧ H' r = some (rowL a x y z) ∧ RowOk x y ∧ H' D = some (.lst (xs.map V.str)) ∧ xs.length = j ∧ ∀ x ∈ xs, One x)
        ⟨[], x, y, z, sb_put sb_refl nD, by rw [upd_ne nDr]; exact hR2, O2, upd_same, rfl, fun l h => nomatch h⟩ ?_ ?_
      · rintro j H3 hj ⟨xs, x, y, z, s4, hR3, O3, hD, lx, gx⟩
        refine ⟨rfl, yesT ?_⟩
        refine ⟨_, rfl, _, rfl, _, rfl, _, rfl, by rw [sizeLine_eq]; decide, ?_⟩
        refine ⟨r, a, ns, kl, x, y, z, by rw [ekl2]; rfl, by omega, by omega, hR3, (hS0.mov s3).mov s4, O3, fun c x y z hc O4 => ?_⟩
        refine ⟨xs.map V.str, by rw [upd_ne (Ne.symm nDr)]; exact hD, sLine _ (by rw [List.length_map]; omega), xs ++ [tx [c]], x, y, z, sb_put s4.upd nD, ?_, O4, ?_, ?_, fun u hu => ?_⟩
        · rw [upd_ne nDr]
          exact upd_same
        · rw [upd_same, List.map_append]
          rfl
        · rw [List.length_append, lx]
          rfl
        · rcases List.mem_append.mp hu with z | z
          · exact gx u z
          · have : u = tx [c] := by simpa using z
            exact ⟨c, (mkl c hc).1, (mkl c hc).2, this⟩
      · rintro H3 ⟨xs, x, y, z, s4, hR3, O3, hD, lx, gx⟩
        have ht3 := s4 _ _ ntr ht2
        refine ⟨_, rfl, .inl ⟨rfl, _, SqL.of ht3⟩, ⟨_, rfl⟩, _, rfl, D, xs, rfl, SqL.of hD, by omega, fun S nS => ?_⟩
        have la := addAll_len xs []
        have l0 : ([] : List Str).length = 0 := rfl
        refine ⟨S, _, rfl, upd_same, by omega, fun ys L hs pm nL => ?_⟩
        obtain ⟨jb, l2, ej, g1, g2, g3⟩ := join_lane "" rfl gx (by omega) pm hs
        have nSt : t ≠ S := ne_of_none ht3 nS
        have nSr : r ≠ S := ne_of_none hR3 nS
        have nLt : t ≠ L := ne_of_none (by rw [upd_ne nSt]; exact ht3) nL
        have nLr : r ≠ L := ne_of_none (by rw [upd_ne nSr]; exact hR3) nL
        refine ⟨"", L, ys, rfl, rfl, .inl (SqL.of upd_same), jb, t, ts.map fun l => V.str (tx l), _, rfl, rfl, ?_, ?_, ?_⟩
        · rw [upd_ne nLt, upd_ne nSt]
          exact ht3
        · exact sLine _ (by rw [List.length_map]; omega)
        · refine ⟨_, _, ts ++ [l2], x, y, z, rfl, ?_, ?_, O3, ?_, ?_, fun u hu => ?_⟩
          · exact sb_put ((s3.trans s4).trans ((sb_put sb_refl nS).trans (sb_put sb_refl nL))) nt
          · rw [upd_ne (Ne.symm ntr), upd_ne nLr, upd_ne nSr]
            exact hR3
          · rw [upd_same, ej, List.map_append]
            rfl
          · rw [List.length_append, lt]
            rfl
          · rcases List.mem_append.mp hu with z | z
            · exact gt u z
            · have : u = l2 := by simpa using z
              subst this
              exact ⟨g1, g2, g3⟩
    · rintro σ H1 ⟨y5, y6, ts, x, y, z, rfl, s1, hR1, O1, ht, lt, gt⟩
      rw [eN] at lt
      refine ⟨_, rfl, _, rfl, r, a, ns, _, x, y, z, rfl, by omega, by omega, hR1, hS0.mov s1, O1, fun b x' y' z' b0 b1 O2 => ?_⟩
      refine ⟨_, rfl, t, _, rfl, .inl ⟨SqL.of (by rw [upd_ne ntr]; exact ht), fun p2 np2 => ?_⟩⟩
      refine ⟨by show 2 ≤ sizeLine; decide, fun p np => ?_⟩
      exact q _ p b ts ⟨p2, upd_same, by rw [upd_ne (ne_of_none upd_same np)]; exact upd_same⟩ (lane_ok (M := M) gt lt M1 M8 b0 (by omega))
end
end KL

set_option Elab.async false
set_option linter.all false
set_option maxRecDepth 100000
set_option maxHeartbeats 8000000
/-! E12: the likeness of the law -/
namespace KL
open PySem PySem.Spec PyProof.Rows L2
def Alk : Nat → Hp → V → V → Prop
  | 0, _, v, w => ∃ i : Int, v = .int i ∧ w = .int i
  | d + 1, H, v, w => Alk d H v w ∨ ∃ p q xs ys, v = .ref p ∧ w = .ref q ∧ H p = some (.tup xs) ∧ H q = some (.tup ys) ∧ xs.length = ys.length ∧ ys.length ≤ 1000 ∧ ∀ (i : Nat) x y, xs[i]? = some x → ys[i]? = some y → Alk d H x y
theorem Alk.mov : ∀ {d : Nat} {H H' : Hp} {v w : V}, KT H H' → Alk d H v w → Alk d H' v w
  | 0, _, _, _, _, _, h => h
  | d + 1, _, _, _, _, e, h => by
    rcases h with h | ⟨p, q, xs, ys, h1, h2, h3, h4, h5, h6, h7⟩
    · exact .inl (h.mov e)
    · exact .inr ⟨p, q, xs, ys, h1, h2, e _ _ h3, e _ _ h4, h5, h6, fun i x y a b => (h7 i x y a b).mov e⟩
theorem alk_or : ∀ {d : Nat} {H : Hp} {v w : V}, Alk (d + 1) H v w → (∃ i : Int, v = .int i ∧ w = .int i) ∨ ∃ p q xs ys, v = .ref p ∧ w = .ref q ∧ H p = some (.tup xs) ∧ H q = some (.tup ys) ∧ xs.length = ys.length ∧ ys.length ≤ 1000 ∧ ∀ (i : Nat) x y, xs[i]? = some x → ys[i]? = some y → Alk d H x y
  | 0, _, _, _, h => h
  | d + 1, H, v, w, h => by
    rcases h with h | h
    · rcases alk_or h with h | ⟨p, q, xs, ys, h1, h2, h3, h4, h5, h6, h7⟩
      · exact .inl h
      · exact .inr ⟨p, q, xs, ys, h1, h2, h3, h4, h5, h6, fun i x y a b => .inl (h7 i x y a b)⟩
    · exact .inr h
theorem kit2 {K : PySem.W.Frag} {t a b : String} {r s : Bool} (h1 : kitB t a = some r) (h2 : kitB t b = some s) : PySem.W.kitAny K (.type t) [.type a, .type b] = some (r || s) := by
  cases r
  · refine kitAny_cons (kit_ty h1) (fun _ => ?_) (fun z => nomatch z)
    cases s
    · exact kitAny_cons (kit_ty h2) (fun _ => kitAny_nil) (fun z => nomatch z)
    · exact kitAny_cons (kit_ty h2) (fun z => nomatch z) (fun _ => rfl)
  · exact kitAny_cons (kit_ty h1) (fun z => nomatch z) (fun _ => rfl)
section
variable {P : Program} {w : World} {K : PySem.W.Frag} {mg : Str → Option Value} {base : Heap}
def spAl (d : Nat) : Sp := fun vs H Q _ => ∃ v w, vs = [v, w] ∧ Alk d H v w ∧ ∀ H', Same H H' → Q (.bl true) H'
theorem ok_al0 {f : Addr} {fd : FuncData} {k : Nat} (F : Fun K "_law_alike" "_law_alike" sAlike f fd) (N : Nn mg) : FnOk P w K mg base CX0 (k + 1) f fd ["_law_found", "_law_due"] (spAl 0) := by
  refine F.ok scAlike (fun vs H Q E h => ?_) (fun cdv A outer s H vs Q E hr h => ?_)
  · obtain ⟨v, w, rfl, _⟩ := h
    rfl
  · obtain ⟨v, w, rfl, ⟨i, rfl, rfl⟩, q⟩ := h
    refine ⟨_, pss_cons (ps_if (pt_val (pe_callB call_isiT (by rfl) N.isi (by decide +kernel) <| pa_cons (pv 1) <| pa_cons (pe_tup <| pa_cons (pe_bltn (v := .ty "tuple") (u := .type "tuple") (by rfl) N.tuple (by decide +kernel) rfl) <|
          pa_cons (pe_bltn (v := .ty "list") (u := .type "list") (by rfl) N.list (by decide +kernel) rfl) pa_nil) pa_nil)) pss_never pss_nil) <|
      pss_cons (ps_if (PW.pt (pw_or (pt_cmp (pc_isN (pv 1))) <| pw_or1 <| pt_val (pe_callB call_isi (by rfl) N.isi (by decide +kernel) <| pa_cons (pv 1) <| pa_cons (pe_bltn (v := .ty "str") (u := .type "str") (by rfl) N.str (by decide +kernel) rfl) pa_nil)))
        pss_never pss_nil) <|
      pss_one <| ps_ret <| pe_and (pe_callB call_isi (by rfl) N.isi (by decide +kernel) <| pa_cons (pv 0) <| pa_cons (pe_bltn (v := .ty "int") (u := .type "int") (by rfl) N.int (by decide +kernel) rfl) pa_nil) <|
        pe_and (pe_cmpR op_eq (pe_callB call_isi (by rfl) N.isi (by decide +kernel) <| pa_cons (pv 0) <| pa_cons (pe_bltn (v := .ty "bool") (u := .type "bool") (by rfl) N.bool (by decide +kernel) rfl) pa_nil)
            (pe_callB call_isi (by rfl) N.isi (by decide +kernel) <| pa_cons (pv 1) <| pa_cons (pe_bltn (v := .ty "bool") (u := .type "bool") (by rfl) N.bool (by decide +kernel) rfl) pa_nil) (nomark _)) <|
        pe_one <| pe_cmpR op_eq (pv 0) (pv 1) (nomark _), ?_⟩
    refine ⟨_, rfl, by show 2 ≤ sizeLine; decide, fun p np => ?_⟩
    refine ⟨_, p, _, _, _, false, rfl, upd_same, .cons (.ty _) (.cons (.ty _) .nil), .base (.int i), kit2 (t := "int") (a := "tuple") (b := "list") (r := false) (s := false) (by decide +kernel) (by decide +kernel), false, rfl, iteF ?_⟩
    refine ⟨_, rfl, false, rfl, iteF ?_⟩
    refine ⟨_, rfl, _, _, _, _, false, rfl, .ty _, .base (.int i), kit_ty (by decide +kernel), false, rfl, iteF ?_⟩
    refine ⟨_, rfl, _, _, _, _, true, rfl, .ty _, .base (.int i), kit_ty (by decide +kernel), true, rfl, iteT ?_⟩
    refine ⟨_, rfl, _, _, _, _, false, rfl, .ty _, .base (.int i), kit_ty (by decide +kernel), ?_⟩
    refine ⟨_, rfl, _, _, _, _, false, rfl, .ty _, .base (.int i), kit_ty (by decide +kernel), rfl, true, rfl, iteT ?_⟩
    refine ⟨_, rfl, _, rfl, rfl, ?_⟩
    rw [decide_eq_true rfl]
    exact q _ (sm_upd np)
theorem ok_alS {f : Addr} {fd : FuncData} {k d : Nat} (F : Fun K "_law_alike" "_law_alike" sAlike f fd) (N : Nn mg)
    (G : FnOk P w K mg base CX0 k f fd ["_law_found", "_law_due"] (spAl d)) (b1 : Binds K fd ["_law_found", "_law_due"] []) (g1 : mg "_law_alike" = some (.ref f)) (k1 : PySem.W.keepIn K (.ref f) = true) :
    FnOk P w K mg base CX0 (k + 1) f fd ["_law_found", "_law_due"] (spAl (d + 1)) := by
  refine F.ok scAlike (fun vs H Q E h => ?_) (fun cdv A outer s H vs Q E hr h => ?_)
  · obtain ⟨v, w, rfl, _⟩ := h
    rfl
  · obtain ⟨v, w, rfl, al, q⟩ := h
    refine ⟨_, pss_cons (ps_if (pt_val (pe_callB call_isiT (by rfl) N.isi (by decide +kernel) <| pa_cons (pv 1) <| pa_cons (pe_tup <| pa_cons (pe_bltn (v := .ty "tuple") (u := .type "tuple") (by rfl) N.tuple (by decide +kernel) rfl) <|
          pa_cons (pe_bltn (v := .ty "list") (u := .type "list") (by rfl) N.list (by decide +kernel) rfl) pa_nil) pa_nil))
        (pss_cons (ps_if (PW.pt (pw_or (pt_not (pt_val (pe_callB call_isiT (by rfl) N.isi (by decide +kernel) <| pa_cons (pv 0) <| pa_cons (pe_tup <| pa_cons (pe_bltn (v := .ty "tuple") (u := .type "tuple") (by rfl) N.tuple (by decide +kernel) rfl) <|
              pa_cons (pe_bltn (v := .ty "list") (u := .type "list") (by rfl) N.list (by decide +kernel) rfl) pa_nil) pa_nil))) <|
            pw_or1 <| pt_cmpR op_ne (pe_callB call_isi (by rfl) N.isi (by decide +kernel) <| pa_cons (pv 0) <| pa_cons (pe_bltn (v := .ty "list") (u := .type "list") (by rfl) N.list (by decide +kernel) rfl) pa_nil)
              (pe_callB call_isi (by rfl) N.isi (by decide +kernel) <| pa_cons (pv 1) <| pa_cons (pe_bltn (v := .ty "list") (u := .type "list") (by rfl) N.list (by decide +kernel) rfl) pa_nil) (nomark _)))
            pss_never pss_nil) <|
          pss_cons (ps_if (pt_cmpR op_ne (pe_callB call_len_seq (by rfl) N.len PySem.boot_len <| pa_cons (pv 0) pa_nil) (pe_callB call_len_seq (by rfl) N.len PySem.boot_len <| pa_cons (pv 1) pa_nil) (nomark _)) pss_never pss_nil) <|
          pss_one <| ps_ret <| pe_cmpR (op_eqD hr.units) (pe_lc (own := [("_law_k", 2)]) (g := gName 2) (tt := tNot (tB (tCall (spAl d) [] E0 (tCons (tOp (rIxT K) (tVar 0) (tVar 2)) (tCons (tOp (rIxT K) (tVar 1) (tVar 2)) tNil))))) (te := tVar 2) rfl scAlike.nd
            (pi_range1 (by rfl) N.range <| pa_cons (pe_callB call_len_seq (by rfl) N.len PySem.boot_len <| pa_cons (pv 1) pa_nil) pa_nil) (blkOk_by (own := [("_law_k", 2)]) (N := ["_law_found", "_law_due", "_law_k"]) (sc := defScope sAlike) (by decide +kernel))
            (fun _ _ _ _ _ => pg_name (i := 2) scAlike.nd rfl (Or.inl rfl))
            (fun _ _ _ _ _ => pts_one <| pt_not <| pt_val <| pe_call G hr (by rfl) g1 k1 b1 .nil pass0 <| pa_cons (pe_ix ix_tup (pv 0) (pv 2) (fun _ _ => rfl)) <| pa_cons (pe_ix ix_tup (pv 1) (pv 2) (fun _ _ => rfl)) pa_nil)
            (fun _ _ _ _ _ => pv 2)) (pe_lst pa_nil) (nomark _)) pss_nil) <|
      pss_cons (ps_if (PW.pt (pw_or (pt_cmp (pc_isN (pv 1))) <| pw_or1 <| pt_val (pe_callB call_isi (by rfl) N.isi (by decide +kernel) <| pa_cons (pv 1) <| pa_cons (pe_bltn (v := .ty "str") (u := .type "str") (by rfl) N.str (by decide +kernel) rfl) pa_nil)))
        pss_never pss_nil) <|
      pss_one <| ps_ret <| pe_and (pe_callB call_isi (by rfl) N.isi (by decide +kernel) <| pa_cons (pv 0) <| pa_cons (pe_bltn (v := .ty "int") (u := .type "int") (by rfl) N.int (by decide +kernel) rfl) pa_nil) <|
        pe_and (pe_cmpR op_eq (pe_callB call_isi (by rfl) N.isi (by decide +kernel) <| pa_cons (pv 0) <| pa_cons (pe_bltn (v := .ty "bool") (u := .type "bool") (by rfl) N.bool (by decide +kernel) rfl) pa_nil)
            (pe_callB call_isi (by rfl) N.isi (by decide +kernel) <| pa_cons (pv 1) <| pa_cons (pe_bltn (v := .ty "bool") (u := .type "bool") (by rfl) N.bool (by decide +kernel) rfl) pa_nil) (nomark _)) <|
        pe_one <| pe_cmpR op_eq (pv 0) (pv 1) (nomark _), ?_⟩
    rcases alk_or al with ⟨i, rfl, rfl⟩ | ⟨p, t, xs, ys, rfl, rfl, hp, ht, el, len, hall⟩
    · refine ⟨_, rfl, by show 2 ≤ sizeLine; decide, fun p np => ?_⟩
      refine ⟨_, p, _, _, _, false, rfl, upd_same, .cons (.ty _) (.cons (.ty _) .nil), .base (.int i), kit2 (t := "int") (a := "tuple") (b := "list") (r := false) (s := false) (by decide +kernel) (by decide +kernel), false, rfl, iteF ?_⟩
      refine ⟨_, rfl, false, rfl, iteF ?_⟩
      refine ⟨_, rfl, _, _, _, _, false, rfl, .ty _, .base (.int i), kit_ty (by decide +kernel), false, rfl, iteF ?_⟩
      refine ⟨_, rfl, _, _, _, _, true, rfl, .ty _, .base (.int i), kit_ty (by decide +kernel), true, rfl, iteT ?_⟩
      refine ⟨_, rfl, _, _, _, _, false, rfl, .ty _, .base (.int i), kit_ty (by decide +kernel), ?_⟩
      refine ⟨_, rfl, _, _, _, _, false, rfl, .ty _, .base (.int i), kit_ty (by decide +kernel), rfl, true, rfl, iteT ?_⟩
      refine ⟨_, rfl, _, rfl, rfl, ?_⟩
      rw [decide_eq_true rfl]
      exact q _ (sm_upd np)
    · refine ⟨_, rfl, by show 2 ≤ sizeLine; decide, fun a na => ?_⟩
      have s1 : Same H (upd H a (.tup [.ty "tuple", .ty "list"])) := sm_upd na
      refine ⟨_, a, _, _, _, true, rfl, upd_same, .cons (.ty _) (.cons (.ty _) .nil), .base (.tup (s1 _ _ ht)), kit2 (t := "tuple") (a := "tuple") (b := "list") (r := true) (s := false) (by decide +kernel) (by decide +kernel), true, rfl, iteT ?_⟩
      refine ⟨_, rfl, by show 2 ≤ sizeLine; decide, fun a2 na2 => ?_⟩
      have s2 := s1.trans (sm_upd (o := .tup [.ty "tuple", .ty "list"]) na2)
      refine ⟨_, a2, _, _, _, true, rfl, upd_same, .cons (.ty _) (.cons (.ty _) .nil), .base (.tup (s2 _ _ hp)), kit2 (t := "tuple") (a := "tuple") (b := "list") (r := true) (s := false) (by decide +kernel) (by decide +kernel), true, rfl, iteF ?_⟩
      generalize (upd (upd H a (.tup [.ty "tuple", .ty "list"])) a2 (.tup [.ty "tuple", .ty "list"])) = H2 at s2 ⊢
      have hp2 := s2 _ _ hp
      have ht2 := s2 _ _ ht
      refine ⟨_, rfl, _, _, _, _, false, rfl, .ty _, .base (.tup hp2), kit_ty (by decide +kernel), ?_⟩
      refine ⟨_, rfl, _, _, _, _, false, rfl, .ty _, .base (.tup ht2), kit_ty (by decide +kernel), rfl, false, rfl, iteF ?_⟩
      refine ⟨_, rfl, p, xs, rfl, .inr (SqT.of hp2), _, rfl, t, ys, rfl, .inr (SqT.of ht2), rfl, false, by rw [el, decide_eq_true rfl]; rfl, iteF ?_⟩
      refine ⟨_, rfl, t, ys, rfl, .inr (SqT.of ht2), _, rfl, by omega, by omega, fun D nD => ?_⟩
      refine lc_range (lo := 0) (n := (ys.length : Int).toNat) (fun j H' => Same H2 H' ∧ H' D = some (.lst [])) ⟨sm_upd nD, upd_same⟩ (fun i H3 hi hP => ?_) (fun H3 hP => ?_)
      · obtain ⟨s3, hD⟩ := hP
        rw [Int.toNat_natCast] at hi
        have gx : xs[i]? = some xs[i] := List.getElem?_eq_getElem (by omega)
        have gy : ys[i]? = some ys[i] := List.getElem?_eq_getElem hi
        have s23 := s2.trans s3
        refine ⟨rfl, ?_⟩
        refine ⟨_, rfl, _, rfl, p, xs, _, _, rfl, rfl, SqT.of (s3 _ _ hp2), at_of (j := i) (by omega) gx, ?_⟩
        refine ⟨_, rfl, _, rfl, t, ys, _, _, rfl, rfl, SqT.of (s3 _ _ ht2), at_of (j := i) (by omega) gy, ?_⟩
        exact ⟨_, _, rfl, (hall i _ _ gx gy).mov (KT.of s23), fun H4 s4 => ⟨true, rfl, iteF ⟨s3.trans s4, s4 _ _ hD⟩⟩⟩
      · obtain ⟨s3, hD⟩ := hP
        refine ⟨by show 0 ≤ sizeLine; exact Nat.zero_le _, fun e ne => ?_⟩
        refine ⟨.list [], .list [], .lst (SqL.of (sm_upd ne _ _ hD)) .nil, .lst (SqL.of upd_same) .nil, rfl, rfl, ?_⟩
        exact q _ ((s2.trans s3).trans (sm_upd ne))
end
end KL

set_option Elab.async false
set_option linter.all false
set_option maxRecDepth 100000
set_option maxHeartbeats 4000000
/-! M6: what the law's own loops hold -/
namespace KL
open PySem PySem.Spec PyProof.Rows L2
theorem pickMin_snoc (g : List Int → Bool) (b : List Int) : ∀ (l : List (List Int)) (o : Option (List Int)), pickMin g (l ++ [b]) o = pickMin g [b] (pickMin g l o)
  | [], o => rfl
  | c :: l, o => by
    rw [List.cons_append]
    unfold pickMin
    rw [pickMin_snoc g b l]
    rfl
noncomputable def goodL (ts : List (List Nat)) : List Int → Bool := fun b => decide (b.length ≤ 6) && good ts b
def BestAt (H : Hp) (v : V) : Option (List Int) → Prop
  | none => v = .non
  | some b => ∃ q c, v = .ref q ∧ H q = some (.tup [.int (b.length : Int), .ref c]) ∧ H c = some (.tup (b.map V.int))
theorem BestAt.mov {H H' : Hp} {v : V} : ∀ {o : Option (List Int)}, KT H H' → BestAt H v o → BestAt H' v o
  | none, _, h => h
  | some b, e, ⟨q, c, h1, h2, h3⟩ => ⟨q, c, h1, e _ _ h2, e _ _ h3⟩
theorem dp_pair {K : PySem.W.Frag} {H : Hp} {q c : Addr} {b : List Int} (h : H q = some (.tup [.int (b.length : Int), .ref c])) (hc : H c = some (.tup (b.map V.int))) : Dp K H (.ref q) (dPair b) :=
  .tup (SqT.of h) (.cons (.int _) (.cons (dp_tup hc) .nil))
theorem alk_ints {H : Hp} {v w : V} {b : List Int} (h1 : TupAt H v b) (h2 : TupAt H w b) (l : b.length ≤ 1000) : Alk 1 H v w := by
  obtain ⟨p, rfl, hp⟩ := h1
  obtain ⟨q, rfl, hq⟩ := h2
  refine .inr ⟨p, q, _, _, rfl, rfl, hp, hq, rfl, by rw [List.length_map]; exact l, fun i x y hx hy => ?_⟩
  rw [List.getElem?_map] at hx hy
  cases e : b[i]? with
  | none =>
    rw [e] at hx
    cases hx
  | some n =>
    rw [e] at hx hy
    exact ⟨n, (Option.some.inj hx).symm, (Option.some.inj hy).symm⟩
theorem alk_best {H : Hp} {p q c d : Addr} {M : Int} {b : List Int} (h1 : H p = some (.tup [.int M, .ref c])) (h2 : H q = some (.tup [.int M, .ref d])) (hc : H c = some (.tup (b.map V.int))) (hd : H d = some (.tup (b.map V.int))) (l : b.length ≤ 1000) : Alk 2 H (.ref p) (.ref q) := by
  refine .inr ⟨p, q, _, _, rfl, rfl, h1, h2, rfl, by show 2 ≤ 1000; omega, fun i x y hx hy => ?_⟩
  match i, hx, hy with
  | 0, hx, hy => exact .inl ⟨M, (Option.some.inj hx).symm, (Option.some.inj hy).symm⟩
  | 1, hx, hy =>
    obtain rfl := Option.some.inj hx
    obtain rfl := Option.some.inj hy
    exact alk_ints ⟨c, rfl, hc⟩ ⟨d, rfl, hd⟩ l
  | i + 2, hx, hy => simp at hx
theorem alk_prs {H : Hp} {p q : Addr} {us vs : List V} {bs : List (List Int)} (h1 : H p = some (.tup us)) (h2 : H q = some (.tup vs)) (t1 : TupsAt H us bs) (t2 : TupsAt H vs bs) (l : bs.length ≤ 1000) (k : ∀ b ∈ bs, b.length ≤ 1000) : Alk 2 H (.ref p) (.ref q) := by
  refine .inr ⟨p, q, _, _, rfl, rfl, h1, h2, by rw [t1.1, t2.1], by rw [t2.1]; exact l, fun i x y hx hy => ?_⟩
  obtain ⟨hi, h3⟩ := t1.get hx
  obtain ⟨_, h4⟩ := t2.get hy
  exact alk_ints h3 h4 (k _ (List.getElem_mem hi))
noncomputable def alones (ts : List (List Nat)) (n : Nat) : List (List Int) := (List.range n).map fun (i : Nat) => seenL ts [(i : Int)]
theorem alones_succ (ts : List (List Nat)) (i : Nat) : alones ts (i + 1) = alones ts i ++ [seenL ts [(i : Int)]] := by
  unfold alones
  rw [List.range_succ, List.map_append]
  rfl
theorem alones_len (ts : List (List Nat)) (n : Nat) : (alones ts n).length = n := by
  unfold alones
  rw [List.length_map, List.length_range]
theorem alones_at (ts : List (List Nat)) {n i : Nat} (h : i < n) : (alones ts n)[i]? = some (seenL ts [(i : Int)]) := by
  unfold alones
  rw [List.getElem?_map, List.getElem?_range h]
  rfl
theorem cnts_alones (ts : List (List Nat)) (i : Nat) : cnts ts (i + 1) = cnts ts i ++ [((seenL ts [(i : Int)]).length : Int)] := cnts_succ ts i
theorem prs_in {ts : List (List Nat)} {n : Nat} : ∀ b ∈ prs ts n, b.length = 2 := fun b hb => by
  unfold prs at hb
  obtain ⟨i, _, hi⟩ := List.mem_flatMap.mp hb
  unfold prsOf at hi
  obtain ⟨x, _, rfl⟩ := List.mem_map.mp hi
  rfl
theorem pw_tail_get {n i : Nat} {b : List Int} (h : (pw n).tail[i]? = some b) : Asc n b ∧ 1 ≤ b.length := by
  obtain ⟨t, et, ht⟩ := pw_cons n
  have hm := List.mem_of_getElem? h
  rw [et] at hm
  refine ⟨mem_pw.mp (by rw [et]; exact List.mem_cons_of_mem _ hm), List.length_pos_iff.mpr (ht b hm)⟩
theorem pw_asc {n i : Nat} {b : List Int} (h : (pw n)[i]? = some b) : Asc n b := mem_pw.mp (List.mem_of_getElem? h)
theorem TupsAt.tail {H : Hp} {us : List V} {bs : List (List Int)} (h : TupsAt H us bs) : TupsAt H us.tail bs.tail := by
  refine ⟨by rw [List.length_tail, List.length_tail, h.1], fun i v hv => ?_⟩
  rw [List.getElem?_tail] at hv
  obtain ⟨b, h1, h2⟩ := h.2 _ v hv
  exact ⟨b, by rw [List.getElem?_tail]; exact h1, h2⟩
theorem cut_tail (us : List V) : cutV us (some 1) none = us.tail := by
  unfold cutV
  rw [show HT.sIx us.length 0 (some 1) = min 1 us.length from HT.sIx_nat us.length 0 1, HT.sIx_none]
  cases us with
  | nil => rfl
  | cons x r =>
    have e : min 1 (x :: r).length = 1 := by
      rw [List.length_cons]
      omega
    rw [e]
    show List.take ((x :: r).length - 1) r = r
    rw [List.take_of_length_le (by simp)]
theorem pick_skip {g : List Int → Bool} {b : List Int} {l : List (List Int)} {o : Option (List Int)} (h : g b = false) : pickMin g (l ++ [b]) o = pickMin g l o := by
  rw [pickMin_snoc]
  show pickMin g [] (if g b = true then _ else pickMin g l o) = _
  rw [h, if_neg (by decide)]
  rfl
theorem pick_none {g : List Int → Bool} {b : List Int} {l : List (List Int)} {o : Option (List Int)} (h : g b = true) (k : pickMin g l o = none) : pickMin g (l ++ [b]) o = some b := by
  rw [pickMin_snoc, k]
  show pickMin g [] (if g b = true then some b else none) = _
  rw [if_pos h]
  rfl
theorem pick_some {g : List Int → Bool} {b c : List Int} {l : List (List Int)} {o : Option (List Int)} (h : g b = true) (k : pickMin g l o = some c) : pickMin g (l ++ [b]) o = if ltB b c = true then some b else some c := by
  rw [pickMin_snoc, k]
  show pickMin g [] (if g b = true then (if ltB b c = true then some b else some c) else some c) = _
  rw [if_pos h]
  rfl
theorem asc_le {n : Nat} {b : List Int} (h : Asc n b) : b.length ≤ n := by
  have := asc_len h.1 h.2
  omega
theorem first_asc {n : Nat} {g : List Int → Bool} {f : List Int} (h : First n g f) : Asc n f := by
  obtain ⟨k, pre, post, _, e, _⟩ := h
  exact (mem_bs.mp (by rw [e]; simp : f ∈ bs n k)).1
theorem pow8 {i : Nat} (h : i ≤ 8) : 2 ^ i ≤ 256 := Nat.pow_le_pow_right (by decide) h
/-- best is not None and not alike(found, best[1]) or best is None and len(found) < 7 -/
noncomputable def t7 (K : PySem.W.Frag) : TT := tOr (tAnd (tB (tNotN (tVar 5))) (tNot (tB (tCall (spAl 1) [] E0 (tCons (tVar 8) (tCons (tOp (rIxT K) (tVar 5) (tC (.int 1))) tNil)))))) (tAnd (tB (tIsN (tVar 5))) (tTest (tOp (rI0 fun i j => .bl (decide (i < j))) (tCB (rLen K) (tCons (tVar 8) tNil)) (tC (.int 7)))))
theorem t7_at {K : PySem.W.Frag} {σ : L2.St} {H : Hp} {Q : Bool → Hp → Prop} {v : V} {c : Addr} {f : List Int} {o : Option (List Int)} (h5 : σ[5]? = some (some v)) (h8 : σ[8]? = some (some (.ref c))) (hc : H c = some (.tup (f.map V.int))) (l : f.length ≤ 1000)
    (B : BestAt H v o) (h1 : o = none → 7 ≤ f.length) (h2 : ∀ b, o = some b → f = b) (h : ∀ H', Same H H' → Q false H') : t7 K σ H Q := by
  cases o with
  | none =>
    obtain rfl : v = .non := B
    have l7 := h1 rfl
    refine ⟨_, h5, false, rfl, iteF ?_⟩
    refine iteF ?_
    refine ⟨_, h5, true, rfl, iteT ?_⟩
    refine ⟨_, h8, c, _, rfl, .inr (SqT.of hc), _, _, rfl, rfl, false, ?_, h _ (Same.refl _)⟩
    rw [List.length_map]
    show V.bl (decide ((f.length : Int) < 7)) = _
    rw [decide_eq_false (by omega)]
  | some b =>
    obtain ⟨q, d, rfl, hq, hd⟩ := B
    obtain rfl := h2 b rfl
    refine ⟨_, h5, true, rfl, iteT ?_⟩
    refine ⟨_, h8, _, h5, q, _, 1, _, rfl, rfl, SqT.of hq, atI_nat (j := 1) rfl, ?_⟩
    refine ⟨_, _, rfl, alk_ints ⟨c, rfl, hc⟩ ⟨d, rfl, hd⟩ l, fun H' s => ⟨true, rfl, iteF ?_⟩⟩
    exact ⟨_, h5, false, rfl, iteF (h _ s)⟩
end KL

set_option Elab.async false
set_option linter.all false
set_option maxRecDepth 100000
set_option maxHeartbeats 8000000
/-! E13: the law -/
namespace KL
open PySem PySem.Spec PyProof.Rows L2
section
variable {P : Program} {w : World} {K : PySem.W.Frag} {mg : Str → Option Value} {base : Heap}
def spLaw (K : PySem.W.Frag) : Sp := fun vs H Q _ => ∃ (a : Addr) (ns : List Int), vs = [.ref a] ∧ SqL K H a (ns.map V.int) ∧ ∀ H', Q (.bl true) H'
theorem ok_law {f f1 f2 f3 f4 f5 f6 : Addr} {fd fd1 fd2 fd3 fd4 fd5 fd6 : FuncData} {k : Nat} (F : Fun K "law" "law" sLaw f fd) (N : Nn mg)
    (G1 : FnOk P w K mg base CX0 k f1 fd1 ["_law_row", "_law_most"] (spLane K)) (b1 : Binds K fd1 ["_law_row", "_law_most"] []) (g1 : mg "_law_lane" = some (.ref f1)) (k1 : PySem.W.keepIn K (.ref f1) = true)
    (G2 : FnOk P w K mg base CX0 k f2 fd2 ["lane", "begins"] spSeen) (b2 : Binds K fd2 ["lane", "begins"] []) (g2 : mg "seen" = some (.ref f2)) (k2 : PySem.W.keepIn K (.ref f2) = true)
    (G3 : FnOk P w K mg base CX0 k f3 fd3 ["lane"] spFewest) (b3 : Binds K fd3 ["lane"] []) (g3 : mg "fewest_begins" = some (.ref f3)) (k3 : PySem.W.keepIn K (.ref f3) = true)
    (GA : FnOk P w K mg base CX0 k f4 fd4 ["_law_found", "_law_due"] (spAl 1)) (GB : FnOk P w K mg base CX0 k f4 fd4 ["_law_found", "_law_due"] (spAl 2)) (b4 : Binds K fd4 ["_law_found", "_law_due"] []) (g4 : mg "_law_alike" = some (.ref f4)) (k4 : PySem.W.keepIn K (.ref f4) = true)
    (G5 : FnOk P w K mg base CX0 k f5 fd5 ["lane"] spBest) (b5 : Binds K fd5 ["lane"] []) (g5 : mg "best_begins" = some (.ref f5)) (k5 : PySem.W.keepIn K (.ref f5) = true)
    (G6 : FnOk P w K mg base CX0 k f6 fd6 ["lane"] spPairs) (b6 : Binds K fd6 ["lane"] []) (g6 : mg "entered_pairs" = some (.ref f6)) (k6 : PySem.W.keepIn K (.ref f6) = true) :
    FnOk P w K mg base CX0 (k + 1) f fd ["_law_script"] (spLaw K) := by
  refine F.ok scLaw (fun vs H Q E h => ?_) (fun cdv A outer s H vs Q E hr h => ?_)
  · obtain ⟨a, ns, rfl, _⟩ := h
    rfl
  · obtain ⟨a, ns, rfl, hS, q⟩ := h
    refine ⟨_, pss_cons (ps_set (i := 1) scLaw.nd rfl (Or.inl rfl) <| pe_lst <| pa_cons (pv 0) <| pa_cons pe_int <| pa_cons pe_int <| pa_cons pe_int pa_nil) <|
      pss_cons (ps_set (i := 2) scLaw.nd rfl (Or.inr rfl) <| pe_call G1 hr (by rfl) g1 k1 b1 .nil pass0 <| pa_cons (pv 1) <| pa_cons pe_int pa_nil) <|
      pss_cons (ps_set (i := 3) scLaw.nd rfl (Or.inl rfl) <| pe_op op_add (pe_op op_fdivN (pe_callB call_len_seq (by rfl) N.len PySem.boot_len (pa_cons (pe_ix ix_tup (pv 2) pe_int (fun _ _ => rfl)) pa_nil)) pe_int) pe_int) <|
      pss_cons (ps_par (i := 4) (j := 5) rfl scLaw.nd rfl rfl (by decide) rfl rfl (pa_cons (pe_lst <| pa_cons (pe_tup pa_nil) pa_nil) <| pa_cons pe_non pa_nil) rfl) <|
      pss_cons (ps_for PassesOwn.never rfl (pi_range1 (by rfl) N.range <| pa_cons (pv 3) pa_nil) (pg_name (i := 6) scLaw.nd rfl (Or.inr rfl)) <|
        pss_one <| ps_set (i := 4) scLaw.nd rfl (Or.inl rfl) <| pe_op op_cat (pv 4) <| pe_lc (own := [("_law_one", 12)]) (g := gName 12) (tt := tYes) (te := tOp (rCatA K) (tVar 12) (tTup (tCons (tVar 6) tNil))) rfl scLaw.nd
          (pi_list (pv 4)) (blkOk_by (own := [("_law_one", 12)]) (N := ["_law_script", "_law_row", "_law_lane_here", "_law_many", "_law_sets", "_law_best", "_law_room", "_law_begins", "_law_found", "_law_alone", "_law_most", "_law_pairs", "_law_one", "_law_rooms", "_law_there"]) (sc := defScope sLaw) (by decide +kernel))
          (fun _ _ _ _ _ => pg_name (i := 12) scLaw.nd rfl (Or.inl rfl)) (fun _ _ _ _ _ => pts_nil)
          (fun _ _ _ _ _ => pe_op op_catA (pv 12) (pe_tup <| pa_cons (pv 6) pa_nil))) <|
      pss_cons (ps_for PassesOwn.never rfl (pi_list <| pe_slice sl_list (pv 4) (po_some pe_int) po_none) (pg_name (i := 7) scLaw.nd rfl (Or.inl rfl)) <|
        pss_one <| ps_if (PW.pt (pw_and (pt_cmpR op_le (pe_callB call_len_seq (by rfl) N.len PySem.boot_len <| pa_cons (pv 7) pa_nil) pe_int (nomark _)) <| pw_and1 <|
            pt_cmpR op_eq (pe_callB call_len_seq (by rfl) N.len PySem.boot_len <| pa_cons (pe_call G2 hr (by rfl) g2 k2 b2 .nil pass0 <| pa_cons (pv 2) <| pa_cons (pv 7) pa_nil) pa_nil) (pv 3) (nomark _)))
          (pss_one <| ps_set (i := 5) scLaw.nd rfl (Or.inl rfl) <| pe_ifExp (PW.pt (pw_or (pt_cmp (pc_isN (pv 5))) <| pw_or1 <| pt_cmpR (op_ltD hr.units) (pe_tup <| pa_cons (pe_callB call_len_seq (by rfl) N.len PySem.boot_len <| pa_cons (pv 7) pa_nil) <| pa_cons (pv 7) pa_nil) (pv 5) (nomark _)))
            (pe_tup <| pa_cons (pe_callB call_len_seq (by rfl) N.len PySem.boot_len <| pa_cons (pv 7) pa_nil) <| pa_cons (pv 7) pa_nil) (pv 5)) pss_nil) <|
      pss_cons (ps_set (i := 8) scLaw.nd rfl (Or.inl rfl) <| pe_call G3 hr (by rfl) g3 k3 b3 .nil pass0 <| pa_cons (pv 2) pa_nil) <|
      pss_cons (ps_if (PW.pt (pw_or (PW.pt (pw_and (pt_cmp (pc_notN (pv 5))) <| pw_and1 <| pt_not <| pt_val <| pe_call GA hr (by rfl) g4 k4 b4 .nil pass0 <| pa_cons (pv 8) <| pa_cons (pe_ix ix_tup (pv 5) pe_int (fun _ _ => rfl)) pa_nil)) <| pw_or1 <|
          PW.pt (pw_and (pt_cmp (pc_isN (pv 5))) <| pw_and1 <| pt_cmpR op_lt (pe_callB call_len_seq (by rfl) N.len PySem.boot_len <| pa_cons (pv 8) pa_nil) pe_int (nomark _)))) pss_never pss_nil) <|
      pss_cons (ps_set (i := 9) scLaw.nd rfl (Or.inr rfl) <| pe_lc (own := [("_law_room", 6)]) (g := gName 6) (tt := tYes) (te := tCall spSeen [] E0 (tCons (tVar 2) (tCons (tTup (tCons (tVar 6) tNil)) tNil))) rfl scLaw.nd
          (pi_range1 (by rfl) N.range <| pa_cons (pv 3) pa_nil) (blkOk_by (own := [("_law_room", 6)]) (N := ["_law_script", "_law_row", "_law_lane_here", "_law_many", "_law_sets", "_law_best", "_law_room", "_law_begins", "_law_found", "_law_alone", "_law_most", "_law_pairs", "_law_one", "_law_rooms", "_law_there"]) (sc := defScope sLaw) (by decide +kernel))
          (fun _ _ _ _ _ => pg_name (i := 6) scLaw.nd rfl (Or.inl rfl)) (fun _ _ _ _ _ => pts_nil)
          (fun _ _ _ _ _ => pe_call G2 hr (by rfl) g2 k2 b2 .nil pass0 <| pa_cons (pv 2) <| pa_cons (pe_tup <| pa_cons (pv 6) pa_nil) pa_nil)) <|
      pss_cons (ps_set (i := 10) scLaw.nd rfl (Or.inr rfl) <| pe_callB (cr_max rfl) (by rfl) N.max (by decide +kernel) <| pa_cons (pe_lc (own := [("_law_rooms", 13)]) (g := gName 13) (tt := tYes) (te := tCB (rLen K) (tCons (tVar 13) tNil)) rfl scLaw.nd
          (pi_list (pv 9)) (blkOk_by (own := [("_law_rooms", 13)]) (N := ["_law_script", "_law_row", "_law_lane_here", "_law_many", "_law_sets", "_law_best", "_law_room", "_law_begins", "_law_found", "_law_alone", "_law_most", "_law_pairs", "_law_one", "_law_rooms", "_law_there"]) (sc := defScope sLaw) (by decide +kernel))
          (fun _ _ _ _ _ => pg_name (i := 13) scLaw.nd rfl (Or.inl rfl)) (fun _ _ _ _ _ => pts_nil)
          (fun _ _ _ _ _ => pe_callB call_len_seq (by rfl) N.len PySem.boot_len <| pa_cons (pv 13) pa_nil)) pa_nil) <|
      pss_cons (ps_if (pt_not <| pt_val <| pe_call GB hr (by rfl) g4 k4 b4 .nil pass0 <| pa_cons (pe_call G5 hr (by rfl) g5 k5 b5 .nil pass0 <| pa_cons (pv 2) pa_nil) <| pa_cons (pe_tup <| pa_cons (pv 10) <|
          pa_cons (pe_callTy call_tuple_of (by rfl) N.tuple (by decide +kernel) <| pa_cons (pe_lc (own := [("_law_room", 6)]) (g := gName 6) (tt := tTest (tOp rEq (tCB (rLen K) (tCons (tOp (rIxL K) (tVar 9) (tVar 6)) tNil)) (tVar 10))) (te := tVar 6) rfl scLaw.nd
            (pi_range1 (by rfl) N.range <| pa_cons (pv 3) pa_nil) (blkOk_by (own := [("_law_room", 6)]) (N := ["_law_script", "_law_row", "_law_lane_here", "_law_many", "_law_sets", "_law_best", "_law_room", "_law_begins", "_law_found", "_law_alone", "_law_most", "_law_pairs", "_law_one", "_law_rooms", "_law_there"]) (sc := defScope sLaw) (by decide +kernel))
            (fun _ _ _ _ _ => pg_name (i := 6) scLaw.nd rfl (Or.inl rfl)) (fun _ _ _ _ _ => pts_one <| pt_cmpR op_eq (pe_callB call_len_seq (by rfl) N.len PySem.boot_len <| pa_cons (pe_ix ix_list (pv 9) (pv 6) (fun _ _ => rfl)) pa_nil) (pv 10) (nomark _))
            (fun _ _ _ _ _ => pv 6)) pa_nil) pa_nil) pa_nil) pss_never pss_nil) <|
      pss_cons (ps_set (i := 11) scLaw.nd rfl (Or.inl rfl) <| pe_lst pa_nil) <|
      pss_cons (ps_for PassesOwn.never rfl (pi_range1 (by rfl) N.range <| pa_cons (pv 3) pa_nil) (pg_name (i := 6) scLaw.nd rfl (Or.inr rfl)) <|
        pss_one <| ps_set (i := 11) scLaw.nd rfl (Or.inl rfl) <| pe_op op_cat (pv 11) <| pe_lc (own := [("_law_there", 14)]) (g := gName 14) (tt := tTest (tOp rNe (tVar 14) (tVar 6))) (te := tTup (tCons (tVar 6) (tCons (tVar 14) tNil))) rfl scLaw.nd
          (pi_tup <| pe_ix ix_list (pv 9) (pv 6) (fun _ _ => rfl)) (blkOk_by (own := [("_law_there", 14)]) (N := ["_law_script", "_law_row", "_law_lane_here", "_law_many", "_law_sets", "_law_best", "_law_room", "_law_begins", "_law_found", "_law_alone", "_law_most", "_law_pairs", "_law_one", "_law_rooms", "_law_there"]) (sc := defScope sLaw) (by decide +kernel))
          (fun _ _ _ _ _ => pg_name (i := 14) scLaw.nd rfl (Or.inl rfl)) (fun _ _ _ _ _ => pts_one <| pt_cmpR op_ne (pv 14) (pv 6) (nomark _))
          (fun _ _ _ _ _ => pe_tup <| pa_cons (pv 6) <| pa_cons (pv 14) pa_nil)) <|
      pss_one <| ps_ret <| pe_call GB hr (by rfl) g4 k4 b4 .nil pass0 <| pa_cons (pe_call G6 hr (by rfl) g6 k6 b6 .nil pass0 <| pa_cons (pv 2) pa_nil) <| pa_cons (pe_callTy call_tuple_of (by rfl) N.tuple (by decide +kernel) <| pa_cons (pv 11) pa_nil) pa_nil, ?_⟩
    have sLine : ∀ n : Nat, n ≤ 1000 → n < sizeLine := fun n h => small16 (by omega)
    -- row
    refine ⟨_, rfl, by show 4 ≤ sizeLine; decide, fun rr nrr => ?_⟩
    -- lane
    refine ⟨_, rfl, rr, a, ns, 8, 0, 4771, 0, rfl, by decide, by decide, upd_same, (Scr.of hS nrr).mov sb_upd, ⟨by decide, by decide, by decide⟩, fun H1 p b ts hL O => ?_⟩
    have rooms8 : roomsN ts ≤ 8 := by
      have s := O.small
      unfold roomsN
      omega
    have rooms1 : 1 ≤ roomsN ts := by
      unfold roomsN
      omega
    -- many
    obtain ⟨lc, hl1, hl2⟩ := id hL
    refine ⟨_, rfl, p, _, 1, _, rfl, rfl, SqT.of hl1, atI_nat (j := 1) rfl, lc, _, rfl, .inr (SqT.of hl2), _, _, rfl, rfl, ⟨by decide, by decide⟩, _, _, rfl, rfl, ?_⟩
    have eM : (((ts.map fun l => V.str (tx l)).length : Nat) : Int).fdiv 2 + 1 = (roomsN ts : Int) := by
      rw [List.length_map, Int.fdiv_eq_ediv_of_nonneg _ (by decide)]
      unfold roomsN
      omega
    dsimp only
    rw [eM]
    -- sets, best
    refine ⟨by show 0 ≤ sizeLine; exact Nat.zero_le _, fun e0 ne0 => ?_⟩
    refine ⟨by show 1 ≤ sizeLine; decide, fun r0 nr0 => ?_⟩
    refine ⟨_, _, rfl, ?_⟩
    have sA : Same H1 (upd (upd H1 e0 (.tup [])) r0 (.lst [.ref e0])) := (sm_upd ne0).trans (sm_upd nr0)
    have hA : (upd (upd H1 e0 (.tup [])) r0 (.lst [.ref e0])) r0 = some (.lst [.ref e0]) := upd_same
    have hE : (upd (upd H1 e0 (.tup [])) r0 (.lst [.ref e0])) e0 = some (.tup []) := sm_upd nr0 _ _ upd_same
    generalize (upd (upd H1 e0 (.tup [])) r0 (.lst [.ref e0])) = HA at sA hA hE ⊢
    have hLA := hL.mov sA
    -- all sets
    refine ⟨_, rfl, _, rfl, by omega, by omega, ?_⟩
    refine for_range (lo := 0) (n := (roomsN ts : Int).toNat) (fun i σ H' => ∃ y6 r us, σ = [some (.ref a), some (.ref rr), some (.ref p), some (.int (roomsN ts : Int)), some (.ref r), some .non, y6, none, none, none, none, none, none, none, none] ∧ Same HA H' ∧ H' r = some (.lst us) ∧ TupsAt H' us (pw i))
      ⟨_, r0, [.ref e0], rfl, Same.refl _, hA, TupsAt.nil.snoc (v := .ref e0) (b := []) ⟨e0, rfl, hE⟩⟩ ?_ ?_
    · rintro i σ H2 hi ⟨y6, r, us, rfl, s2, hr2, T2⟩
      rw [Int.toNat_natCast] at hi
      have e00 : (0 : Int) + (i : Nat) = (i : Int) := Int.zero_add _
      rw [e00]
      have lus : us.length ≤ 256 := by
        have := pow8 (i := i) (by omega)
        rw [T2.1, pw_len]
        exact this
      refine ⟨_, rfl, _, rfl, r, rfl, ⟨_, SqL.of hr2⟩, fun D nD => ?_⟩
      refine lc_list (xs := us) (fun j H' => Same H2 H' ∧ ∃ ws, H' D = some (.lst ws) ∧ TupsAt H' ws (((pw i).take j).map fun b => b ++ [(i : Int)]) ∧ ws.length = j)
        ⟨sm_upd nD, [], upd_same, TupsAt.nil, rfl⟩ (fun j H' hj hP => SqL.of (hP.1 _ _ hr2)) (fun j x H3 hx hP => ?_) (fun H3 hP => ?_)
      · obtain ⟨s3, ws, hD, T3, l3⟩ := hP
        obtain ⟨hj, c, rfl, hc⟩ := (T2.mov (KT.of s3)).get hx
        have gB : (pw i)[j]? = some (pw i)[j] := List.getElem?_eq_getElem hj
        generalize (pw i)[j] = B at gB hc
        have lB := asc_le (pw_asc gB)
        have lj : j < us.length := by
          rw [T2.1]
          exact hj
        have fin : ∀ H4 v, Same H3 H4 → TupAt H4 v (B ++ [(i : Int)]) → ∃ acc, H4 D = some (.lst acc) ∧ acc.length < sizeLine ∧ (Same H2 (upd H4 D (.lst (acc ++ [v]))) ∧
            ∃ ws, upd H4 D (.lst (acc ++ [v])) D = some (.lst ws) ∧ TupsAt (upd H4 D (.lst (acc ++ [v]))) ws (((pw i).take (j + 1)).map fun b => b ++ [(i : Int)]) ∧ ws.length = j + 1) := fun H4 v s4 hv => by
          have hD4 := s4 _ _ hD
          have kt : KT H4 (upd H4 D (.lst (ws ++ [v]))) := KT.lst hD4
          refine ⟨ws, hD4, sLine _ (by omega), ?_, ws ++ [v], upd_same, ?_, ?_⟩
          · intro d o z
            rw [upd_ne (ne_of_none z nD)]
            exact s4 _ _ (s3 _ _ z)
          · rw [List.take_add_one, gB, List.map_append]
            exact (T3.mov ((KT.of s4).trans kt)).snoc (hv.mov kt)
          · rw [List.length_append, l3]
            rfl
        refine ⟨rfl, yesT ?_⟩
        refine ⟨_, rfl, _, rfl, by show 1 ≤ sizeLine; decide, fun t nt => ?_⟩
        have st : Same H3 (upd H3 t (.tup [.int (i : Int)])) := sm_upd nt
        refine ⟨c, t, _, _, rfl, rfl, SqT.of (st _ _ hc), SqT.of upd_same, ?_, fun e => ?_, (fun _ z => nomatch z), fun _ _ u nu => ?_⟩
        · rw [List.length_map, sizeLine_eq]
          show B.length + 1 ≤ _
          omega
        · have eB : B = [] := List.map_eq_nil_iff.mp e
          subst eB
          exact fin _ _ st ⟨t, rfl, upd_same⟩
        · refine fin _ _ (st.trans (sm_upd nu)) ⟨u, rfl, ?_⟩
          rw [upd_same, List.map_append]
          rfl
      · obtain ⟨s3, ws, hD, T3, l3⟩ := hP
        rw [T2.1, List.take_length] at T3
        refine ⟨r, D, us, ws, rfl, rfl, s3 _ _ hr2, hD, Nat.le_of_lt (sLine _ (by omega)), fun r2 nr2 => ?_⟩
        have sr := sm_upd (o := .lst (us ++ ws)) nr2
        exact ⟨_, r2, us ++ ws, rfl, (s2.trans s3).trans sr, upd_same, ((T2.mov (KT.of s3)).app T3).mov (KT.of sr)⟩
    rintro σ H2 ⟨y6, r, us, rfl, s2, hr2, T2⟩
    rw [Int.toNat_natCast] at T2
    -- the best
    refine ⟨_, rfl, _, rfl, r, us, rfl, SqL.of hr2, fun r2 nr2 => ?_⟩
    rw [cut_tail]
    have sB0 : Same H2 (upd H2 r2 (.lst us.tail)) := sm_upd nr2
    have hB : (upd H2 r2 (.lst us.tail)) r2 = some (.lst us.tail) := upd_same
    generalize (upd H2 r2 (.lst us.tail)) = HB at sB0 hB ⊢
    have TB := (T2.mov (KT.of sB0)).tail
    have sB := (sA.trans s2).trans sB0
    refine ⟨r2, rfl, ⟨_, SqL.of hB⟩, ?_⟩
    refine for_list (xs := us.tail) (fun i σ H' => ∃ v5 y7, σ = [some (.ref a), some (.ref rr), some (.ref p), some (.int (roomsN ts : Int)), some (.ref r), some v5, y6, y7, none, none, none, none, none, none, none] ∧ Same HB H' ∧ BestAt H' v5 (pickMin (goodL ts) ((pw (roomsN ts)).tail.take i) none))
      ⟨_, _, rfl, Same.refl _, rfl⟩ (fun i σ H' hi hP => let ⟨_, _, _, sm, _⟩ := hP; SqL.of (sm _ _ hB)) ?_ ?_
    · rintro i x σ H3 hx ⟨v5, y7, rfl, s3, B5⟩
      obtain ⟨hi, c, rfl, hc⟩ := (TB.mov (KT.of s3)).get hx
      have gB : (pw (roomsN ts)).tail[i]? = some (pw (roomsN ts)).tail[i] := List.getElem?_eq_getElem hi
      generalize (pw (roomsN ts)).tail[i] = B at gB hc
      obtain ⟨aB, l1⟩ := pw_tail_get gB
      have tk : (pw (roomsN ts)).tail.take (i + 1) = (pw (roomsN ts)).tail.take i ++ [B] := by
        rw [List.take_add_one, gB]
        rfl
      refine ⟨_, rfl, c, _, rfl, .inr (SqT.of hc), _, _, rfl, rfl, _, rfl, ite2 (fun e => ?_) fun e => ?_⟩
      · have l6 : B.length ≤ 6 := by
          have e2 := of_decide_eq_true e
          rw [List.length_map] at e2
          omega
        refine ⟨_, rfl, _, rfl, p, b, ts, c, B, rfl, hL.mov (sB.trans s3), O, hc, l1, l6, aB, fun H4 r4 s4 nr4 hr4 sees => ?_⟩
        have hc4 := s4 _ _ hc
        have B4 := B5.mov (KT.of s4)
        refine ⟨r4, _, rfl, .inr (SqT.of hr4), _, rfl, rfl, _, rfl, ite2 (fun e => ?_) fun e => ?_⟩
        · have e2 := V.int.inj (of_decide_eq_true e)
          rw [List.length_map] at e2
          have gd : goodL ts B = true := by
            unfold goodL good
            rw [decide_eq_true l6, Bool.true_and]
            exact decide_eq_true (by omega)
          have put : ∀ H5 q, Same H4 H5 → H5 q = some (.tup [.int (B.length : Int), .ref c]) → BestAt H5 (.ref q) (some B) := fun H5 q s5 hq => ⟨q, c, rfl, hq, s5 _ _ hc4⟩
          have el : ((B.map V.int).length : Int) = (B.length : Int) := by rw [List.length_map]
          cases eo : pickMin (goodL ts) ((pw (roomsN ts)).tail.take i) none with
          | none =>
            rw [eo] at B4
            obtain rfl : v5 = .non := B4
            refine ⟨_, rfl, true, rfl, iteT (iteT ?_)⟩
            refine ⟨_, rfl, c, _, rfl, .inr (SqT.of hc4), _, rfl, by show 2 ≤ sizeLine; decide, fun q nq => ?_⟩
            refine ⟨_, _, rfl, (s3.trans s4).trans (sm_upd nq), ?_⟩
            rw [tk, pick_none gd eo]
            refine put _ _ (sm_upd nq) ?_
            rw [upd_same, el]
          | some C =>
            rw [eo] at B4
            obtain ⟨q0, c0, rfl, hq0, hc0⟩ := B4
            refine ⟨_, rfl, false, rfl, iteF ?_⟩
            refine ⟨_, rfl, c, _, rfl, .inr (SqT.of hc4), _, rfl, by show 2 ≤ sizeLine; decide, fun q nq => ?_⟩
            have s5 := sm_upd (o := .tup [.int ((B.map V.int).length : Int), .ref c]) nq
            have hq : (upd H4 q (.tup [.int ((B.map V.int).length : Int), .ref c])) q = some (.tup [.int (B.length : Int), .ref c]) := by rw [upd_same, el]
            generalize (upd H4 q (.tup [.int ((B.map V.int).length : Int), .ref c])) = H5 at s5 hq ⊢
            refine ⟨_, rfl, dPair B, dPair C, dp_pair hq (s5 _ _ hc4), dp_pair (s5 _ _ hq0) (s5 _ _ hc0), alike_pair _ _, (fun z => nomatch z), by rw [dPair_depth, dPair_depth]; decide, _, rfl, ite2 (fun e => ?_) fun e => ?_⟩
            · rw [lt_pair] at e
              refine ⟨_, rfl, c, _, rfl, .inr (SqT.of (s5 _ _ hc4)), _, rfl, by show 2 ≤ sizeLine; decide, fun q2 nq2 => ?_⟩
              refine ⟨_, _, rfl, ((s3.trans s4).trans s5).trans (sm_upd nq2), ?_⟩
              rw [tk, pick_some gd eo, if_pos e]
              refine put _ _ (s5.trans (sm_upd nq2)) ?_
              rw [upd_same, el]
            · rw [lt_pair] at e
              refine ⟨_, rfl, _, _, rfl, (s3.trans s4).trans s5, ?_⟩
              rw [tk, pick_some gd eo, if_neg e]
              exact ⟨q0, c0, rfl, s5 _ _ hq0, s5 _ _ hc0⟩
        · refine ⟨_, _, rfl, s3.trans s4, ?_⟩
          have gd : goodL ts B = false := by
            unfold goodL good
            rw [decide_eq_false (fun z : (seenL ts B).length = roomsN ts => e (decide_eq_true (by rw [List.length_map, z]))), Bool.and_false]
          rw [tk, pick_skip gd]
          exact B4
      · refine iteF ⟨_, _, rfl, s3, ?_⟩
        have gd : goodL ts B = false := by
          unfold goodL
          rw [decide_eq_false (fun z : B.length ≤ 6 => e (decide_eq_true (by rw [List.length_map]; omega))), Bool.false_and]
        rw [tk, pick_skip gd]
        exact B5
    rintro σ H3 ⟨v5, y7, rfl, s3, B5⟩
    have eT : (pw (roomsN ts)).tail.take us.tail.length = (pw (roomsN ts)).tail := by rw [TB.1, List.take_length]
    rw [eT] at B5
    have sC := sB.trans s3
    -- fewest
    refine ⟨_, rfl, p, b, ts, rfl, hL.mov sC, O, fun H4 rf fb s4 hrf first => ?_⟩
    obtain ⟨fl1, fl2⟩ := first_law first
    have lf := asc_le (first_asc first)
    refine t7_at (K := K) (v := v5) (c := rf) (f := fb) rfl rfl hrf (by omega) (B5.mov (KT.of s4)) fl1 fl2 fun H5 s5 => iteF ?_
    have sD := (sC.trans s4).trans s5
    -- alone
    have hLD := hL.mov sD
    refine ⟨_, rfl, _, rfl, by omega, by omega, fun D nD => ?_⟩
    refine lc_range (lo := 0) (n := (roomsN ts : Int).toNat) (fun i H' => Same H5 H' ∧ ∃ ws, H' D = some (.lst ws) ∧ TupsAt H' ws (alones ts i) ∧ ∀ j : Nat, j < i → Sees ts [(j : Int)] (seenL ts [(j : Int)]))
      ⟨sm_upd nD, [], upd_same, TupsAt.nil, fun j h => absurd h (Nat.not_lt_zero j)⟩ (fun i H6 hi hP => ?_) (fun H6 hP => ?_)
    · obtain ⟨s6, ws, hD, T6, S6⟩ := hP
      rw [Int.toNat_natCast] at hi
      have e00 : (0 : Int) + (i : Nat) = (i : Int) := Int.zero_add _
      rw [e00]
      refine ⟨rfl, yesT ?_⟩
      refine ⟨_, rfl, _, rfl, by show 1 ≤ sizeLine; decide, fun t nt => ?_⟩
      have st : Same H6 (upd H6 t (.tup [.int (i : Int)])) := sm_upd nt
      refine ⟨p, b, ts, t, [(i : Int)], rfl, hLD.mov (s6.trans st), O, upd_same, Nat.le_refl 1, by show 1 ≤ 6; omega, one_asc hi, fun H7 r7 s7 nr7 hr7 sees => ?_⟩
      have s67 := st.trans s7
      have hD7 := s67 _ _ hD
      have kt : KT H7 (upd H7 D (.lst (ws ++ [.ref r7]))) := KT.lst hD7
      have lw : ws.length = i := by rw [T6.1, alones_len]
      refine ⟨ws, hD7, sLine _ (by omega), ?_, ws ++ [.ref r7], upd_same, ?_, fun j hj => ?_⟩
      · intro d o z
        rw [upd_ne (ne_of_none z nD)]
        exact s67 _ _ (s6 _ _ z)
      · rw [alones_succ]
        exact (T6.mov ((KT.of s67).trans kt)).snoc (TupAt.mov kt ⟨r7, rfl, hr7⟩)
      · by_cases e : j = i
        · subst e
          exact sees
        · exact S6 j (by omega)
    obtain ⟨s6, ws, hD, T6, S6⟩ := hP
    rw [Int.toNat_natCast] at T6 S6
    have sE := sD.trans s6
    have lw : ws.length = roomsN ts := by rw [T6.1, alones_len]
    have aw : ∀ i : Nat, i < roomsN ts → ∃ c, ws[i]? = some (.ref c) ∧ H6 c = some (.tup ((seenL ts [(i : Int)]).map V.int)) := fun i hi => by
      have g : ws[i]? = some ws[i] := List.getElem?_eq_getElem (by omega)
      obtain ⟨b2, h1, c, h2, h3⟩ := T6.2 i _ g
      rw [alones_at ts hi] at h1
      obtain rfl := Option.some.inj h1
      exact ⟨c, by rw [g, h2], h3⟩
    -- most
    refine ⟨_, rfl, D, rfl, ⟨_, SqL.of hD⟩, fun D2 nD2 => ?_⟩
    refine lc_list (xs := ws) (fun i H' => Same H6 H' ∧ H' D2 = some (.lst ((cnts ts i).map V.int))) ⟨sm_upd nD2, upd_same⟩ (fun i H' hi hP => SqL.of (hP.1 _ _ hD)) (fun i x H7 hx hP => ?_) (fun H7 hP => ?_)
    · obtain ⟨s7, hD2⟩ := hP
      obtain ⟨hi, c, rfl, hc⟩ := T6.get hx
      rw [alones_len] at hi
      obtain ⟨c2, g, hc2⟩ := aw i hi
      rw [g] at hx
      obtain rfl := V.ref.inj (Option.some.inj hx)
      refine ⟨rfl, yesT ?_⟩
      refine ⟨_, rfl, c2, _, rfl, .inr (SqT.of (s7 _ _ hc2)), _, hD2, ?_, ?_, ?_⟩
      · rw [List.length_map, cnts_len]
        exact sLine _ (by omega)
      · intro d o z
        rw [upd_ne (ne_of_none z nD2)]
        exact s7 _ _ z
      · rw [upd_same, cnts_succ, List.map_append, List.length_map]
        rfl
    obtain ⟨s7, hD2⟩ := hP
    rw [lw] at hD2
    refine ⟨D2, _, rfl, SqL.of hD2, by rw [cnts_len]; omega, fun M hM hMle => ?_⟩
    have sF := sE.trans s7
    -- best_begins
    refine ⟨_, rfl, p, b, ts, rfl, hL.mov sF, O, fun H8 r8 r82 M2 s8 hr8 hr82 hM2 hMle2 => ?_⟩
    have eM2 : M2 = M := max_uniq hM2 hMle2 hM hMle
    subst eM2
    refine ⟨_, rfl, _, rfl, _, rfl, by omega, by omega, fun D3 nD3 => ?_⟩
    refine lc_range (lo := 0) (n := (roomsN ts : Int).toNat) (fun i H' => Same H8 H' ∧ H' D3 = some (.lst ((idxs ts M2 i).map V.int))) ⟨sm_upd nD3, upd_same⟩ (fun i H9 hi hP => ?_) (fun H9 hP => ?_)
    · obtain ⟨s9, hD3⟩ := hP
      rw [Int.toNat_natCast] at hi
      have e00 : (0 : Int) + (i : Nat) = (i : Int) := Int.zero_add _
      rw [e00]
      obtain ⟨c, g, hc⟩ := aw i hi
      have s69 := (s7.trans s8).trans s9
      refine ⟨rfl, ?_⟩
      refine ⟨_, rfl, _, rfl, D, ws, _, _, rfl, rfl, SqL.of (s69 _ _ hD), at_of (j := i) rfl g, c, _, rfl, .inr (SqT.of (s69 _ _ hc)), _, rfl, rfl, _, rfl, ite2 (fun e => ?_) fun e => ?_⟩
      · have e2 : cnt ts i = M2 := by
          have := V.int.inj (of_decide_eq_true e)
          rw [List.length_map] at this
          exact this
        refine ⟨_, rfl, (idxs ts M2 i).map V.int, hD3, ?_, ?_, ?_⟩
        · rw [List.length_map]
          have := idxs_len ts M2 i
          exact sLine _ (by omega)
        · intro d o z
          rw [upd_ne (ne_of_none z nD3)]
          exact s9 _ _ z
        · rw [upd_same, idxs_succ, if_pos e2, List.map_append]
          rfl
      · have e2 : ¬ cnt ts i = M2 := fun z => e (decide_eq_true (by rw [List.length_map]; exact congrArg V.int z))
        refine ⟨s9, ?_⟩
        rw [hD3, idxs_succ, if_neg e2, List.append_nil]
    obtain ⟨s9, hD3⟩ := hP
    rw [Int.toNat_natCast] at hD3
    refine ⟨D3, _, rfl, .inl ⟨SqL.of hD3, fun u nu => ?_⟩⟩
    refine ⟨by show 2 ≤ sizeLine; decide, fun v nv => ?_⟩
    have s9u := s9.trans (sm_upd (o := .tup ((idxs ts M2 (roomsN ts)).map V.int)) nu)
    have li := idxs_len ts M2 (roomsN ts)
    refine ⟨_, _, rfl, alk_best ((s9u.trans (sm_upd nv)) _ _ hr8) upd_same ((s9u.trans (sm_upd nv)) _ _ hr82) (sm_upd nv _ _ upd_same) (by omega), fun H10 s10 => ⟨true, rfl, iteF ?_⟩⟩
    have s6A := ((s7.trans s8).trans (s9u.trans (sm_upd nv))).trans s10
    have sG := sE.trans s6A
    -- pairs
    refine ⟨by show 0 ≤ sizeLine; exact Nat.zero_le _, fun f0 nf0 => ?_⟩
    have s0f := s6A.trans (sm_upd (o := .lst []) nf0)
    refine ⟨_, rfl, _, rfl, by omega, by omega, ?_⟩
    refine for_range (lo := 0) (n := (roomsN ts : Int).toNat) (fun i σ H' => ∃ y6 rp us, σ = [some (.ref a), some (.ref rr), some (.ref p), some (.int (roomsN ts : Int)), some (.ref r), some v5, y6, y7, some (.ref rf), some (.ref D), some (.int M2), some (.ref rp), none, none, none] ∧ Same H6 H' ∧ H' rp = some (.lst us) ∧ TupsAt H' us (prs ts i) ∧ us.length ≤ 8 * i)
      ⟨_, f0, [], rfl, s0f, upd_same, TupsAt.nil, Nat.zero_le _⟩ ?_ ?_
    · rintro i σ H11 hi ⟨y6, rp, us2, rfl, s1, hr1, T1, l1⟩
      rw [Int.toNat_natCast] at hi
      have e00 : (0 : Int) + (i : Nat) = (i : Int) := Int.zero_add _
      rw [e00]
      obtain ⟨c, g, hc⟩ := aw i hi
      obtain ⟨lr, ll⟩ := sees_rng (S6 i hi) (one_asc hi)
      refine ⟨_, rfl, _, rfl, _, rfl, D, ws, _, _, rfl, rfl, SqL.of (s1 _ _ hD), at_of (j := i) rfl g, c, rfl, ⟨_, SqT.of (s1 _ _ hc)⟩, fun D4 nD4 => ?_⟩
      refine lc_tup (xs := (seenL ts [(i : Int)]).map V.int) (fun j H' => Same H11 H' ∧ ∃ ws, H' D4 = some (.lst ws) ∧ TupsAt H' ws ((((seenL ts [(i : Int)]).take j).filter fun x => !decide (x = (i : Int))).map fun x => [(i : Int), x]) ∧ ws.length ≤ j)
        ⟨sm_upd nD4, [], upd_same, TupsAt.nil, Nat.zero_le _⟩ (fun j H' hj hP => SqT.of (hP.1 _ _ (s1 _ _ hc))) (fun j x H3 hx hP => ?_) (fun H3 hP => ?_)
      · obtain ⟨s3, ws3, hD3, T3, l3⟩ := hP
        rw [List.getElem?_map] at hx
        have hj : j < (seenL ts [(i : Int)]).length := by
          rcases Nat.lt_or_ge j (seenL ts [(i : Int)]).length with h | h
          · exact h
          · rw [List.getElem?_eq_none h] at hx
            cases hx
        have gx : (seenL ts [(i : Int)])[j]? = some (seenL ts [(i : Int)])[j] := List.getElem?_eq_getElem hj
        rw [gx] at hx
        generalize (seenL ts [(i : Int)])[j] = y at gx hx
        obtain rfl : V.int y = x := Option.some.inj hx
        refine ⟨rfl, _, rfl, _, rfl, rfl, _, rfl, ite2 (fun e => ?_) fun e => ?_⟩
        · have ne : ¬ y = (i : Int) := fun z => by
            subst z
            rw [decide_eq_true rfl] at e
            cases e
          refine ⟨_, rfl, _, rfl, by show 2 ≤ sizeLine; decide, fun t2 nt2 => ?_⟩
          have nDt : D4 ≠ t2 := ne_of_none hD3 nt2
          refine ⟨ws3, by rw [upd_ne nDt]; exact hD3, sLine _ (by omega), ?_, ws3 ++ [.ref t2], upd_same, ?_, ?_⟩
          · intro d o z
            rw [upd_ne (ne_of_none z nD4), upd_ne (ne_of_none (s3 _ _ z) nt2)]
            exact s3 _ _ z
          · have kt : KT H3 (upd (upd H3 t2 (.tup [.int (i : Int), .int y])) D4 (.lst (ws3 ++ [.ref t2]))) := (KT.of (sm_upd nt2)).trans (KT.lst (us := ws3) (by rw [upd_ne nDt]; exact hD3))
            have q2 := (T3.mov kt).snoc (v := .ref t2) (b := [(i : Int), y]) ⟨t2, rfl, by rw [upd_ne nDt.symm, upd_same]; rfl⟩
            rw [List.take_add_one, gx, List.filter_append, List.map_append]
            have fe : (Option.some y).toList.filter (fun x => !decide (x = (i : Int))) = [y] := by simp [ne]
            rw [fe]
            exact q2
          · rw [List.length_append, List.length_singleton]
            omega
        · have eq : y = (i : Int) := by
            by_cases h : y = (i : Int)
            · exact h
            · exact absurd (by rw [decide_eq_false (fun z => h (V.int.inj z))]; rfl) e
          refine ⟨s3, ws3, hD3, ?_, by omega⟩
          rw [List.take_add_one, gx, List.filter_append, List.map_append]
          have fe : (Option.some y).toList.filter (fun x => !decide (x = (i : Int))) = [] := by simp [eq]
          rw [fe, List.map_nil, List.append_nil]
          exact T3
      · obtain ⟨s3, ws3, hD3, T3, l3⟩ := hP
        rw [List.length_map] at l3
        rw [List.length_map, List.take_length] at T3
        have hr3 := s3 _ _ hr1
        refine ⟨rp, D4, us2, ws3, rfl, rfl, hr3, hD3, Nat.le_of_lt (sLine _ (by omega)), fun r2 nr2 => ?_⟩
        refine ⟨_, r2, us2 ++ ws3, rfl, (s1.trans s3).trans (sm_upd nr2), upd_same, ?_, ?_⟩
        · rw [prs_succ]
          exact ((T1.mov (KT.of s3)).app T3).mov (KT.of (sm_upd nr2))
        · rw [List.length_append]
          omega
    · rintro σ H11 ⟨y6, rp, us2, rfl, s1, hr1, T1, l1⟩
      rw [Int.toNat_natCast] at T1 l1
      refine ⟨_, rfl, p, b, ts, rfl, hL.mov (sE.trans s1), O, fun H12 r12 us3 s12 hr12 T12 => ?_⟩
      refine ⟨_, rfl, rp, _, rfl, .inl ⟨SqL.of (s12 _ _ hr1), fun u nu => ?_⟩⟩
      have su := sm_upd (o := .tup us2) nu
      exact ⟨_, _, rfl, alk_prs (su _ _ hr12) upd_same (T12.mov (KT.of su)) (T1.mov (KT.of (s12.trans su))) (by rw [← T1.1]; omega) (fun b hb => by rw [prs_in b hb]; decide), fun H13 s13 => q _⟩
end
end KL

set_option Elab.async false
set_option linter.all false
set_option maxRecDepth 100000
set_option maxHeartbeats 8000000
/-! E14: what the top has left -/
namespace KL
open PySem PySem.Spec PyProof.Rows L2
theorem all_mk {l : PySem.W.OpenLaw} {w : World} {K : PySem.W.Frag} {h : Heap} {mg : Str → Option Value} {fa f_isInt f_isIn f_isSet f_needLane f_rooms f_needB f_from f_seen f_bsets f_fewest f_best f_pairs f_taken f_pick f_alike f_lane f_law : Addr} (X : K.In h) (G : h.Ns mainGlobals mg) (hfa : mg "law" = some (.ref fa))
    {od0 an0 od1 an1 od2 an2 od3 an3 od4 an4 od5 an5 od6 an6 od7 an7 od8 an8 od9 an9 od10 an10 od11 an11 od12 an12 od13 an13 od14 an14 od15 an15 od16 an16 : Option Addr} {sl0 sl1 sl2 sl3 sl4 sl5 sl6 sl7 sl8 sl9 sl10 sl11 sl12 sl13 sl14 sl15 sl16 : Array (Option Value)} {oc0 kV0 dc0 pm0 cd0 ct0 oc1 kV1 dc1 pm1 cd1 ct1 oc2 kV2 dc2 pm2 cd2 ct2 oc3 kV3 dc3 pm3 cd3 ct3 oc4 kV4 dc4 pm4 cd4 ct4 oc5 kV5 dc5 pm5 cd5 ct5 oc6 kV6 dc6 pm6 cd6 ct6 oc7 kV7 dc7 pm7 cd7 ct7 oc8 kV8 dc8 pm8 cd8 ct8 oc9 kV9 dc9 pm9 cd9 ct9 oc10 kV10 dc10 pm10 cd10 ct10 oc11 kV11 dc11 pm11 cd11 ct11 oc12 kV12 dc12 pm12 cd12 ct12 oc13 kV13 dc13 pm13 cd13 ct13 oc14 kV14 dc14 pm14 cd14 ct14 oc15 kV15 dc15 pm15 cd15 ct15 oc16 kV16 dc16 pm16 cd16 ct16 : Value} {tK1 tK2 tK3 tK4 : Tok}
    (n_isInt : PySem.W.nsIn K mainGlobals "is_int" = some (some (.ref f_isInt))) (l_isInt : K.lookup f_isInt = some ⟨oc0, od0, .func (PySem.W.fnOf "is_int" "is_int" (defArgs sIsInt) (defBody sIsInt) (defScope sIsInt) .none kV0 dc0 pm0 an0 cd0 ct0), sl0⟩) (c_isInt : PySem.W.codeIn K cd0 "is_int" = true) (k_isInt : PySem.W.keepIn K (.ref f_isInt) = true)
    (n_isIn : PySem.W.nsIn K mainGlobals "is_in" = some (some (.ref f_isIn))) (l_isIn : K.lookup f_isIn = some ⟨oc1, od1, .func (PySem.W.fnOf "is_in" "is_in" (defArgs sIsIn) (defBody sIsIn) (defScope sIsIn) .none kV1 dc1 pm1 an1 cd1 ct1), sl1⟩) (c_isIn : PySem.W.codeIn K cd1 "is_in" = true) (k_isIn : PySem.W.keepIn K (.ref f_isIn) = true)
    (n_isSet : PySem.W.nsIn K mainGlobals "is_set" = some (some (.ref f_isSet))) (l_isSet : K.lookup f_isSet = some ⟨oc2, od2, .func (PySem.W.fnOf "is_set" "is_set" (defArgs sIsSet) (defBody sIsSet) (defScope sIsSet) .none kV2 dc2 pm2 an2 cd2 ct2), sl2⟩) (c_isSet : PySem.W.codeIn K cd2 "is_set" = true) (k_isSet : PySem.W.keepIn K (.ref f_isSet) = true)
    (n_needLane : PySem.W.nsIn K mainGlobals "need_lane" = some (some (.ref f_needLane))) (l_needLane : K.lookup f_needLane = some ⟨oc3, od3, .func (PySem.W.fnOf "need_lane" "need_lane" (defArgs sNeedLane) (defBody sNeedLane) (defScope sNeedLane) .none kV3 dc3 pm3 an3 cd3 ct3), sl3⟩) (c_needLane : PySem.W.codeIn K cd3 "need_lane" = true) (k_needLane : PySem.W.keepIn K (.ref f_needLane) = true)
    (n_rooms : PySem.W.nsIn K mainGlobals "rooms_of" = some (some (.ref f_rooms))) (l_rooms : K.lookup f_rooms = some ⟨oc4, od4, .func (PySem.W.fnOf "rooms_of" "rooms_of" (defArgs sRooms) (defBody sRooms) (defScope sRooms) .none kV4 dc4 pm4 an4 cd4 ct4), sl4⟩) (c_rooms : PySem.W.codeIn K cd4 "rooms_of" = true) (k_rooms : PySem.W.keepIn K (.ref f_rooms) = true)
    (n_needB : PySem.W.nsIn K mainGlobals "need_begins" = some (some (.ref f_needB))) (l_needB : K.lookup f_needB = some ⟨oc5, od5, .func (PySem.W.fnOf "need_begins" "need_begins" (defArgs sNeedB) (defBody sNeedB) (defScope sNeedB) .none kV5 dc5 pm5 an5 cd5 ct5), sl5⟩) (c_needB : PySem.W.codeIn K cd5 "need_begins" = true) (k_needB : PySem.W.keepIn K (.ref f_needB) = true)
    (n_from : PySem.W.nsIn K mainGlobals "seen_from" = some (some (.ref f_from))) (l_from : K.lookup f_from = some ⟨oc6, od6, .func (PySem.W.fnOf "seen_from" "seen_from" (defArgs sFrom) (defBody sFrom) (defScope sFrom) .none kV6 dc6 pm6 an6 cd6 ct6), sl6⟩) (c_from : PySem.W.codeIn K cd6 "seen_from" = true) (k_from : PySem.W.keepIn K (.ref f_from) = true)
    (n_seen : PySem.W.nsIn K mainGlobals "seen" = some (some (.ref f_seen))) (l_seen : K.lookup f_seen = some ⟨oc7, od7, .func (PySem.W.fnOf "seen" "seen" (defArgs sSeen) (defBody sSeen) (defScope sSeen) .none kV7 dc7 pm7 an7 cd7 ct7), sl7⟩) (c_seen : PySem.W.codeIn K cd7 "seen" = true) (k_seen : PySem.W.keepIn K (.ref f_seen) = true)
    (n_bsets : PySem.W.nsIn K mainGlobals "begin_sets" = some (some (.ref f_bsets))) (l_bsets : K.lookup f_bsets = some ⟨oc8, od8, .func (PySem.W.fnOf "begin_sets" "begin_sets" (defArgs sBSets) (defBody sBSets) (defScope sBSets) .none kV8 dc8 pm8 an8 cd8 ct8), sl8⟩) (c_bsets : PySem.W.codeIn K cd8 "begin_sets" = true) (k_bsets : PySem.W.keepIn K (.ref f_bsets) = true)
    (n_fewest : PySem.W.nsIn K mainGlobals "fewest_begins" = some (some (.ref f_fewest))) (l_fewest : K.lookup f_fewest = some ⟨oc9, od9, .func (PySem.W.fnOf "fewest_begins" "fewest_begins" (defArgs sFewest) (defBody sFewest) (defScope sFewest) .none kV9 dc9 pm9 an9 cd9 ct9), sl9⟩) (c_fewest : PySem.W.codeIn K cd9 "fewest_begins" = true) (k_fewest : PySem.W.keepIn K (.ref f_fewest) = true)
    (n_best : PySem.W.nsIn K mainGlobals "best_begins" = some (some (.ref f_best))) (l_best : K.lookup f_best = some ⟨oc10, od10, .func (PySem.W.fnOf "best_begins" "best_begins" (defArgs sBest) (defBody sBest) (defScope sBest) .none kV10 dc10 pm10 an10 cd10 ct10), sl10⟩) (c_best : PySem.W.codeIn K cd10 "best_begins" = true) (k_best : PySem.W.keepIn K (.ref f_best) = true)
    (n_pairs : PySem.W.nsIn K mainGlobals "entered_pairs" = some (some (.ref f_pairs))) (l_pairs : K.lookup f_pairs = some ⟨oc11, od11, .func (PySem.W.fnOf "entered_pairs" "entered_pairs" (defArgs sPairs) (defBody sPairs) (defScope sPairs) .none kV11 dc11 pm11 an11 cd11 ct11), sl11⟩) (c_pairs : PySem.W.codeIn K cd11 "entered_pairs" = true) (k_pairs : PySem.W.keepIn K (.ref f_pairs) = true)
    (n_taken : PySem.W.nsIn K mainGlobals "_law_taken" = some (some (.ref f_taken))) (l_taken : K.lookup f_taken = some ⟨oc12, od12, .func (PySem.W.fnOf "_law_taken" "_law_taken" (defArgs sTaken) (defBody sTaken) (defScope sTaken) .none kV12 dc12 pm12 an12 cd12 ct12), sl12⟩) (c_taken : PySem.W.codeIn K cd12 "_law_taken" = true) (k_taken : PySem.W.keepIn K (.ref f_taken) = true)
    (n_pick : PySem.W.nsIn K mainGlobals "_law_pick" = some (some (.ref f_pick))) (l_pick : K.lookup f_pick = some ⟨oc13, od13, .func (PySem.W.fnOf "_law_pick" "_law_pick" (defArgs sPick) (defBody sPick) (defScope sPick) .none kV13 dc13 pm13 an13 cd13 ct13), sl13⟩) (c_pick : PySem.W.codeIn K cd13 "_law_pick" = true) (k_pick : PySem.W.keepIn K (.ref f_pick) = true)
    (n_alike : PySem.W.nsIn K mainGlobals "_law_alike" = some (some (.ref f_alike))) (l_alike : K.lookup f_alike = some ⟨oc14, od14, .func (PySem.W.fnOf "_law_alike" "_law_alike" (defArgs sAlike) (defBody sAlike) (defScope sAlike) .none kV14 dc14 pm14 an14 cd14 ct14), sl14⟩) (c_alike : PySem.W.codeIn K cd14 "_law_alike" = true) (k_alike : PySem.W.keepIn K (.ref f_alike) = true)
    (n_lane : PySem.W.nsIn K mainGlobals "_law_lane" = some (some (.ref f_lane))) (l_lane : K.lookup f_lane = some ⟨oc15, od15, .func (PySem.W.fnOf "_law_lane" "_law_lane" (defArgs sLane) (defBody sLane) (defScope sLane) .none kV15 dc15 pm15 an15 cd15 ct15), sl15⟩) (c_lane : PySem.W.codeIn K cd15 "_law_lane" = true) (k_lane : PySem.W.keepIn K (.ref f_lane) = true)
    (n_law : PySem.W.nsIn K mainGlobals "law" = some (some (.ref f_law))) (l_law : K.lookup f_law = some ⟨oc16, od16, .func (PySem.W.fnOf "law" "law" (defArgs sLaw) (defBody sLaw) (defScope sLaw) .none kV16 dc16 pm16 an16 cd16 ct16), sl16⟩) (c_law : PySem.W.codeIn K cd16 "law" = true) (k_law : PySem.W.keepIn K (.ref f_law) = true)
    (cKinds : PySem.W.nsIn K mainGlobals "KINDS" = some (some (.str "abcdefghijkl" tK1)))
    (cLanes : PySem.W.nsIn K mainGlobals "MOST_ROOMS_lanes" = some (some (.int 60 tK2)))
    (cBegins : PySem.W.nsIn K mainGlobals "MOST_BEGINS" = some (some (.int 6 tK3)))
    (cRooms : PySem.W.nsIn K mainGlobals "MOST_ROOMS_begins" = some (some (.int 12 tK4)))
    (z_isi : PySem.W.nsIn K mainGlobals "isinstance" = some none)
    (z_int : PySem.W.nsIn K mainGlobals "int" = some none)
    (z_bool : PySem.W.nsIn K mainGlobals "bool" = some none)
    (z_str : PySem.W.nsIn K mainGlobals "str" = some none)
    (z_tuple : PySem.W.nsIn K mainGlobals "tuple" = some none)
    (z_list : PySem.W.nsIn K mainGlobals "list" = some none)
    (z_len : PySem.W.nsIn K mainGlobals "len" = some none)
    (z_all : PySem.W.nsIn K mainGlobals "all" = some none)
    (z_zip : PySem.W.nsIn K mainGlobals "zip" = some none)
    (z_enum : PySem.W.nsIn K mainGlobals "enumerate" = some none)
    (z_sorted : PySem.W.nsIn K mainGlobals "sorted" = some none)
    (z_range : PySem.W.nsIn K mainGlobals "range" = some none)
    (z_max : PySem.W.nsIn K mainGlobals "max" = some none)
    (z_set : PySem.W.nsIn K mainGlobals "set" = some none)
    : ∃ fd : FuncData, (∀ (s : Shared) (v : Value), BindsTo s fd ⟨[v], []⟩ [("_law_script", v)]) ∧ ∀ base : Heap, K.In base → base.Ns mainGlobals mg → FnOk l.prog w K mg base CX0 5 fa fd ["_law_script"] (spLaw K) := by
  have e := hfa.symm.trans (PySem.W.mg_of X G n_law)
  cases e
  have N : Nn mg := ⟨PySem.W.mg_none_of X G z_isi, PySem.W.mg_none_of X G z_int, PySem.W.mg_none_of X G z_bool, PySem.W.mg_none_of X G z_str, PySem.W.mg_none_of X G z_tuple, PySem.W.mg_none_of X G z_list, PySem.W.mg_none_of X G z_len, PySem.W.mg_none_of X G z_all, PySem.W.mg_none_of X G z_zip, PySem.W.mg_none_of X G z_enum, PySem.W.mg_none_of X G z_sorted, PySem.W.mg_none_of X G z_range, PySem.W.mg_none_of X G z_max, PySem.W.mg_none_of X G z_set⟩
  have F_isInt := fun_mk (st := sIsInt) l_isInt c_isInt k_isInt
  have B_isInt := F_isInt.binds (ps := ["value"]) fun _ _ _ _ _ _ us hl => match us, hl with | [_], _ => rfl
  have F_isIn := fun_mk (st := sIsIn) l_isIn c_isIn k_isIn
  have B_isIn := F_isIn.binds (ps := ["value", "least", "most"]) fun _ _ _ _ _ _ us hl => match us, hl with | [_, _, _], _ => rfl
  have F_isSet := fun_mk (st := sIsSet) l_isSet c_isSet k_isSet
  have B_isSet := F_isSet.binds (ps := ["value"]) fun _ _ _ _ _ _ us hl => match us, hl with | [_], _ => rfl
  have F_needLane := fun_mk (st := sNeedLane) l_needLane c_needLane k_needLane
  have B_needLane := F_needLane.binds (ps := ["value"]) fun _ _ _ _ _ _ us hl => match us, hl with | [_], _ => rfl
  have F_rooms := fun_mk (st := sRooms) l_rooms c_rooms k_rooms
  have B_rooms := F_rooms.binds (ps := ["lane"]) fun _ _ _ _ _ _ us hl => match us, hl with | [_], _ => rfl
  have F_needB := fun_mk (st := sNeedB) l_needB c_needB k_needB
  have B_needB := F_needB.binds (ps := ["lane", "value"]) fun _ _ _ _ _ _ us hl => match us, hl with | [_, _], _ => rfl
  have F_from := fun_mk (st := sFrom) l_from c_from k_from
  have B_from := F_from.binds (ps := ["lane", "begins"]) fun _ _ _ _ _ _ us hl => match us, hl with | [_, _], _ => rfl
  have F_seen := fun_mk (st := sSeen) l_seen c_seen k_seen
  have B_seen := F_seen.binds (ps := ["lane", "begins"]) fun _ _ _ _ _ _ us hl => match us, hl with | [_, _], _ => rfl
  have F_bsets := fun_mk (st := sBSets) l_bsets c_bsets k_bsets
  have B_bsets := F_bsets.binds (ps := ["many", "size"]) fun _ _ _ _ _ _ us hl => match us, hl with | [_, _], _ => rfl
  have F_fewest := fun_mk (st := sFewest) l_fewest c_fewest k_fewest
  have B_fewest := F_fewest.binds (ps := ["lane"]) fun _ _ _ _ _ _ us hl => match us, hl with | [_], _ => rfl
  have F_best := fun_mk (st := sBest) l_best c_best k_best
  have B_best := F_best.binds (ps := ["lane"]) fun _ _ _ _ _ _ us hl => match us, hl with | [_], _ => rfl
  have F_pairs := fun_mk (st := sPairs) l_pairs c_pairs k_pairs
  have B_pairs := F_pairs.binds (ps := ["lane"]) fun _ _ _ _ _ _ us hl => match us, hl with | [_], _ => rfl
  have F_taken := fun_mk (st := sTaken) l_taken c_taken k_taken
  have B_taken := F_taken.binds (ps := ["_law_row", "_law_many"]) fun _ _ _ _ _ _ us hl => match us, hl with | [_, _], _ => rfl
  have F_pick := fun_mk (st := sPick) l_pick c_pick k_pick
  have B_pick := F_pick.binds (ps := ["_law_row", "_law_things"]) fun _ _ _ _ _ _ us hl => match us, hl with | [_, _], _ => rfl
  have F_alike := fun_mk (st := sAlike) l_alike c_alike k_alike
  have B_alike := F_alike.binds (ps := ["_law_found", "_law_due"]) fun _ _ _ _ _ _ us hl => match us, hl with | [_, _], _ => rfl
  have F_lane := fun_mk (st := sLane) l_lane c_lane k_lane
  have B_lane := F_lane.binds (ps := ["_law_row", "_law_most"]) fun _ _ _ _ _ _ us hl => match us, hl with | [_, _], _ => rfl
  have F_law := fun_mk (st := sLaw) l_law c_law k_law
  refine ⟨PySem.W.fnOf "law" "law" (defArgs sLaw) (defBody sLaw) (defScope sLaw) .none kV16 dc16 pm16 an16 cd16 ct16, fun s v => .of_eq rfl, fun base _ _ => ?_⟩
  have G_isInt : FnOk l.prog w K mg base CX0 1 f_isInt _ ["value"] (spIsInt) := ok_isInt (k := 0) F_isInt N
  have G_isIn : FnOk l.prog w K mg base CX0 2 f_isIn _ ["value", "least", "most"] (spIsIn) := ok_isIn (k := 1) F_isIn G_isInt B_isInt (PySem.W.mg_of X G n_isInt) k_isInt
  have G_isSet : FnOk l.prog w K mg base CX0 2 f_isSet _ ["value"] (spIsSet) := ok_isSet (k := 1) F_isSet N (PySem.W.mg_of X G cKinds)
  have G_needLane : FnOk l.prog w K mg base CX0 3 f_needLane _ ["value"] (spNeedLane) := ok_needLane (k := 2) F_needLane N (PySem.W.mg_of X G cLanes) G_isIn B_isIn (PySem.W.mg_of X G n_isIn) k_isIn G_isSet B_isSet (PySem.W.mg_of X G n_isSet) k_isSet
  have G_rooms : FnOk l.prog w K mg base CX0 2 f_rooms _ ["lane"] (spRooms) := ok_rooms (k := 1) F_rooms N
  have G_needB : FnOk l.prog w K mg base CX0 3 f_needB _ ["lane", "value"] (spNeedB) := ok_needB (k := 2) F_needB N (PySem.W.mg_of X G cBegins) G_isIn B_isIn (PySem.W.mg_of X G n_isIn) k_isIn G_rooms B_rooms (PySem.W.mg_of X G n_rooms) k_rooms
  have G_from : FnOk l.prog w K mg base CX0 3 f_from _ ["lane", "begins"] (spFrom) := ok_from (k := 2) F_from N G_rooms B_rooms (PySem.W.mg_of X G n_rooms) k_rooms
  have G_seen : FnOk l.prog w K mg base CX0 4 f_seen _ ["lane", "begins"] (spSeen) := ok_seen (k := 3) F_seen N G_needLane B_needLane (PySem.W.mg_of X G n_needLane) k_needLane G_needB B_needB (PySem.W.mg_of X G n_needB) k_needB G_from B_from (PySem.W.mg_of X G n_from) k_from
  have G_bsets : FnOk l.prog w K mg base CX0 3 f_bsets _ ["many", "size"] (spBSets) := ok_bsets (k := 2) F_bsets N
  have G_fewest : FnOk l.prog w K mg base CX0 4 f_fewest _ ["lane"] (spFewest) := ok_fewest (k := 3) F_fewest N (PySem.W.mg_of X G cRooms) G_needLane B_needLane (PySem.W.mg_of X G n_needLane) k_needLane (G_rooms.mono (by decide)) B_rooms (PySem.W.mg_of X G n_rooms) k_rooms G_from B_from (PySem.W.mg_of X G n_from) k_from G_bsets B_bsets (PySem.W.mg_of X G n_bsets) k_bsets
  have G_best : FnOk l.prog w K mg base CX0 4 f_best _ ["lane"] (spBest) := ok_best (k := 3) F_best N G_needLane B_needLane (PySem.W.mg_of X G n_needLane) k_needLane (G_rooms.mono (by decide)) B_rooms (PySem.W.mg_of X G n_rooms) k_rooms G_from B_from (PySem.W.mg_of X G n_from) k_from
  have G_pairs : FnOk l.prog w K mg base CX0 4 f_pairs _ ["lane"] (spPairs) := ok_pairs (k := 3) F_pairs N G_needLane B_needLane (PySem.W.mg_of X G n_needLane) k_needLane (G_rooms.mono (by decide)) B_rooms (PySem.W.mg_of X G n_rooms) k_rooms G_from B_from (PySem.W.mg_of X G n_from) k_from
  have G_taken : FnOk l.prog w K mg base CX0 1 f_taken _ ["_law_row", "_law_many"] (spTaken K) := ok_taken (k := 0) F_taken N
  have G_pickL : FnOk l.prog w K mg base CX0 2 f_pick _ ["_law_row", "_law_things"] (spPickL K) := ok_pickL (k := 1) F_pick N G_taken B_taken (PySem.W.mg_of X G n_taken) k_taken
  have G_pickS : FnOk l.prog w K mg base CX0 2 f_pick _ ["_law_row", "_law_things"] (spPickS K) := ok_pickS (k := 1) F_pick N G_taken B_taken (PySem.W.mg_of X G n_taken) k_taken
  have G_al0 : FnOk l.prog w K mg base CX0 1 f_alike _ ["_law_found", "_law_due"] (spAl 0) := ok_al0 (k := 0) F_alike N
  have G_al1 : FnOk l.prog w K mg base CX0 2 f_alike _ ["_law_found", "_law_due"] (spAl 1) := ok_alS (k := 1) F_alike N G_al0 B_alike (PySem.W.mg_of X G n_alike) k_alike
  have G_al2 : FnOk l.prog w K mg base CX0 3 f_alike _ ["_law_found", "_law_due"] (spAl 2) := ok_alS (k := 2) F_alike N G_al1 B_alike (PySem.W.mg_of X G n_alike) k_alike
  have G_lane : FnOk l.prog w K mg base CX0 4 f_lane _ ["_law_row", "_law_most"] (spLane K) := ok_lane (k := 3) F_lane N (G_taken.mono (by decide)) B_taken (PySem.W.mg_of X G n_taken) k_taken (G_pickL.mono (by decide)) (G_pickS.mono (by decide)) B_pick (PySem.W.mg_of X G n_pick) k_pick
  exact ok_law (k := 4) F_law N G_lane B_lane (PySem.W.mg_of X G n_lane) k_lane G_seen B_seen (PySem.W.mg_of X G n_seen) k_seen G_fewest B_fewest (PySem.W.mg_of X G n_fewest) k_fewest (G_al1.mono (by decide)) (G_al2.mono (by decide)) B_alike (PySem.W.mg_of X G n_alike) k_alike G_best B_best (PySem.W.mg_of X G n_best) k_best G_pairs B_pairs (PySem.W.mg_of X G n_pairs) k_pairs
end KL

open PySem PySem.W PyProof.Rows
set_option Elab.async false
set_option linter.all false
set_option maxRecDepth 100000 in
set_option maxHeartbeats 0 in
theorem PySem.Challenge.cw_keylanes_k71_whole_fewest_begins_holds : PySem.Challenge.rw_keylanes_k71_whole_fewest_begins.Holds := by
  w_on; o_law; k_head; (case hw => w_witness2)
  k_fill
  refine L2.walk_of (l := PySem.Challenge.rw_keylanes_k71_whole_fewest_begins) (n := 63) (k := 5) (x := "_law_script") (CX := fun _ => L2.CX0) (sp := fun w => KL.spLaw _) rfl (by decide) rfl ⟨rfl, by decide, by decide⟩ (fun w h Y => PySem.W.kIn_of Y) ?F (fun _ _ a ns hl _ hS => ⟨a, ns, rfl, hS, fun _ => rfl⟩) (fun _ _ _ _ _ h => h)
  case F =>
    intro w mg fa h KX G hmg
    refine' KL.all_mk KX G hmg ?n_isInt ?l_isInt ?c_isInt ?k_isInt ?n_isIn ?l_isIn ?c_isIn ?k_isIn ?n_isSet ?l_isSet ?c_isSet ?k_isSet ?n_needLane ?l_needLane ?c_needLane ?k_needLane ?n_rooms ?l_rooms ?c_rooms ?k_rooms ?n_needB ?l_needB ?c_needB ?k_needB ?n_from ?l_from ?c_from ?k_from ?n_seen ?l_seen ?c_seen ?k_seen ?n_bsets ?l_bsets ?c_bsets ?k_bsets ?n_fewest ?l_fewest ?c_fewest ?k_fewest ?n_best ?l_best ?c_best ?k_best ?n_pairs ?l_pairs ?c_pairs ?k_pairs ?n_taken ?l_taken ?c_taken ?k_taken ?n_pick ?l_pick ?c_pick ?k_pick ?n_alike ?l_alike ?c_alike ?k_alike ?n_lane ?l_lane ?c_lane ?k_lane ?n_law ?l_law ?c_law ?k_law ?cKinds ?cLanes ?cBegins ?cRooms ?z_isi ?z_int ?z_bool ?z_str ?z_tuple ?z_list ?z_len ?z_all ?z_zip ?z_enum ?z_sorted ?z_range ?z_max ?z_set
    (case n_isInt => k_is)
    (case l_isInt => k_is)
    (case c_isInt => k_is)
    (case k_isInt => k_is)
    (case n_isIn => k_is)
    (case l_isIn => k_is)
    (case c_isIn => k_is)
    (case k_isIn => k_is)
    (case n_isSet => k_is)
    (case l_isSet => k_is)
    (case c_isSet => k_is)
    (case k_isSet => k_is)
    (case n_needLane => k_is)
    (case l_needLane => k_is)
    (case c_needLane => k_is)
    (case k_needLane => k_is)
    (case n_rooms => k_is)
    (case l_rooms => k_is)
    (case c_rooms => k_is)
    (case k_rooms => k_is)
    (case n_needB => k_is)
    (case l_needB => k_is)
    (case c_needB => k_is)
    (case k_needB => k_is)
    (case n_from => k_is)
    (case l_from => k_is)
    (case c_from => k_is)
    (case k_from => k_is)
    (case n_seen => k_is)
    (case l_seen => k_is)
    (case c_seen => k_is)
    (case k_seen => k_is)
    (case n_bsets => k_is)
    (case l_bsets => k_is)
    (case c_bsets => k_is)
    (case k_bsets => k_is)
    (case n_fewest => k_is)
    (case l_fewest => k_is)
    (case c_fewest => k_is)
    (case k_fewest => k_is)
    (case n_best => k_is)
    (case l_best => k_is)
    (case c_best => k_is)
    (case k_best => k_is)
    (case n_pairs => k_is)
    (case l_pairs => k_is)
    (case c_pairs => k_is)
    (case k_pairs => k_is)
    (case n_taken => k_is)
    (case l_taken => k_is)
    (case c_taken => k_is)
    (case k_taken => k_is)
    (case n_pick => k_is)
    (case l_pick => k_is)
    (case c_pick => k_is)
    (case k_pick => k_is)
    (case n_alike => k_is)
    (case l_alike => k_is)
    (case c_alike => k_is)
    (case k_alike => k_is)
    (case n_lane => k_is)
    (case l_lane => k_is)
    (case c_lane => k_is)
    (case k_lane => k_is)
    (case n_law => k_is)
    (case l_law => k_is)
    (case c_law => k_is)
    (case k_law => k_is)
    (case cKinds => k_is)
    (case cLanes => k_is)
    (case cBegins => k_is)
    (case cRooms => k_is)
    (case z_isi => k_is)
    (case z_int => k_is)
    (case z_bool => k_is)
    (case z_str => k_is)
    (case z_tuple => k_is)
    (case z_list => k_is)
    (case z_len => k_is)
    (case z_all => k_is)
    (case z_zip => k_is)
    (case z_enum => k_is)
    (case z_sorted => k_is)
    (case z_range => k_is)
    (case z_max => k_is)
    (case z_set => k_is)
