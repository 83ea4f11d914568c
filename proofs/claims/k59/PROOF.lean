import PyProof.Rows.All
import Wide.All
import OpenK.AllK
import Wide.FinOn
import KE.GoesMore
import KE.GoesEnum
import PyProof.ReprRoads
import HandS.ForMost
import HandS.IsInst
import HandS.TupAny
import HandS.Style
import HandS.Conv
import HandS.Walk
import HandS.Defaults
import HandS.SetFor
import HandS.Deep
import HandS.Codes
import HandS.SortRule
import PyProof.Rows.StrRules
import KE.KSortTupAny
import PySem.Challenge.RW_ringdown_k59_whole_from_any_tree_to_any
import HandS.Ends
set_option Elab.async false
set_option linter.all false
set_option maxRecDepth 100000
set_option maxHeartbeats 4000000
/-! A layer over HandS for the ringdown laws: own rules and helpers. -/
namespace RD
open PySem PySem.Spec PyProof.Rows L2

/-! ### defs that may be called -/
section
variable (P : Program) (w : World) (K : PySem.W.Frag) (mg : Str → Option Value) (base : Heap)
/-- a def with its promise, called with all its arguments by place (vs ++ dvs) -/
structure Cal (k : Nat) (x : Str) (sp : Sp) (dvs : List V) : Prop where
  ex : ∃ (f : Addr) (fd : FuncData) (ps : List Str) (ds : List Value), FnOk P w K mg base CX0 k f fd ps sp ∧ mg x = some (.ref f) ∧ PySem.W.keepIn K (.ref f) = true ∧ Binds K fd ps ds ∧ Vals dvs ds
/-- .. with some by keywords -/
structure CalK (k : Nat) (x : Str) (n : Nat) (ks : List Str) (gV : List V → List V → List V) (sp : Sp) : Prop where
  ex : ∃ (f : Addr) (fd : FuncData) (ps : List Str) (g : List Value → List Value → List Value), FnOk P w K mg base CX0 k f fd ps sp ∧ mg x = some (.ref f) ∧ PySem.W.keepIn K (.ref f) = true ∧ KBn K fd ps n ks g gV
end
section
variable {X : Cx} {k j n : Nat} {x : Str} {sp : Sp} {dvs : List V} {p pos : Pos} {e : Expr} {es : List Expr} {kws : List Keyword} {t tk : TA} {ks : List Str} {gV : List V → List V → List V} {E : XK}
theorem pe_cl (c : Cal X.prog X.w X.K X.mg X.base k x sp dvs) (hr : Room j X.A) (hk : k ≤ j) (hg : Gl X x) (ha : PA X (e :: es) t)
    (hdb : (x == ("__debug__" : Str)) = false := by decide) (he : starEach (e :: es) X.env = (false, eval e X.env) :: starEach es X.env := by rfl) (hpl : (backTo pos (starEach es X.env)).any (·.1) = false := by rfl) :
    PE X (.Call (.Name x p) (e :: es) [] pos) (tCall sp dvs E0 t) := by
  obtain ⟨f, fd, ps, ds, F, hm, kp, b, d⟩ := c.ex
  exact pe_call (E := E0) F (hr.mono hk) hg hm kp b d pass0 ha hdb he hpl
theorem pe_clK (c : CalK X.prog X.w X.K X.mg X.base k x n ks gV sp) (hr : Room j X.A) (hk : k ≤ j) (hg : Gl X x) (ha : PA X (e :: es) t) (hkw : PK X kws tk)
    (hall : (backToKw pos (keywordEach kws X.env)).all (·.1.isSome) = true := by rfl) (hks : (backToKw pos (keywordEach kws X.env)).filterMap (·.1) = ks := by rfl)
    (hdb : (x == ("__debug__" : Str)) = false := by decide) (he : starEach (e :: es) X.env = (false, eval e X.env) :: starEach es X.env := by rfl)
    (hpl : ((backTo pos (starEach (e :: es) X.env)).any (·.1) || (backToKw pos (keywordEach kws X.env)).any (·.1.isNone)) = false := by rfl) :
    PE X (.Call (.Name x p) (e :: es) kws pos) (tCallN n ks.length sp gV E0 t tk) := by
  obtain ⟨f, fd, ps, g, F, hm, kp, b⟩ := c.ex
  exact pe_callN (E := E0) F (hr.mono hk) hg hm kp b pass0 ha hkw hall hks hdb he hpl
/-- f(k = v, ..), keywords alone -/
theorem pe_clK0 (c : CalK X.prog X.w X.K X.mg X.base k x 0 ks gV sp) (hr : Room j X.A) (hk : k ≤ j) (hg : Gl X x) (hkw : PK X kws tk)
    (hall : (backToKw pos (keywordEach kws X.env)).all (·.1.isSome) = true := by rfl) (hks : (backToKw pos (keywordEach kws X.env)).filterMap (·.1) = ks := by rfl)
    (hdb : (x == ("__debug__" : Str)) = false := by decide)
    (hpl : ((backTo pos (starEach [] X.env)).any (·.1) || (backToKw pos (keywordEach kws X.env)).any (·.1.isNone)) = false := by rfl) :
    PE X (.Call (.Name x p) [] kws pos) (fun σ H Q => tk σ H fun zs H2 => zs.length = ks.length ∧ sp (gV [] zs) H2 Q E0) := by
  obtain ⟨f, fd, ps, g, F, hm, kp, b⟩ := c.ex
  refine ⟨fun pins s σ H Q I h => ?_⟩
  refine wpAny_Call_Name_kw (ld_glob I hg hm ?_ hdb)
  refine PySem.W.callWith_KW0 (h₀ := X.base) I.ok.mod.kin kp hall ?_ hpl
  refine thn (hkw.run pos pins s σ H _ I h) fun ws s2 ⟨zs, H2, I2, rz, l2, q2⟩ => ⟨I2.kIn, ?_⟩
  rw [hks]
  exact run_fnN (E := E0) F (hr.mono hk) b pass0 I2 .nil rz rfl l2 q2
/-- a constant of the module's top -/
def GV (mg : Str → Option Value) (x : Str) (v : V) : Prop := ∃ u, mg x = some u ∧ RelV v u
theorem pe_gv {v : V} (hg : Gl X x) (h : GV X.mg x v) (hd : (x == ("__debug__" : Str)) = false := by decide) : PE X (.Name x pos) (tC v) := by
  obtain ⟨u, hm, r⟩ := h
  exact pe_glob hg hm r hd
end

/-! ### rules whose reading names the written part: within a comprehension it must be said which -/
section
variable {X : Cx} {K : PySem.W.Frag}
theorem ix_tupK (e : X.K = K) : IxR X (rIxT K) := by
  subst e
  exact ix_tup
theorem ix_listK (e : X.K = K) : IxR X (rIxL K) := by
  subst e
  exact ix_list
theorem ix_seqK (e : X.K = K) : IxR X (rIx K) := by
  subst e
  exact ix_seq
theorem op_in_seqK (e : X.K = K) : OpR X (compareOp .In) (rIn K false) := by
  subst e
  exact op_in_seq
theorem op_notIn_seqK (e : X.K = K) : OpR X (compareOp .NotIn) (rIn K true) := by
  subst e
  exact op_notIn_seq
theorem pg_tupK {es : List Expr} {k : Nat} {pos : Pos} {t : TGs} {n : Nat} (e : X.K = K) (hc : X.calm = true) (h : PGs X es t) (hl : (assignEach es X.env).length = n := by rfl) (hs : (assignEach es X.env).findIdx? (·.1) = none := by rfl) : PG X (.Tuple es k pos) (gTup K n t) := by
  subst e
  exact pg_tup hc h hl hs
end
/-! ### enumerate(tuple) -/
section
variable {prog : Program} {w : World} {A : Around} {E : Value → Shared → Prop} {s : Shared}
theorem meets_enum1 {v : Value} {o : Obj} {H : Heap → Prop} (B : Begins v o H) :
    Meets (Builtin.«enumerate.__new__» ⟨[.type "enumerate", v], []⟩) (fun _ R s => H s.heap ∧
      R (.ok (.ret (.ref (s.heap.push o).objs.size))) { s with heap := (s.heap.push o).push { cls := .type "enumerate", data := .fields #[.none, .bool false, .ref s.heap.objs.size, rawInt 0, .none, .none] } }) :=
  .of_wp fun prog w A R s h => by
    obtain ⟨hp, g, d, tk, os⟩ := s
    obtain ⟨h1, h⟩ := h
    have hsub := sub_enumerate
    have q1 : ∀ {A' : Around} {E : Value → Shared → Prop} {Q : Value → Shared → Prop}, Q (.ref hp.objs.size) ⟨hp.push o, g, d, tk, os⟩ → wpAny (model prog w) A' (pyIter v) Q E ⟨hp, g, d, tk, os⟩ :=
      fun q => B.iter prog w _ _ ⟨hp, g, d, tk, os⟩ _ h1 q
    wp_walk using q1
    refine wpAny_stack_any fun st => wpAny_pure ?_
    split
    · rename_i c _ _ _ _ _
      cases (c == Value.type "enumerate") <;> (wp_walk using q1; exact ⟨_, rfl, h⟩)
    · wp_walk using q1
      exact ⟨_, rfl, h⟩
theorem enum_begins1 {a : Addr} {o : Obj} {H : Heap → Prop} {Q : Value → Shared → Prop} (B : Begins (.ref a) o H) (h1 : H s.heap)
    (h : ∀ h', IsEnum h' (s.heap.objs.size + 1) s.heap.objs.size 0 .none → h'.get? s.heap.objs.size = some o → h'.objs.size = s.heap.objs.size + 2 →
      (∀ b ob, s.heap.get? b = some ob → h'.get? b = some ob) → Q (.ref (s.heap.objs.size + 1)) { s with heap := h' }) :
    wpAny (model prog w) A (call (.type "enumerate") [.ref a]) Q E s := by
  refine callType_new F.called_enumerate (by decide) (F.typeCall_enumerate_1 _) (F.newCall_enumerate_1 _) (fun obj => F.args_object_init_2 obj _) F.entry_enumerate_new (meets_enum1 B) ⟨h1, ?_⟩
  have hz : (s.heap.push o).objs.size = s.heap.objs.size + 1 := Heap.size_push ..
  show _ ∧ _
  rw [hz]
  have he : IsEnum ((s.heap.push o).push { cls := .type "enumerate", data := .fields #[.none, .bool false, .ref s.heap.objs.size, rawInt 0, .none, .none] }) (s.heap.objs.size + 1) s.heap.objs.size 0 .none := by
    have := Heap.get?_push_size (s.heap.push o) (o := { cls := .type "enumerate", data := .fields #[.none, .bool false, .ref s.heap.objs.size, rawInt 0, .none, .none] }) rfl
    rw [hz] at this
    exact this
  exact ⟨⟨_, he, rfl⟩, h _ he (Heap.get?_push_of_some _ (Heap.get?_push_size _ B.free)) (by rw [Heap.size_push, hz]) fun b ob x => Heap.get?_push_of_some _ (Heap.get?_push_of_some _ x)⟩
end
/-- the tuple at a as it stands, each item in a new pair with its place -/
def IteT (K : PySem.W.Frag) (a : Addr) : It :=
  ⟨fun i H => ∃ (xs : List V) (x : V), SqT K H a xs ∧ xs[i]? = some x, fun i H v H' => ∃ T x, v = .ref T ∧ H T = none ∧ H' = upd H T (.tup [.int (i : Nat), x]) ∧ ∀ xs, SqT K H a xs → xs[i]? = some x, fun i H => ∃ xs : List V, SqT K H a xs ∧ xs.length ≤ i⟩
theorem turn_enumT {P : Program} {w : World} {K : PySem.W.Frag} {elts : List Expr} {kk : Nat} {tpos : Pos} (a e it : Addr) (hai : a ≠ it) (hae : a ≠ e) :
    Turn P w K (.Tuple elts kk tpos) (IteT K a) [e, it] e (fun i h => (∃ old, IsEnum h e it ((i : Nat) : Int) old) ∧ h.IsTupleIter it a i ∧ e ≠ it) where
  mem := by simp
  obj := fun i h st b hb => by
    obtain ⟨⟨old, he⟩, ⟨o, ho, hc, hd⟩, _⟩ := st
    have e' : b = e ∨ b = it := by simpa using hb
    rcases e' with rfl | rfl
    · exact ⟨_, he, fun v q => nomatch q⟩
    · exact ⟨o, ho, fun v q => by rw [hd] at q; cases q⟩
  keep := fun i h h' st k => by
    obtain ⟨⟨old, he⟩, hi, hne⟩ := st
    exact ⟨⟨old, k e (by simp) _ he⟩, hi.at fun o q => k it (by simp) o q, hne⟩
  item := by
    intro X hP hw hK hc i pins s σ H E I hf st hg
    subst hP hw hK
    obtain ⟨⟨old, he⟩, hit, hne⟩ := st
    obtain ⟨xs, x, hq, hx⟩ := hg
    obtain ⟨its, rv, p, hz⟩ := I.tuple hq
    obtain ⟨u, hu, ru⟩ := rv.get hx
    have hil : i < its.length := (List.getElem?_eq_some_iff.mp hu).1
    have hel : e < s.heap.objs.size := Heap.lt_size he
    have hitl : it < s.heap.objs.size := by
      obtain ⟨_, q, _⟩ := hit
      exact Heap.lt_size q
    have D := Draws.tuple (prog := X.prog) (w := X.w) (A := X.A.in1) (I.ok.hd hc) it a hai its.toArray
    have hefp : e ∉ [it, a] := by simp [hne, Ne.symm hae]
    refine wpAny_pyNext_enum_itemD D he ⟨hit, p⟩ (by simpa using hil) hne hefp fun y h' tk hy ho hst' hT hsz hk => ?_
    have ey : y = u := by
      have q1 : its[i]? = some y := by simpa using hy
      rw [hu] at q1
      exact (Option.some.inj q1).symm
    subst ey
    refine ⟨_, rfl, wpAny_letOwnedTupleGo_enum (s := { s with heap := h', toks := tk + 1 }) ho fun h'' he' sb => ?_⟩
    have hT2 : h''.get? s.heap.objs.size = some { cls := .type "tuple", data := .seq #[.int i tk, y] } := (sb.2 _ (Nat.ne_of_gt hel)).trans hT
    have new : ObjOk X.prog X.w (upd H s.heap.objs.size (.tup [.int (i : Nat), x])) h'' s.heap.objs.size (.tup [.int (i : Nat), x]) :=
      ⟨by show 2 ≤ sizeLine; decide, [.int i tk, y], .cons ⟨_, rfl⟩ (.cons ru .nil), ⟨_, hT2, rfl, _, rfl⟩⟩
    have I1 : Inv X pins σ (upd H s.heap.objs.size (.tup [.int (i : Nat), x])) { s with heap := h'', toks := tk + 1 } :=
      I.turnedNew (ch := [e, it]) (fun b ob hb q => (sb.2 b (fun z => hb (by simp [z]))).trans (hk b ob (fun z => hb (by simp [z])) (fun z => hb (by simp [z])) q)) hf (Nat.le_refl _) new
    refine ⟨.ref s.heap.objs.size, _, I1, rfl, ⟨_, x, rfl, I.hok.fresh (Nat.le_refl _), rfl, fun ys hy => by rw [I.tuple_inj hy hq]; exact hx⟩, ⟨⟨y, ?_⟩, hst'.1.at fun o q => (sb.2 it (Ne.symm hne)).trans q, hne⟩, fun b hb => ?_⟩
    · have e1 : ((i + 1 : Nat) : Int) = (i : Int) + 1 := by omega
      rw [e1]
      exact he'
    · have hb' : b < s.heap.objs.size := by
        have e' : b = e ∨ b = it := by simpa using hb
        rcases e' with rfl | rfl
        · exact hel
        · exact hitl
      rw [upd_ne (Nat.ne_of_lt hb')]
      exact (hf b hb).1
  done := by
    intro X hP hw hK hc i pins s σ H E I hf st hg
    subst hP hw hK
    obtain ⟨⟨old, he⟩, hit, hne⟩ := st
    obtain ⟨xs, hq, hx⟩ := hg
    obtain ⟨its, rv, p, hz⟩ := I.tuple hq
    obtain ⟨f0, f1, f2, f3, f4, f5⟩ := hf it (by simp)
    have hl := rv.length
    have hn : its.toArray[i]? = none := by
      simp only [List.getElem?_toArray]
      exact List.getElem?_eq_none (by omega)
    have D : Draws X.prog X.w X.A.in1 it [it, a] 0 (fun _ _ => True) (fun _ h => h.IsTupleIter it a i ∧ h.IsTuple a its.toArray) :=
      { live := fun _ _ st => let ⟨o, ho, _⟩ := st.1; ⟨o, ho⟩
        frame := fun _ _ _ st hk => ⟨st.1.at fun o e => hk it (by simp) o e, st.2.at fun o e => hk a (by simp) o e⟩
        item := fun i s Q E hi _ _ => absurd hi (Nat.not_lt_zero _)
        done := fun s Q E st hE => wpAny_nextOf_tuple_end (I.ok.hd hc) st.1 st.2 hn hE }
    exact wpAny_pyNext_enum_endD D he ⟨hit, p⟩ fun h' eb => ⟨rfl, I.turned (t' := s.toks) (fun b o hb q => eb b o hb q) f0 f1 f3 f4 f5⟩
  self := fun A i s Q E st h => by
    obtain ⟨⟨_, he⟩, _⟩ := st
    exact wpAny_pyIter_enum he h
def iEnumT (K : PySem.W.Frag) (ta : TA) : TI := fun σ H R => ta σ H fun vs H1 => ∃ a xs, vs = [.ref a] ∧ SqT K H1 a xs ∧ R (IteT K a) H1
theorem pi_enumT {X : Cx} {e : Expr} {ta : TA} {p pos tpos : Pos} {elts : List Expr} {kk : Nat} (hg : Gl X "enumerate") (hm : X.mg "enumerate" = none) (ha : PA X [e] ta) (hs : starEach [e] X.env = [(false, eval e X.env)] := by rfl) :
    PI X (.Tuple elts kk tpos) (.Call (.Name "enumerate" p) [e] [] pos) (iEnumT X.K ta) := by
  refine ⟨fun pins s σ H R I h => Call_ (ld_blt I hg hm boot_enumerate (PyProof.Rows.callWith_type1 (thn (ha.run pos pins s σ H _ I h) fun us s1 ⟨vs, H1, I1, r1, q1⟩ => ?_) hs rfl))⟩
  obtain ⟨a, xs, ex, hq, q⟩ := q1
  subst ex
  cases r1 with
  | cons r rr =>
    cases rr
    cases r
    obtain ⟨its, rv, p', hz⟩ := I1.tuple hq
    have hal : a < s1.heap.objs.size := p'.lt
    refine enum_begins1 (begins_tuple a its.toArray) p' fun h' he hit hsz hk => wpAny_pyIter_enum he ?_
    have I2 : Inv X pins σ H1 { s1 with heap := h' } := I1.kept (t' := s1.toks) hk
    refine ⟨s1.heap.objs.size + 1, [s1.heap.objs.size + 1, s1.heap.objs.size], _, _, H1, rfl, I2, turn_enumT a (s1.heap.objs.size + 1) s1.heap.objs.size (Nat.ne_of_lt hal) (Nat.ne_of_lt (Nat.lt_succ_of_lt hal)), ⟨⟨.none, he⟩, ⟨_, hit, rfl, rfl⟩, Nat.succ_ne_self _⟩, fun b hb => ?_, q⟩
    have hle : s1.heap.objs.size ≤ b := by
      rcases (show b = s1.heap.objs.size + 1 ∨ b = s1.heap.objs.size by simpa using hb) with rfl | rfl
      · exact Nat.le_add_right _ _
      · exact Nat.le_refl _
    exact I1.fpOk hle (I1.hok.fresh hle)
theorem walk_enumT {K : PySem.W.Frag} {a : Addr} {xs : List V} : Walk (IteT K a) xs.length (fun H => SqT K H a xs) (YPair (fun i => some (.int (i : Nat))) (fun i => xs[i]?)) := by
  refine ⟨fun i _ hi q => ⟨xs, xs[i], q, by simp [hi]⟩, fun _ q => ⟨xs, q, Nat.le_refl _⟩, fun i H v H' _ q y => ?_⟩
  obtain ⟨T, x, e1, e2, e3, e4⟩ := y
  exact ⟨T, .int (i : Nat), x, e1, e2, e3, rfl, e4 xs q⟩
/-! ### repr of data, where no repr is under way -/
section
variable {X : Cx}
theorem call_reprD (hg : X.A.guards = some []) {j : Nat} (hr : Room j X.A) : CallR X (.builtin "repr") (fun xs H Q => ∃ v d, xs = [v] ∧ (∃ a, v = .ref a) ∧ Dp X.K H v d ∧ d.showable = true ∧ d.hasDict = false ∧ d.depth ≤ 60 ∧ d.shown.length ≤ sizeLine ∧ Q (.str d.shown) H) := by
  intro pins s σ H xs us Q I r h
  obtain ⟨v, d, rfl, ⟨a, rfl⟩, hd, h1, h2, h3, h4, q⟩ := h
  obtain ⟨u, rfl, ru⟩ := vals1 r
  cases ru
  obtain ⟨as, hr'⟩ := Dp.reads I d _ _ hd (show RelV (.ref a) (.ref a) from rfl)
  have hu := hr.units
  refine repr_of_reads' hr' h1 (fun z => by rw [h2] at z; cases z) hg (by omega) (fun _ _ e => e) (fun h' u tk hk => ?_) h4
  exact ⟨.str _, H, I.kept hk, ⟨_, rfl⟩, q⟩
end
/-! ### list.remove of a text -/
theorem erase_mapS : ∀ (ns : List Str) (j : Nat), (ns.map V.str).eraseIdx j = (ns.eraseIdx j).map V.str
  | [], j => by simp
  | a :: r, 0 => by simp
  | a :: r, j + 1 => by
    have ih := erase_mapS r j
    simp [ih]
def eqS (k : Str) (v : Value) : Bool := match v with
  | .str n _ => n == k
  | _ => false
theorem eqS_gives {k : Str} {t : Tok} : ∀ {us : List Value} {ns : List Str}, Vals (ns.map V.str) us → ∀ y ∈ us, MeetsSeq.EqGives y (.str k t) (eqS k y)
  | _, [], .nil => fun y hy => by cases hy
  | _, n :: ns, .cons r h => fun y hy => by
    obtain ⟨t', rfl⟩ := r
    rcases List.mem_cons.mp hy with e | e
    · rw [e]
      exact eqGives_str n k t' t
    · exact eqS_gives h y e
section
variable {X : Cx}
def rRemS : V → List V → Hp → VK → Prop := fun x xs H Q => ∃ (l : Addr) (ns : List Str) (k : Str) (j : Nat), x = .ref l ∧ xs = [.str k] ∧ H l = some (.lst (ns.map V.str)) ∧ ns[j]? = some k ∧ (∀ m : Nat, m < j → ns[m]? ≠ some k) ∧ Q .non (upd H l (.lst ((ns.eraseIdx j).map V.str)))
theorem mt_removeS : MtM X "list.remove" rRemS := by
  intro pins s σ H x xs v us Q I rx rxs h
  obtain ⟨l, ns, k, j, rfl, rfl, hH, hj, hno, q⟩ := h
  cases rx
  obtain ⟨u, rfl, ru⟩ := rxs.one
  obtain ⟨t, rfl⟩ := ru
  obtain ⟨z, its, n, r, hl, e⟩ := I.lstM hH
  rw [List.length_map] at hl z
  have hjn : j < ns.length := (List.getElem?_eq_some_iff.mp hj).1
  have hjl : j < its.toArray.size := by rw [List.size_toArray]; omega
  have at_ : ∀ (m : Nat) (y : Str), ns[m]? = some y → ∃ tm, its[m]? = some (.str y tm) := fun m y hm => by
    have q1 : (ns.map V.str)[m]? = some (.str y) := by rw [List.getElem?_map, hm]; rfl
    obtain ⟨u, hu, tm, e'⟩ := r.get q1
    exact ⟨tm, by rw [hu, e']⟩
  refine call_meets PySem.F.slot_list_remove ⟨_, e, rfl⟩ PySem.F.entry_list_remove (PySem.F.args_list_remove_2 _ _)
    (MeetsSeq.list_remove l its.toArray n (.str k t) (eqS k) (fun y hy => eqS_gives r y (by simpa using hy)) j hjl ?_ ?_ (by rw [List.size_toArray]; omega)) ⟨e, ?_⟩
  · obtain ⟨tj, hjt⟩ := at_ j k hj
    have e1 : its.toArray[j] = .str k tj := by
      obtain ⟨_, h2⟩ := List.getElem?_eq_some_iff.mp hjt
      simpa using h2
    rw [e1]
    exact beq_self_eq_true k
  · intro m hm hmj
    have hmn : m < ns.length := by omega
    obtain ⟨tm, hmt⟩ := at_ m _ (List.getElem?_eq_getElem hmn)
    have e1 : its.toArray[m] = .str ns[m] tm := by
      obtain ⟨_, h2⟩ := List.getElem?_eq_some_iff.mp hmt
      simpa using h2
    rw [e1]
    refine beq_eq_false_iff_ne.mpr fun e2 => hno m hmj ?_
    rw [List.getElem?_eq_getElem hmn, e2]
  · have rr := r.eraseIdx j
    rw [erase_mapS] at rr
    refine ⟨.non, _, I.lset (its' := its.eraseIdx j) (t' := s.toks) hH e ?_ rr ?_, rfl, q⟩
    · show its.toArray.eraseIdxIfInBounds j = (its.eraseIdx j).toArray
      rw [List.eraseIdxIfInBounds_toArray]
    · rw [List.length_map, List.length_eraseIdx]
      split <;> omega
end
end RD
set_option Elab.async false
set_option linter.all false
set_option maxRecDepth 100000
set_option maxHeartbeats 4000000
namespace RD
open PySem PySem.Spec PyProof.Rows L2

/-! ### defs of the top, their promises -/
structure Dfn (K : PySem.W.Frag) (mg : Str → Option Value) (x : Str) (st : Stmt) : Prop where
  ex : ∃ (f : Addr) (fd : FuncData), Fun K x x st f fd ∧ mg x = some (.ref f)
structure DfnD (K : PySem.W.Frag) (mg : Str → Option Value) (x : Str) (st : Stmt) (dvs : List V) : Prop where
  ex : ∃ (f : Addr) (fd : FuncData), FunD K x x (defArgs st) (defBody st) (defScope st) dvs [] f fd ∧ mg x = some (.ref f)
section
variable {P : Program} {w : World} {K : PySem.W.Frag} {mg : Str → Option Value} {base : Heap}
theorem Dfn.cal {x : Str} {st : Stmt} {N ps : List Str} {k : Nat} {sp : Sp} (D : Dfn K mg x st) (S : FnScope N ps (defScope st)) (len : ∀ vs H Q E, sp vs H Q E → vs.length = ps.length)
    (hbody : ∀ (f : Addr) (cdv : Value) (A : Around) (outer : List Env) (s : Shared) (H : Hp) (vs : List V) (Q : VK) (E : XK), Room k (A.deeper (envOfC x (defScope st) s.heap.objs.size f cdv)) → sp vs H Q E →
      ∃ t, PSs (cxOf CX0 P w K mg base N x (defScope st) f cdv A outer s H E).nox (defBody st) t ∧ t { nx := fun _ H' => Q .non H', rt := Q } (start N vs) H)
    (hb : ∀ (kV doc pm : Value) (an : Option Addr) (cdv ct : Value) (us : List Value), us.length = ps.length → bindArgs (PySem.W.fnOf x x (defArgs st) (defBody st) (defScope st) .none kV doc pm an cdv ct) ⟨us, []⟩ = pure (ps.zip us)) :
    Cal P w K mg base (k + 1) x sp [] := by
  obtain ⟨f, fd, F, hm⟩ := D.ex
  exact ⟨f, fd, ps, [], F.ok S len (hbody f), hm, F.kp, F.binds hb, .nil⟩
theorem Cal.mono {j k : Nat} {x : Str} {sp : Sp} {dvs : List V} (c : Cal P w K mg base j x sp dvs) (h : j ≤ k) : Cal P w K mg base k x sp dvs := by
  obtain ⟨f, fd, ps, ds, F, r⟩ := c.ex
  exact ⟨f, fd, ps, ds, F.mono h, r⟩
end

/-! ### heaps that keep -/
/-- all but the object at st stays -/
def Kb (st : Addr) (H H' : Hp) : Prop := ∀ b o, b ≠ st → H b = some o → H' b = some o
/-- tuples stay -/
def TK (H H' : Hp) : Prop := ∀ b xs, H b = some (.tup xs) → H' b = some (.tup xs)
theorem TK.refl (H : Hp) : TK H H := fun _ _ h => h
theorem TK.trans {H H1 H2 : Hp} (a : TK H H1) (b : TK H1 H2) : TK H H2 := fun c xs h => b c xs (a c xs h)
theorem Same.tk {H H' : Hp} (s : Same H H') : TK H H' := fun b _ h => s b _ h
theorem Same.upd {H : Hp} {p : Addr} {o : HO} (n : H p = none) : Same H (upd H p o) := fun b u h => by rw [upd_ne (ne_of_none h n)]; exact h
theorem Kb.refl (st : Addr) (H : Hp) : Kb st H H := fun _ _ _ h => h
theorem Kb.trans {st : Addr} {H H1 H2 : Hp} (a : Kb st H H1) (b : Kb st H1 H2) : Kb st H H2 := fun c o n h => b c o n (a c o n h)
theorem Same.kb {st : Addr} {H H' : Hp} (s : Same H H') : Kb st H H' := fun b o _ h => s b o h
theorem Kb.upd {st : Addr} {H : Hp} {o : HO} : Kb st H (upd H st o) := fun b u n h => by rw [upd_ne n]; exact h
theorem Kb.tk {st : Addr} {H H' : Hp} (s : Kb st H H') (h : ∀ xs, H st ≠ some (.tup xs)) : TK H H' := fun b xs e => s b _ (fun z => h xs (z ▸ e)) e
theorem Kb.free {st : Addr} {H H' : Hp} (s : Kb st H H') (hs : H st ≠ none) {b : Addr} (n : H' b = none) (hb : b ≠ st) : H b = none := by
  cases e : H b with
  | none => rfl
  | some o => rw [s b o hb e] at n; cases n

/-! ### data -/
/-- (NAME, CALLER, TALK) -/
abbrev Pr := Str × Str × Int
structure Tr where
  wait : Int
  deep : Int
  ppl : List Pr
def PAt (H : Hp) (v : V) (p : Pr) : Prop := ∃ a, v = .ref a ∧ H a = some (.tup [.str p.1, .str p.2.1, .int p.2.2])
def TAt (H : Hp) (v : V) (t : Tr) : Prop := ∃ a b vs, v = .ref a ∧ H a = some (.tup [.int t.wait, .int t.deep, .ref b]) ∧ H b = some (.tup vs) ∧ Paired (PAt H) vs t.ppl
theorem PAt.tk {H H' : Hp} {v : V} {p : Pr} (k : TK H H') (h : PAt H v p) : PAt H' v p := let ⟨a, e, q⟩ := h; ⟨a, e, k a _ q⟩
theorem Paired.tk {α : Type} {R : Hp → V → α → Prop} (st : ∀ {H H' : Hp} {v : V} {p : α}, TK H H' → R H v p → R H' v p) {H H' : Hp} (k : TK H H') {vs : List V} {ps : List α} (h : Paired (R H) vs ps) : Paired (R H') vs ps :=
  Paired.mapP h fun _ _ r => st k r
theorem PsAt.tk {H H' : Hp} {vs : List V} {ps : List Pr} (k : TK H H') (h : Paired (PAt H) vs ps) : Paired (PAt H') vs ps := Paired.tk (R := PAt) PAt.tk k h
theorem TAt.tk {H H' : Hp} {v : V} {t : Tr} (k : TK H H') (h : TAt H v t) : TAt H' v t := by
  obtain ⟨a, b, vs, e, ha, hb, r⟩ := h
  exact ⟨a, b, vs, e, k a _ ha, k b _ hb, PsAt.tk k r⟩
theorem Paired.get {α : Type} {R : V → α → Prop} : ∀ {vs : List V} {ps : List α}, Paired R vs ps → ∀ {i : Nat} {v : V}, vs[i]? = some v → ∃ p, ps[i]? = some p ∧ R v p
  | _, _, .nil, i, v, h => by simp at h
  | _, _, .cons r t, 0, v, h => by
    simp at h
    subst h
    exact ⟨_, by simp, r⟩
  | _, _, .cons r t, i + 1, v, h => by
    obtain ⟨p, h1, h2⟩ := Paired.get t (i := i) (v := v) (by simpa using h)
    exact ⟨p, by simpa using h1, h2⟩
theorem Paired.len {α : Type} {R : V → α → Prop} {vs : List V} {ps : List α} (h : Paired R vs ps) : vs.length = ps.length := Paired.length h
theorem Paired.app {α : Type} {R : V → α → Prop} : ∀ {vs ws : List V} {ps qs : List α}, Paired R vs ps → Paired R ws qs → Paired R (vs ++ ws) (ps ++ qs)
  | _, _, _, _, .nil, s => s
  | _, _, _, _, .cons r t, s => .cons r (Paired.app t s)
theorem Paired.strs : ∀ (ns : List Str), Paired (fun v (n : Str) => v = V.str n) (ns.map V.str) ns
  | [] => .nil
  | _ :: r => .cons rfl (Paired.strs r)
theorem Paired.toStrs : ∀ {vs : List V} {ns : List Str}, Paired (fun v (n : Str) => v = V.str n) vs ns → vs = ns.map V.str
  | _, _, .nil => rfl
  | _, _, .cons r t => by rw [r, Paired.toStrs t]; rfl

theorem Paired.toMap {α : Type} {F : α → V} : ∀ {vs : List V} {ds : List α}, Paired (fun v (a : α) => v = F a) vs ds → vs = ds.map F
  | _, _, .nil => rfl
  | _, _, .cons r t => by rw [r, Paired.toMap t]; rfl
theorem Paired.ofMap {α : Type} (F : α → V) : ∀ ds : List α, Paired (fun v (a : α) => v = F a) (ds.map F) ds
  | [] => .nil
  | _ :: r => .cons rfl (Paired.ofMap F r)
/-- the signs of a text -/
def sgn (z : Str) : List V := z.cps.toList.map fun c => V.str ⟨#[c]⟩
theorem walk_strL {z : Str} : Walk (Its z) (sgn z).length (fun _ => True) (YAt (sgn z)) := by
  have e : (sgn z).length = z.cps.size := by simp [sgn]
  rw [e]
  refine (walk_str (z := z)).mono (fun _ _ => trivial) fun i H x H' hi _ y => ?_
  obtain ⟨h1, c, hc, rfl⟩ := y
  refine ⟨h1, ?_⟩
  simp [sgn, hc]
theorem fm_some {α β : Type} (f : α → β) (l : List α) : l.filterMap (fun a => some (f a)) = l.map f := by
  induction l with
  | nil => rfl
  | cons a r ih => simp [ih]

/-! ### a comprehension by what its items and what it makes of them are -/
section
variable {J : It} {G : Hp → Prop} {xs : List V} {g : TG} {tt : TT} {te : TE} {vs : List Nat} {σ : L2.St} {H1 : Hp} {D : Addr} {Qd : Hp → Prop} {δ ε : Type}
theorem lc_relG {n : Nat} {Y : Nat → Hp → V → Hp → Prop} (ds : List δ) (f : δ → Option ε) (Rx : Hp → V → δ → Prop) (Ry : Hp → V → ε → Prop) (w : Walk J n G Y) (hG : ∀ H', Same H1 H' → G H') (hD : H1 D = none) (hn : n < sizeLine) (hl : ds.length = n)
    (hY : ∀ (i : Nat) (H : Hp) (x : V) (H' : Hp), i < n → Same H1 H → Y i H x H' → ∃ d, ds[i]? = some d ∧ Same H H' ∧ Rx H' x d) (sy : ∀ {H H' : Hp} {v : V} {d : ε}, TK H H' → Ry H v d → Ry H' v d)
    (hs : ∀ (x : V) (d : δ) (H' : Hp) (Qk : V → Hp → Prop) (Qn : Hp → Prop), d ∈ ds → Same H1 H' → Rx H' x d → (∀ (y : V) (e : ε) (H4 : Hp), f d = some e → Same H' H4 → Ry H4 y e → Qk y H4) → (f d = none → ∀ H3, Same H' H3 → Qn H3) →
      g x (wipe σ vs) H' fun σ2 H2 => wipe σ2 vs = wipe σ vs ∧ tt σ2 H2 fun b H3 => if b = true then te σ2 H3 Qk else Qn H3)
    (hd : ∀ (H' : Hp) (ys : List V), Same H1 H' → H' D = some (.lst ys) → Paired (Ry H') ys (ds.filterMap f) → Qd H') :
    ∃ W : Nat → Nat → Hp → Prop, (∃ m, W 0 m (upd H1 D (.lst []))) ∧ ∀ i m H, W i m H →
      (J.stop i H ∧ Qd H) ∨ (J.go i H ∧ ∃ Nx : Hp → Prop, (∀ H', Nx H' → ∃ m', m' < m ∧ W (i + 1) m' H') ∧ ∀ x H', J.yld i H x H' → g x (wipe σ vs) H' fun σ2 H2 => wipe σ2 vs = wipe σ vs ∧ tt σ2 H2 fun b H3 =>
        if b = true then te σ2 H3 fun y H4 => ∃ acc, H4 D = some (.lst acc) ∧ acc.length < sizeLine ∧ Nx (upd H4 D (.lst (acc ++ [y]))) else Nx H3) := by
  refine lc_it w (fun i H => Same H1 H ∧ ∃ ys, H D = some (.lst ys) ∧ ys.length ≤ i ∧ Paired (Ry H) ys ((ds.take i).filterMap f)) ⟨Same.upd hD, [], upd_same, Nat.le_refl _, by rw [List.take_zero]; exact .nil⟩ (fun i H _ p => hG H p.1) ?_ ?_
  · rintro i x H H' hi ⟨s, ys, hy, hl, r⟩ hyl
    obtain ⟨d, hd', sH, rx⟩ := hY i H x H' hi s hyl
    have hm : d ∈ ds := List.mem_of_getElem? hd'
    have et : ds.take (i + 1) = ds.take i ++ [d] := by
      rw [List.take_succ, hd']
      rfl
    refine hs x d H' _ _ hm (s.trans sH) rx (fun y e H4 ef s4 ry => ?_) fun ef H3 s3 => ?_
    · have s4 := sH.trans s4
      refine ⟨ys, s4 _ _ hy, Nat.lt_of_le_of_lt hl (Nat.lt_trans hi hn), ?_, ys ++ [y], upd_same, ?_, ?_⟩
      · exact fun b o h => by
          have nb : b ≠ D := ne_of_none h hD
          rw [upd_ne nb]
          exact s4 _ _ (s _ _ h)
      · rw [List.length_append, List.length_singleton]
        omega
      · have k1 : TK H4 (L2.upd H4 D (.lst (ys ++ [y]))) := fun b ts h => by
          have nb : b ≠ D := ne_of h (s4 _ _ hy) (by intro z; cases z)
          rw [upd_ne nb]
          exact h
        rw [et, List.filterMap_append]
        refine Paired.app (Paired.tk (R := Ry) sy ((Same.tk s4).trans k1) r) ?_
        have e1 : [d].filterMap f = [e] := by simp [ef]
        rw [e1]
        exact .cons (sy k1 ry) .nil
    · have s3 := sH.trans s3
      refine ⟨s.trans s3, ys, s3 _ _ hy, Nat.le_succ_of_le hl, ?_⟩
      rw [et, List.filterMap_append]
      have e1 : [d].filterMap f = [] := by simp [ef]
      rw [e1, List.append_nil]
      exact Paired.tk (R := Ry) sy (Same.tk s3) r
  · rintro H ⟨s, ys, hy, _, r⟩
    refine hd H ys s hy ?_
    have e : ds.take n = ds := by rw [← hl, List.take_length]
    rw [e] at r
    exact r
theorem lc_rel (ds : List δ) (f : δ → Option ε) (Rx : Hp → V → δ → Prop) (Ry : Hp → V → ε → Prop) (w : Walk J xs.length G (YAt xs)) (hG : ∀ H', Same H1 H' → G H') (hD : H1 D = none) (hn : xs.length < sizeLine)
    (hx : Paired (Rx H1) xs ds) (sx : ∀ {H H' : Hp} {v : V} {d : δ}, Same H H' → Rx H v d → Rx H' v d) (sy : ∀ {H H' : Hp} {v : V} {d : ε}, TK H H' → Ry H v d → Ry H' v d)
    (hs : ∀ (x : V) (d : δ) (H' : Hp) (Qk : V → Hp → Prop) (Qn : Hp → Prop), d ∈ ds → Same H1 H' → Rx H' x d → (∀ (y : V) (e : ε) (H4 : Hp), f d = some e → Same H' H4 → Ry H4 y e → Qk y H4) → (f d = none → ∀ H3, Same H' H3 → Qn H3) →
      g x (wipe σ vs) H' fun σ2 H2 => wipe σ2 vs = wipe σ vs ∧ tt σ2 H2 fun b H3 => if b = true then te σ2 H3 Qk else Qn H3)
    (hd : ∀ (H' : Hp) (ys : List V), Same H1 H' → H' D = some (.lst ys) → Paired (Ry H') ys (ds.filterMap f) → Qd H') :
    ∃ W : Nat → Nat → Hp → Prop, (∃ m, W 0 m (upd H1 D (.lst []))) ∧ ∀ i m H, W i m H →
      (J.stop i H ∧ Qd H) ∨ (J.go i H ∧ ∃ Nx : Hp → Prop, (∀ H', Nx H' → ∃ m', m' < m ∧ W (i + 1) m' H') ∧ ∀ x H', J.yld i H x H' → g x (wipe σ vs) H' fun σ2 H2 => wipe σ2 vs = wipe σ vs ∧ tt σ2 H2 fun b H3 =>
        if b = true then te σ2 H3 fun y H4 => ∃ acc, H4 D = some (.lst acc) ∧ acc.length < sizeLine ∧ Nx (upd H4 D (.lst (acc ++ [y]))) else Nx H3) :=
  lc_relG ds f Rx Ry w hG hD hn (Paired.len hx).symm (fun i H x H' hi s ⟨e, hx'⟩ => by
    subst e
    obtain ⟨d, hd', rx⟩ := Paired.get hx hx'
    exact ⟨d, hd', Same.refl _, sx s rx⟩) sy hs hd
end
end RD
namespace RD
open PySem PySem.Spec PyProof.Rows L2
section
variable {P : Program} {w : World} {K : PySem.W.Frag} {mg : Str → Option Value} {base : Heap}
/-- a def with defaults: its body's promise -/
theorem DfnD.fn {x : Str} {st : Stmt} {dvs : List V} {N ps : List Str} {k : Nat} {sp : Sp} {f : Addr} {fd : FuncData} (F : FunD K x x (defArgs st) (defBody st) (defScope st) dvs [] f fd) (S : FnScope N ps (defScope st)) (len : ∀ vs H Q E, sp vs H Q E → vs.length = ps.length)
    (hbody : ∀ (f : Addr) (cdv : Value) (A : Around) (outer : List Env) (s : Shared) (H : Hp) (vs : List V) (Q : VK) (E : XK), Room k (A.deeper (envOfC x (defScope st) s.heap.objs.size f cdv)) → sp vs H Q E →
      ∃ t, PSs (cxOf CX0 P w K mg base N x (defScope st) f cdv A outer s H E).nox (defBody st) t ∧ t { nx := fun _ H' => Q .non H', rt := Q } (start N vs) H) : FnOk P w K mg base CX0 (k + 1) f fd ps sp :=
  F.ok S len fun cdv A outer s H vs Q E hr hsp => by
    obtain ⟨t, h, q⟩ := hbody f cdv A outer s H vs Q E hr hsp
    exact ⟨t, h.nox, q⟩
/-- a call with the first n by place, the defaults behind the first j fill up -/
theorem cal_d {x : Str} {st : Stmt} {dvs : List V} {k : Nat} {sp : Sp} {f : Addr} {fd : FuncData} {ps : List Str} (F : FunD K x x (defArgs st) (defBody st) (defScope st) dvs [] f fd) (hm : mg x = some (.ref f)) (G : FnOk P w K mg base CX0 k f fd ps sp) (n j : Nat) (hd : dvs ≠ []) (hn : n + (dvs.length - j) = ps.length)
    (h : ∀ (T : Addr) (kV doc pm : Value) (an : Option Addr) (cdv ct : Value) (us its : List Value), us.length = n → its.length = dvs.length →
      ∃ k, bindArgs (PySem.W.fnOf x x (defArgs st) (defBody st) (defScope st) (.ref T) kV doc pm an cdv ct) ⟨us, []⟩ = seqItems? (.ref T) >>= k ∧ k (some its.toArray) = pure (ps.zip (us ++ its.drop j))) : Cal P w K mg base k x sp (dvs.drop j) := by
  obtain ⟨ds, d, b⟩ := F.binds1 n j hd hn h
  exact ⟨f, fd, ps, ds, G, hm, F.kp, b, d⟩
/-- a call with keywords of a def with defaults -/
theorem calk_d {x : Str} {st : Stmt} {dvs : List V} {k : Nat} {sp : Sp} {f : Addr} {fd : FuncData} {ps : List Str} (F : FunD K x x (defArgs st) (defBody st) (defScope st) dvs [] f fd) (hm : mg x = some (.ref f)) (G : FnOk P w K mg base CX0 k f fd ps sp) (n : Nat) (ks : List Str) (g : {α : Type} → List α → List α → List α) (hd : dvs ≠ [])
    (hrel : ∀ {vs zs : List V} {us ws : List Value}, Vals vs us → Vals zs ws → Vals (g vs zs) (g us ws))
    (h : ∀ (T : Addr) (kV doc pm : Value) (an : Option Addr) (cdv ct : Value) (us ws its : List Value), us.length = n → ws.length = ks.length → its.length = dvs.length →
      ∃ k, bindArgs (PySem.W.fnOf x x (defArgs st) (defBody st) (defScope st) (.ref T) kV doc pm an cdv ct) ⟨us, ks.zip ws⟩ = seqItems? (.ref T) >>= k ∧ k (some its.toArray) = pure (ps.zip (g us ws))) : CalK P w K mg base k x n ks (fun vs zs => g vs zs) sp := by
  refine ⟨f, fd, ps, fun us ws => g us ws, G, hm, F.kp, ⟨fun s us ws X l1 l2 => ?_, fun r1 r2 => hrel r1 r2⟩⟩
  obtain ⟨oc, od, dV, kV, doc, pm, an, cdv, ct, osl, rfl, lk, hcd, hD, hK⟩ := F.ex
  rcases hD with ⟨e, _⟩ | ⟨_, T, o, its, m, rfl, lT, oT, rT⟩
  · exact absurd e hd
  · obtain ⟨k, e1, e2⟩ := h T kV doc pm an cdv ct us ws its l1 l2 rT.length.symm
    refine BindsTo.of_looks fun M => ?_
    rw [e1]
    exact looks_items X lT oT (.of_pure e2)
/-- a call with keywords of a def without defaults -/
theorem Dfn.calk {x : Str} {st : Stmt} {N ps : List Str} {k : Nat} {sp : Sp} (D : Dfn K mg x st) (S : FnScope N ps (defScope st)) (len : ∀ vs H Q E, sp vs H Q E → vs.length = ps.length)
    (hbody : ∀ (f : Addr) (cdv : Value) (A : Around) (outer : List Env) (s : Shared) (H : Hp) (vs : List V) (Q : VK) (E : XK), Room k (A.deeper (envOfC x (defScope st) s.heap.objs.size f cdv)) → sp vs H Q E →
      ∃ t, PSs (cxOf CX0 P w K mg base N x (defScope st) f cdv A outer s H E).nox (defBody st) t ∧ t { nx := fun _ H' => Q .non H', rt := Q } (start N vs) H)
    (n : Nat) (ks : List Str) (g : {α : Type} → List α → List α → List α) (hrel : ∀ {vs zs : List V} {us ws : List Value}, Vals vs us → Vals zs ws → Vals (g vs zs) (g us ws))
    (hb : ∀ (kV doc pm : Value) (an : Option Addr) (cdv ct : Value) (us ws : List Value), us.length = n → ws.length = ks.length → bindArgs (PySem.W.fnOf x x (defArgs st) (defBody st) (defScope st) .none kV doc pm an cdv ct) ⟨us, ks.zip ws⟩ = pure (ps.zip (g us ws))) :
    CalK P w K mg base (k + 1) x n ks (fun vs zs => g vs zs) sp := by
  obtain ⟨f, fd, F, hm⟩ := D.ex
  refine ⟨f, fd, ps, fun us ws => g us ws, F.ok S len (hbody f), hm, F.kp, ⟨fun s us ws X l1 l2 => ?_, fun r1 r2 => hrel r1 r2⟩⟩
  obtain ⟨oc, od, kV, doc, pm, an, cdv, ct, osl, rfl, lk, hcd⟩ := F.ex
  exact .of_eq (hb kV doc pm an cdv ct us ws l1 l2)
end
end RD
namespace RD
open PySem PySem.Spec PyProof.Rows L2
theorem inV_strs (x : Str) : ∀ ns : List Str, inV (.str x) (ns.map V.str) = decide (x ∈ ns)
  | [] => by simp [inV]
  | n :: r => by
    have ih := inV_strs x r
    unfold inV at ih ⊢
    rw [List.map_cons, List.any_cons, ih]
    by_cases e : n = x
    · subst e
      simp [eqV]
    · have e' : ¬ x = n := fun z => e z.symm
      simp [eqV, e, e']
theorem flat_strs (ns : List Str) : (ns.map V.str).all flatV = true := by simp [flatV]
end RD
namespace RD
open PySem PySem.Spec PyProof.Rows L2
theorem cut_take (xs : List V) (k : Nat) : cutV xs none (some (k : Int)) = xs.take k := by
  unfold cutV
  rw [HT.sIx_none, HT.sIx_nat, List.drop_zero, Nat.sub_zero]
  by_cases h : k ≤ xs.length
  · rw [Nat.min_eq_left h]
  · rw [Nat.min_eq_right (by omega), List.take_length, List.take_of_length_le (by omega)]
theorem cut_drop (xs : List V) (k : Nat) : cutV xs (some (k : Int)) none = xs.drop k := by
  unfold cutV
  rw [HT.sIx_none, HT.sIx_nat]
  by_cases h : k ≤ xs.length
  · rw [Nat.min_eq_left h, List.take_of_length_le (by rw [List.length_drop]; exact Nat.le_refl _)]
  · rw [Nat.min_eq_right (by omega), List.drop_length, List.drop_of_length_le (by omega)]
    simp
theorem Paired.takeP {α : Type} {R : V → α → Prop} : ∀ (n : Nat) {vs : List V} {ps : List α}, Paired R vs ps → Paired R (vs.take n) (ps.take n)
  | 0, _, _, _ => .nil
  | _ + 1, _, _, .nil => .nil
  | n + 1, _, _, .cons r t => .cons r (Paired.takeP n t)
theorem Paired.dropP {α : Type} {R : V → α → Prop} : ∀ (n : Nat) {vs : List V} {ps : List α}, Paired R vs ps → Paired R (vs.drop n) (ps.drop n)
  | 0, _, _, h => h
  | _ + 1, _, _, .nil => .nil
  | n + 1, _, _, .cons _ t => Paired.dropP n t
end RD
namespace RD
open PySem PySem.Spec PyProof.Rows L2
/-! ### dicts by their keys -/
theorem putK_len {kvs : List (Key × V)} {k : Key} (v : V) (h : (valV kvs k).isSome = true) : (putK kvs k v).length = kvs.length := by
  unfold putK
  rw [valV_any, if_pos h, List.length_map]
theorem putK_le {kvs : List (Key × V)} {k : Key} {v u : V} (h : valV kvs k = some u) {n : Nat} (hn : kvs.length ≤ n) : (putK kvs k v).length ≤ n := by
  rw [putK_len v (by rw [h]; rfl)]
  exact hn
theorem val_put_same {kvs : List (Key × V)} {k : Key} {v : V} : valV (putK kvs k v) k = some v := by rw [valV_put, if_pos rfl]
theorem val_put_ne {kvs : List (Key × V)} {k j : Key} {v : V} (h : ¬ j = k) : valV (putK kvs k v) j = valV kvs j := by rw [valV_put, if_neg h]
/-! ### the state that draws are made by -/
def StAt (H : Hp) (st : Addr) (N : Nat) : Prop := ∃ (kvs : List (Key × V)) (l c t : Int), H st = some (.dK kvs) ∧ kvs.length ≤ 3 ∧ valV kvs (.inr "left") = some (.int l) ∧ valV kvs (.inr "cell") = some (.int c) ∧ valV kvs (.inr "turns") = some (.int t) ∧ 0 ≤ t ∧ t ≤ N
theorem StAt.nt {H : Hp} {st : Addr} {N : Nat} (h : StAt H st N) : ∀ xs, H st ≠ some (.tup xs) := fun xs z => by
  obtain ⟨kvs, _, _, _, e, _⟩ := h
  rw [e] at z
  cases z
theorem StAt.some {H : Hp} {st : Addr} {N : Nat} (h : StAt H st N) : H st ≠ none := fun z => by
  obtain ⟨kvs, _, _, _, e, _⟩ := h
  rw [e] at z
  cases z
theorem StAt.mono {H : Hp} {st : Addr} {N M : Nat} (h : StAt H st N) (l : N ≤ M) : StAt H st M := by
  obtain ⟨kvs, a, c, t, h0, h1, h2, h3, h4, h5, h6⟩ := h
  exact ⟨kvs, a, c, t, h0, h1, h2, h3, h4, h5, by omega⟩
theorem StAt.same {H H' : Hp} {st : Addr} {N : Nat} (h : StAt H st N) (s : Same H H') : StAt H' st N := by
  obtain ⟨kvs, a, c, t, h0, r⟩ := h
  exact ⟨kvs, a, c, t, s _ _ h0, r⟩
theorem StAt.kb {H : Hp} {st : Addr} {N : Nat} (h : StAt H st N) {H' : Hp} (k : Kb st H H') : TK H H' := Kb.tk k h.nt
theorem ne_tl : ¬ ((Sum.inr ("left" : Str) : Key) = Sum.inr ("turns" : Str)) := by decide +kernel
theorem ne_ct : ¬ ((Sum.inr ("cell" : Str) : Key) = Sum.inr ("turns" : Str)) := by decide +kernel
theorem ne_cl : ¬ ((Sum.inr ("cell" : Str) : Key) = Sum.inr ("left" : Str)) := by decide +kernel
theorem ne_lt : ¬ ((Sum.inr ("turns" : Str) : Key) = Sum.inr ("left" : Str)) := by decide +kernel
theorem ne_tc : ¬ ((Sum.inr ("turns" : Str) : Key) = Sum.inr ("cell" : Str)) := by decide +kernel
theorem ne_lc : ¬ ((Sum.inr ("left" : Str) : Key) = Sum.inr ("cell" : Str)) := by decide +kernel
end RD
set_option Elab.async false
set_option linter.all false
set_option maxRecDepth 100000
set_option maxHeartbeats 4000000
namespace RD
open PySem PySem.Spec PyProof.Rows L2

/-! ### dicts whose keys are texts, by a function -/
def mapD (ks : List Str) (g : Str → V) : List (Key × V) := ks.map fun x => ((Sum.inr x : Key), g x)
theorem mapD_len (ks : List Str) (g : Str → V) : (mapD ks g).length = ks.length := List.length_map _
theorem mapD_val (g : Str → V) (y : Str) : ∀ ks : List Str, valV (mapD ks g) (Sum.inr y) = if y ∈ ks then some (g y) else none
  | [] => rfl
  | x :: r => by
    have ih := mapD_val g y r
    by_cases e : x = y
    · subst e
      rw [show mapD (x :: r) g = ((Sum.inr x : Key), g x) :: mapD r g from rfl, valV_pos rfl, if_pos (List.mem_cons_self ..)]
    · rw [show mapD (x :: r) g = ((Sum.inr x : Key), g x) :: mapD r g from rfl, valV_neg (fun z => e (Sum.inr.inj z)), ih]
      have e' : ¬ y = x := fun z => e z.symm
      simp [e']
theorem mapD_mem {g : Str → V} {y : Str} {ks : List Str} (h : y ∈ ks) : valV (mapD ks g) (Sum.inr y) = some (g y) := by rw [mapD_val, if_pos h]
def setF (g : Str → V) (y : Str) (v : V) : Str → V := fun x => if x = y then v else g x
theorem mapD_put_in {ks : List Str} {g : Str → V} {y : Str} {v : V} (h : y ∈ ks) : putK (mapD ks g) (Sum.inr y) v = mapD ks (setF g y v) := by
  have e : ((mapD ks g).any fun kv => decide (kv.1 = (Sum.inr y : Key))) = true := by
    rw [valV_any, mapD_mem h]
    rfl
  unfold putK
  rw [if_pos e]
  unfold mapD
  rw [List.map_map]
  refine List.map_congr_left fun x _ => ?_
  show (if (Sum.inr x : Key) = Sum.inr y then ((Sum.inr x : Key), v) else (Sum.inr x, g x)) = (Sum.inr x, setF g y v x)
  unfold setF
  by_cases e : x = y
  · subst e
    rw [if_pos rfl, if_pos rfl]
  · rw [if_neg (fun z => e (Sum.inr.inj z)), if_neg e]
theorem mapD_put_new {ks : List Str} {g : Str → V} {y : Str} {v : V} (h : y ∉ ks) : putK (mapD ks g) (Sum.inr y) v = mapD (ks ++ [y]) (setF g y v) := by
  have e : valV (mapD ks g) (Sum.inr y) = none := by rw [mapD_val, if_neg h]
  rw [putK_new v e]
  unfold mapD
  rw [List.map_append]
  congr 1
  · refine List.map_congr_left fun x hx => ?_
    have e : ¬ x = y := fun z => h (z ▸ hx)
    simp [setF, e]
  · simp [setF]
theorem mapD_drop (ks : List Str) (g : Str → V) (y : Str) : dropK (mapD ks g) (Sum.inr y) = mapD (ks.filter fun x => decide (x ≠ y)) g := by
  unfold dropK mapD
  rw [List.filter_map]
  congr 1
  refine List.filter_congr fun x _ => ?_
  show decide ((Sum.inr x : Key) ≠ Sum.inr y) = decide (x ≠ y)
  by_cases e : x = y
  · subst e
    simp
  · have e' : ¬ (Sum.inr x : Key) = Sum.inr y := fun z => e (Sum.inr.inj z)
    simp [e]
theorem mapD_congr {ks : List Str} {g h : Str → V} (e : ∀ x ∈ ks, g x = h x) : mapD ks g = mapD ks h := List.map_congr_left fun x hx => by rw [e x hx]
theorem dgetM {H : Hp} {a : Addr} {ks : List Str} {g : Str → V} {y : Str} (h : H a = some (.dK (mapD ks g))) (hy : y ∈ ks) : DGet H a (.str y) (some (g y)) := by
  have z := DGet.k (k := Sum.inr y) h
  rw [mapD_mem hy] at z
  exact z
theorem dgetF {H : Hp} {a : Addr} {od : Obj} {ks : List Str} {g : Str → V} {y : Str} (h : H a = some (.frz od (.dK (mapD ks g)))) (hy : y ∈ ks) : DGet H a (.str y) (some (g y)) :=
  .inl ⟨mapD ks g, Sum.inr y, .inr ⟨od, h⟩, rfl, (mapD_mem hy).symm⟩

/-! ### the law's own lists of a tree -/
/-- the dict at o: wait, deep, the lists by names (keys, in order; ls what they hold), the talks by names (nm, in order). All of it was made since H0; what stood in H0 stands, but for the state at st -/
structure OwnX (st : Addr) (H0 H : Hp) (o : Addr) (w d : Int) (keys : List Str) (ls : Str → List Str) (nm : List Str) (tf : Str → Int) (kvs : List (Key × V)) (dl dt : Addr) (ad : Str → Addr) : Prop where
  ho : H o = some (.dK kvs)
  k4 : kvs.length ≤ 4
  ew : valV kvs (.inr "wait") = some (.int w)
  ed : valV kvs (.inr "deep") = some (.int d)
  el : valV kvs (.inr "lists") = some (.ref dl)
  et : valV kvs (.inr "talks") = some (.ref dt)
  hl : H dl = some (.dK (mapD keys fun x => .ref (ad x)))
  ht : H dt = some (.dK (mapD nm fun x => .int (tf x)))
  hx : ∀ x ∈ keys, H (ad x) = some (.lst ((ls x).map V.str))
  inj : ∀ x ∈ keys, ∀ y ∈ keys, ad x = ad y → x = y
  n1 : o ≠ dl
  n2 : o ≠ dt
  n3 : dl ≠ dt
  fo : H0 o = none
  fl : H0 dl = none
  ft : H0 dt = none
  fx : ∀ x ∈ keys, H0 (ad x) = none
  kb : Kb st H0 H
  hst : H0 st ≠ none
  kn : keys.Nodup
  nn : nm.Nodup
  few : keys.length ≤ 50
  fw2 : nm.length ≤ 50
  fwl : ∀ x ∈ keys, (ls x).length ≤ 50
def OwnAt (st : Addr) (H0 H : Hp) (o : Addr) (w d : Int) (keys : List Str) (ls : Str → List Str) (nm : List Str) (tf : Str → Int) : Prop := ∃ kvs dl dt ad, OwnX st H0 H o w d keys ls nm tf kvs dl dt ad
def updF {α : Type} (f : Str → α) (x : Str) (a : α) : Str → α := fun y => if y = x then a else f y
theorem updF_same {α : Type} {f : Str → α} {x : Str} {a : α} : updF f x a x = a := if_pos rfl
theorem updF_ne {α : Type} {f : Str → α} {x y : Str} {a : α} (h : y ≠ x) : updF f x a y = f y := if_neg h
theorem ne_lists_wait : ¬ ((Sum.inr ("lists" : Str) : Key) = Sum.inr ("wait" : Str)) := by decide +kernel
section
variable {st : Addr} {H0 H : Hp} {o : Addr} {w d : Int} {keys nm : List Str} {ls : Str → List Str} {tf : Str → Int} {kvs : List (Key × V)} {dl dt : Addr} {ad : Str → Addr}
theorem OwnX.ns (h : OwnX st H0 H o w d keys ls nm tf kvs dl dt ad) {a : Addr} (z : H0 a = none) : a ≠ st := fun q => h.hst (q ▸ z)
/-- another state, or more objects -/
theorem OwnX.keep (h : OwnX st H0 H o w d keys ls nm tf kvs dl dt ad) {H' : Hp} (k : Kb st H H') : OwnX st H0 H' o w d keys ls nm tf kvs dl dt ad :=
  { h with ho := k _ _ (h.ns h.fo) h.ho, hl := k _ _ (h.ns h.fl) h.hl, ht := k _ _ (h.ns h.ft) h.ht, hx := fun x m => k _ _ (h.ns (h.fx x m)) (h.hx x m), kb := h.kb.trans k }
theorem OwnX.same (h : OwnX st H0 H o w d keys ls nm tf kvs dl dt ad) {H' : Hp} (s : Same H H') : OwnX st H0 H' o w d keys ls nm tf kvs dl dt ad := h.keep (Same.kb s)
/-- only what is asked of the functions counts -/
theorem OwnX.congr (h : OwnX st H0 H o w d keys ls nm tf kvs dl dt ad) {ls' : Str → List Str} {tf' : Str → Int} (e1 : ∀ x ∈ keys, ls x = ls' x) (e2 : ∀ x ∈ nm, tf x = tf' x) : OwnX st H0 H o w d keys ls' nm tf' kvs dl dt ad :=
  { h with hx := fun x m => e1 x m ▸ h.hx x m, fwl := fun x m => e1 x m ▸ h.fwl x m, ht := by rw [h.ht, mapD_congr fun x m => by rw [e2 x m]] }
theorem OwnX.tk (h : OwnX st H0 H o w d keys ls nm tf kvs dl dt ad) : TK H0 H → TK H0 H := id
theorem OwnX.dlad (h : OwnX st H0 H o w d keys ls nm tf kvs dl dt ad) {x : Str} (m : x ∈ keys) : ad x ≠ o ∧ ad x ≠ dl ∧ ad x ≠ dt :=
  ⟨ne_of (h.hx x m) h.ho (by intro z; cases z), ne_of (h.hx x m) h.hl (by intro z; cases z), ne_of (h.hx x m) h.ht (by intro z; cases z)⟩
/-- the list of x is changed -/
theorem OwnX.setList (h : OwnX st H0 H o w d keys ls nm tf kvs dl dt ad) {x : Str} (m : x ∈ keys) {new : List Str} (hn : new.length ≤ 50) : OwnX st H0 (upd H (ad x) (.lst (new.map V.str))) o w d keys (updF ls x new) nm tf kvs dl dt ad := by
  obtain ⟨a1, a2, a3⟩ := h.dlad m
  refine { h with ho := by rw [upd_ne a1.symm]; exact h.ho, hl := by rw [upd_ne a2.symm]; exact h.hl, ht := by rw [upd_ne a3.symm]; exact h.ht, hx := fun y my => ?hx, fwl := fun y my => ?fwl, kb := fun b u nb hb => ?kb }
  case hx =>
    by_cases e : y = x
    · subst e
      rw [upd_same, updF_same]
    · rw [upd_ne (fun z => e (h.inj y my x m z)), updF_ne e]
      exact h.hx y my
  case fwl =>
    by_cases e : y = x
    · subst e
      rw [updF_same]
      exact hn
    · rw [updF_ne e]
      exact h.fwl y my
  case kb =>
    rw [upd_ne (ne_of_none hb (h.fx x m))]
    exact h.kb b u nb hb
/-- lists[x] = the list at p, x a new one -/
theorem OwnX.newKey (h : OwnX st H0 H o w d keys ls nm tf kvs dl dt ad) {x : Str} (m : x ∉ keys) {p : Addr} {new : List Str} (hp : H p = some (.lst (new.map V.str))) (fp : H0 p = none) (np : ∀ y ∈ keys, ad y ≠ p) (hn : new.length ≤ 50) (hk : keys.length < 50) :
    OwnX st H0 (upd H dl (.dK (putK (mapD keys fun x => .ref (ad x)) (Sum.inr x) (.ref p)))) o w d (keys ++ [x]) (updF ls x new) nm tf kvs dl dt (updF ad x p) := by
  have npl : p ≠ dl := ne_of hp h.hl (by intro z; cases z)
  have nx : ∀ y ∈ keys, y ≠ x := fun y my z => m (z ▸ my)
  refine { h with ho := by rw [upd_ne h.n1]; exact h.ho, hl := ?hl, ht := by rw [upd_ne h.n3.symm]; exact h.ht, hx := fun y my => ?hx, fwl := fun y my => ?fwl, kb := fun b u nb hb => ?kb, inj := fun y my z mz e => ?inj, fx := fun y my => ?fx, kn := ?kn, few := ?few }
  case hl =>
    rw [upd_same, mapD_put_new m]
    refine congrArg (fun z => some (HO.dK z)) (mapD_congr fun y _ => ?_)
    unfold setF updF
    split <;> rfl
  case hx =>
    rcases List.mem_append.mp my with q | q
    · rw [updF_ne (nx y q), updF_ne (nx y q), upd_ne (h.dlad q).2.1]
      exact h.hx y q
    · rw [List.mem_singleton.mp q, updF_same, updF_same, upd_ne npl]
      exact hp
  case fwl =>
    rcases List.mem_append.mp my with q | q
    · rw [updF_ne (nx y q)]
      exact h.fwl y q
    · rw [List.mem_singleton.mp q, updF_same]
      exact hn
  case kb =>
    rw [upd_ne (ne_of_none hb h.fl)]
    exact h.kb b u nb hb
  case inj =>
    rcases List.mem_append.mp my with q | q <;> rcases List.mem_append.mp mz with r | r
    · rw [updF_ne (nx y q), updF_ne (nx z r)] at e
      exact h.inj y q z r e
    · rw [updF_ne (nx y q), List.mem_singleton.mp r, updF_same] at e
      exact absurd e (np y q)
    · rw [updF_ne (nx z r), List.mem_singleton.mp q, updF_same] at e
      exact absurd e.symm (np z r)
    · rw [List.mem_singleton.mp q, List.mem_singleton.mp r]
  case fx =>
    rcases List.mem_append.mp my with q | q
    · rw [updF_ne (nx y q)]
      exact h.fx y q
    · rw [List.mem_singleton.mp q, updF_same]
      exact fp
  case kn =>
    rw [List.nodup_append]
    refine ⟨h.kn, by simp, fun a ha b hb e => ?_⟩
    rw [List.mem_singleton.mp hb] at e
    exact m (e ▸ ha)
  case few =>
    rw [List.length_append, List.length_singleton]
    omega
/-- lists[x] = the list at p, x there already -/
theorem OwnX.setKey (h : OwnX st H0 H o w d keys ls nm tf kvs dl dt ad) {x : Str} (m : x ∈ keys) {p : Addr} {new : List Str} (hp : H p = some (.lst (new.map V.str))) (fp : H0 p = none) (np : ∀ y ∈ keys, ad y ≠ p) (hn : new.length ≤ 50) :
    OwnX st H0 (upd H dl (.dK (putK (mapD keys fun x => .ref (ad x)) (Sum.inr x) (.ref p)))) o w d keys (updF ls x new) nm tf kvs dl dt (updF ad x p) := by
  have npl : p ≠ dl := ne_of hp h.hl (by intro z; cases z)
  refine { h with ho := by rw [upd_ne h.n1]; exact h.ho, hl := ?hl, ht := by rw [upd_ne h.n3.symm]; exact h.ht, hx := fun y my => ?hx, fwl := fun y my => ?fwl, kb := fun b u nb hb => ?kb, inj := fun y my z mz e => ?inj, fx := fun y my => ?fx }
  case hl =>
    rw [upd_same, mapD_put_in m]
    refine congrArg (fun z => some (HO.dK z)) (mapD_congr fun y _ => ?_)
    unfold setF updF
    split <;> rfl
  case hx =>
    by_cases e : y = x
    · rw [e, updF_same, updF_same, upd_ne npl]
      exact hp
    · rw [updF_ne e, updF_ne e, upd_ne (h.dlad my).2.1]
      exact h.hx y my
  case fwl =>
    by_cases e : y = x
    · rw [e, updF_same]
      exact hn
    · rw [updF_ne e]
      exact h.fwl y my
  case kb =>
    rw [upd_ne (ne_of_none hb h.fl)]
    exact h.kb b u nb hb
  case inj =>
    by_cases e1 : y = x <;> by_cases e2 : z = x
    · rw [e1, e2]
    · rw [e1, updF_same, updF_ne e2] at e
      exact absurd e.symm (np z mz)
    · rw [e2, updF_same, updF_ne e1] at e
      exact absurd e (np y my)
    · rw [updF_ne e1, updF_ne e2] at e
      exact h.inj y my z mz e
  case fx =>
    by_cases e : y = x
    · rw [e, updF_same]
      exact fp
    · rw [updF_ne e]
      exact h.fx y my
/-- lists.pop(x) -/
theorem OwnX.dropKey (h : OwnX st H0 H o w d keys ls nm tf kvs dl dt ad) (x : Str) : OwnX st H0 (upd H dl (.dK (dropK (mapD keys fun x => .ref (ad x)) (Sum.inr x)))) o w d (keys.filter fun y => decide (y ≠ x)) ls nm tf kvs dl dt ad := by
  have sub : ∀ y, y ∈ (keys.filter fun y => decide (y ≠ x)) → y ∈ keys := fun y my => (List.mem_filter.mp my).1
  refine { h with ho := by rw [upd_ne h.n1]; exact h.ho, hl := by rw [upd_same, mapD_drop], ht := by rw [upd_ne h.n3.symm]; exact h.ht, hx := fun y my => ?hx, fwl := fun y my => h.fwl y (sub y my), kb := fun b u nb hb => ?kb, inj := fun y my z mz e => h.inj y (sub y my) z (sub z mz) e, fx := fun y my => h.fx y (sub y my), kn := h.kn.filter _, few := Nat.le_trans (List.length_filter_le _ _) h.few }
  case hx =>
    rw [upd_ne (h.dlad (sub y my)).2.1]
    exact h.hx y (sub y my)
  case kb =>
    rw [upd_ne (ne_of_none hb h.fl)]
    exact h.kb b u nb hb
/-- talks[x] = i, x a new one -/
theorem OwnX.newTalk (h : OwnX st H0 H o w d keys ls nm tf kvs dl dt ad) {x : Str} (m : x ∉ nm) (i : Int) (hk : nm.length < 50) : OwnX st H0 (upd H dt (.dK (putK (mapD nm fun x => .int (tf x)) (Sum.inr x) (.int i)))) o w d keys ls (nm ++ [x]) (updF tf x i) kvs dl dt ad := by
  refine { h with ho := by rw [upd_ne h.n2]; exact h.ho, hl := by rw [upd_ne h.n3]; exact h.hl, ht := ?ht, hx := fun y my => by rw [upd_ne (h.dlad my).2.2]; exact h.hx y my, kb := fun b u nb hb => ?kb, nn := ?nn, fw2 := ?fw2 }
  case ht =>
    rw [upd_same, mapD_put_new m]
    refine congrArg (fun z => some (HO.dK z)) (mapD_congr fun y _ => ?_)
    unfold setF updF
    split <;> rfl
  case kb =>
    rw [upd_ne (ne_of_none hb h.ft)]
    exact h.kb b u nb hb
  case nn =>
    rw [List.nodup_append]
    refine ⟨h.nn, by simp, fun a ha b hb e => ?_⟩
    rw [List.mem_singleton.mp hb] at e
    exact m (e ▸ ha)
  case fw2 =>
    rw [List.length_append, List.length_singleton]
    omega
/-- talks[x] = i, x there already -/
theorem OwnX.setTalk (h : OwnX st H0 H o w d keys ls nm tf kvs dl dt ad) {x : Str} (m : x ∈ nm) (i : Int) : OwnX st H0 (upd H dt (.dK (putK (mapD nm fun x => .int (tf x)) (Sum.inr x) (.int i)))) o w d keys ls nm (updF tf x i) kvs dl dt ad := by
  refine { h with ho := by rw [upd_ne h.n2]; exact h.ho, hl := by rw [upd_ne h.n3]; exact h.hl, ht := ?ht, hx := fun y my => by rw [upd_ne (h.dlad my).2.2]; exact h.hx y my, kb := fun b u nb hb => ?kb }
  case ht =>
    rw [upd_same, mapD_put_in m]
    refine congrArg (fun z => some (HO.dK z)) (mapD_congr fun y _ => ?_)
    unfold setF updF
    split <;> rfl
  case kb =>
    rw [upd_ne (ne_of_none hb h.ft)]
    exact h.kb b u nb hb
/-- talks.pop(x) -/
theorem OwnX.dropTalk (h : OwnX st H0 H o w d keys ls nm tf kvs dl dt ad) (x : Str) : OwnX st H0 (upd H dt (.dK (dropK (mapD nm fun x => .int (tf x)) (Sum.inr x)))) o w d keys ls (nm.filter fun y => decide (y ≠ x)) tf kvs dl dt ad := by
  refine { h with ho := by rw [upd_ne h.n2]; exact h.ho, hl := by rw [upd_ne h.n3]; exact h.hl, ht := by rw [upd_same, mapD_drop], hx := fun y my => by rw [upd_ne (h.dlad my).2.2]; exact h.hx y my, kb := fun b u nb hb => ?kb, nn := h.nn.filter _, fw2 := Nat.le_trans (List.length_filter_le _ _) h.fw2 }
  rw [upd_ne (ne_of_none hb h.ft)]
  exact h.kb b u nb hb
theorem OwnX.setWait (h : OwnX st H0 H o w d keys ls nm tf kvs dl dt ad) (i : Int) : OwnX st H0 (upd H o (.dK (putK kvs (Sum.inr "wait") (.int i)))) o i d keys ls nm tf (putK kvs (Sum.inr "wait") (.int i)) dl dt ad := by
  refine { h with ho := upd_same, k4 := putK_le h.ew h.k4, ew := val_put_same, ed := (val_put_ne (by decide +kernel)).trans h.ed, el := (val_put_ne (by decide +kernel)).trans h.el, et := (val_put_ne (by decide +kernel)).trans h.et, hl := by rw [upd_ne h.n1.symm]; exact h.hl, ht := by rw [upd_ne h.n2.symm]; exact h.ht, hx := fun y my => by rw [upd_ne (h.dlad my).1]; exact h.hx y my, kb := fun b u nb hb => ?kb }
  rw [upd_ne (ne_of_none hb h.fo)]
  exact h.kb b u nb hb
theorem OwnX.setDeep (h : OwnX st H0 H o w d keys ls nm tf kvs dl dt ad) (i : Int) : OwnX st H0 (upd H o (.dK (putK kvs (Sum.inr "deep") (.int i)))) o w i keys ls nm tf (putK kvs (Sum.inr "deep") (.int i)) dl dt ad := by
  refine { h with ho := upd_same, k4 := putK_le h.ed h.k4, ed := val_put_same, ew := (val_put_ne (by decide +kernel)).trans h.ew, el := (val_put_ne (by decide +kernel)).trans h.el, et := (val_put_ne (by decide +kernel)).trans h.et, hl := by rw [upd_ne h.n1.symm]; exact h.hl, ht := by rw [upd_ne h.n2.symm]; exact h.ht, hx := fun y my => by rw [upd_ne (h.dlad my).1]; exact h.hx y my, kb := fun b u nb hb => ?kb }
  rw [upd_ne (ne_of_none hb h.fo)]
  exact h.kb b u nb hb
end
end RD
set_option Elab.async false
set_option linter.all false
set_option maxRecDepth 100000
set_option maxHeartbeats 4000000
namespace RD
open PySem PySem.Spec PyProof.Rows L2
/-! ### a law that calls repr: its promise where no repr is under way -/
section
variable {P : Program} {w : World} {K : PySem.W.Frag} {mg : Str → Option Value} {base : Heap}
/-- like FnOk, but asked only where it is known that no repr runs -/
def FnG (P : Program) (w : World) (K : PySem.W.Frag) (mg : Str → Option Value) (base : Heap) (k : Nat) (f : Addr) (fd : FuncData) (ps : List Str) (sp : Sp) : Prop :=
  ∀ (A : Around) (outer : List Env) (s : Shared) (H : Hp) (args : Args) (us : List Value) (vs : List V) (Q : VK) (E : XK), A.guards = some [] → Room k A → Env0 P w K mg base A outer s H → BindsTo s fd args (ps.zip us) → Vals vs us → sp vs H Q E →
    codeAny (model P w) A (.call (.ref f) args) (CR CX0 outer P w H s Q E) s
theorem fn_guarded {x : Str} {st : Stmt} {f : Addr} {fd : FuncData} {N ps : List Str} {k : Nat} {sp : Sp} (F : L2.Fun K x x st f fd) (S : FnScope N ps (defScope st)) (len : ∀ vs H Q E, sp vs H Q E → vs.length = ps.length)
    (hbody : ∀ (f : Addr) (cdv : Value) (A : Around) (outer : List Env) (s : Shared) (H : Hp) (vs : List V) (Q : VK) (E : XK), A.guards = some [] → Room k (A.deeper (envOfC x (defScope st) s.heap.objs.size f cdv)) → sp vs H Q E →
      ∃ t, PSs (cxOf CX0 P w K mg base N x (defScope st) f cdv A outer s H E).nox (defBody st) t ∧ t { nx := fun _ H' => Q .non H', rt := Q } (start N vs) H) : FnG P w K mg base (k + 1) f fd ps sp := by
  obtain ⟨oc, od, kV, doc, pm, an, cdv, ct, osl, rfl, lk, hcd⟩ := F.ex
  intro A outer s H args us vs Q E gd room en bd rel ask
  have older : ∀ b o, base.get? b = some o → s.heap.get? b = some o := fun b o e => (en.bs b o e).1
  have KS : K.In s.heap := en.mod.kin.keeps older
  have free : s.heap.NoLimit := en.mod.nolimit.keeps older
  have slots : ∀ y ∈ ps.zip us, (defScope st).names.lookup y.1 = some .local ∨ ((defScope st).names.lookup y.1 = some .cell ∧ ((cellsFrom (s.heap.objs.size + 1) (defScope st).names []).lookup y.1).isSome = true) := by
    rintro ⟨n, v⟩ hy
    cases S.par n (List.of_mem_zip hy).1 with
    | inl q => exact Or.inl q
    | inr q => exact Or.inr ⟨q, PySem.W.cellsFrom_some _ _ _ (Or.inl q)⟩
  apply codeAny_call_function room.depth (KS _ _ lk) rfl S.co S.gen rfl (PySem.W.codeRec_of KS hcd) (bd _ _ _ _ _)
  apply wpAny_newFunctionEnv_cells S.kind slots
  rintro _ rfl s1 born
  refine And.intro (free.keeps born.toInCall.keep) (codeAny_func ?_)
  obtain ⟨t, ht, hq⟩ := hbody f cdv A outer s H vs Q E gd (room.deeper _) ask
  have I0 : Inv (cxOf CX0 P w K mg base N x (defScope st) f cdv A outer s H E) [] (start N vs) H s1 := inv_start S room.hd en (len _ _ _ _ ask) rel born
  refine wpAny_mono (ht.nox.run [] s1 (start N vs) H _ I0 hq) ?_ fun _ _ q => q
  intro fl s2 done
  match fl, done with
  | .ret u, ⟨v, σ2, H2, J, rv, q⟩ => exact ⟨v, H2, J.os, J.bare, J.base, J.hok, rv, q⟩
  | .next, ⟨σ2, H2, J, q⟩ => exact ⟨V.non, H2, J.os, J.bare, J.base, J.hok, rfl, q⟩
  | .brk, ⟨_, _, _, q⟩ => exact q.elim
  | .cont, ⟨_, _, _, q⟩ => exact q.elim

/-- the script alone, where it is none of the module's own -/
def soleH (K : PySem.W.Frag) (a : Addr) (o : Obj) (xs : List V) : Hp := fun b => if b = a ∧ K.lookup a = none then some (.frz o (.lst xs)) else none
theorem soleH_some {K : PySem.W.Frag} {a b : Addr} {o : Obj} {xs : List V} {u : HO} (h : soleH K a o xs b = some u) : b = a ∧ K.lookup a = none ∧ u = .frz o (.lst xs) := by
  unfold soleH at h
  by_cases c : b = a ∧ K.lookup a = none
  · rw [if_pos c] at h
    exact ⟨c.1, c.2, (Option.some.inj h).symm⟩
  · rw [if_neg c] at h
    cases h
theorem law_guarded {mb : Str → Option Value} {k : Nat} {fa a : Addr} {fd : FuncData} {x : Str} {sp : Sp} {s₁ : Shared} {vs : List Value} {ns : List Int}
    (inK : K.In s₁.heap) (gl : s₁.heap.Ns mainGlobals mg) (bl : s₁.heap.Ns builtinsNs mb) (boot : ∀ x : Str, x ≠ "__name__" → mb x = bootBuiltins x) (lim : s₁.heap.NoLimit) (ng : s₁.gens = #[])
    (at_ : s₁.heap.get? a = some { cls := .type "list", data := .seq vs.toArray }) (nums : IntsAre vs ns) (small : ns.length ≤ sizeLine) (room : Room k callerA)
    (F : ∀ base : Heap, K.In base → base.Ns mainGlobals mg → FnG P w K mg base k fa fd [x] sp) (bind : ∀ (s : Shared) (u : Value), BindsTo s fd ⟨[u], []⟩ [(x, u)])
    (ask : ∀ H : Hp, SqL K H a (ns.map V.int) → sp [.ref a] H (fun v _ => v = .bl true) fun _ _ _ => False) :
    codeAny (model P w) callerA (.call (.ref fa) ⟨[.ref a], []⟩) (fun r s' => r = .ok (.ret (.bool true)) ∧ OldK s₁.heap s'.heap ∧ s'.os = s₁.os ∧ AllBare s'.gens) s₁ := by
  have rel := vals_ints nums
  generalize eo : ({ cls := .type "list", data := .seq vs.toArray } : Obj) = o at at_
  have oseq : o.data = .seq vs.toArray := by rw [← eo]
  have ocls : o.cls = .type "list" := by rw [← eo]
  have odict : o.dict = none := by rw [← eo]
  generalize eH : soleH K a o (ns.map V.int) = H
  have only : ∀ {b : Addr} {u : HO}, H b = some u → b = a ∧ K.lookup a = none ∧ u = .frz o (.lst (ns.map V.int)) := by
    rw [← eH]
    exact fun h => soleH_some h
  have ok : HOk P w H s₁.heap := fun b u h => by
    obtain ⟨rfl, _, rfl⟩ := only h
    exact ⟨at_, by rw [List.length_map]; exact small, vs, _, rel, by rw [at_, ← eo]⟩
  have seq : SqL K H a (ns.map V.int) := by
    cases lk : K.lookup a with
    | none =>
      refine Or.inl (Or.inr ⟨o, ?_⟩)
      rw [← eH]
      exact if_pos ⟨rfl, lk⟩
    | some z =>
      have e := inK a z lk
      rw [at_] at e
      cases e
      exact Or.inr ⟨o, vs.toArray, _, lk, ocls, odict, oseq, by rw [List.size_toArray, nums.length]; exact small, rel⟩
  have free : ∀ {b : Addr}, b ≠ a → H b = none := fun {b} n => by
    cases h : H b with
    | none => rfl
    | some u => exact absurd (only h).1 n
  have nod : ∀ {b : Addr} {m : Str → Option Value}, s₁.heap.Ns b m → (hidT s₁.heap H).Ns b m := by
    rintro b m ⟨z, es, ep, e, d, r⟩
    refine ⟨z, es, ep, hidT_get e (free fun q => ?_), d, r⟩
    rw [q, at_] at e
    cases e
    rw [oseq] at d
    cases d
  have kin : K.In (hidT s₁.heap H) := fun b z lk => by
    refine hidT_get (inK b z lk) ?_
    cases h : H b with
    | none => rfl
    | some u =>
      obtain ⟨e, n, _⟩ := only h
      rw [e, n] at lk
      cases lk
  obtain ⟨mc, l1, l2⟩ := lim
  have M : Mod K mg (hidT s₁.heap H) := ⟨kin, nod gl, ⟨mb, nod bl, boot⟩, mc, nod l1, l2⟩
  have en : Env0 P w K mg (hidT s₁.heap H) callerA [] s₁ H :=
    { frames := rfl, mod := M, bs := fun b z e => of_hidT e, bsz := Nat.le_of_eq (hidT_size _ _), funs := trivial, frf := fun b hb => (by cases hb), hok := ok, bare := .of_eq ng }
  refine codeAny_mono (F _ kin (nod gl) callerA [] s₁ H ⟨[.ref a], []⟩ [.ref a] [.ref a] _ _ rfl room en (bind s₁ (.ref a)) (.cons rfl .nil) (ask H seq)) ?_
  intro r s' h
  match r, h with
  | .ok (.ret u), ⟨v, H', os, bare, un, ok', rv, q⟩ =>
    have q : v = .bl true := q
    rw [q] at rv
    obtain rfl : u = Value.bool true := rv
    refine ⟨rfl, OldK.of_keep fun b z e => ?_, os, bare⟩
    cases hb : H b with
    | none => exact un.keep b z e hb (by intro z; cases z) (by simp)
    | some u =>
      obtain ⟨_, _, rfl⟩ := only hb
      have k1 := (ok b _ hb).1
      have k2 := (ok' b _ (un.frzs b o _ hb)).1
      rw [e] at k1
      cases k1
      exact k2
end
end RD
set_option Elab.async false
set_option linter.all false
set_option maxRecDepth 100000
set_option maxHeartbeats 4000000
/-! sorted(xs), xs a list of (text, whole number) -/
namespace RD
open PySem PySem.Spec PyProof.Rows L2
abbrev SI := Str × Int
theorem str_ext {x y : Str} (h : x.cps.toList = y.cps.toList) : x = y := by
  obtain ⟨⟨a⟩⟩ := x
  obtain ⟨⟨b⟩⟩ := y
  have h : a = b := h
  rw [h]
def siL (p q : SI) : Prop := p.1.cps.toList < q.1.cps.toList ∨ (p.1 = q.1 ∧ p.2 < q.2)
instance (p q : SI) : Decidable (siL p q) := by unfold siL; infer_instance
def siB (p q : SI) : Bool := decide (siL p q)
theorem siL_asym {p q : SI} (h : siL p q) : ¬ siL q p := by
  rintro (k | ⟨e, k⟩)
  · rcases h with h | ⟨e, h⟩
    · exact List.lt_irrefl _ (List.lt_trans h k)
    · rw [e] at k
      exact List.lt_irrefl _ k
  · rcases h with h | ⟨_, h⟩
    · rw [e] at h
      exact List.lt_irrefl _ h
    · omega
theorem si_tri (p q : SI) : siL p q ∨ p = q ∨ siL q p := by
  by_cases h : p.1.cps.toList < q.1.cps.toList
  · exact .inl (.inl h)
  by_cases k : q.1.cps.toList < p.1.cps.toList
  · exact .inr (.inr (.inl k))
  have e : p.1 = q.1 := str_ext (List.le_antisymm (List.not_lt.mp k) (List.not_lt.mp h))
  by_cases h2 : p.2 < q.2
  · exact .inl (.inr ⟨e, h2⟩)
  by_cases k2 : q.2 < p.2
  · exact .inr (.inr (.inr ⟨e.symm, k2⟩))
  · exact .inr (.inl (Prod.ext e (by omega)))
theorem siL_trans {p q r : SI} (h : siL p q) (k : siL q r) : siL p r := by
  rcases h with h | ⟨e, h⟩ <;> rcases k with k | ⟨f, k⟩
  · exact .inl (List.lt_trans h k)
  · exact .inl (f ▸ h)
  · exact .inl (e ▸ k)
  · exact .inr ⟨e.trans f, by omega⟩
theorem swo_si {α : Type} (k : α → SI) : SrtO.Swo fun v u => siB (k v) (k u) := by
  refine ⟨fun x y h => decide_eq_false (siL_asym (of_decide_eq_true h)), fun x y z h1 h2 => decide_eq_false fun h => ?_⟩
  have n1 := of_decide_eq_false h1
  have n2 := of_decide_eq_false h2
  rcases si_tri (k x) (k y) with a | a | a
  · exact n2 (siL_trans h a)
  · rw [a] at h
    exact n2 h
  · exact n1 a
/-- v is a tuple of a text and a number -/
def IsSI (h : Heap) (v : Value) (p : SI) : Prop := ∃ (a : Addr) (o : Obj) (t u : Tok) (n : Nat), v = .ref a ∧ h.get? a = some o ∧ o.cls = .type "tuple" ∧ o.data = .seq #[.str p.1 t, .int p.2 u] n
theorem IsSI.still {h h' : Heap} {v : Value} {p : SI} (q : IsSI h v p) (k : ∀ b o, h.get? b = some o → o.cls = .type "tuple" → h'.get? b = some o) : IsSI h' v p :=
  let ⟨a, o, t, u, n, e, ho, hc, hd⟩ := q
  ⟨a, o, t, u, n, e, k _ _ ho hc, hc, hd⟩
section
variable {prog : Program} {w : World} {A : Around} {E : Value → Shared → Prop} {s : Shared}
theorem si_firsts {h : Heap} {k : Value → SI} : ∀ {vs : List Value}, (∀ v ∈ vs, IsSI h v (k v)) → ∃ fs : List Value, PySem.W.KatTups h vs fs ∧ fs.length = vs.length ∧ ∀ f ∈ fs, ∃ x t, f = Value.str x t
  | [], _ => ⟨[], .nil, rfl, fun _ q => by cases q⟩
  | v :: vs, hp => by
    obtain ⟨fs, a1, a2, a3⟩ := si_firsts (vs := vs) fun u hu => hp u (List.mem_cons_of_mem _ hu)
    obtain ⟨a, o, t, u, n, e, ho, hc, hd⟩ := hp v (List.mem_cons_self ..)
    refine ⟨.str (k v).1 t :: fs, ?_, congrArg (· + 1) a2, fun f q => ?_⟩
    · subst e
      exact .cons ho hc hd rfl a1
    · cases q with
      | head => exact ⟨_, _, rfl⟩
      | tail _ q => exact a3 f q
theorem si_cmp {vs : List Value} {k : Value → SI} (hp : ∀ v ∈ vs, IsSI s.heap v (k v)) : SrtO.Cmp prog w A s (tuples' true) (fun p => p.1 ∈ vs) (SrtO.lt2 fun v u => siB (k v) (k u)) := by
  intro p q hm hm'
  obtain ⟨a, o, t, u, n, e, ho, hc, hd⟩ := hp _ hm
  obtain ⟨a', o', t', u', n', e', ho', hc', hd'⟩ := hp _ hm'
  show wpAny (model prog w) A (keyLt' (tuples' true) p.1 q.1) (fun r s' => s' = s ∧ r = siB (k p.1) (k q.1)) (fun _ _ => False) s
  generalize k p.1 = x at hd ⊢
  generalize k q.1 = y at hd' ⊢
  rw [e, e']
  refine PySem.W.kat_lt ho hd ho' hd' ?_
  show PySem.W.KatLex prog w A true (decide (2 < 2)) _ [(.str x.1 t, .str y.1 t'), (.int x.2 u, .int y.2 u')] 0 s
  refine PySem.W.kat_cons (SeqAt.EqAt.str_str x.1 t y.1 t' prog w _ _ (PySem.W.kat_go (fun e1 => ?_) fun e1 => ?_))
  · have ex : x.1 = y.1 := by simpa using e1
    refine PySem.W.kat_yes (PySem.W.kat_cons (SeqAt.EqAt.int_int x.2 u y.2 u' prog w _ _ (PySem.W.kat_go (fun e2 => ?_) fun e2 => ?_)))
    · have ey : x.2 = y.2 := by simpa using e2
      refine PySem.W.kat_yes (PySem.W.kat_nil ⟨rfl, ?_⟩)
      refine (decide_eq_false ?_).symm
      rintro (h | ⟨_, h⟩)
      · rw [ex] at h
        exact List.lt_irrefl _ h
      · omega
    · refine PySem.W.kat_no (oneLt_any_int ⟨rfl, ?_⟩)
      refine decide_eq_decide.mpr ⟨fun h => .inr ⟨ex, h⟩, fun h => ?_⟩
      rcases h with h | ⟨_, h⟩
      · rw [ex] at h
        exact absurd h (List.lt_irrefl _)
      · exact h
  · have ex : ¬ x.1 = y.1 := by simpa using e1
    refine PySem.W.kat_no (oneLt_any_str ⟨rfl, ?_⟩)
    exact decide_eq_decide.mpr ⟨fun h => .inl h, fun h => h.resolve_right fun z => ex z.1⟩
theorem si_sortable {a : Addr} {vs : List Value} {k : Value → SI} (h0 : 0 < vs.length) (hp : ∀ v ∈ vs, IsSI s.heap v (k v)) (ha : ∀ o, s.heap.get? a = some o → o.cls ≠ .type "tuple") : SrtO.SortableO prog w A s a vs fun v u => siB (k v) (k u) := by
  intro h' keep
  have hp' : ∀ v ∈ vs, IsSI h' v (k v) := fun v hm => (hp v hm).still fun b o e c => keep b o (fun z => ha o (z ▸ e) c) e
  obtain ⟨fs, b1, b2, b3⟩ := si_firsts hp'
  refine ⟨tuples' true, fun Q E hq => ?_, si_cmp hp'⟩
  refine PySem.W.kat_kind (T := .type "str") b1 (by omega) (fun f hm => ?_) (by rfl) ?_
  · obtain ⟨x, t, rfl⟩ := b3 f hm
    exact PySem.W.Looks.now
  · have e : (Value.type "str" != Value.type "tuple") = true := by first | decide +kernel | rfl
    rw [e]
    exact hq
theorem si_sorted {l : Addr} {vs : List Value} {k : Value → SI} {Q : Value → Shared → Prop} (hl : s.heap.IsList l vs.toArray) (hz : vs.length ≤ sizeLine) (hp : ∀ v ∈ vs, IsSI s.heap v (k v))
    (h : ∀ (h' : Heap) (d : Addr) (out : List Value), SrtO.Srtd (fun v u => siB (k v) (k u)) out → SrtO.Stb (fun v u => siB (k v) (k u)) out vs → (∀ b o, s.heap.get? b = some o → h'.get? b = some o) → s.heap.objs.size ≤ d → (∃ n, h'.get? d = some (PyProof.Rows.seqObj "list" out.toArray n)) → Q (.ref d) { s with heap := h' }) :
    wpAny (model prog w) A (call (.builtin "sorted") [.ref l]) Q E s := by
  refine SrtO.sorted_ord (swo_si k) hl hz (fun h2 h₁ a ha kk => ?_) fun out hs hb => h _ _ out hs hb (fun b o e => PyProof.Rows.sortedAll_old e) (Nat.le_succ _) (PyProof.Rows.sortedAll_at s.heap vs out.toArray)
  refine si_sortable (s := { s with heap := h₁ }) (by omega) (fun v hm => (hp v hm).still fun b o e _ => (kk b o e).2) fun o e c => ?_
  have e2 := e.symm.trans ha
  cases e2
  exact absurd (Value.type.inj c) (by decide)
end
def rSortSI (K : PySem.W.Frag) : List V → Hp → VK → Prop := fun vs H Q => ∃ (a : Addr) (xs : List V) (k : V → SI), vs = [V.ref a] ∧ SqL K H a xs ∧ (∀ x ∈ xs, ∃ t, x = V.ref t ∧ H t = some (.tup [.str (k x).1, .int (k x).2])) ∧
  ∀ ys p, SrtO.Srtd (fun x y => siB (k x) (k y)) ys → ys.Perm xs → H p = none → Q (.ref p) (upd H p (.lst ys))
theorem cr_sortSI {X : Cx} : CallR X (.builtin "sorted") (rSortSI X.K) := by
  intro pins s σ H vs us Q I r h
  obtain ⟨a, xs, k, rfl, hs, hx, q⟩ := h
  obtain ⟨its, rv, hl, hz⟩ := I.list hs
  rw [Vals.ref1 r]
  obtain ⟨e1, e2⟩ := refs_back rv fun x m => let ⟨t, e, _⟩ := hx x m; ⟨t, e⟩
  refine si_sorted (k := fun u => k (backV u)) hl.isList (by rw [← rv.length]; exact hz) (fun v hv => ?_) fun h' d out o1 o2 kp hd ⟨n, hn⟩ => ?_
  · obtain ⟨t, rfl⟩ := e2 v hv
    obtain ⟨t', e, ht⟩ := hx (.ref t) (by rw [e1]; exact List.mem_map.mpr ⟨_, hv, rfl⟩)
    cases e
    obtain ⟨_, its2, r2, o, ho, hc, n, hd⟩ := I.hok _ _ ht
    obtain ⟨u1, u2, rfl, ⟨t1, rfl⟩, ⟨t2, rfl⟩⟩ := vals2 r2
    exact ⟨t, o, t1, t2, n, rfl, ho, hc, hd⟩
  · have pm : (out.map backV).Perm xs := by
      rw [e1]
      exact o2.perm.map backV
    exact ⟨.ref d, upd H d (.lst (out.map backV)), I.laid (t' := s.toks) kp hd ⟨by rw [pm.length_eq]; exact hz, out, n, vals_back fun u hu => e2 u (o2.perm.mem_iff.mp hu), hn⟩, rfl, q _ d (SrtO.srtd_map o1) pm (I.hok.fresh hd)⟩
end RD
set_option Elab.async false
set_option linter.all false
set_option maxRecDepth 100000
set_option maxHeartbeats 4000000
namespace RD
open PySem PySem.Spec PyProof.Rows L2
def topS (i : Nat) : Stmt := PySem.Challenge.pw_ringdown_k59_whole_from_any_tree_to_any.main.body.getD i (.Pass ⟨0, 0, 0, 0⟩)
abbrev s_is_whole : Stmt := topS 11
abbrev N_is_whole : List Str := ["thing"]
abbrev P_is_whole : List Str := ["thing"]
theorem sc_is_whole : FnScope N_is_whole P_is_whole (defScope s_is_whole) := ⟨rfl, rfl, rfl, by decide +kernel, rfl, by decide +kernel, by decide +kernel⟩
abbrev s_is_among : Stmt := topS 12
abbrev N_is_among : List Str := ["thing", "least", "most"]
abbrev P_is_among : List Str := ["thing", "least", "most"]
theorem sc_is_among : FnScope N_is_among P_is_among (defScope s_is_among) := ⟨rfl, rfl, rfl, by decide +kernel, rfl, by decide +kernel, by decide +kernel⟩
abbrev s_is_name : Stmt := topS 13
abbrev N_is_name : List Str := ["thing", "sign"]
abbrev P_is_name : List Str := ["thing"]
theorem sc_is_name : FnScope N_is_name P_is_name (defScope s_is_name) := ⟨rfl, rfl, rfl, by decide +kernel, rfl, by decide +kernel, by decide +kernel⟩
abbrev s_is_person : Stmt := topS 20
abbrev N_is_person : List Str := ["thing", "known", "name", "caller", "talk"]
abbrev P_is_person : List Str := ["thing", "known"]
theorem sc_is_person : FnScope N_is_person P_is_person (defScope s_is_person) := ⟨rfl, rfl, rfl, by decide +kernel, rfl, by decide +kernel, by decide +kernel⟩
abbrev s_first_wrong : Stmt := topS 21
abbrev N_first_wrong : List Str := ["thing", "wait", "deep", "people", "known", "number", "person"]
abbrev P_first_wrong : List Str := ["thing"]
theorem sc_first_wrong : FnScope N_first_wrong P_first_wrong (defScope s_first_wrong) := ⟨rfl, rfl, rfl, by decide +kernel, rfl, by decide +kernel, by decide +kernel⟩
abbrev s_need_tree : Stmt := topS 22
abbrev N_need_tree : List Str := ["tree", "wrong"]
abbrev P_need_tree : List Str := ["tree"]
theorem sc_need_tree : FnScope N_need_tree P_need_tree (defScope s_need_tree) := ⟨rfl, rfl, rfl, by decide +kernel, rfl, by decide +kernel, by decide +kernel⟩
abbrev s_need_name : Stmt := topS 23
abbrev N_need_name : List Str := ["tree", "name", "bell", "person"]
abbrev P_need_name : List Str := ["tree", "name", "bell"]
theorem sc_need_name : FnScope N_need_name P_need_name (defScope s_need_name) := ⟨rfl, rfl, rfl, by decide +kernel, rfl, by decide +kernel, by decide +kernel⟩
abbrev s_person_of : Stmt := topS 24
abbrev N_person_of : List Str := ["tree", "name", "person"]
abbrev P_person_of : List Str := ["tree", "name"]
theorem sc_person_of : FnScope N_person_of P_person_of (defScope s_person_of) := ⟨rfl, rfl, rfl, by decide +kernel, rfl, by decide +kernel, by decide +kernel⟩
abbrev s_own_list : Stmt := topS 25
abbrev N_own_list : List Str := ["tree", "name", "person"]
abbrev P_own_list : List Str := ["tree", "name"]
theorem sc_own_list : FnScope N_own_list P_own_list (defScope s_own_list) := ⟨rfl, rfl, rfl, by decide +kernel, rfl, by decide +kernel, by decide +kernel⟩
abbrev s_list_of : Stmt := topS 26
abbrev N_list_of : List Str := ["tree", "name"]
abbrev P_list_of : List Str := ["tree", "name"]
theorem sc_list_of : FnScope N_list_of P_list_of (defScope s_list_of) := ⟨rfl, rfl, rfl, by decide +kernel, rfl, by decide +kernel, by decide +kernel⟩
abbrev s_all_below : Stmt := topS 27
abbrev N_all_below : List Str := ["tree", "name", "found", "one"]
abbrev P_all_below : List Str := ["tree", "name"]
theorem sc_all_below : FnScope N_all_below P_all_below (defScope s_all_below) := ⟨rfl, rfl, rfl, by decide +kernel, rfl, by decide +kernel, by decide +kernel⟩
abbrev s_below : Stmt := topS 28
abbrev N_below : List Str := ["tree", "name"]
abbrev P_below : List Str := ["tree", "name"]
theorem sc_below : FnScope N_below P_below (defScope s_below) := ⟨rfl, rfl, rfl, by decide +kernel, rfl, by decide +kernel, by decide +kernel⟩
abbrev s_in_walk : Stmt := topS 29
abbrev N_in_walk : List Str := ["tree", "name"]
abbrev P_in_walk : List Str := ["tree"]
theorem sc_in_walk : FnScope N_in_walk P_in_walk (defScope s_in_walk) := ⟨rfl, rfl, rfl, by decide +kernel, rfl, by decide +kernel, by decide +kernel⟩
abbrev s_same_tree : Stmt := topS 30
abbrev N_same_tree : List Str := ["one", "other"]
abbrev P_same_tree : List Str := ["one", "other"]
theorem sc_same_tree : FnScope N_same_tree P_same_tree (defScope s_same_tree) := ⟨rfl, rfl, rfl, by decide +kernel, rfl, by decide +kernel, by decide +kernel⟩
abbrev s_need_number : Stmt := topS 32
abbrev N_need_number : List Str := ["thing", "least", "most"]
abbrev P_need_number : List Str := ["thing", "least", "most"]
theorem sc_need_number : FnScope N_need_number P_need_number (defScope s_need_number) := ⟨rfl, rfl, rfl, by decide +kernel, rfl, by decide +kernel, by decide +kernel⟩
abbrev s_need_place : Stmt := topS 33
abbrev N_need_place : List Str := ["rows", "place"]
abbrev P_need_place : List Str := ["rows", "place"]
theorem sc_need_place : FnScope N_need_place P_need_place (defScope s_need_place) := ⟨rfl, rfl, rfl, by decide +kernel, rfl, by decide +kernel, by decide +kernel⟩
abbrev s_walked : Stmt := topS 34
abbrev N_walked : List Str := ["tree"]
abbrev P_walked : List Str := ["tree"]
theorem sc_walked : FnScope N_walked P_walked (defScope s_walked) := ⟨rfl, rfl, rfl, by decide +kernel, rfl, by decide +kernel, by decide +kernel⟩
abbrev s_end_below : Stmt := topS 35
abbrev N_end_below : List Str := ["people", "caller", "known", "end", "spot", "person"]
abbrev P_end_below : List Str := ["people", "caller"]
theorem sc_end_below : FnScope N_end_below P_end_below (defScope s_end_below) := ⟨rfl, rfl, rfl, by decide +kernel, rfl, by decide +kernel, by decide +kernel⟩
abbrev s_put_in : Stmt := topS 36
abbrev N_put_in : List Str := ["people", "group", "place", "caller", "spots", "at", "spot", "person"]
abbrev P_put_in : List Str := ["people", "group", "place"]
theorem sc_put_in : FnScope N_put_in P_put_in (defScope s_put_in) := ⟨rfl, rfl, rfl, by decide +kernel, rfl, by decide +kernel, by decide +kernel⟩
abbrev s_joined : Stmt := topS 37
abbrev N_joined : List Str := ["tree", "name", "caller", "talk", "place", "person"]
abbrev P_joined : List Str := ["tree", "name", "caller", "talk", "place"]
theorem sc_joined : FnScope N_joined P_joined (defScope s_joined) := ⟨rfl, rfl, rfl, by decide +kernel, rfl, by decide +kernel, by decide +kernel⟩
abbrev s_left : Stmt := topS 38
abbrev N_left : List Str := ["tree", "name", "above", "rest", "person", "one", "caller", "talk"]
abbrev P_left : List Str := ["tree", "name"]
theorem sc_left : FnScope N_left P_left (defScope s_left) := ⟨rfl, rfl, rfl, by decide +kernel, rfl, by decide +kernel, by decide +kernel⟩
abbrev s_moved : Stmt := topS 39
abbrev N_moved : List Str := ["tree", "name", "caller", "place", "lower", "group", "rest", "one", "person"]
abbrev P_moved : List Str := ["tree", "name", "caller", "place"]
theorem sc_moved : FnScope N_moved P_moved (defScope s_moved) := ⟨rfl, rfl, rfl, by decide +kernel, rfl, by decide +kernel, by decide +kernel⟩
abbrev s_l_mixed : Stmt := topS 41
abbrev N_l_mixed : List Str := ["_law_cell", "_law_k", "_law_number"]
abbrev P_l_mixed : List Str := ["_law_cell", "_law_k"]
theorem sc_l_mixed : FnScope N_l_mixed P_l_mixed (defScope s_l_mixed) := ⟨rfl, rfl, rfl, by decide +kernel, rfl, by decide +kernel, by decide +kernel⟩
abbrev s_l_draw : Stmt := topS 42
abbrev N_l_draw : List Str := ["_law_cell", "_law_k"]
abbrev P_l_draw : List Str := ["_law_cell", "_law_k"]
theorem sc_l_draw : FnScope N_l_draw P_l_draw (defScope s_l_draw) := ⟨rfl, rfl, rfl, by decide +kernel, rfl, by decide +kernel, by decide +kernel⟩
abbrev s_l_digit : Stmt := topS 43
abbrev N_l_digit : List Str := ["_law_state", "_law_many", "_law_j", "_law_found"]
abbrev P_l_digit : List Str := ["_law_state", "_law_many"]
theorem sc_l_digit : FnScope N_l_digit P_l_digit (defScope s_l_digit) := ⟨rfl, rfl, rfl, by decide +kernel, rfl, by decide +kernel, by decide +kernel⟩
abbrev s_l_word : Stmt := topS 44
abbrev N_l_word : List Str := ["_law_state", "_law_signs", "_law_some", "_law_j"]
abbrev P_l_word : List Str := ["_law_state"]
theorem sc_l_word : FnScope N_l_word P_l_word (defScope s_l_word) := ⟨rfl, rfl, rfl, by decide +kernel, rfl, by decide +kernel, by decide +kernel⟩
abbrev s_l_tree : Stmt := topS 45
abbrev N_l_tree : List Str := ["_law_state", "_law_most", "_law_way", "_law_many", "_law_head", "_law_names", "_law_people", "_law_j", "_law_word_here", "_law_talk", "_law_some", "_law_caller_here"]
abbrev P_l_tree : List Str := ["_law_state", "_law_most"]
theorem sc_l_tree : FnScope N_l_tree P_l_tree (defScope s_l_tree) := ⟨rfl, rfl, rfl, by decide +kernel, rfl, by decide +kernel, by decide +kernel⟩
abbrev s_l_own : Stmt := topS 46
abbrev N_l_own : List Str := ["_law_tree_here", "_law_own_here", "_law_name", "_law_caller_here", "_law_talk"]
abbrev P_l_own : List Str := ["_law_tree_here"]
theorem sc_l_own : FnScope N_l_own P_l_own (defScope s_l_own) := ⟨rfl, rfl, rfl, by decide +kernel, rfl, by decide +kernel, by decide +kernel⟩
abbrev s_l_walk : Stmt := topS 47
abbrev N_l_walk : List Str := ["_law_own_here", "_law_name", "_law_rows", "_law_one"]
abbrev P_l_walk : List Str := ["_law_own_here", "_law_name"]
theorem sc_l_walk : FnScope N_l_walk P_l_walk (defScope s_l_walk) := ⟨rfl, rfl, rfl, by decide +kernel, rfl, by decide +kernel, by decide +kernel⟩
abbrev s_l_told_tree : Stmt := topS 48
abbrev N_l_told_tree : List Str := ["_law_own_here"]
abbrev P_l_told_tree : List Str := ["_law_own_here"]
theorem sc_l_told_tree : FnScope N_l_told_tree P_l_told_tree (defScope s_l_told_tree) := ⟨rfl, rfl, rfl, by decide +kernel, rfl, by decide +kernel, by decide +kernel⟩
abbrev s_l_caller : Stmt := topS 49
abbrev N_l_caller : List Str := ["_law_own_here", "_law_name", "_law_one"]
abbrev P_l_caller : List Str := ["_law_own_here", "_law_name"]
theorem sc_l_caller : FnScope N_l_caller P_l_caller (defScope s_l_caller) := ⟨rfl, rfl, rfl, by decide +kernel, rfl, by decide +kernel, by decide +kernel⟩
abbrev s_l_pick : Stmt := topS 50
abbrev N_l_pick : List Str := ["_law_state", "_law_some"]
abbrev P_l_pick : List Str := ["_law_state", "_law_some"]
theorem sc_l_pick : FnScope N_l_pick P_l_pick (defScope s_l_pick) := ⟨rfl, rfl, rfl, by decide +kernel, rfl, by decide +kernel, by decide +kernel⟩
abbrev s_l_fresh : Stmt := topS 51
abbrev N_l_fresh : List Str := ["_law_state", "_law_own_here", "_law_some", "_law_j", "_law_name"]
abbrev P_l_fresh : List Str := ["_law_state", "_law_own_here"]
theorem sc_l_fresh : FnScope N_l_fresh P_l_fresh (defScope s_l_fresh) := ⟨rfl, rfl, rfl, by decide +kernel, rfl, by decide +kernel, by decide +kernel⟩
abbrev s_l_place : Stmt := topS 52
abbrev N_l_place : List Str := ["_law_state", "_law_many"]
abbrev P_l_place : List Str := ["_law_state", "_law_many"]
theorem sc_l_place : FnScope N_l_place P_l_place (defScope s_l_place) := ⟨rfl, rfl, rfl, by decide +kernel, rfl, by decide +kernel, by decide +kernel⟩
abbrev s_l_other : Stmt := topS 53
abbrev N_l_other : List Str := ["_law_state", "_law_tree_here", "_law_rest", "_law_found", "_law_way", "_law_name", "_law_caller_here", "_law_talk", "_law_ahead", "_law_one", "_law_above", "_law_size"]
abbrev P_l_other : List Str := ["_law_state", "_law_tree_here"]
theorem sc_l_other : FnScope N_l_other P_l_other (defScope s_l_other) := ⟨rfl, rfl, rfl, by decide +kernel, rfl, by decide +kernel, by decide +kernel⟩
abbrev s_l_same_people : Stmt := topS 54
abbrev N_l_same_people : List Str := ["_law_tree_here", "_law_told", "_law_people", "_law_one", "_law_name", "_law_caller_here", "_law_talk"]
abbrev P_l_same_people : List Str := ["_law_tree_here", "_law_told"]
theorem sc_l_same_people : FnScope N_l_same_people P_l_same_people (defScope s_l_same_people) := ⟨rfl, rfl, rfl, by decide +kernel, rfl, by decide +kernel, by decide +kernel⟩
abbrev s_l_by_moves : Stmt := topS 55
abbrev N_l_by_moves : List Str := ["_law_state", "_law_tree_here", "_law_far", "_law_told", "_law_names", "_law_name", "_law_caller_here", "_law_talk"]
abbrev P_l_by_moves : List Str := ["_law_state", "_law_tree_here", "_law_far"]
theorem sc_l_by_moves : FnScope N_l_by_moves P_l_by_moves (defScope s_l_by_moves) := ⟨rfl, rfl, rfl, by decide +kernel, rfl, by decide +kernel, by decide +kernel⟩
abbrev s_l_by_leaving : Stmt := topS 56
abbrev N_l_by_leaving : List Str := ["_law_state", "_law_tree_here", "_law_far", "_law_told", "_law_names", "_law_own_here", "_law_callers", "_law_caller_here", "_law_name", "_law_talk"]
abbrev P_l_by_leaving : List Str := ["_law_state", "_law_tree_here", "_law_far"]
theorem sc_l_by_leaving : FnScope N_l_by_leaving P_l_by_leaving (defScope s_l_by_leaving) := ⟨rfl, rfl, rfl, by decide +kernel, rfl, by decide +kernel, by decide +kernel⟩
abbrev s_l_back_right : Stmt := topS 57
abbrev N_l_back_right : List Str := ["_law_state", "_law_tree_here", "_law_own_here", "_law_due", "_law_names", "_law_name", "_law_above", "_law_place_here", "_law_lower", "_law_caller_here", "_law_many", "_law_told", "_law_fresh_here", "_law_one"]
abbrev P_l_back_right : List Str := ["_law_state", "_law_tree_here"]
theorem sc_l_back_right : FnScope N_l_back_right P_l_back_right (defScope s_l_back_right) := ⟨rfl, rfl, rfl, by decide +kernel, rfl, by decide +kernel, by decide +kernel⟩
abbrev s_law : Stmt := topS 58
abbrev N_law : List Str := ["_law_script", "_law_k", "_law_cell", "_law_state", "_law_tree_here", "_law_far", "_law_due", "_law_told"]
abbrev P_law : List Str := ["_law_script"]
theorem sc_law : FnScope N_law P_law (defScope s_law) := ⟨rfl, rfl, rfl, by decide +kernel, rfl, by decide +kernel, by decide +kernel⟩
/-- what the top has left -/
structure Txt (K : PySem.W.Frag) (mg : Str → Option Value) : Prop where
  c_BELL : GV mg "BELL" (.str "")
  c_LETTERS : GV mg "LETTERS" (.str "abcdefghijklmnopqrstuvwxyz")
  c_MOST_DEEP : GV mg "MOST_DEEP" (.int 4)
  c_MOST_LETTERS : GV mg "MOST_LETTERS" (.int 8)
  c_MOST_PEOPLE : GV mg "MOST_PEOPLE" (.int 16)
  c_MOST_TALK : GV mg "MOST_TALK" (.int 60)
  c_MOST_WAIT : GV mg "MOST_WAIT" (.int 60)
  b_all : mg "all" = none
  b_bool : mg "bool" = none
  b_enumerate : mg "enumerate" = none
  b_int : mg "int" = none
  b_isinstance : mg "isinstance" = none
  b_len : mg "len" = none
  b_list : mg "list" = none
  b_range : mg "range" = none
  b_sorted : mg "sorted" = none
  b_str : mg "str" = none
  b_sum : mg "sum" = none
  b_tuple : mg "tuple" = none
  d_is_whole : Dfn K mg "is_whole" s_is_whole
  d_is_among : Dfn K mg "is_among" s_is_among
  d_is_name : Dfn K mg "is_name" s_is_name
  d_is_person : Dfn K mg "is_person" s_is_person
  d_first_wrong : Dfn K mg "first_wrong" s_first_wrong
  d_need_tree : Dfn K mg "need_tree" s_need_tree
  d_person_of : Dfn K mg "person_of" s_person_of
  d_own_list : Dfn K mg "own_list" s_own_list
  d_all_below : Dfn K mg "all_below" s_all_below
  d_in_walk : Dfn K mg "in_walk" s_in_walk
  d_same_tree : Dfn K mg "same_tree" s_same_tree
  d_need_number : Dfn K mg "need_number" s_need_number
  d_need_place : Dfn K mg "need_place" s_need_place
  d_walked : Dfn K mg "walked" s_walked
  d_end_below : Dfn K mg "end_below" s_end_below
  d_put_in : Dfn K mg "put_in" s_put_in
  d_left : Dfn K mg "left" s_left
  d_l_mixed : Dfn K mg "_law_mixed" s_l_mixed
  d_l_draw : Dfn K mg "_law_draw" s_l_draw
  d_l_digit : Dfn K mg "_law_digit" s_l_digit
  d_l_word : Dfn K mg "_law_word" s_l_word
  d_l_tree : Dfn K mg "_law_tree" s_l_tree
  d_l_own : Dfn K mg "_law_own" s_l_own
  d_l_walk : Dfn K mg "_law_walk" s_l_walk
  d_l_told_tree : Dfn K mg "_law_told_tree" s_l_told_tree
  d_l_caller : Dfn K mg "_law_caller" s_l_caller
  d_l_pick : Dfn K mg "_law_pick" s_l_pick
  d_l_fresh : Dfn K mg "_law_fresh" s_l_fresh
  d_l_place : Dfn K mg "_law_place" s_l_place
  d_l_other : Dfn K mg "_law_other" s_l_other
  d_l_same_people : Dfn K mg "_law_same_people" s_l_same_people
  d_l_by_moves : Dfn K mg "_law_by_moves" s_l_by_moves
  d_l_by_leaving : Dfn K mg "_law_by_leaving" s_l_by_leaving
  d_l_back_right : Dfn K mg "_law_back_right" s_l_back_right
  d_law : Dfn K mg "law" s_law
  d_need_name : DfnD K mg "need_name" s_need_name [.bl false]
  d_list_of : DfnD K mg "list_of" s_list_of [.str ""]
  d_below : DfnD K mg "below" s_below [.str ""]
  d_joined : DfnD K mg "joined" s_joined [.non]
  d_moved : DfnD K mg "moved" s_moved [.non]
end RD
set_option Elab.async false
set_option linter.all false
set_option maxRecDepth 100000
set_option maxHeartbeats 4000000
local macro_rules | `(tactic| walk_at "isT") => `(tactic| refine ⟨_, _, _, _, true, rfl, L2.ClsV.ty _, L2.TyX.base (by first | exact .int _ | exact .str _ | exact .bl _ | exact .non), L2.kit_ty (by decide +kernel), ?_⟩)
local macro_rules | `(tactic| walk_at "isF") => `(tactic| refine ⟨_, _, _, _, false, rfl, L2.ClsV.ty _, L2.TyX.base (by first | exact .int _ | exact .str _ | exact .bl _ | exact .non), L2.kit_ty (by decide +kernel), ?_⟩)
namespace RD
open PySem PySem.Spec PyProof.Rows L2

section
variable {P : Program} {w : World} {K : PySem.W.Frag} {mg : Str → Option Value} {base : Heap}
def sp_is_whole : Sp := fun vs H Q _ => ∃ i : Int, vs = [.int i] ∧ Q (.bl true) H
theorem cal_is_whole (T : Txt K mg) : Cal P w K mg base 1 "is_whole" sp_is_whole [] := by
  refine T.d_is_whole.cal sc_is_whole (fun vs H Q E h => ?_) (fun f cdv A outer s H vs Q E hr h => ?_) (fun _ _ _ _ _ _ us hl => match us, hl with | [_], _ => rfl)
  · obtain ⟨i, rfl, _⟩ := h; rfl
  obtain ⟨i, rfl, k⟩ := h
  have hu := hu_of hr
  refine ⟨_, (pss_one (ps_ret (pe_and (pe_callB call_isi (by rfl) T.b_isinstance (by decide +kernel) (pa_cons (pv 0) (pa_cons (pe_bltn (v := .ty "int") (u := .type "int") (by rfl) T.b_int (by decide +kernel) (by rfl)) pa_nil))) (pe_one (pe_not (pe_callB call_isi (by rfl) T.b_isinstance (by decide +kernel) (pa_cons (pv 0) (pa_cons (pe_bltn (v := .ty "bool") (u := .type "bool") (by rfl) T.b_bool (by decide +kernel) (by rfl)) pa_nil)))))))), ?_⟩
  refine ⟨_, rfl, ?_⟩
  walk_at "isT"
  refine ⟨_, rfl, iteT ⟨_, rfl, ?_⟩⟩
  walk_at "isF"
  exact ⟨_, rfl, k⟩

def sp_is_among : Sp := fun vs H Q _ => ∃ i lo hi : Int, vs = [.int i, .int lo, .int hi] ∧ Q (.bl (decide (lo ≤ i ∧ i ≤ hi))) H
theorem cal_is_among (T : Txt K mg) : Cal P w K mg base 2 "is_among" sp_is_among [] := by
  refine T.d_is_among.cal sc_is_among (fun vs H Q E h => ?_) (fun f cdv A outer s H vs Q E hr h => ?_) (fun _ _ _ _ _ _ us hl => match us, hl with | [_, _, _], _ => rfl)
  · obtain ⟨i, lo, hi, rfl, _⟩ := h; rfl
  obtain ⟨i, lo, hi, rfl, k⟩ := h
  have hu := hu_of hr
  have C_is_whole := cal_is_whole (P := P) (w := w) (base := base) T
  refine ⟨_, (pss_one (ps_ret (pe_and (pe_cl C_is_whole hr (by omega) (by rfl) (pa_cons (pv 0) pa_nil)) (pe_one (pe_chain op_le op_le (pv 1) (pv 0) (pv 2)))))), ?_⟩
  refine ⟨_, rfl, _, rfl, ⟨_, rfl, iteT ?_⟩⟩
  refine ⟨_, rfl, _, rfl, _, _, rfl, rfl, _, rfl, ite2 (fun h1 => ?_) (fun h1 => ?_)⟩
  · refine ⟨_, rfl, _, _, rfl, rfl, ?_⟩
    have h1 := of_decide_eq_true h1
    have e : decide (lo ≤ i ∧ i ≤ hi) = decide (i ≤ hi) := by simp [h1]
    rw [e] at k
    exact k
  · have h1 : ¬ lo ≤ i := fun z => h1 (decide_eq_true z)
    have e : decide (lo ≤ i ∧ i ≤ hi) = false := by simp [h1]
    rw [e] at k
    exact k

def letters : Str := "abcdefghijklmnopqrstuvwxyz"
def nameOk (s : Str) : Bool := decide (1 ≤ s.length ∧ s.length ≤ 8) && s.cps.toList.all fun c => decide (c ∈ letters.cps.toList)
def sp_is_name : Sp := fun vs H Q _ => ∃ s : Str, vs = [.str s] ∧ s.length ≤ 1000 ∧ ∀ H', Same H H' → Q (.bl (nameOk s)) H'
theorem cal_is_name (T : Txt K mg) : Cal P w K mg base 1 "is_name" sp_is_name [] := by
  refine T.d_is_name.cal sc_is_name (fun vs H Q E h => ?_) (fun f cdv A outer s H vs Q E hr h => ?_) (fun _ _ _ _ _ _ us hl => match us, hl with | [_], _ => rfl)
  · obtain ⟨s, rfl, _⟩ := h; rfl
  obtain ⟨x, rfl, hz, k⟩ := h
  have hu := hu_of hr
  refine ⟨_, (pss_cons (ps_if (PW.pt (pw_or (pt_not (pt_val (pe_callB call_isi (by rfl) T.b_isinstance (by decide +kernel) (pa_cons (pv 0) (pa_cons (pe_bltn (v := .ty "str") (u := .type "str") (by rfl) T.b_str (by decide +kernel) (by rfl)) pa_nil))))) (pw_or1 (pt_not (pt_chain op_le op_le pe_int (pe_callB call_len_str (by rfl) T.b_len (by decide +kernel) (pa_cons (pv 0) pa_nil)) (pe_gv rfl T.c_MOST_LETTERS)))))) (pss_one (ps_ret pe_bl)) pss_nil)
   (pss_one (ps_ret (pe_callB (cr_all rfl) (by rfl) T.b_all (by decide +kernel) (pa_cons (pe_lc (own := [("sign", 1)]) (g := gName 1) (tt := tYes) rfl sc_is_name.nd (pi_str (pv 0)) (blkOk_by (N := N_is_name) (sc := defScope s_is_name) (by decide +kernel)) (fun _ _ _ _ _ => (pg_name (i := 1) sc_is_name.nd rfl (Or.inl rfl))) (fun _ _ _ _ _ => pts_nil) (fun _ _ _ _ _ => (pe_cmpR op_in_sign (pv 1) (pe_gv rfl T.c_LETTERS) (by rfl)))) pa_nil))))), ?_⟩
  refine ⟨_, rfl, ?_⟩
  walk_at "isT"
  refine ⟨_, rfl, iteF ?_⟩
  refine ⟨_, rfl, _, rfl, Nat.le_trans hz (by decide), _, _, rfl, rfl, _, rfl, ?_⟩
  refine ite2 (fun h1 => ?_) (fun h1 => ?_)
  · have h1 : (1 : Int) ≤ (x.length : Int) := of_decide_eq_true h1
    refine ⟨_, _, rfl, rfl, _, rfl, ?_⟩
    refine ite2 (fun h2 => ?_) (fun h2 => ?_)
    · have h2 : ¬ (x.length : Int) ≤ 8 := fun z => by
        have h2 : (!decide ((x.length : Int) ≤ 8)) = true := h2
        rw [decide_eq_true z] at h2
        cases h2
      have e : nameOk x = false := by
        have q : ¬ x.length ≤ 8 := by omega
        simp [nameOk, q]
      have k := k H (Same.refl H)
      rw [e] at k
      exact k
    · have h2 : (x.length : Int) ≤ 8 := by
        have h2 : ¬ (!decide ((x.length : Int) ≤ 8)) = true := h2
        simpa using h2
      refine ⟨_, rfl, _, rfl, fun D hD => ?_⟩
      refine lc_rel (σ := L2.start N_is_name [V.str x]) (xs := sgn x) x.cps.toList (fun c => some (decide (c ∈ letters.cps.toList))) (fun _ v c => v = .str ⟨#[c]⟩) (fun _ v b => v = .bl b) walk_strL (fun _ _ => trivial) hD ?_ (Paired.ofMap _ _) (fun _ h => h) (fun _ h => h) ?_ ?_
      · have : (sgn x).length = x.length := by simp [sgn, Str.length]
        rw [this]
        exact small1000 hz
      · rintro _ c H' Qk Qn _ _ rfl hk _
        refine ⟨rfl, ?_⟩
        refine ⟨_, rfl, _, _, rfl, rfl, ?_⟩
        exact hk _ _ _ rfl (Same.refl _) rfl
      · intro H' ys s1 hy r
        have e := Paired.toMap r
        rw [fm_some] at e
        refine ⟨_, _, rfl, SqL.of (hy.trans (congrArg (fun l => some (HO.lst l)) e)), ?_⟩
        have e2 : nameOk x = (x.cps.toList.map fun c => decide (c ∈ letters.cps.toList)).all id := by
          have q : 1 ≤ x.length ∧ x.length ≤ 8 := by omega
          simp [nameOk, q]
        have k := k H' s1
        rw [e2] at k
        exact k
  · have h1 : ¬ (1 : Int) ≤ (x.length : Int) := fun z => h1 (decide_eq_true z)
    refine ⟨_, rfl, ?_⟩
    have e : nameOk x = false := by
      have q : ¬ 1 ≤ x.length := by omega
      simp [nameOk, q]
    have k := k H (Same.refl H)
    rw [e] at k
    exact k
end
end RD
set_option Elab.async false
set_option linter.all false
set_option maxRecDepth 100000
set_option maxHeartbeats 4000000
local macro_rules | `(tactic| walk_at "isT") => `(tactic| refine ⟨_, _, _, _, true, rfl, L2.ClsV.ty _, L2.TyX.base (by first | exact .int _ | exact .str _ | exact .bl _ | exact .non), L2.kit_ty (by decide +kernel), ?_⟩)
local macro_rules | `(tactic| walk_at "isF") => `(tactic| refine ⟨_, _, _, _, false, rfl, L2.ClsV.ty _, L2.TyX.base (by first | exact .int _ | exact .str _ | exact .bl _ | exact .non), L2.kit_ty (by decide +kernel), ?_⟩)
namespace RD
open PySem PySem.Spec PyProof.Rows L2
section
variable {P : Program} {w : World} {K : PySem.W.Frag} {mg : Str → Option Value} {base : Heap}
def has (kvs : List (Key × V)) (x : Str) : Bool := (valV kvs (.inr x)).isSome
/-- p may stand behind those in kvs -/
def PrOk (p : Pr) (h : Str → Bool) : Prop := nameOk p.1 = true ∧ h p.1 = false ∧ (p.2.1 = "" ∨ h p.2.1 = true) ∧ 1 ≤ p.2.2 ∧ p.2.2 ≤ 60
theorem nameOk_len {s : Str} (h : nameOk s = true) : 1 ≤ s.length ∧ s.length ≤ 8 := by
  unfold nameOk at h
  rw [Bool.and_eq_true] at h
  exact of_decide_eq_true h.1
def sp_is_person : Sp := fun vs H Q _ => ∃ (v : V) (d : Addr) (p : Pr) (kvs : List (Key × V)), vs = [v, .ref d] ∧ PAt H v p ∧ H d = some (.dK kvs) ∧ PrOk p (has kvs) ∧ ∀ H', Same H H' → Q (.bl true) H'
theorem cal_is_person (T : Txt K mg) : Cal P w K mg base 3 "is_person" sp_is_person [] := by
  refine T.d_is_person.cal sc_is_person (fun vs H Q E h => ?_) (fun f cdv A outer s H vs Q E hr h => ?_) (fun _ _ _ _ _ _ us hl => match us, hl with | [_, _], _ => rfl)
  · obtain ⟨v, d, p, kvs, rfl, _⟩ := h; rfl
  obtain ⟨v, d, p, kvs, rfl, ⟨a, rfl, ha⟩, hd, ⟨o1, o2, o3, o4, o5⟩, k⟩ := h
  have hu := hu_of hr
  have C_is_name := cal_is_name (P := P) (w := w) (base := base) T
  have C_is_among := cal_is_among (P := P) (w := w) (base := base) T
  refine ⟨_, (pss_cons (ps_if (PW.pt (pw_or (pt_not (pt_val (pe_callB call_isi (by rfl) T.b_isinstance (by decide +kernel) (pa_cons (pv 0) (pa_cons (pe_bltn (v := .ty "tuple") (u := .type "tuple") (by rfl) T.b_tuple (by decide +kernel) (by rfl)) pa_nil))))) (pw_or1 (pt_cmpR op_ne (pe_callB call_len_seq (by rfl) T.b_len (by decide +kernel) (pa_cons (pv 0) pa_nil)) pe_int (nomark _))))) (pss_one (ps_ret pe_bl)) pss_nil)
   (pss_cons (ps_asg (pv 0) (pg_tup (by rfl) (pgs_cons (pg_name (i := 2) sc_is_person.nd rfl (Or.inl rfl)) (pgs_cons (pg_name (i := 3) sc_is_person.nd rfl (Or.inl rfl)) (pgs_cons (pg_name (i := 4) sc_is_person.nd rfl (Or.inl rfl)) pgs_nil)))))
   (pss_cons (ps_if (PW.pt (pw_or (pt_not (pt_val (pe_cl C_is_name hr (by omega) (by rfl) (pa_cons (pv 2) pa_nil)))) (pw_or (pt_cmp (pc_din hu (pv 2) (pv 1))) (pw_or1 (pt_not (pt_val (pe_callB call_isi (by rfl) T.b_isinstance (by decide +kernel) (pa_cons (pv 3) (pa_cons (pe_bltn (v := .ty "str") (u := .type "str") (by rfl) T.b_str (by decide +kernel) (by rfl)) pa_nil))))))))) (pss_one (ps_ret pe_bl)) pss_nil)
   (pss_one (ps_ret (pe_and (pe_or (pe_cmpR op_eq (pv 3) (pe_gv rfl T.c_BELL) (nomark _)) (pe_one (pe_cmp (pc_din hu (pv 3) (pv 1))))) (pe_one (pe_cl C_is_among hr (by omega) (by rfl) (pa_cons (pv 4) (pa_cons pe_int (pa_cons (pe_gv rfl T.c_MOST_TALK) pa_nil))))))))))), ?_⟩
  refine ⟨_, rfl, _, _, _, _, true, rfl, .ty _, .base (.tup ha), kit_ty (by decide +kernel), _, rfl, iteF ?_⟩
  refine ⟨_, rfl, _, _, rfl, .inr (SqT.of ha), rfl, _, rfl, iteNS rfl ?_⟩
  refine ⟨_, rfl, _, _, rfl, SqT.of ha, rfl, _, _, rfl, _, _, rfl, _, _, rfl, rfl, ?_⟩
  -- if not is_name(name) or ..
  refine ⟨_, rfl, _, rfl, Nat.le_trans (nameOk_len o1).2 (by decide), fun H1 s1 => ?_⟩
  rw [o1]
  refine ⟨_, rfl, iteF ?_⟩
  refine ⟨_, rfl, _, rfl, _, _, rfl, DGet.k (k := Sum.inr p.1) (s1 _ _ hd), _, rfl, ?_⟩
  have e2 : (valV kvs (Sum.inr p.1 : Key)).isSome = false := o2
  rw [e2]
  refine iteF ?_
  refine ⟨_, rfl, ?_⟩
  walk_at "isT"
  refine ⟨_, rfl, iteF ?_⟩
  -- return
  refine ⟨_, rfl, rfl, _, rfl, ite2 (fun h1 => ?_) (fun h1 => ?_)⟩
  all_goals have e5 : decide (1 ≤ p.2.2 ∧ p.2.2 ≤ 60) = true := decide_eq_true ⟨o4, o5⟩
  · refine ⟨_, rfl, iteT ⟨_, rfl, _, _, _, rfl, ?_⟩⟩
    rw [e5]
    exact k H1 s1
  · have e3 : (valV kvs (Sum.inr p.2.1 : Key)).isSome = true := by
      rcases o3 with z | z
      · exact absurd (decide_eq_true (congrArg V.str z)) h1
      · exact z
    refine ⟨_, rfl, _, rfl, _, _, rfl, DGet.k (k := Sum.inr p.2.1) (s1 _ _ hd), ?_⟩
    rw [e3]
    refine ⟨_, rfl, iteT ⟨_, rfl, _, _, _, rfl, ?_⟩⟩
    rw [e5]
    exact k H1 s1

/-! ### trees -/
def nmz (ps : List Pr) : List Str := ps.map (·.1)
/-- the people of a tree, each good behind those ahead -/
def PplOk (ps : List Pr) : Prop := ∀ (i : Nat) (p : Pr), ps[i]? = some p → PrOk p fun x => decide (x ∈ nmz (ps.take i))
structure TrOk (t : Tr) : Prop where
  w1 : 1 ≤ t.wait
  w2 : t.wait ≤ 60
  d1 : 0 ≤ t.deep
  d2 : t.deep ≤ 4
  len : t.ppl.length ≤ 16
  ppl : PplOk t.ppl
/-- the dict known holds just the names of some -/
def Knows (kvs : List (Key × V)) (ns : List Str) : Prop := ∀ x : Str, has kvs x = decide (x ∈ ns)
theorem Knows.nil : Knows [] [] := fun x => by simp [has, valV]
theorem Knows.put {kvs : List (Key × V)} {ns : List Str} (h : Knows kvs ns) (x : Str) (v : V) : Knows (putK kvs (.inr x) v) (ns ++ [x]) := fun y => by
  unfold has
  rw [valV_put]
  by_cases e : y = x
  · subst e
    simp
  · have e1 : ¬ (Sum.inr y : Key) = Sum.inr x := fun z => e (Sum.inr.inj z)
    rw [if_neg e1]
    have := h y
    unfold has at this
    rw [this]
    simp [e]

def sp_first_wrong : Sp := fun vs H Q _ => ∃ (v : V) (t : Tr), vs = [v] ∧ TAt H v t ∧ TrOk t ∧ ∀ H', Same H H' → Q .non H'
theorem cal_first_wrong (T : Txt K mg) : Cal P w K mg base 4 "first_wrong" sp_first_wrong [] := by
  refine T.d_first_wrong.cal sc_first_wrong (fun vs H Q E h => ?_) (fun f cdv A outer s H vs Q E hr h => ?_) (fun _ _ _ _ _ _ us hl => match us, hl with | [_], _ => rfl)
  · obtain ⟨v, t, rfl, _⟩ := h; rfl
  obtain ⟨v, t, rfl, ⟨a, b, ps, rfl, ha, hb, rp⟩, ok, k⟩ := h
  have hu := hu_of hr
  have C_is_among := cal_is_among (P := P) (w := w) (base := base) T
  have C_is_person := cal_is_person (P := P) (w := w) (base := base) T
  refine ⟨_, (pss_cons (ps_if (PW.pt (pw_or (pt_not (pt_val (pe_callB call_isi (by rfl) T.b_isinstance (by decide +kernel) (pa_cons (pv 0) (pa_cons (pe_bltn (v := .ty "tuple") (u := .type "tuple") (by rfl) T.b_tuple (by decide +kernel) (by rfl)) pa_nil))))) (pw_or1 (pt_cmpR op_ne (pe_callB call_len_seq (by rfl) T.b_len (by decide +kernel) (pa_cons (pv 0) pa_nil)) pe_int (nomark _))))) (pss_one (ps_ret (pe_tup (pa_cons pe_non (pa_cons pe_non pa_nil))))) pss_nil)
   (pss_cons (ps_asg (pv 0) (pg_tup (by rfl) (pgs_cons (pg_name (i := 1) sc_first_wrong.nd rfl (Or.inl rfl)) (pgs_cons (pg_name (i := 2) sc_first_wrong.nd rfl (Or.inl rfl)) (pgs_cons (pg_name (i := 3) sc_first_wrong.nd rfl (Or.inl rfl)) pgs_nil)))))
   (pss_cons (ps_if (pt_not (pt_val (pe_cl C_is_among hr (by omega) (by rfl) (pa_cons (pv 1) (pa_cons pe_int (pa_cons (pe_gv rfl T.c_MOST_WAIT) pa_nil)))))) (pss_one (ps_ret (pe_tup (pa_cons pe_str (pa_cons pe_non pa_nil))))) pss_nil)
   (pss_cons (ps_if (pt_not (pt_val (pe_cl C_is_among hr (by omega) (by rfl) (pa_cons (pv 2) (pa_cons pe_int (pa_cons (pe_gv rfl T.c_MOST_DEEP) pa_nil)))))) (pss_one (ps_ret (pe_tup (pa_cons pe_str (pa_cons pe_non pa_nil))))) pss_nil)
   (pss_cons (ps_if (PW.pt (pw_or (pt_not (pt_val (pe_callB call_isi (by rfl) T.b_isinstance (by decide +kernel) (pa_cons (pv 3) (pa_cons (pe_bltn (v := .ty "tuple") (u := .type "tuple") (by rfl) T.b_tuple (by decide +kernel) (by rfl)) pa_nil))))) (pw_or1 (pt_cmpR op_gt (pe_callB call_len_seq (by rfl) T.b_len (by decide +kernel) (pa_cons (pv 3) pa_nil)) (pe_gv rfl T.c_MOST_PEOPLE) (nomark _))))) (pss_one (ps_ret (pe_tup (pa_cons pe_str (pa_cons pe_non pa_nil))))) pss_nil)
   (pss_cons (ps_set (i := 4) sc_first_wrong.nd rfl (Or.inl rfl) pe_dnewK)
   (pss_cons (ps_for PassesOwn.never rfl (pi_enumT (by rfl) T.b_enumerate (pa_cons (pv 3) pa_nil)) (pg_tup (by rfl) (pgs_cons (pg_name (i := 5) sc_first_wrong.nd rfl (Or.inl rfl)) (pgs_cons (pg_name (i := 6) sc_first_wrong.nd rfl (Or.inl rfl)) pgs_nil))) (pss_cons (ps_if (pt_not (pt_val (pe_cl C_is_person hr (by omega) (by rfl) (pa_cons (pv 6) (pa_cons (pv 4) pa_nil))))) (pss_one (ps_ret (pe_tup (pa_cons pe_str (pa_cons (pv 5) pa_nil))))) pss_nil) (pss_one (ps_dput hu (pv 4) (pe_ix ix_tup (pv 6) pe_int (fun _ _ => rfl)) pe_bl rfl))))
   (pss_one (ps_ret pe_non))))))))), ?_⟩
  refine ⟨_, rfl, _, _, _, _, true, rfl, .ty _, .base (.tup ha), kit_ty (by decide +kernel), _, rfl, iteF ?_⟩
  refine ⟨_, rfl, _, _, rfl, .inr (SqT.of ha), rfl, _, rfl, iteNS rfl ?_⟩
  refine ⟨_, rfl, _, _, rfl, SqT.of ha, rfl, _, _, rfl, _, _, rfl, _, _, rfl, rfl, ?_⟩
  refine ⟨_, rfl, _, _, _, rfl, ?_⟩
  rw [decide_eq_true (show 1 ≤ t.wait ∧ t.wait ≤ 60 from ⟨ok.w1, ok.w2⟩)]
  refine ⟨_, rfl, iteF ?_⟩
  refine ⟨_, rfl, _, _, _, rfl, ?_⟩
  rw [decide_eq_true (show 0 ≤ t.deep ∧ t.deep ≤ 4 from ⟨ok.d1, ok.d2⟩)]
  refine ⟨_, rfl, iteF ?_⟩
  refine ⟨_, rfl, _, _, _, _, true, rfl, .ty _, .base (.tup hb), kit_ty (by decide +kernel), _, rfl, iteF ?_⟩
  have lp : ps.length ≤ 16 := by rw [Paired.len rp]; exact ok.len
  refine ⟨_, rfl, _, _, rfl, .inr (SqT.of hb), _, _, rfl, rfl, _, rfl, ?_⟩
  have e1 : decide ((16 : Int) < (ps.length : Int)) = false := decide_eq_false (by omega)
  show if decide ((16 : Int) < (ps.length : Int)) = true then _ else _
  rw [e1]
  refine iteF ?_
  intro d hd
  have s1 : Same H (upd H d (.dK [])) := Same.upd hd
  refine ⟨_, rfl, _, _, rfl, SqT.of (s1 _ _ hb), ?_⟩
  refine for_it walk_enumT (fun i σ H2 => ∃ (v5 v6 : Option V) (kvs : List (Key × V)), σ = [some (.ref a), some (.int t.wait), some (.int t.deep), some (.ref b), some (.ref d), v5, v6] ∧ Same H H2 ∧ H2 d = some (.dK kvs) ∧ kvs.length ≤ i ∧ Knows kvs (nmz (t.ppl.take i)))
    ⟨none, none, [], rfl, s1, upd_same, Nat.le_refl _, Knows.nil⟩ (fun i σ H2 _ ⟨_, _, _, _, s2, _⟩ => SqT.of (s2 _ _ hb)) ?_ ?_
  · rintro i x σ H2 H3 hi ⟨v5, v6, kvs, rfl, s2, hdk, hl, kn⟩ ⟨q, x1, y1, rfl, nq, rfl, e1, e2⟩
    cases e1
    obtain ⟨p, hp, rp1⟩ := Paired.get (PsAt.tk (Same.tk s2) rp) e2
    have s3 : Same H2 (upd H2 q (.tup [.int (i : Nat), y1])) := Same.upd nq
    have po : PrOk p (has kvs) := by
      have e : has kvs = fun x => decide (x ∈ nmz (t.ppl.take i)) := funext kn
      rw [e]
      exact ok.ppl i p hp
    refine ⟨_, _, rfl, SqT.of upd_same, rfl, _, _, rfl, _, _, rfl, rfl, ?_⟩
    refine ⟨_, rfl, _, rfl, _, d, p, kvs, rfl, PAt.tk (Same.tk s3) rp1, s3 _ _ hdk, po, fun H4 s4 => ?_⟩
    refine ⟨_, rfl, iteF ?_⟩
    obtain ⟨c, rfl, hc⟩ := PAt.tk ((Same.tk s3).trans (Same.tk s4)) rp1
    have il : i < 16 := Nat.lt_of_lt_of_le hi lp
    refine ⟨_, rfl, _, rfl, _, _, _, _, rfl, rfl, SqT.of hc, rfl, d, _, rfl, DPut.k (k := Sum.inr p.1) (s4 _ _ (s3 _ _ hdk)) (small1000 (by omega)), ?_⟩
    have s5 : Same H (upd H4 d (.dK (putK kvs (Sum.inr p.1) (.bl true)))) := fun b' o h => by
      have nb : b' ≠ d := ne_of_none h hd
      rw [upd_ne nb]
      exact s4 _ _ (s3 _ _ (s2 _ _ h))
    have l5 := length_putK kvs (Sum.inr p.1) (V.bl true)
    refine ⟨_, _, _, rfl, s5, upd_same, by omega, ?_⟩
    have et : nmz (t.ppl.take (i + 1)) = nmz (t.ppl.take i) ++ [p.1] := by
      rw [List.take_succ, hp]
      simp [nmz]
    rw [et]
    exact kn.put _ _
  · rintro σ H2 ⟨v5, v6, kvs, rfl, s2, _⟩
    exact k H2 s2

def sp_need_tree : Sp := sp_first_wrong
theorem cal_need_tree (T : Txt K mg) : Cal P w K mg base 5 "need_tree" sp_need_tree [] := by
  refine T.d_need_tree.cal sc_need_tree (fun vs H Q E h => ?_) (fun f cdv A outer s H vs Q E hr h => ?_) (fun _ _ _ _ _ _ us hl => match us, hl with | [_], _ => rfl)
  · obtain ⟨v, t, rfl, _⟩ := h; rfl
  obtain ⟨v, t, rfl, ht, ok, k⟩ := h
  have hu := hu_of hr
  have C_first_wrong := cal_first_wrong (P := P) (w := w) (base := base) T
  refine ⟨_, (pss_cons (ps_set (i := 1) sc_need_tree.nd rfl (Or.inl rfl) (pe_cl C_first_wrong hr (by omega) (by rfl) (pa_cons (pv 0) pa_nil)))
   (pss_one (ps_if (pt_cmpR op_notN (pv 1) pe_non (nomark _)) (pss_one ps_never) pss_nil))), ?_⟩
  refine ⟨_, rfl, v, t, rfl, ht, ok, fun H1 s1 => ?_⟩
  refine ⟨_, rfl, rfl, _, rfl, iteNS rfl ?_⟩
  exact k H1 s1
/-- a number that lies between two others -/
def sp_need_number : Sp := fun vs H Q _ => ∃ i lo hi : Int, vs = [.int i, .int lo, .int hi] ∧ lo ≤ i ∧ i ≤ hi ∧ Q .non H
theorem cal_need_number (T : Txt K mg) : Cal P w K mg base 3 "need_number" sp_need_number [] := by
  refine T.d_need_number.cal sc_need_number (fun vs H Q E h => ?_) (fun f cdv A outer s H vs Q E hr h => ?_) (fun _ _ _ _ _ _ us hl => match us, hl with | [_, _, _], _ => rfl)
  · obtain ⟨i, lo, hi, rfl, _⟩ := h; rfl
  obtain ⟨i, lo, hi, rfl, h1, h2, k⟩ := h
  have hu := hu_of hr
  have C_is_among := cal_is_among (P := P) (w := w) (base := base) T
  refine ⟨_, (pss_one (ps_if (pt_not (pt_val (pe_cl C_is_among hr (by omega) (by rfl) (pa_cons (pv 0) (pa_cons (pv 1) (pa_cons (pv 2) pa_nil)))))) (pss_one ps_never) pss_nil)), ?_⟩
  refine ⟨_, rfl, _, rfl, _, rfl, _, _, _, rfl, ?_⟩
  rw [decide_eq_true (show lo ≤ i ∧ i ≤ hi from ⟨h1, h2⟩)]
  exact ⟨_, rfl, iteF k⟩
/-- a place in a list, or None -/
def sp_need_place : Sp := fun vs H Q _ => ∃ (l : Addr) (xs : List V) (v : V), vs = [.ref l, v] ∧ H l = some (.lst xs) ∧ (v = .non ∨ ∃ i : Int, v = .int i ∧ 0 ≤ i ∧ i ≤ xs.length) ∧ Q .non H
theorem cal_need_place (T : Txt K mg) : Cal P w K mg base 4 "need_place" sp_need_place [] := by
  refine T.d_need_place.cal sc_need_place (fun vs H Q E h => ?_) (fun f cdv A outer s H vs Q E hr h => ?_) (fun _ _ _ _ _ _ us hl => match us, hl with | [_, _], _ => rfl)
  · obtain ⟨l, xs, v, rfl, _⟩ := h; rfl
  obtain ⟨l, xs, v, rfl, hl, hv, k⟩ := h
  have hu := hu_of hr
  have C_need_number := cal_need_number (P := P) (w := w) (base := base) T
  refine ⟨_, (pss_one (ps_if (pt_cmpR op_notN (pv 1) pe_non (nomark _)) (pss_one (ps_expr (pe_cl C_need_number hr (by omega) (by rfl) (pa_cons (pv 1) (pa_cons pe_int (pa_cons (pe_callB call_len_seq (by rfl) T.b_len (by decide +kernel) (pa_cons (pv 0) pa_nil)) pa_nil)))))) pss_nil)), ?_⟩
  rcases hv with rfl | ⟨i, rfl, h1, h2⟩
  · exact ⟨_, rfl, rfl, _, rfl, iteNS rfl k⟩
  · refine ⟨_, rfl, rfl, _, rfl, ?_⟩
    refine iteT ⟨_, rfl, _, rfl, _, _, rfl, .inl (SqL.of hl), _, _, _, rfl, h1, h2, k⟩
end
end RD
set_option Elab.async false
set_option linter.all false
set_option maxRecDepth 100000
set_option maxHeartbeats 4000000
local macro_rules | `(tactic| walk_at "isT") => `(tactic| refine ⟨_, _, _, _, true, rfl, L2.ClsV.ty _, L2.TyX.base (by first | exact .int _ | exact .str _ | exact .bl _ | exact .non), L2.kit_ty (by decide +kernel), ?_⟩)
local macro_rules | `(tactic| walk_at "isF") => `(tactic| refine ⟨_, _, _, _, false, rfl, L2.ClsV.ty _, L2.TyX.base (by first | exact .int _ | exact .str _ | exact .bl _ | exact .non), L2.kit_ty (by decide +kernel), ?_⟩)
namespace RD
open PySem PySem.Spec PyProof.Rows L2
section
variable {P : Program} {w : World} {K : PySem.W.Frag} {mg : Str → Option Value} {base : Heap}
/-- a name of the tree, or the bell if told so -/
def sp_need_name : Sp := fun vs H Q _ => ∃ (v : V) (t : Tr) (x : Str) (b : Bool), vs = [v, .str x, .bl b] ∧ TAt H v t ∧ t.ppl.length ≤ 1000 ∧ (x ∈ nmz t.ppl ∨ (b = true ∧ x = "")) ∧ ∀ H', Same H H' → Q .non H'
theorem body_need_name (T : Txt K mg) : ∀ (f : Addr) (cdv : Value) (A : Around) (outer : List Env) (s : Shared) (H : Hp) (vs : List V) (Q : VK) (E : XK), Room 0 (A.deeper (envOfC "need_name" (defScope s_need_name) s.heap.objs.size f cdv)) → sp_need_name vs H Q E →
      ∃ t, PSs (cxOf CX0 P w K mg base N_need_name "need_name" (defScope s_need_name) f cdv A outer s H E).nox (defBody s_need_name) t ∧ t { nx := fun _ H' => Q .non H', rt := Q } (start N_need_name vs) H := by
  intro f cdv A outer s H vs Q E hr h
  obtain ⟨v, t, x, b, rfl, ⟨a, d, ps, rfl, ha, hb, rp⟩, hn, hx, k⟩ := h
  have hu := hu_of hr
  refine ⟨_, (pss_cons (ps_if (PW.pt (pw_and (pt_val (pv 2)) (pw_and (pt_val (pe_callB call_isi (by rfl) T.b_isinstance (by decide +kernel) (pa_cons (pv 1) (pa_cons (pe_bltn (v := .ty "str") (u := .type "str") (by rfl) T.b_str (by decide +kernel) (by rfl)) pa_nil)))) (pw_and1 (pt_cmpR op_eq (pv 1) (pe_gv rfl T.c_BELL) (nomark _)))))) (pss_one ps_retN) pss_nil)
   (pss_one (ps_if (PW.pt (pw_or (pt_not (pt_val (pe_callB call_isi (by rfl) T.b_isinstance (by decide +kernel) (pa_cons (pv 1) (pa_cons (pe_bltn (v := .ty "str") (u := .type "str") (by rfl) T.b_str (by decide +kernel) (by rfl)) pa_nil))))) (pw_or1 (pt_cmpR op_notIn_seq (pv 1) (pe_lc (own := [("person", 3)]) (g := gName 3) (tt := tYes) rfl sc_need_name.nd (pi_tup (pe_ix ix_tup (pv 0) pe_int (fun _ _ => rfl))) (blkOk_by (N := N_need_name) (sc := defScope s_need_name) (by decide +kernel)) (fun _ _ _ _ _ => (pg_name (i := 3) sc_need_name.nd rfl (Or.inl rfl))) (fun _ _ _ _ _ => pts_nil) (fun _ _ _ _ _ => (pe_ix (ix_tupK (K := K) rfl) (pv 3) pe_int (fun _ _ => rfl)))) (by rfl))))) (pss_one ps_never) pss_nil))), ?_⟩
  have rest : ∀ (H1 : Hp), Same H H1 → x ∈ nmz t.ppl → tIfS (tOr (tNot (tB (tCB (rIsi K) (tCons (tVar 1) (tCons (tC (V.ty "str")) tNil))))) (tB (tOp (rIn K true) (tVar 1) (tLc (iTup K (tOp (rIxT K) (tVar 0) (tC (.int 2)))) (gName 3) tYes (tOp (rIxT K) (tVar 3) (tC (.int 0))) [3])))) tNever tNext { nx := fun _ H' => Q .non H', rt := Q } (start N_need_name [.ref a, .str x, .bl b]) H1 := by
    intro H1 s1 hx
    refine ⟨_, rfl, ?_⟩
    walk_at "isT"
    refine ⟨_, rfl, iteF ?_⟩
    refine ⟨_, rfl, _, rfl, _, _, _, _, rfl, rfl, SqT.of (s1 _ _ ha), rfl, _, rfl, ⟨_, SqT.of (s1 _ _ hb)⟩, fun D hD => ?_⟩
    refine lc_rel (σ := L2.start N_need_name [.ref a, .str x, .bl b]) (xs := ps) t.ppl (fun p => some p.1) PAt (fun _ v y => v = .str y) walk_tup (fun H' q => SqT.of (q _ _ (s1 _ _ hb))) hD (by rw [Paired.len rp]; exact small1000 hn) (PsAt.tk (Same.tk s1) rp) (fun q h => PAt.tk (Same.tk q) h) (fun _ h => h) ?_ ?_
    · rintro _ p H' Qk Qn _ _ ⟨c, rfl, hc⟩ hk _
      exact ⟨rfl, _, rfl, _, _, _, _, rfl, rfl, SqT.of hc, rfl, hk _ _ _ rfl (Same.refl _) rfl⟩
    · intro H' ys s2 hy r
      have e := Paired.toMap r
      rw [fm_some] at e
      refine ⟨_, _, rfl, .inl (SqL.of hy), rfl, ?_, ?_⟩
      · rw [e]
        simp [flatV]
      · rw [e, inV_strs]
        have e2 : decide (x ∈ t.ppl.map Prod.fst) = true := decide_eq_true hx
        rw [e2]
        exact ⟨_, rfl, iteF (k H' (s1.trans s2))⟩
  have e0 : ∀ o : Prop, Decidable o → True := fun _ _ => trivial
  cases b with
  | false =>
    refine ⟨_, rfl, _, rfl, iteF ?_⟩
    refine iteF (rest H (Same.refl H) ?_)
    rcases hx with z | ⟨z, _⟩
    · exact z
    · cases z
  | true =>
    refine ⟨_, rfl, _, rfl, iteT ⟨_, rfl, ?_⟩⟩
    walk_at "isT"
    refine ⟨_, rfl, iteT ⟨_, rfl, rfl, _, rfl, ?_⟩⟩
    by_cases ex : x = ""
    · have e1 : decide (V.str x = V.str "") = true := decide_eq_true (congrArg V.str ex)
      show if decide (V.str x = V.str "") = true then _ else _
      rw [e1]
      exact iteT (k H (Same.refl H))
    · have e1 : decide (V.str x = V.str "") = false := decide_eq_false fun z => ex (V.str.inj z)
      show if decide (V.str x = V.str "") = true then _ else _
      rw [e1]
      refine iteF (rest H (Same.refl H) ?_)
      rcases hx with z | ⟨_, z⟩
      · exact z
      · exact absurd z ex
theorem len_need_name : ∀ vs H Q E, sp_need_name vs H Q E → vs.length = P_need_name.length := fun vs H Q E h => by
  obtain ⟨v, t, x, b, rfl, _⟩ := h
  rfl
/-- need_name(tree, name) -/
theorem cal_need_name_2 (T : Txt K mg) : Cal P w K mg base 1 "need_name" sp_need_name [.bl false] := by
  obtain ⟨f, fd, F, hm⟩ := T.d_need_name.ex
  exact cal_d (dvs := [.bl false]) F hm (DfnD.fn F sc_need_name len_need_name (body_need_name T)) 2 0 (by simp) rfl fun T kV doc pm an cdv ct us its h1 h2 => match us, its, h1, h2 with | [_, _], [_], _, _ => ⟨_, rfl, rfl⟩
/-- need_name(tree, name, bell=b) -/
theorem cal_need_name_2_bell (T : Txt K mg) : CalK P w K mg base 1 "need_name" 2 ["bell"] (fun vs zs => vs ++ zs) sp_need_name := by
  obtain ⟨f, fd, F, hm⟩ := T.d_need_name.ex
  exact calk_d (dvs := [.bl false]) F hm (DfnD.fn F sc_need_name len_need_name (body_need_name T)) 2 ["bell"] (fun us ws => us ++ ws) (by simp) (fun r1 r2 => r1.append r2) fun T kV doc pm an cdv ct us ws its h1 h2 h3 => match us, ws, its, h1, h2, h3 with | [_, _], [_], [_], _, _, _ => ⟨_, rfl, rfl⟩

/-- the first one so called -/
def named (ps : List Pr) (x : Str) : Option Pr := ps.find? fun p => decide (p.1 = x)
def sp_person_of : Sp := fun vs H Q _ => ∃ (v : V) (t : Tr) (x : Str) (p : Pr), vs = [v, .str x] ∧ TAt H v t ∧ t.ppl.length ≤ 1000 ∧ named t.ppl x = some p ∧ ∀ H' u, Same H H' → PAt H' u p → Q u H'
theorem named_filter (ps : List Pr) (x : Str) : (ps.filterMap fun p => if p.1 = x then some p else none)[0]? = named ps x := by
  induction ps with
  | nil => rfl
  | cons p r ih =>
    unfold named at ih ⊢
    by_cases e : p.1 = x
    · simp [e]
    · simp [e, ih]
theorem cal_person_of (T : Txt K mg) : Cal P w K mg base 1 "person_of" sp_person_of [] := by
  refine T.d_person_of.cal sc_person_of (fun vs H Q E h => ?_) (fun f cdv A outer s H vs Q E hr h => ?_) (fun _ _ _ _ _ _ us hl => match us, hl with | [_, _], _ => rfl)
  · obtain ⟨v, t, x, p, rfl, _⟩ := h; rfl
  obtain ⟨v, t, x, p, rfl, ⟨a, d, ps, rfl, ha, hb, rp⟩, hn, hx, k⟩ := h
  have hu := hu_of hr
  refine ⟨_, (pss_one (ps_ret (pe_ix ix_list (pe_lc (own := [("person", 2)]) (g := gName 2) (tt := _) rfl sc_person_of.nd (pi_tup (pe_ix ix_tup (pv 0) pe_int (fun _ _ => rfl))) (blkOk_by (N := N_person_of) (sc := defScope s_person_of) (by decide +kernel)) (fun _ _ _ _ _ => (pg_name (i := 2) sc_person_of.nd rfl (Or.inl rfl))) (fun _ _ _ _ _ => (pts_one (pt_cmpR op_eq (pe_ix (ix_tupK (K := K) rfl) (pv 2) pe_int (fun _ _ => rfl)) (pv 1) (nomark _)))) (fun _ _ _ _ _ => (pv 2))) pe_int (fun _ _ => rfl)))), ?_⟩
  refine ⟨_, rfl, _, _, _, _, rfl, rfl, SqT.of ha, rfl, _, rfl, ⟨_, SqT.of hb⟩, fun D hD => ?_⟩
  refine lc_rel (σ := L2.start N_person_of [.ref a, .str x]) (xs := ps) t.ppl (fun p => if p.1 = x then some p else none) PAt PAt walk_tup (fun H' q => SqT.of (q _ _ hb)) hD (by rw [Paired.len rp]; exact small1000 hn) rp (fun q h => PAt.tk (Same.tk q) h) (fun q h => PAt.tk q h) ?_ ?_
  · rintro _ p H' Qk Qn _ _ ⟨c, rfl, hc⟩ hk hn
    refine ⟨rfl, _, rfl, _, _, _, _, rfl, rfl, SqT.of hc, rfl, _, rfl, rfl, _, rfl, ?_⟩
    by_cases e : p.1 = x
    · have e1 : decide (V.str p.1 = V.str x) = true := decide_eq_true (congrArg V.str e)
      show if decide (V.str p.1 = V.str x) = true then _ else _
      rw [e1]
      exact iteT ⟨_, rfl, hk _ _ _ (if_pos e) (Same.refl _) ⟨c, rfl, hc⟩⟩
    · have e1 : decide (V.str p.1 = V.str x) = false := decide_eq_false fun z => e (V.str.inj z)
      show if decide (V.str p.1 = V.str x) = true then _ else _
      rw [e1]
      exact iteF (hn (if_neg e) _ (Same.refl _))
  · intro H' ys s2 hy r
    have e := named_filter t.ppl x
    rw [hx] at e
    cases ys with
    | nil =>
      have l := Paired.len r
      rw [List.getElem?_eq_none (by rw [← l]; exact Nat.le_refl 0)] at e
      cases e
    | cons y ys =>
      obtain ⟨q, hq, rq⟩ := Paired.get r (i := 0) (v := y) rfl
      rw [e] at hq
      cases hq
      exact ⟨_, _, _, _, rfl, rfl, SqL.of hy, at_of (j := 0) rfl rfl, k H' y s2 rq⟩

/-- the list of a name -/
def ownl (ps : List Pr) (x : Str) : List Str := ps.filterMap fun p => if p.2.1 = x then some p.1 else none
def sp_own_list : Sp := fun vs H Q _ => ∃ (v : V) (t : Tr) (x : Str), vs = [v, .str x] ∧ TAt H v t ∧ t.ppl.length ≤ 1000 ∧ ∀ H' l, Same H H' → H l = none → H' l = some (.lst ((ownl t.ppl x).map V.str)) → Q (.ref l) H'
theorem cal_own_list (T : Txt K mg) : Cal P w K mg base 1 "own_list" sp_own_list [] := by
  refine T.d_own_list.cal sc_own_list (fun vs H Q E h => ?_) (fun f cdv A outer s H vs Q E hr h => ?_) (fun _ _ _ _ _ _ us hl => match us, hl with | [_, _], _ => rfl)
  · obtain ⟨v, t, x, rfl, _⟩ := h; rfl
  obtain ⟨v, t, x, rfl, ⟨a, d, ps, rfl, ha, hb, rp⟩, hn, k⟩ := h
  have hu := hu_of hr
  refine ⟨_, (pss_one (ps_ret (pe_lc (own := [("person", 2)]) (g := gName 2) (tt := _) rfl sc_own_list.nd (pi_tup (pe_ix ix_tup (pv 0) pe_int (fun _ _ => rfl))) (blkOk_by (N := N_own_list) (sc := defScope s_own_list) (by decide +kernel)) (fun _ _ _ _ _ => (pg_name (i := 2) sc_own_list.nd rfl (Or.inl rfl))) (fun _ _ _ _ _ => (pts_one (pt_cmpR op_eq (pe_ix (ix_tupK (K := K) rfl) (pv 2) pe_int (fun _ _ => rfl)) (pv 1) (nomark _)))) (fun _ _ _ _ _ => (pe_ix (ix_tupK (K := K) rfl) (pv 2) pe_int (fun _ _ => rfl)))))), ?_⟩
  refine ⟨_, rfl, _, _, _, _, rfl, rfl, SqT.of ha, rfl, _, rfl, ⟨_, SqT.of hb⟩, fun D hD => ?_⟩
  refine lc_rel (σ := L2.start N_own_list [.ref a, .str x]) (xs := ps) t.ppl (fun p => if p.2.1 = x then some p.1 else none) PAt (fun _ v n => v = .str n) walk_tup (fun H' q => SqT.of (q _ _ hb)) hD (by rw [Paired.len rp]; exact small1000 hn) rp (fun q h => PAt.tk (Same.tk q) h) (fun _ h => h) ?_ ?_
  · rintro _ p H' Qk Qn _ _ ⟨c, rfl, hc⟩ hk hn
    refine ⟨rfl, _, rfl, _, _, _, _, rfl, rfl, SqT.of hc, rfl, _, rfl, rfl, _, rfl, ?_⟩
    by_cases e : p.2.1 = x
    · have e1 : decide (V.str p.2.1 = V.str x) = true := decide_eq_true (congrArg V.str e)
      show if decide (V.str p.2.1 = V.str x) = true then _ else _
      rw [e1]
      exact iteT ⟨_, rfl, _, _, _, _, rfl, rfl, SqT.of hc, rfl, hk _ _ _ (if_pos e) (Same.refl _) rfl⟩
    · have e1 : decide (V.str p.2.1 = V.str x) = false := decide_eq_false fun z => e (V.str.inj z)
      show if decide (V.str p.2.1 = V.str x) = true then _ else _
      rw [e1]
      exact iteF (hn (if_neg e) _ (Same.refl _))
  · intro H' ys s2 hy r
    have e := Paired.toMap r
    exact k H' D s2 hD (hy.trans (congrArg (fun l => some (HO.lst l)) e))
end
end RD
set_option Elab.async false
set_option linter.all false
set_option maxRecDepth 100000
set_option maxHeartbeats 4000000
local macro_rules | `(tactic| walk_at "isT") => `(tactic| refine ⟨_, _, _, _, true, rfl, L2.ClsV.ty _, L2.TyX.base (by first | exact .int _ | exact .str _ | exact .bl _ | exact .non), L2.kit_ty (by decide +kernel), ?_⟩)
local macro_rules | `(tactic| walk_at "isF") => `(tactic| refine ⟨_, _, _, _, false, rfl, L2.ClsV.ty _, L2.TyX.base (by first | exact .int _ | exact .str _ | exact .bl _ | exact .non), L2.kit_ty (by decide +kernel), ?_⟩)
namespace RD
open PySem PySem.Spec PyProof.Rows L2
section
variable {P : Program} {w : World} {K : PySem.W.Frag} {mg : Str → Option Value} {base : Heap}
/-- a promise that is never asked -/
theorem Dfn.nopr {x : Str} {st : Stmt} {ps : List Str} (D : Dfn K mg x st)
    (hb : ∀ (kV doc pm : Value) (an : Option Addr) (cdv ct : Value) (us : List Value), us.length = ps.length → bindArgs (PySem.W.fnOf x x (defArgs st) (defBody st) (defScope st) .none kV doc pm an cdv ct) ⟨us, []⟩ = pure (ps.zip us)) :
    Cal P w K mg base 0 x (fun _ _ _ _ => False) [] := by
  obtain ⟨f, fd, F, hm⟩ := D.ex
  exact ⟨f, fd, ps, [], ⟨fun _ _ _ _ h => h.elim, fun _ _ _ _ _ _ _ _ _ _ _ _ _ h => h.elim⟩, hm, F.kp, F.binds hb, .nil⟩

/-! ### all below a name -/
/-- below x, by lists ls, n levels deep -/
def belowN (ls : Str → List Str) : Nat → Str → List Str
  | 0, _ => []
  | n + 1, x => (ls x).flatMap fun c => c :: belowN ls n c
/-- nobody below x is more than n levels deep -/
def Fits (ls : Str → List Str) : Nat → Str → Prop
  | 0, x => ls x = []
  | n + 1, x => ∀ c ∈ ls x, Fits ls n c
theorem belowN_take (ls : Str → List Str) (n : Nat) (l : List Str) (i : Nat) : ((l.take i).flatMap fun c => c :: belowN ls n c).length ≤ (l.flatMap fun c => c :: belowN ls n c).length := by
  have e : l = l.take i ++ l.drop i := (List.take_append_drop i l).symm
  conv => rhs; rw [e]
  rw [List.flatMap_append, List.length_append]
  exact Nat.le_add_right _ _
theorem take_flat (g : Str → List Str) {l : List Str} {i : Nat} {c : Str} (h : l[i]? = some c) : (l.take (i + 1)).flatMap g = (l.take i).flatMap g ++ g c := by
  rw [List.take_succ, h, List.flatMap_append]
  simp
def sp_ab : Nat → Sp
  | 0 => fun _ _ _ _ => False
  | n + 1 => fun vs H Q _ => ∃ (v : V) (t : Tr) (x : Str), vs = [v, .str x] ∧ TAt H v t ∧ t.ppl.length ≤ 1000 ∧ Fits (ownl t.ppl) n x ∧ (belowN (ownl t.ppl) n x).length ≤ 1000 ∧
      ∀ H' l, Same H H' → H l = none → H' l = some (.lst ((belowN (ownl t.ppl) n x).map V.str)) → Q (.ref l) H'
theorem len_ab : ∀ n vs H Q E, sp_ab n vs H Q E → vs.length = P_all_below.length := fun n vs H Q E h => by
  cases n with
  | zero => exact h.elim
  | succ n =>
    obtain ⟨v, t, x, rfl, _⟩ := h
    rfl
theorem ownl_len (ps : List Pr) (x : Str) : (ownl ps x).length ≤ ps.length := List.length_filterMap_le _ _
theorem cal_ab_step (T : Txt K mg) (n : Nat) (C_all_below : Cal P w K mg base (1 + n) "all_below" (sp_ab n) []) : Cal P w K mg base (1 + n + 1) "all_below" (sp_ab (n + 1)) [] := by
  refine T.d_all_below.cal sc_all_below (len_ab (n + 1)) (fun f cdv A outer s H vs Q E hr h => ?_) (fun _ _ _ _ _ _ us hl => match us, hl with | [_, _], _ => rfl)
  obtain ⟨v, t, x, rfl, ⟨a, d, ps, rfl, ha, hb, rp⟩, hn, hf, hlen, k⟩ := h
  have hu := hu_of hr
  have C_own_list := (cal_own_list (P := P) (w := w) (base := base) T).mono (show 1 ≤ 1 + n by omega)
  refine ⟨_, (pss_cons (ps_set (i := 2) sc_all_below.nd rfl (Or.inl rfl) (pe_lst pa_nil))
   (pss_cons (ps_for PassesOwn.never rfl (pi_list (pe_cl C_own_list hr (by omega) (by rfl) (pa_cons (pv 0) (pa_cons (pv 1) pa_nil)))) (pg_name (i := 3) sc_all_below.nd rfl (Or.inl rfl)) (pss_cons (ps_expr (pe_bm PySem.F.plainAttrs_list PySem.F.slot_list_append PySem.F.type_list_append mt_append (pv 2) (pa_cons (pv 3) pa_nil))) (pss_one (ps_expr (pe_bm PySem.F.plainAttrs_list PySem.F.slot_list_extend PySem.F.type_list_extend mt_extend (pv 2) (pa_cons (pe_cl C_all_below hr (by omega) (by rfl) (pa_cons (pv 0) (pa_cons (pv 3) pa_nil))) pa_nil))))))
   (pss_one (ps_ret (pv 2))))), ?_⟩
  refine ⟨Nat.zero_le _, fun l hl => ?_⟩
  have s0 : Same H (upd H l (.lst [])) := Same.upd hl
  refine ⟨_, rfl, _, rfl, _, t, x, rfl, ⟨a, d, ps, rfl, s0 _ _ ha, s0 _ _ hb, PsAt.tk (Same.tk s0) rp⟩, hn, fun H1 m s1 hm hm1 => ?_⟩
  have nm : m ≠ l := fun z => by
    rw [z, upd_same] at hm
    cases hm
  have hl1 : H1 l = some (.lst []) := s1 _ _ upd_same
  have lo := ownl_len t.ppl x
  refine ⟨m, rfl, ⟨_, SqL.of hm1⟩, ?_⟩
  refine for_it walk_list (fun i σ H2 => ∃ (v3 : Option V), σ = [some (.ref a), some (.str x), some (.ref l), v3] ∧ Same H H2 ∧ H2 m = some (.lst ((ownl t.ppl x).map V.str)) ∧ H2 l = some (.lst ((((ownl t.ppl x).take i).flatMap fun c => c :: belowN (ownl t.ppl) (n - 1) c).map V.str)))
    ⟨none, rfl, s0.trans s1, hm1, hl1⟩ (fun i σ H2 _ ⟨_, _, _, h, _⟩ => SqL.of h) ?_ ?_
  · rintro i y σ H2 H3 hi ⟨v3, rfl, s2, hm2, hl2⟩ ⟨rfl, hy⟩
    rw [List.getElem?_map] at hy
    cases hc : (ownl t.ppl x)[i]? with
    | none =>
      rw [hc] at hy
      cases hy
    | some c =>
      rw [hc] at hy
      cases hy
      have cm : c ∈ ownl t.ppl x := List.mem_of_getElem? hc
      cases n with
      | zero =>
        have hf : ownl t.ppl x = [] := hf
        rw [hf] at cm
        cases cm
      | succ n =>
        have hf : ∀ c ∈ ownl t.ppl x, Fits (ownl t.ppl) n c := hf
        have hlen : ((ownl t.ppl x).flatMap fun c => c :: belowN (ownl t.ppl) n c).length ≤ 1000 := hlen
        have l1 := belowN_take (ownl t.ppl) n (ownl t.ppl x) i
        have l2 := belowN_take (ownl t.ppl) n (ownl t.ppl x) (i + 1)
        rw [take_flat _ hc, List.length_append, List.length_cons] at l2
        have hl2 : H3 l = some (.lst ((((ownl t.ppl x).take i).flatMap fun c => c :: belowN (ownl t.ppl) n c).map V.str)) := hl2
        generalize hacc : (((ownl t.ppl x).take i).flatMap fun c => c :: belowN (ownl t.ppl) n c) = acc at hl2 l1 l2
        have k1 : Same H (upd H3 l (.lst (acc.map V.str ++ [V.str c]))) := fun b o h => by
          have nb : b ≠ l := ne_of_none h hl
          rw [upd_ne nb]
          exact s2 _ _ h
        refine ⟨_, rfl, .inl ⟨rfl, _, SqL.of hl2⟩, _, rfl, l, _, _, rfl, rfl, hl2, small1000 (by rw [List.length_map]; omega), ?_⟩
        refine ⟨_, rfl, .inl ⟨rfl, _, SqL.of upd_same⟩, _, rfl, _, rfl, _, t, c, rfl, ⟨a, d, ps, rfl, k1 _ _ ha, k1 _ _ hb, PsAt.tk (Same.tk k1) rp⟩, hn, hf c cm, by omega, fun H4 q s4 hq hq4 => ?_⟩
        have nq : q ≠ l := fun z => by
          rw [z, upd_same] at hq
          cases hq
        have hl4 := s4 _ _ (upd_same (H := H3) (a := l) (o := .lst (acc.map V.str ++ [V.str c])))
        refine ⟨l, q, _, _, rfl, rfl, hl4, hq4, ?_, ?_⟩
        · rw [List.length_append, List.length_map, List.length_map, List.length_singleton]
          exact Nat.le_of_lt (small1000 (by omega))
        · refine ⟨_, rfl, ?_, ?_, ?_⟩
          · exact fun b o h => by
              have nb : b ≠ l := ne_of_none h hl
              rw [upd_ne nb]
              exact s4 _ _ (k1 _ _ h)
          · rw [upd_ne nm]
            exact s4 _ _ (by rw [upd_ne nm]; exact hm2)
          · have hacc' := take_flat (fun c => c :: belowN (ownl t.ppl) n c) hc
            rw [hacc] at hacc'
            refine upd_same.trans (congrArg (fun z => some (HO.lst z)) ?_)
            show _ = List.map V.str (((ownl t.ppl x).take (i + 1)).flatMap fun c => c :: belowN (ownl t.ppl) n c)
            rw [hacc', List.map_append, List.map_cons, List.append_assoc]
            rfl
  · rintro σ H2 ⟨v3, rfl, s2, hm2, hl2⟩
    refine ⟨_, rfl, k H2 l s2 hl ?_⟩
    rw [List.length_map, List.take_length] at hl2
    cases n with
    | zero =>
      have hf : ownl t.ppl x = [] := hf
      rw [hf] at hl2
      exact hl2
    | succ n => exact hl2
theorem cal_ab (T : Txt K mg) : ∀ n, Cal P w K mg base (1 + n) "all_below" (sp_ab n) []
  | 0 => (T.d_all_below.nopr (ps := P_all_below) (fun _ _ _ _ _ _ us hl => match us, hl with | [_, _], _ => rfl)).mono (Nat.zero_le 1)
  | n + 1 => cal_ab_step T n (cal_ab T n)
end
end RD
set_option Elab.async false
set_option linter.all false
set_option maxRecDepth 100000
set_option maxHeartbeats 4000000
local macro_rules | `(tactic| walk_at "isT") => `(tactic| refine ⟨_, _, _, _, true, rfl, L2.ClsV.ty _, L2.TyX.base (by first | exact .int _ | exact .str _ | exact .bl _ | exact .non), L2.kit_ty (by decide +kernel), ?_⟩)
local macro_rules | `(tactic| walk_at "isF") => `(tactic| refine ⟨_, _, _, _, false, rfl, L2.ClsV.ty _, L2.TyX.base (by first | exact .int _ | exact .str _ | exact .bl _ | exact .non), L2.kit_ty (by decide +kernel), ?_⟩)
namespace RD
open PySem PySem.Spec PyProof.Rows L2
section
variable {P : Program} {w : World} {K : PySem.W.Frag} {mg : Str → Option Value} {base : Heap}
/-- the people in walk order -/
def walkP (ps : List Pr) : List Pr := (belowN (ownl ps) 16 "").filterMap (named ps)
def walkT (t : Tr) : Tr := ⟨t.wait, t.deep, walkP t.ppl⟩
/-- what all_below needs of people -/
structure WkOk (ps : List Pr) : Prop where
  fits : Fits (ownl ps) 16 ""
  few : (belowN (ownl ps) 16 "").length ≤ 1000
  there : ∀ x ∈ belowN (ownl ps) 16 "", (named ps x).isSome = true
/-- a good tree, and all below each -/
structure Good (t : Tr) : Prop where
  ok : TrOk t
  wk : WkOk t.ppl
theorem Good.few {t : Tr} (g : Good t) : t.ppl.length ≤ 1000 := Nat.le_trans g.ok.len (by decide)
def sp_in_walk : Sp := fun vs H Q _ => ∃ (v : V) (t : Tr), vs = [v] ∧ TAt H v t ∧ Good t ∧ ∀ H' u, Same H H' → TAt H' u (walkT t) → Q u H'
theorem cal_in_walk (T : Txt K mg) : Cal P w K mg base 19 "in_walk" sp_in_walk [] := by
  refine T.d_in_walk.cal sc_in_walk (fun vs H Q E h => ?_) (fun f cdv A outer s H vs Q E hr h => ?_) (fun _ _ _ _ _ _ us hl => match us, hl with | [_], _ => rfl)
  · obtain ⟨v, t, rfl, _⟩ := h; rfl
  obtain ⟨v, t, rfl, ht, g, k⟩ := h
  have hu := hu_of hr
  have C_need_tree := cal_need_tree (P := P) (w := w) (base := base) T
  have C_all_below := cal_ab (P := P) (w := w) (base := base) T 17
  have C_person_of := cal_person_of (P := P) (w := w) (base := base) T
  refine ⟨_, (pss_cons (ps_expr (pe_cl C_need_tree hr (by omega) (by rfl) (pa_cons (pv 0) pa_nil)))
   (pss_one (ps_ret (pe_tup (pa_cons (pe_ix ix_tup (pv 0) pe_int (fun _ _ => rfl)) (pa_cons (pe_ix ix_tup (pv 0) pe_int (fun _ _ => rfl)) (pa_cons (pe_callTy call_tuple_of (by rfl) T.b_tuple (by decide +kernel) (pa_cons (pe_lc (own := [("name", 1)]) (g := gName 1) (tt := tYes) rfl sc_in_walk.nd (pi_list (pe_cl C_all_below hr (by omega) (by rfl) (pa_cons (pv 0) (pa_cons (pe_gv rfl T.c_BELL) pa_nil)))) (blkOk_by (N := N_in_walk) (sc := defScope s_in_walk) (by decide +kernel)) (fun _ _ _ _ _ => (pg_name (i := 1) sc_in_walk.nd rfl (Or.inl rfl))) (fun _ _ _ _ _ => pts_nil) (fun _ _ _ _ _ => (pe_cl C_person_of hr (by omega) (by rfl) (pa_cons (pv 0) (pa_cons (pv 1) pa_nil))))) pa_nil)) pa_nil))))))), ?_⟩
  refine ⟨_, rfl, v, t, rfl, ht, g.ok, fun H1 s1 => ?_⟩
  have ht1 := TAt.tk (Same.tk s1) ht
  obtain ⟨a, d, ps, rfl, ha, hb, rp⟩ := id ht1
  refine ⟨_, rfl, _, _, _, _, rfl, rfl, SqT.of ha, rfl, _, rfl, _, _, _, _, rfl, rfl, SqT.of ha, rfl, ?_⟩
  refine ⟨_, rfl, _, t, _, rfl, ht1, g.few, g.wk.fits, g.wk.few, fun H2 l s2 hl hl2 => ?_⟩
  refine ⟨l, rfl, ⟨_, SqL.of hl2⟩, fun D hD => ?_⟩
  have lx : (List.map V.str (belowN (ownl t.ppl) 16 "")).length = (belowN (ownl t.ppl) 16 "").length := List.length_map _
  refine lc_rel (σ := L2.start N_in_walk [.ref a]) (xs := (belowN (ownl t.ppl) 16 "").map V.str) (belowN (ownl t.ppl) 16 "") (named t.ppl) (fun _ v n => v = .str n) PAt walk_list (fun H' q => SqL.of (q _ _ hl2)) hD (by rw [lx]; exact small1000 g.wk.few) (Paired.ofMap _ _) (fun _ h => h) (fun q h => PAt.tk q h) ?_ ?_
  · rintro _ x H' Qk Qn hx s3 rfl hk _
    cases e : named t.ppl x with
    | none =>
      have q := g.wk.there x hx
      rw [e] at q
      cases q
    | some p =>
      refine ⟨rfl, _, rfl, _, rfl, _, t, x, p, rfl, TAt.tk (Same.tk (s2.trans s3)) ht1, g.few, e, fun H4 u s4 hp => ?_⟩
      exact hk u p H4 e s4 hp
  · intro H' ys s3 hy r
    have ly : ys.length ≤ 1000 := by
      have q := Paired.len r
      have q2 := List.length_filterMap_le (named t.ppl) (belowN (ownl t.ppl) 16 "")
      have q3 := g.wk.few
      omega
    refine ⟨_, _, rfl, .inl ⟨SqL.of hy, fun p hp => ⟨by show 3 ≤ sizeLine; decide, fun q hq => ?_⟩⟩⟩
    have n1 : Same H' (upd H' p (.tup ys)) := Same.upd hp
    have n2 : Same (upd H' p (.tup ys)) (upd (upd H' p (.tup ys)) q (.tup [V.int t.wait, V.int t.deep, V.ref p])) := Same.upd hq
    exact k _ _ (((s1.trans s2).trans s3).trans (n1.trans n2)) ⟨q, p, ys, rfl, upd_same, n2 _ _ upd_same, PsAt.tk (Same.tk (n1.trans n2)) r⟩
/-- the people in walk order, a new list -/
def sp_walked : Sp := fun vs H Q _ => ∃ (v : V) (t : Tr), vs = [v] ∧ TAt H v t ∧ Good t ∧ ∀ H' l us, Same H H' → H l = none → H' l = some (.lst us) → Paired (PAt H') us (walkP t.ppl) → Q (.ref l) H'
theorem cal_walked (T : Txt K mg) : Cal P w K mg base 20 "walked" sp_walked [] := by
  refine T.d_walked.cal sc_walked (fun vs H Q E h => ?_) (fun f cdv A outer s H vs Q E hr h => ?_) (fun _ _ _ _ _ _ us hl => match us, hl with | [_], _ => rfl)
  · obtain ⟨v, t, rfl, _⟩ := h; rfl
  obtain ⟨v, t, rfl, ht, g, k⟩ := h
  have hu := hu_of hr
  have C_in_walk := cal_in_walk (P := P) (w := w) (base := base) T
  refine ⟨_, (pss_one (ps_ret (pe_callTy call_list_of (by rfl) T.b_list (by decide +kernel) (pa_cons (pe_ix ix_tup (pe_cl C_in_walk hr (by omega) (by rfl) (pa_cons (pv 0) pa_nil)) pe_int (fun _ _ => rfl)) pa_nil)))), ?_⟩
  refine ⟨_, rfl, v, t, rfl, ht, g, fun H1 u s1 ⟨a, d, ps, e, ha, hb, rp⟩ => ?_⟩
  subst e
  refine ⟨_, _, _, _, rfl, rfl, SqT.of ha, rfl, _, _, rfl, .inr (SqT.of hb), fun l hl => ?_⟩
  have n1 : Same H1 (upd H1 l (.lst ps)) := Same.upd hl
  exact k _ l ps (s1.trans n1) (s1.free hl) upd_same (PsAt.tk (Same.tk n1) rp)

/-- the walk of end_below: who is known, the end, behind i people -/
def ebAt (ps : List Pr) (x : Str) : Nat → List Str × Nat
  | 0 => ([x], 0)
  | i + 1 => match ps[i]? with
    | some p => if p.1 = x ∨ p.2.1 ∈ (ebAt ps x i).1 then ((ebAt ps x i).1 ++ [p.1], i + 1) else ebAt ps x i
    | none => ebAt ps x i
def endB (ps : List Pr) (x : Str) : Nat := (ebAt ps x ps.length).2
def sp_end_below : Sp := fun vs H Q _ => ∃ (l : Addr) (us : List V) (ps : List Pr) (x : Str), vs = [.ref l, .str x] ∧ H l = some (.lst us) ∧ Paired (PAt H) us ps ∧ us.length ≤ 900 ∧ ∀ H', Same H H' → Q (.int (endB ps x : Nat)) H'
theorem cal_end_below (T : Txt K mg) : Cal P w K mg base 1 "end_below" sp_end_below [] := by
  refine T.d_end_below.cal sc_end_below (fun vs H Q E h => ?_) (fun f cdv A outer s H vs Q E hr h => ?_) (fun _ _ _ _ _ _ us hl => match us, hl with | [_, _], _ => rfl)
  · obtain ⟨l, us, ps, x, rfl, _⟩ := h; rfl
  obtain ⟨l, us, ps, x, rfl, hl, rp, hn, k⟩ := h
  have hu := hu_of hr
  refine ⟨_, (pss_cons (ps_par (i := 2) (j := 3) (by rfl) sc_end_below.nd rfl rfl (by decide) rfl rfl (pa_cons (pe_disp (pps_cons (pv 1) pe_bl pps_nil) (by rfl) (by rfl) (fun z => by cases z) (by decide)) (pa_cons pe_int pa_nil)) (by rfl))
   (pss_cons (ps_for PassesOwn.never rfl (pi_enum (by rfl) T.b_enumerate (pa_cons (pv 0) pa_nil)) (pg_tup (by rfl) (pgs_cons (pg_name (i := 4) sc_end_below.nd rfl (Or.inl rfl)) (pgs_cons (pg_name (i := 5) sc_end_below.nd rfl (Or.inl rfl)) pgs_nil))) (pss_one (ps_if (PW.pt (pw_or (pt_cmpR op_eq (pe_ix ix_tup (pv 5) pe_int (fun _ _ => rfl)) (pv 1) (nomark _)) (pw_or1 (pt_cmp (pc_din hu (pe_ix ix_tup (pv 5) pe_int (fun _ _ => rfl)) (pv 2)))))) (pss_cons (ps_dput hu (pv 2) (pe_ix ix_tup (pv 5) pe_int (fun _ _ => rfl)) pe_bl rfl) (pss_one (ps_set (i := 3) sc_end_below.nd rfl (Or.inl rfl) (pe_op op_add (pv 4) pe_int)))) pss_nil)))
   (pss_one (ps_ret (pv 3))))), ?_⟩
  intro d hd
  refine ⟨_, rfl, upd_same, [(Sum.inr x, V.bl true)], rfl, (by show 1 ≤ 15; decide), ?_⟩
  have nld : l ≠ d := ne_of_none hl hd
  have em : mergeK [] [((Sum.inr x : Key), V.bl true)] = [(Sum.inr x, V.bl true)] := rfl
  rw [em, upd_upd]
  have s1 : Same H (upd H d (.dK [(Sum.inr x, .bl true)])) := Same.upd hd
  have k0 : Knows [(Sum.inr x, V.bl true)] [x] := Knows.nil.put x (.bl true)
  refine ⟨_, _, rfl, ?_⟩
  refine ⟨_, rfl, l, us, rfl, SqL.of (s1 _ _ hl), ?_⟩
  refine for_it walk_enum (fun i σ H2 => ∃ (v4 v5 : Option V) (kvs : List (Key × V)), σ = [some (.ref l), some (.str x), some (.ref d), some (.int ((ebAt ps x i).2 : Nat)), v4, v5] ∧ Same H H2 ∧ H2 d = some (.dK kvs) ∧ kvs.length ≤ i + 1 ∧ Knows kvs (ebAt ps x i).1)
    ⟨none, none, _, rfl, s1, upd_same, Nat.le_refl _, k0⟩ (fun i σ H2 _ ⟨_, _, _, _, s2, _⟩ => SqL.of (s2 _ _ hl)) ?_ ?_
  · rintro i y σ H2 H3 hi ⟨v4, v5, kvs, rfl, s2, hdk, hlen, kn⟩ ⟨q, x1, y1, rfl, nq, rfl, e1, e2⟩
    cases e1
    obtain ⟨p, hp, c, rfl, hc⟩ := Paired.get (PsAt.tk (Same.tk s2) rp) e2
    have s3 : Same H2 (upd H2 q (.tup [.int (i : Nat), V.ref c])) := Same.upd nq
    have hc3 := s3 _ _ hc
    have est : ebAt ps x (i + 1) = if p.1 = x ∨ p.2.1 ∈ (ebAt ps x i).1 then ((ebAt ps x i).1 ++ [p.1], i + 1) else ebAt ps x i := by
      show (match ps[i]? with | some p => _ | none => _) = _
      rw [hp]
    refine ⟨_, _, rfl, SqT.of upd_same, rfl, _, _, rfl, _, _, rfl, rfl, ?_⟩
    -- known[person[0]] = True; end = spot + 1
    have yes : (p.1 = x ∨ p.2.1 ∈ (ebAt ps x i).1) → ∀ D : Ends, (D.nx = fun σ H2 => ∃ (v4 v5 : Option V) (kvs : List (Key × V)), σ = [some (.ref l), some (.str x), some (.ref d), some (.int ((ebAt ps x (i + 1)).2 : Nat)), v4, v5] ∧ Same H H2 ∧ H2 d = some (.dK kvs) ∧ kvs.length ≤ i + 1 + 1 ∧ Knows kvs (ebAt ps x (i + 1)).1) → tSeq (sDPut (tVar 2) (tOp (rIxT K) (tVar 5) (tC (.int 0))) (tC (.bl true))) (tAsg (tOp (rI0 fun i j => .int (i + j)) (tVar 4) (tC (.int 1))) (gName 3)) D [some (.ref l), some (.str x), some (.ref d), some (.int ((ebAt ps x i).2 : Nat)), some (.int (i : Nat)), some (.ref c)] (upd H2 q (.tup [.int (i : Nat), V.ref c])) := by
      intro hyes D eD
      rw [if_pos hyes] at est
      refine ⟨_, rfl, _, rfl, _, _, _, _, rfl, rfl, SqT.of hc3, rfl, d, _, rfl, DPut.k (k := Sum.inr p.1) (s3 _ _ hdk) (small1000 (by omega)), ?_⟩
      have l5 := length_putK kvs (Sum.inr p.1) (V.bl true)
      refine ⟨_, rfl, _, _, rfl, rfl, ?_⟩
      show D.nx _ _
      rw [eD]
      refine ⟨some (.int (i : Nat)), some (.ref c), _, ?_, ?_, upd_same, by omega, ?_⟩
      · rw [est]
        rfl
      · exact fun b o h => by
          have nb : b ≠ d := ne_of_none h hd
          rw [upd_ne nb]
          exact s3 _ _ (s2 _ _ h)
      · rw [est]
        exact kn.put _ _
    refine ⟨_, rfl, _, _, _, _, rfl, rfl, SqT.of hc3, rfl, _, rfl, rfl, _, rfl, ?_⟩
    by_cases h1 : p.1 = x
    · have e1 : decide (V.str p.1 = V.str x) = true := decide_eq_true (congrArg V.str h1)
      show if decide (V.str p.1 = V.str x) = true then _ else _
      rw [e1]
      exact iteT (yes (.inl h1) _ rfl)
    · have e1 : decide (V.str p.1 = V.str x) = false := decide_eq_false fun z => h1 (V.str.inj z)
      show if decide (V.str p.1 = V.str x) = true then _ else _
      rw [e1]
      refine iteF ⟨_, rfl, _, _, _, _, rfl, rfl, SqT.of hc3, rfl, _, rfl, _, _, rfl, DGet.k (k := Sum.inr p.2.1) (s3 _ _ hdk), _, rfl, ?_⟩
      have e2 := kn p.2.1
      unfold has at e2
      rw [e2]
      by_cases h2 : p.2.1 ∈ (ebAt ps x i).1
      · rw [decide_eq_true h2]
        exact iteT (yes (.inr h2) _ rfl)
      · rw [decide_eq_false h2]
        have hno : ¬ (p.1 = x ∨ p.2.1 ∈ (ebAt ps x i).1) := fun z => z.elim h1 h2
        rw [if_neg hno] at est
        exact iteF ⟨some (.int (i : Nat)), some (.ref c), kvs, by rw [est]; rfl, s2.trans s3, s3 _ _ hdk, by omega, by rw [est]; exact kn⟩
  · rintro σ H2 ⟨v4, v5, kvs, rfl, s2, hdk, hlen, kn⟩
    have e : us.length = ps.length := Paired.len rp
    refine ⟨_, rfl, ?_⟩
    rw [e]
    exact k H2 s2

/-! ### put_in -/
/-- the spots of those in the list of c -/
def spotsN (ps : List Pr) (c : Str) : List Nat := ps.zipIdx.filterMap fun d => if d.1.2.1 = c then some d.2 else none
def atOf (ps : List Pr) (c : Str) (pl : Option Nat) : Nat := match pl with
  | none => endB ps c
  | some i => if i = (spotsN ps c).length then endB ps c else (spotsN ps c).getD i 0
def putIn (ps gs : List Pr) (c : Str) (pl : Option Nat) : List Pr := ps.take (atOf ps c pl) ++ gs ++ ps.drop (atOf ps c pl)
def plV : Option Nat → V
  | none => .non
  | some i => .int (i : Nat)
def sp_put_in : Sp := fun vs H Q _ => ∃ (l g : Addr) (us gu : List V) (ps : List Pr) (g0 : Pr) (gs : List Pr) (pl : Option Nat), vs = [.ref l, .ref g, plV pl] ∧ H l = some (.lst us) ∧ Paired (PAt H) us ps ∧ us.length ≤ 400 ∧ H g = some (.lst gu) ∧ Paired (PAt H) gu (g0 :: gs) ∧ gu.length ≤ 400 ∧
  (∀ i, pl = some i → i ≤ (spotsN ps g0.2.1).length) ∧ ∀ H' a ws, Same H H' → H' a = some (.tup ws) → Paired (PAt H') ws (putIn ps (g0 :: gs) g0.2.1 pl) → Q (.ref a) H'
theorem cal_put_in (T : Txt K mg) : Cal P w K mg base 2 "put_in" sp_put_in [] := by
  refine T.d_put_in.cal sc_put_in (fun vs H Q E h => ?_) (fun f cdv A outer s H vs Q E hr h => ?_) (fun _ _ _ _ _ _ us hl => match us, hl with | [_, _, _], _ => rfl)
  · obtain ⟨l, g, us, gu, ps, g0, gs, pl, rfl, _⟩ := h; rfl
  obtain ⟨l, g, us, gu, ps, g0, gs, pl, rfl, hl, rp, hn, hg, rg, hgn, hpl, k⟩ := h
  have hu := hu_of hr
  have C_end_below := cal_end_below (P := P) (w := w) (base := base) T
  refine ⟨_, (pss_cons (ps_set (i := 3) sc_put_in.nd rfl (Or.inr rfl) (pe_ix ix_tup (pe_ix ix_list (pv 1) pe_int (fun _ _ => rfl)) pe_int (fun _ _ => rfl)))
   (pss_cons (ps_setLc (i := 4) (own := [("spot", 6), ("person", 7)]) (tt := _) rfl sc_put_in.nd rfl rfl (sw_true rfl rfl rfl (by decide +kernel)) (pi_enum (by rfl) T.b_enumerate (pa_cons (pv 0) pa_nil)) (blkOk_by (N := N_put_in) (sc := defScope s_put_in) (by decide +kernel)) (fun _ _ _ _ _ => (pg_tupK (K := K) (n := 2) rfl (by rfl) (pgs_cons (pg_name (i := 6) sc_put_in.nd rfl (Or.inl rfl)) (pgs_cons (pg_name (i := 7) sc_put_in.nd rfl (Or.inl rfl)) pgs_nil)))) (fun _ _ _ _ _ => (pts_one (pt_cmpR op_eq (pe_ix (ix_tupK (K := K) rfl) (pv 7) pe_int (fun _ _ => rfl)) (pv 3) (nomark _)))) (fun _ _ _ _ _ => (pv 6)))
   (pss_cons (ps_set (i := 5) sc_put_in.nd rfl (Or.inl rfl) (pe_ifExp (PW.pt (pw_or (pt_cmpR op_isN (pv 2) pe_non (nomark _)) (pw_or1 (pt_cmpR op_eq (pv 2) (pe_callB call_len_seq (by rfl) T.b_len (by decide +kernel) (pa_cons (pv 4) pa_nil)) (nomark _))))) (pe_cl C_end_below hr (by omega) (by rfl) (pa_cons (pv 0) (pa_cons (pv 3) pa_nil))) (pe_ix ix_list (pv 4) (pv 2) (fun _ _ => rfl))))
   (pss_one (ps_ret (pe_callTy call_tuple_of (by rfl) T.b_tuple (by decide +kernel) (pa_cons (pe_op op_cat (pe_op op_cat (pe_slice sl_list (pv 0) po_none (po_some (pv 5))) (pv 1)) (pe_slice sl_list (pv 0) (po_some (pv 5)) po_none)) pa_nil))))))), ?_⟩
  cases rg with
  | cons r0 rgs =>
  rename_i v0 gu
  obtain ⟨c0, rfl, hc0⟩ := r0
  refine ⟨_, rfl, _, _, _, _, rfl, rfl, SqL.of hg, at_of (j := 0) rfl rfl, _, _, _, _, rfl, rfl, SqT.of hc0, rfl, ?_⟩
  refine ⟨_, rfl, l, us, rfl, SqL.of hl, fun D hD => ?_⟩
  have lz : ps.zipIdx.length = us.length := by rw [List.length_zipIdx, Paired.len rp]
  refine lc_relG (σ := [some (.ref l), some (.ref g), some (plV pl), some (.str g0.2.1), none, none, none, none]) (n := us.length) ps.zipIdx (fun d => if d.1.2.1 = g0.2.1 then some d.2 else none)
    (fun H x d => ∃ q y, x = .ref q ∧ H q = some (.tup [.int (d.2 : Nat), y]) ∧ PAt H y d.1) (fun _ v n => v = .int (n : Nat)) walk_enum (fun H' q => SqL.of (q _ _ hl)) hD (small1000 (by omega)) lz ?_ (fun _ h => h) ?_ ?_
  · rintro i H2 x H3 hi s2 ⟨q, x1, y1, rfl, nq, rfl, e1, e2⟩
    cases e1
    obtain ⟨p, hp, rp1⟩ := Paired.get (PsAt.tk (Same.tk s2) rp) e2
    have s3 : Same H2 (upd H2 q (.tup [.int (i : Nat), y1])) := Same.upd nq
    exact ⟨(p, i), by simp [hp], s3, q, y1, rfl, upd_same, PAt.tk (Same.tk s3) rp1⟩
  · rintro _ ⟨p, i⟩ H' Qk Qn _ _ ⟨q, y, rfl, hq, c, rfl, hc⟩ hk hno
    refine ⟨_, _, rfl, SqT.of hq, rfl, _, _, rfl, _, _, rfl, rfl, rfl, ?_⟩
    refine ⟨_, rfl, _, _, _, _, rfl, rfl, SqT.of hc, rfl, _, rfl, rfl, _, rfl, ?_⟩
    by_cases e : p.2.1 = g0.2.1
    · have e1 : decide (V.str p.2.1 = V.str g0.2.1) = true := decide_eq_true (congrArg V.str e)
      show if decide (V.str p.2.1 = V.str g0.2.1) = true then _ else _
      rw [e1]
      exact iteT ⟨_, rfl, hk _ _ _ (if_pos e) (Same.refl _) rfl⟩
    · have e1 : decide (V.str p.2.1 = V.str g0.2.1) = false := decide_eq_false fun z => e (V.str.inj z)
      show if decide (V.str p.2.1 = V.str g0.2.1) = true then _ else _
      rw [e1]
      exact iteF (hno (if_neg e) _ (Same.refl _))
  · intro H1 ys s1 hy r
    have ey := Paired.toMap r
    have ey : ys = (spotsN ps g0.2.1).map fun n => V.int (n : Nat) := ey
    have rg1 : Paired (PAt H) (V.ref c0 :: gu) (g0 :: gs) := .cons ⟨c0, rfl, hc0⟩ rgs
    have lsp : (spotsN ps g0.2.1).length ≤ 400 := by
      have q := List.length_filterMap_le (fun d : Pr × Nat => if d.1.2.1 = g0.2.1 then some d.2 else none) ps.zipIdx
      unfold spotsN
      omega
    have fin : ∀ (A : Nat) (H2 : Hp), A = atOf ps g0.2.1 pl → Same H H2 → tRet (tCB (fun xs H Q => ∃ p ys, xs = [V.ref p] ∧ ((SqL K H p ys ∧ ∀ l, H l = none → Q (.ref l) (upd H l (.tup ys))) ∨ (SqT K H p ys ∧ Q (.ref p) H))) (tCons (tOp rCat (tOp rCat (tSl (rSlL K) (tVar 0) tNoPart (tPart (tVar 5))) (tVar 1)) (tSl (rSlL K) (tVar 0) (tPart (tVar 5)) tNoPart)) tNil)) { nx := fun _ H' => Q .non H', rt := Q } [some (.ref l), some (.ref g), some (plV pl), some (.str g0.2.1), some (.ref D), some (.int (A : Nat)), none, none] H2 := by
      rintro A H2 eA s2
      refine ⟨_, rfl, _, rfl, _, rfl, l, us, rfl, SqL.of (s2 _ _ hl), fun p1 n1 => ?_⟩
      have t1 : Same H2 (upd H2 p1 (.lst (cutV us none (some (A : Int))))) := Same.upd n1
      refine ⟨_, rfl, p1, g, _, _, rfl, rfl, upd_same, t1 _ _ (s2 _ _ hg), ?_, fun p2 n2 => ?_⟩
      · rw [cut_take, List.length_take]
        exact Nat.le_of_lt (small1000 (by omega))
      have t2 := t1.trans (Same.upd n2 (o := .lst (cutV us none (some (A : Int)) ++ (V.ref c0 :: gu))))
      refine ⟨_, rfl, _, rfl, _, rfl, l, us, rfl, SqL.of (t2 _ _ (s2 _ _ hl)), fun p3 n3 => ?_⟩
      have t3 := t2.trans (Same.upd n3 (o := .lst (cutV us (some (A : Int)) none)))
      have nn : p2 ≠ p3 := ne_of_none upd_same n3
      refine ⟨p2, p3, _, _, rfl, rfl, Eq.trans (upd_ne nn) upd_same, upd_same, ?_, fun p4 n4 => ?_⟩
      · rw [cut_take, cut_drop, List.length_append, List.length_take, List.length_drop]
        exact Nat.le_of_lt (small1000 (by omega))
      refine ⟨p4, _, rfl, .inl ⟨SqL.of upd_same, fun p5 n5 => ?_⟩⟩
      have t5 := (t3.trans (Same.upd n4 (o := .lst (cutV us none (some (A : Int)) ++ (V.ref c0 :: gu) ++ cutV us (some (A : Int)) none)))).trans (Same.upd n5 (o := .tup (cutV us none (some (A : Int)) ++ (V.ref c0 :: gu) ++ cutV us (some (A : Int)) none)))
      refine k _ p5 _ (s2.trans t5) upd_same ?_
      have tk := Same.tk (s2.trans t5)
      rw [cut_take, cut_drop] at tk ⊢
      unfold putIn
      rw [← eA]
      exact Paired.app (Paired.app (Paired.takeP A (PsAt.tk tk rp)) (PsAt.tk tk rg1)) (Paired.dropP A (PsAt.tk tk rp))
    have ly : ys.length = (spotsN ps g0.2.1).length := by rw [ey, List.length_map]
    cases pl with
    | none =>
      refine ⟨_, rfl, rfl, _, rfl, iteT ?_⟩
      refine iteT ⟨_, rfl, _, rfl, l, us, ps, _, rfl, s1 _ _ hl, PsAt.tk (Same.tk s1) rp, by omega, fun H2 s2 => ?_⟩
      exact fin _ H2 rfl (s1.trans s2)
    | some i =>
      have hi := hpl i rfl
      refine ⟨_, rfl, rfl, _, rfl, iteF ⟨_, rfl, _, rfl, _, _, rfl, .inl (SqL.of hy), rfl, _, rfl, ?_⟩⟩
      by_cases e : i = (spotsN ps g0.2.1).length
      · have e1 : decide (V.int (i : Nat) = V.int ((ys.length : Nat) : Int)) = true := decide_eq_true (by rw [ly, e])
        show if decide (V.int (i : Nat) = V.int ((ys.length : Nat) : Int)) = true then _ else _
        rw [e1]
        refine iteT ⟨_, rfl, _, rfl, l, us, ps, _, rfl, s1 _ _ hl, PsAt.tk (Same.tk s1) rp, by omega, fun H2 s2 => ?_⟩
        exact fin _ H2 (by unfold atOf; simp [e]) (s1.trans s2)
      · have e1 : decide (V.int (i : Nat) = V.int ((ys.length : Nat) : Int)) = false := decide_eq_false fun z => e (by
          have z := V.int.inj z
          omega)
        show if decide (V.int (i : Nat) = V.int ((ys.length : Nat) : Int)) = true then _ else _
        rw [e1]
        have hlt : i < (spotsN ps g0.2.1).length := by omega
        have ev : ys[i]? = some (V.int (((spotsN ps g0.2.1).getD i 0 : Nat) : Int)) := by
          rw [ey, List.getElem?_map, List.getElem?_eq_getElem hlt]
          simp [hlt]
        refine iteF ⟨_, rfl, _, rfl, _, _, _, _, rfl, rfl, SqL.of hy, at_of (j := i) rfl ev, ?_⟩
        exact fin _ H1 (by unfold atOf; simp [e]) s1
end
end RD
set_option Elab.async false
set_option linter.all false
set_option maxRecDepth 100000
set_option maxHeartbeats 4000000
local macro_rules | `(tactic| walk_at "isT") => `(tactic| refine ⟨_, _, _, _, true, rfl, L2.ClsV.ty _, L2.TyX.base (by first | exact .int _ | exact .str _ | exact .bl _ | exact .non), L2.kit_ty (by decide +kernel), ?_⟩)
local macro_rules | `(tactic| walk_at "isF") => `(tactic| refine ⟨_, _, _, _, false, rfl, L2.ClsV.ty _, L2.TyX.base (by first | exact .int _ | exact .str _ | exact .bl _ | exact .non), L2.kit_ty (by decide +kernel), ?_⟩)
namespace RD
open PySem PySem.Spec PyProof.Rows L2
theorem TAt.open {H : Hp} {v : V} {t : Tr} (h : TAt H v t) : ∃ a d ps, v = .ref a ∧ H a = some (.tup [.int t.wait, .int t.deep, .ref d]) ∧ H d = some (.tup ps) ∧ Paired (PAt H) ps t.ppl := h
theorem walkP_len {t : Tr} (g : Good t) : (walkP t.ppl).length ≤ 1000 := Nat.le_trans (List.length_filterMap_le _ _) g.wk.few
def retalkP (ps : List Pr) (x : Str) (i : Int) : List Pr := (walkP ps).map fun p => (p.1, p.2.1, if p.1 = x then i else p.2.2)
end RD
set_option Elab.async false
set_option linter.all false
set_option maxRecDepth 100000
set_option maxHeartbeats 4000000
local macro_rules | `(tactic| walk_at "isT") => `(tactic| refine ⟨_, _, _, _, true, rfl, L2.ClsV.ty _, L2.TyX.base (by first | exact .int _ | exact .str _ | exact .bl _ | exact .non), L2.kit_ty (by decide +kernel), ?_⟩)
local macro_rules | `(tactic| walk_at "isF") => `(tactic| refine ⟨_, _, _, _, false, rfl, L2.ClsV.ty _, L2.TyX.base (by first | exact .int _ | exact .str _ | exact .bl _ | exact .non), L2.kit_ty (by decide +kernel), ?_⟩)
namespace RD
open PySem PySem.Spec PyProof.Rows L2
section
variable {P : Program} {w : World} {K : PySem.W.Frag} {mg : Str → Option Value} {base : Heap}
/-- without x, in whose place stand those of its list -/
def leftP (ps : List Pr) (x above : Str) : List Pr := ((walkP ps).filterMap fun p => if p.1 = x then none else some p).map fun p => (p.1, if p.2.1 = x then above else p.2.1, p.2.2)
def sp_left : Sp := fun vs H Q _ => ∃ (v : V) (t : Tr) (x : Str) (p : Pr), vs = [v, .str x] ∧ TAt H v t ∧ Good t ∧ x ∈ nmz t.ppl ∧ named t.ppl x = some p ∧ ∀ H' u, Same H H' → TAt H' u ⟨t.wait, t.deep, leftP t.ppl x p.2.1⟩ → Q u H'
theorem body_left (T : Txt K mg) : ∀ (f : Addr) (cdv : Value) (A : Around) (outer : List Env) (s : Shared) (H : Hp) (vs : List V) (Q : VK) (E : XK), Room 20 (A.deeper (envOfC "left" (defScope s_left) s.heap.objs.size f cdv)) → sp_left vs H Q E →
      ∃ t, PSs (cxOf CX0 P w K mg base N_left "left" (defScope s_left) f cdv A outer s H E).nox (defBody s_left) t ∧ t { nx := fun _ H' => Q .non H', rt := Q } (start N_left vs) H := by
  intro f cdv A outer s H vs Q E hr h
  obtain ⟨v, t, x, p0, rfl, ht, g, hx, hp0, k⟩ := h
  have hu := hu_of hr
  have C_need_tree := cal_need_tree (P := P) (w := w) (base := base) T
  have C_need_name_2 := cal_need_name_2 (P := P) (w := w) (base := base) T
  have C_person_of := cal_person_of (P := P) (w := w) (base := base) T
  have C_walked := cal_walked (P := P) (w := w) (base := base) T
  refine ⟨_, (pss_cons (ps_expr (pe_cl C_need_tree hr (by omega) (by rfl) (pa_cons (pv 0) pa_nil)))
   (pss_cons (ps_expr (pe_cl C_need_name_2 hr (by omega) (by rfl) (pa_cons (pv 0) (pa_cons (pv 1) pa_nil))))
   (pss_cons (ps_set (i := 2) sc_left.nd rfl (Or.inr rfl) (pe_ix ix_tup (pe_cl C_person_of hr (by omega) (by rfl) (pa_cons (pv 0) (pa_cons (pv 1) pa_nil))) pe_int (fun _ _ => rfl)))
   (pss_cons (ps_setLc (i := 3) (own := [("person", 4)]) (g := gName 4) (tt := _) rfl sc_left.nd rfl rfl (sw_true rfl rfl rfl (by decide +kernel)) (pi_list (pe_cl C_walked hr (by omega) (by rfl) (pa_cons (pv 0) pa_nil))) (blkOk_by (N := N_left) (sc := defScope s_left) (by decide +kernel)) (fun _ _ _ _ _ => (pg_name (i := 4) sc_left.nd rfl (Or.inl rfl))) (fun _ _ _ _ _ => (pts_one (pt_cmpR op_ne (pe_ix (ix_tupK (K := K) rfl) (pv 4) pe_int (fun _ _ => rfl)) (pv 1) (nomark _)))) (fun _ _ _ _ _ => (pv 4)))
   (pss_cons (ps_setLc (i := 3) (own := [("one", 5), ("caller", 6), ("talk", 7)]) (tt := tYes) rfl sc_left.nd rfl rfl (sw_true rfl rfl rfl (by decide +kernel)) (pi_list (pv 3)) (blkOk_by (N := N_left) (sc := defScope s_left) (by decide +kernel)) (fun _ _ _ _ _ => (pg_tupK (K := K) (n := 3) rfl (by rfl) (pgs_cons (pg_name (i := 5) sc_left.nd rfl (Or.inl rfl)) (pgs_cons (pg_name (i := 6) sc_left.nd rfl (Or.inl rfl)) (pgs_cons (pg_name (i := 7) sc_left.nd rfl (Or.inl rfl)) pgs_nil))))) (fun _ _ _ _ _ => pts_nil) (fun _ _ _ _ _ => (pe_tup (pa_cons (pv 5) (pa_cons (pe_ifExp (pt_cmpR op_eq (pv 6) (pv 1) (nomark _)) (pv 2) (pv 6)) (pa_cons (pv 7) pa_nil))))))
   (pss_one (ps_ret (pe_tup (pa_cons (pe_ix ix_tup (pv 0) pe_int (fun _ _ => rfl)) (pa_cons (pe_ix ix_tup (pv 0) pe_int (fun _ _ => rfl)) (pa_cons (pe_callTy call_tuple_of (by rfl) T.b_tuple (by decide +kernel) (pa_cons (pv 3) pa_nil)) pa_nil))))))))))), ?_⟩
  refine ⟨_, rfl, v, t, rfl, ht, g.ok, fun H1 s1 => ?_⟩
  have ht1 := TAt.tk (Same.tk s1) ht
  refine ⟨_, rfl, _, rfl, v, t, x, false, rfl, ht1, g.few, .inl hx, fun H2 s2 => ?_⟩
  have ht2 := TAt.tk (Same.tk s2) ht1
  refine ⟨_, rfl, _, rfl, v, t, x, p0, rfl, ht2, g.few, hp0, fun H3 u s3 ⟨c0, eu, hc0⟩ => ?_⟩
  subst eu
  have ht3 := TAt.tk (Same.tk s3) ht2
  refine ⟨_, _, _, _, rfl, rfl, SqT.of hc0, rfl, ?_⟩
  refine ⟨_, rfl, v, t, rfl, ht3, g, fun H4 l us s4 hl hl4 rw_ => ?_⟩
  have ht4 := TAt.tk (Same.tk s4) ht3
  have lus : us.length ≤ 1000 := by
    have q := walkP_len g
    rw [Paired.len rw_]
    exact q
  refine ⟨l, rfl, ⟨_, SqL.of hl4⟩, fun D hD => ?_⟩
  refine lc_rel (σ := [some v, some (.str x), some (.str p0.2.1), none, none, none, none, none]) (xs := us) (walkP t.ppl) (fun p => if p.1 = x then none else some p) PAt PAt walk_list (fun H' q => SqL.of (q _ _ hl4)) hD (small1000 lus) rw_ (fun q h => PAt.tk (Same.tk q) h) (fun q h => PAt.tk q h) ?_ ?_
  · rintro _ p H' Qk Qn _ _ ⟨c, rfl, hc⟩ hk hno
    refine ⟨rfl, _, rfl, _, _, _, _, rfl, rfl, SqT.of hc, rfl, _, rfl, rfl, _, rfl, ?_⟩
    by_cases e : p.1 = x
    · have e1 : decide (V.str p.1 = V.str x) = true := decide_eq_true (congrArg V.str e)
      show if (!decide (V.str p.1 = V.str x)) = true then _ else _
      rw [e1]
      exact iteF (hno (if_pos e) _ (Same.refl _))
    · have e1 : decide (V.str p.1 = V.str x) = false := decide_eq_false fun z => e (V.str.inj z)
      show if (!decide (V.str p.1 = V.str x)) = true then _ else _
      rw [e1]
      exact iteT ⟨_, rfl, hk _ _ _ (if_neg e) (Same.refl _) ⟨c, rfl, hc⟩⟩
  · intro H5 ys s5 hy r
    have ht5 := TAt.tk (Same.tk s5) ht4
    have lys : ys.length ≤ 1000 := by
      rw [Paired.len r]
      exact Nat.le_trans (List.length_filterMap_le _ _) (walkP_len g)
    refine ⟨_, rfl, D, rfl, ⟨_, SqL.of hy⟩, fun D2 hD2 => ?_⟩
    refine lc_rel (σ := [some v, some (.str x), some (.str p0.2.1), some (.ref D), none, none, none, none]) (xs := ys) _ (fun p : Pr => some (p.1, if p.2.1 = x then p0.2.1 else p.2.1, p.2.2)) PAt PAt walk_list (fun H' q => SqL.of (q _ _ hy)) hD2 (small1000 lys) r (fun q h => PAt.tk (Same.tk q) h) (fun q h => PAt.tk q h) ?_ ?_
    · rintro _ p H' Qk Qn _ _ ⟨c, rfl, hc⟩ hk _
      refine ⟨_, _, rfl, SqT.of hc, rfl, _, _, rfl, _, _, rfl, _, _, rfl, rfl, rfl, ?_⟩
      refine ⟨_, rfl, _, rfl, _, rfl, rfl, _, rfl, ?_⟩
      by_cases e : p.2.1 = x
      · have e1 : decide (V.str p.2.1 = V.str x) = true := decide_eq_true (congrArg V.str e)
        show if decide (V.str p.2.1 = V.str x) = true then _ else _
        rw [e1]
        refine iteT ⟨_, rfl, _, rfl, by show 3 ≤ sizeLine; decide, fun q hq => hk _ _ _ rfl (Same.upd hq) ⟨q, rfl, ?_⟩⟩
        rw [if_pos e]
        exact upd_same
      · have e1 : decide (V.str p.2.1 = V.str x) = false := decide_eq_false fun z => e (V.str.inj z)
        show if decide (V.str p.2.1 = V.str x) = true then _ else _
        rw [e1]
        refine iteF ⟨_, rfl, _, rfl, by show 3 ≤ sizeLine; decide, fun q hq => hk _ _ _ rfl (Same.upd hq) ⟨q, rfl, ?_⟩⟩
        rw [if_neg e]
        exact upd_same
    · intro H6 zs s6 hz r2
      rw [fm_some] at r2
      have ht6 := TAt.tk (Same.tk s6) ht5
      obtain ⟨a, d, ps, rfl, ha, hb, rp⟩ := id ht6
      refine ⟨_, rfl, _, _, _, _, rfl, rfl, SqT.of ha, rfl, _, rfl, _, _, _, _, rfl, rfl, SqT.of ha, rfl, _, rfl, D2, zs, rfl, .inl ⟨SqL.of hz, fun p hp => ⟨by show 3 ≤ sizeLine; decide, fun q hq => ?_⟩⟩⟩
      have n1 : Same H6 (upd H6 p (.tup zs)) := Same.upd hp
      have n2 := n1.trans (Same.upd hq (o := .tup [V.int t.wait, V.int t.deep, V.ref p]))
      exact k _ _ ((((((s1.trans s2).trans s3).trans s4).trans s5).trans s6).trans n2) ⟨q, p, zs, rfl, upd_same, Eq.trans (upd_ne (ne_of_none upd_same hq)) upd_same, PsAt.tk (Same.tk n2) r2⟩
theorem len_left : ∀ vs H Q E, sp_left vs H Q E → vs.length = P_left.length := fun vs H Q E h => by
  obtain ⟨v, t, x, p, rfl, _⟩ := h
  rfl
theorem cal_left (T : Txt K mg) : Cal P w K mg base 21 "left" sp_left [] := T.d_left.cal sc_left len_left (body_left T) (fun _ _ _ _ _ _ us hl => match us, hl with | [_, _], _ => rfl)
/-- left(name=.., tree=..) -/
theorem cal_left_0_name_tree (T : Txt K mg) : CalK P w K mg base 21 "left" 0 ["name", "tree"] (fun _ zs => zs.drop 1 ++ zs.take 1) sp_left :=
  T.d_left.calk sc_left len_left (body_left T) 0 ["name", "tree"] (fun _ ws => ws.drop 1 ++ ws.take 1) (fun _ r2 => (r2.drop 1).append (r2.take 1)) fun kV doc pm an cdv ct us ws h1 h2 => match us, ws, h1, h2 with | [], [_, _], _, _ => rfl

/-- one more -/
structure JoinOk (t : Tr) (x c : Str) (i : Int) (pl : Option Nat) : Prop where
  nm : nameOk x = true
  new : x ∉ nmz t.ppl
  cal : c = "" ∨ c ∈ nmz t.ppl
  t1 : 1 ≤ i
  t2 : i ≤ 60
  few : t.ppl.length < 16
  p1 : ∀ n, pl = some n → n ≤ (ownl t.ppl c).length
  p2 : ∀ n, pl = some n → n ≤ (spotsN (walkP t.ppl) c).length
  len : (walkP t.ppl).length ≤ 400
def joinP (ps : List Pr) (x c : Str) (i : Int) (pl : Option Nat) : List Pr := putIn (walkP ps) [(x, c, i)] c pl
def sp_joined : Sp := fun vs H Q _ => ∃ (v : V) (t : Tr) (x c : Str) (i : Int) (pl : Option Nat), vs = [v, .str x, .str c, .int i, plV pl] ∧ TAt H v t ∧ Good t ∧ JoinOk t x c i pl ∧ ∀ H' u, Same H H' → TAt H' u ⟨t.wait, t.deep, joinP t.ppl x c i pl⟩ → Q u H'
theorem body_joined (T : Txt K mg) : ∀ (f : Addr) (cdv : Value) (A : Around) (outer : List Env) (s : Shared) (H : Hp) (vs : List V) (Q : VK) (E : XK), Room 20 (A.deeper (envOfC "joined" (defScope s_joined) s.heap.objs.size f cdv)) → sp_joined vs H Q E →
      ∃ t, PSs (cxOf CX0 P w K mg base N_joined "joined" (defScope s_joined) f cdv A outer s H E).nox (defBody s_joined) t ∧ t { nx := fun _ H' => Q .non H', rt := Q } (start N_joined vs) H := by
  intro f cdv A outer s H vs Q E hr h
  obtain ⟨v, t, x, c, i, pl, rfl, ht, g, j, k⟩ := h
  have hu := hu_of hr
  have C_need_tree := cal_need_tree (P := P) (w := w) (base := base) T
  have C_is_name := cal_is_name (P := P) (w := w) (base := base) T
  have C_need_name_2_bell := cal_need_name_2_bell (P := P) (w := w) (base := base) T
  have C_need_number := cal_need_number (P := P) (w := w) (base := base) T
  have C_own_list := cal_own_list (P := P) (w := w) (base := base) T
  have C_need_place := cal_need_place (P := P) (w := w) (base := base) T
  have C_walked := cal_walked (P := P) (w := w) (base := base) T
  have C_put_in := cal_put_in (P := P) (w := w) (base := base) T
  refine ⟨_, (pss_cons (ps_expr (pe_cl C_need_tree hr (by omega) (by rfl) (pa_cons (pv 0) pa_nil)))
   (pss_cons (ps_if (pt_not (pt_val (pe_cl C_is_name hr (by omega) (by rfl) (pa_cons (pv 1) pa_nil)))) (pss_one ps_never) pss_nil)
   (pss_cons (ps_if (pt_cmpR op_in_seq (pv 1) (pe_lc (own := [("person", 5)]) (g := gName 5) (tt := tYes) rfl sc_joined.nd (pi_tup (pe_ix ix_tup (pv 0) pe_int (fun _ _ => rfl))) (blkOk_by (N := N_joined) (sc := defScope s_joined) (by decide +kernel)) (fun _ _ _ _ _ => (pg_name (i := 5) sc_joined.nd rfl (Or.inl rfl))) (fun _ _ _ _ _ => pts_nil) (fun _ _ _ _ _ => (pe_ix (ix_tupK (K := K) rfl) (pv 5) pe_int (fun _ _ => rfl)))) (by rfl)) (pss_one ps_never) pss_nil)
   (pss_cons (ps_expr (pe_clK C_need_name_2_bell hr (by omega) (by rfl) (pa_cons (pv 0) (pa_cons (pv 2) pa_nil)) (pk_cons pe_bl pk_nil)))
   (pss_cons (ps_expr (pe_cl C_need_number hr (by omega) (by rfl) (pa_cons (pv 3) (pa_cons pe_int (pa_cons (pe_gv rfl T.c_MOST_TALK) pa_nil)))))
   (pss_cons (ps_expr (pe_cl C_need_place hr (by omega) (by rfl) (pa_cons (pe_cl C_own_list hr (by omega) (by rfl) (pa_cons (pv 0) (pa_cons (pv 2) pa_nil))) (pa_cons (pv 4) pa_nil))))
   (pss_cons (ps_if (pt_cmpR op_eq (pe_callB call_len_seq (by rfl) T.b_len (by decide +kernel) (pa_cons (pe_ix ix_tup (pv 0) pe_int (fun _ _ => rfl)) pa_nil)) (pe_gv rfl T.c_MOST_PEOPLE) (nomark _)) (pss_one ps_never) pss_nil)
   (pss_one (ps_ret (pe_tup (pa_cons (pe_ix ix_tup (pv 0) pe_int (fun _ _ => rfl)) (pa_cons (pe_ix ix_tup (pv 0) pe_int (fun _ _ => rfl)) (pa_cons (pe_cl C_put_in hr (by omega) (by rfl) (pa_cons (pe_cl C_walked hr (by omega) (by rfl) (pa_cons (pv 0) pa_nil)) (pa_cons (pe_lst (pa_cons (pe_tup (pa_cons (pv 1) (pa_cons (pv 2) (pa_cons (pv 3) pa_nil)))) pa_nil)) (pa_cons (pv 4) pa_nil)))) pa_nil))))))))))))), ?_⟩
  refine ⟨_, rfl, v, t, rfl, ht, g.ok, fun H1 s1 => ?_⟩
  have ht1 := TAt.tk (Same.tk s1) ht
  refine ⟨_, rfl, x, rfl, Nat.le_trans (nameOk_len j.nm).2 (by decide), fun H2 s2 => ?_⟩
  rw [j.nm]
  refine ⟨_, rfl, iteF ?_⟩
  have ht2 := TAt.tk (Same.tk s2) ht1
  obtain ⟨a, d, ps, rfl, ha, hb, rp⟩ := id ht2
  have lps : ps.length ≤ 1000 := by
    rw [Paired.len rp]
    exact g.few
  refine ⟨_, rfl, _, rfl, _, _, _, _, rfl, rfl, SqT.of ha, rfl, _, rfl, ⟨_, SqT.of hb⟩, fun D hD => ?_⟩
  refine lc_rel (σ := [some (.ref a), some (.str x), some (.str c), some (.int i), some (plV pl), none]) (xs := ps) t.ppl (fun p => some p.1) PAt (fun _ v y => v = .str y) walk_tup (fun H' q => SqT.of (q _ _ hb)) hD (small1000 lps) rp (fun q h => PAt.tk (Same.tk q) h) (fun _ h => h) ?_ ?_
  · rintro _ p H' Qk Qn _ _ ⟨c, rfl, hc⟩ hk _
    exact ⟨rfl, _, rfl, _, _, _, _, rfl, rfl, SqT.of hc, rfl, hk _ _ _ rfl (Same.refl _) rfl⟩
  intro H3 ys s3 hy r
  have e := Paired.toMap r
  rw [fm_some] at e
  have ht3 := TAt.tk (Same.tk s3) ht2
  refine ⟨_, _, rfl, .inl (SqL.of hy), rfl, ?_, ?_⟩
  · rw [e]
    exact flat_strs _
  show ∃ c, V.bl (inV (V.str x) ys) = V.bl c ∧ _
  rw [e, inV_strs, decide_eq_false (show x ∉ t.ppl.map (fun p => p.1) from j.new)]
  refine ⟨_, rfl, iteF ?_⟩
  refine ⟨_, rfl, _, rfl, rfl, rfl, _, t, c, true, rfl, ht3, g.few, ?_, fun H4 s4 => ?_⟩
  · rcases j.cal with z | z
    · exact .inr ⟨rfl, z⟩
    · exact .inl z
  have ht4 := TAt.tk (Same.tk s4) ht3
  refine ⟨_, rfl, _, _, _, rfl, j.t1, j.t2, ?_⟩
  refine ⟨_, rfl, _, rfl, _, t, c, rfl, ht4, g.few, fun H5 l s5 hl hl5 => ?_⟩
  have ht5 := TAt.tk (Same.tk s5) ht4
  refine ⟨_, rfl, l, _, _, rfl, hl5, ?_, ?_⟩
  · cases pl with
    | none => exact .inl rfl
    | some n =>
      refine .inr ⟨(n : Int), rfl, by omega, ?_⟩
      have q := j.p1 n rfl
      rw [List.length_map]
      omega
  obtain ⟨a2, d2, ps2, e2, ha5, hb5, rp5⟩ := id ht5
  cases e2
  have l5 : ps2.length = t.ppl.length := Paired.len rp5
  refine ⟨_, rfl, _, _, _, _, rfl, rfl, SqT.of ha5, rfl, _, _, rfl, .inr (SqT.of hb5), rfl, _, rfl, ?_⟩
  have e6 : decide (V.int (ps2.length : Nat) = V.int 16) = false := decide_eq_false fun z => by
    have z := V.int.inj z
    have q := j.few
    omega
  show if decide (V.int (ps2.length : Nat) = V.int 16) = true then _ else _
  rw [e6]
  refine iteF ?_
  refine ⟨_, rfl, _, _, _, _, rfl, rfl, SqT.of ha5, rfl, _, rfl, _, _, _, _, rfl, rfl, SqT.of ha5, rfl, _, rfl, _, t, rfl, ht5, g, fun H6 m us s6 hm hm6 rw_ => ?_⟩
  have ht6 := TAt.tk (Same.tk s6) ht5
  refine ⟨_, rfl, _, rfl, _, rfl, by show 3 ≤ sizeLine; decide, fun q hq => ⟨by show 1 ≤ sizeLine; decide, fun o ho => ?_⟩⟩
  have n1 := Same.upd hq (o := .tup [V.str x, V.str c, V.int i])
  have n2 := n1.trans (Same.upd ho (o := .lst [V.ref q]))
  refine ⟨_, rfl, m, o, us, [V.ref q], walkP t.ppl, (x, c, i), [], pl, rfl, n2 _ _ hm6, PsAt.tk (Same.tk n2) rw_, ?_, upd_same, ?_, (by show 1 ≤ 400; decide), j.p2, fun H7 b ws s7 hb7 rws => ?_⟩
  · rw [Paired.len rw_]
    exact j.len
  · exact .cons ⟨q, rfl, Eq.trans (upd_ne (ne_of_none upd_same ho)) upd_same⟩ .nil
  · refine ⟨by show 3 ≤ sizeLine; decide, fun z hz => ?_⟩
    have n3 := Same.upd hz (o := .tup [V.int t.wait, V.int t.deep, V.ref b])
    refine k _ _ ((((((s1.trans s2).trans s3).trans s4).trans s5).trans s6).trans ((n2.trans s7).trans n3)) ⟨z, b, ws, rfl, upd_same, n3 _ _ hb7, PsAt.tk (Same.tk n3) rws⟩
theorem len_joined : ∀ vs H Q E, sp_joined vs H Q E → vs.length = P_joined.length := fun vs H Q E h => by
  obtain ⟨v, t, x, c, i, pl, rfl, _⟩ := h
  rfl
theorem cal_joined (T : Txt K mg) : Cal P w K mg base 21 "joined" sp_joined [] := by
  obtain ⟨f, fd, F, hm⟩ := T.d_joined.ex
  exact cal_d (dvs := [.non]) F hm (DfnD.fn F sc_joined len_joined (body_joined T)) 5 1 (by simp) rfl fun T kV doc pm an cdv ct us its h1 h2 => match us, its, h1, h2 with | [_, _, _, _, _], [_], _, _ => ⟨_, rfl, rfl⟩
theorem cal_joined_4 (T : Txt K mg) : Cal P w K mg base 21 "joined" sp_joined [.non] := by
  obtain ⟨f, fd, F, hm⟩ := T.d_joined.ex
  exact cal_d (dvs := [.non]) F hm (DfnD.fn F sc_joined len_joined (body_joined T)) 4 0 (by simp) rfl fun T kV doc pm an cdv ct us its h1 h2 => match us, its, h1, h2 with | [_, _, _, _], [_], _, _ => ⟨_, rfl, rfl⟩
theorem cal_joined_3_talk_place (T : Txt K mg) : CalK P w K mg base 21 "joined" 3 ["talk", "place"] (fun vs zs => vs ++ zs) sp_joined := by
  obtain ⟨f, fd, F, hm⟩ := T.d_joined.ex
  exact calk_d (dvs := [.non]) F hm (DfnD.fn F sc_joined len_joined (body_joined T)) 3 ["talk", "place"] (fun us ws => us ++ ws) (by simp) (fun r1 r2 => r1.append r2) fun T kV doc pm an cdv ct us ws its h1 h2 h3 => match us, ws, its, h1, h2, h3 with | [_, _, _], [_, _], [_], _, _, _ => ⟨_, rfl, rfl⟩
/-- joined(place=.., talk=.., caller=.., name=.., tree=..) -/
theorem cal_joined_0_place_talk_caller_name_tree (T : Txt K mg) : CalK P w K mg base 21 "joined" 0 ["place", "talk", "caller", "name", "tree"] (fun _ zs => (zs.drop 4).take 1 ++ ((zs.drop 3).take 1 ++ ((zs.drop 2).take 1 ++ ((zs.drop 1).take 1 ++ zs.take 1)))) sp_joined := by
  obtain ⟨f, fd, F, hm⟩ := T.d_joined.ex
  exact calk_d (dvs := [.non]) F hm (DfnD.fn F sc_joined len_joined (body_joined T)) 0 ["place", "talk", "caller", "name", "tree"] (fun _ zs => (zs.drop 4).take 1 ++ ((zs.drop 3).take 1 ++ ((zs.drop 2).take 1 ++ ((zs.drop 1).take 1 ++ zs.take 1)))) (by simp)
    (fun _ r => ((r.drop 4).take 1).append (((r.drop 3).take 1).append (((r.drop 2).take 1).append (((r.drop 1).take 1).append (r.take 1))))) fun T kV doc pm an cdv ct us ws its h1 h2 h3 => match us, ws, its, h1, h2, h3 with | [], [_, _, _, _, _], [_], _, _, _ => ⟨_, rfl, rfl⟩
end
end RD
set_option Elab.async false
set_option linter.all false
set_option maxRecDepth 100000
set_option maxHeartbeats 4000000
local macro_rules | `(tactic| walk_at "isT") => `(tactic| refine ⟨_, _, _, _, true, rfl, L2.ClsV.ty _, L2.TyX.base (by first | exact .int _ | exact .str _ | exact .bl _ | exact .non), L2.kit_ty (by decide +kernel), ?_⟩)
local macro_rules | `(tactic| walk_at "isF") => `(tactic| refine ⟨_, _, _, _, false, rfl, L2.ClsV.ty _, L2.TyX.base (by first | exact .int _ | exact .str _ | exact .bl _ | exact .non), L2.kit_ty (by decide +kernel), ?_⟩)
namespace RD
open PySem PySem.Spec PyProof.Rows L2
section
variable {P : Program} {w : World} {K : PySem.W.Frag} {mg : Str → Option Value} {base : Heap}
abbrev lowB (ps : List Pr) (x : Str) : List Str := belowN (ownl ps) 16 x
def restP (ps : List Pr) (x : Str) : List Pr := (walkP ps).filterMap fun p => if p.1 ≠ x ∧ p.1 ∉ lowB ps x then some p else none
def moveP (ps : List Pr) (x c : Str) (i : Int) (pl : Option Nat) : List Pr := putIn (restP ps x) ((x, c, i) :: (lowB ps x).filterMap (named ps)) c pl
structure MoveOk (t : Tr) (x c : Str) (p : Pr) (pl : Option Nat) : Prop where
  nm : x ∈ nmz t.ppl
  cal : c = "" ∨ c ∈ nmz t.ppl
  fits : Fits (ownl t.ppl) 16 x
  few : (lowB t.ppl x).length ≤ 300
  there : ∀ y ∈ lowB t.ppl x, (named t.ppl y).isSome = true
  ne : c ≠ x
  nb : c ∉ lowB t.ppl x
  at_ : named t.ppl x = some p
  p1 : ∀ n, pl = some n → n ≤ ((ownl t.ppl c).filterMap fun y => if y ≠ x then some y else none).length
  p2 : ∀ n, pl = some n → n ≤ (spotsN (restP t.ppl x) c).length
  len : (walkP t.ppl).length ≤ 400
def sp_moved : Sp := fun vs H Q _ => ∃ (v : V) (t : Tr) (x c : Str) (p : Pr) (pl : Option Nat), vs = [v, .str x, .str c, plV pl] ∧ TAt H v t ∧ Good t ∧ MoveOk t x c p pl ∧ ∀ H' u, Same H H' → TAt H' u ⟨t.wait, t.deep, moveP t.ppl x c p.2.2 pl⟩ → Q u H'
theorem body_moved (T : Txt K mg) : ∀ (f : Addr) (cdv : Value) (A : Around) (outer : List Env) (s : Shared) (H : Hp) (vs : List V) (Q : VK) (E : XK), Room 20 (A.deeper (envOfC "moved" (defScope s_moved) s.heap.objs.size f cdv)) → sp_moved vs H Q E →
      ∃ t, PSs (cxOf CX0 P w K mg base N_moved "moved" (defScope s_moved) f cdv A outer s H E).nox (defBody s_moved) t ∧ t { nx := fun _ H' => Q .non H', rt := Q } (start N_moved vs) H := by
  intro f cdv A outer s H vs Q E hr h
  obtain ⟨v, t, x, c, p0, pl, rfl, ht, g, j, k⟩ := h
  have hu := hu_of hr
  have C_need_tree := cal_need_tree (P := P) (w := w) (base := base) T
  have C_need_name_2 := cal_need_name_2 (P := P) (w := w) (base := base) T
  have C_need_name_2_bell := cal_need_name_2_bell (P := P) (w := w) (base := base) T
  have C_all_below := cal_ab (P := P) (w := w) (base := base) T 17
  have C_own_list := cal_own_list (P := P) (w := w) (base := base) T
  have C_person_of := cal_person_of (P := P) (w := w) (base := base) T
  have C_need_place := cal_need_place (P := P) (w := w) (base := base) T
  have C_walked := cal_walked (P := P) (w := w) (base := base) T
  have C_put_in := cal_put_in (P := P) (w := w) (base := base) T
  refine ⟨_, (pss_cons (ps_expr (pe_cl C_need_tree hr (by omega) (by rfl) (pa_cons (pv 0) pa_nil)))
   (pss_cons (ps_expr (pe_cl C_need_name_2 hr (by omega) (by rfl) (pa_cons (pv 0) (pa_cons (pv 1) pa_nil))))
   (pss_cons (ps_expr (pe_clK C_need_name_2_bell hr (by omega) (by rfl) (pa_cons (pv 0) (pa_cons (pv 2) pa_nil)) (pk_cons pe_bl pk_nil)))
   (pss_cons (ps_set (i := 4) sc_moved.nd rfl (Or.inr rfl) (pe_cl C_all_below hr (by omega) (by rfl) (pa_cons (pv 0) (pa_cons (pv 1) pa_nil))))
   (pss_cons (ps_if (PW.pt (pw_or (pt_cmpR op_eq (pv 2) (pv 1) (nomark _)) (pw_or1 (pt_cmpR op_in_seq (pv 2) (pv 4) (by rfl))))) (pss_one ps_never) pss_nil)
   (pss_cons (ps_expr (pe_cl C_need_place hr (by omega) (by rfl) (pa_cons (pe_lc (own := [("one", 7)]) (g := gName 7) (tt := _) rfl sc_moved.nd (pi_list (pe_cl C_own_list hr (by omega) (by rfl) (pa_cons (pv 0) (pa_cons (pv 2) pa_nil)))) (blkOk_by (N := N_moved) (sc := defScope s_moved) (by decide +kernel)) (fun _ _ _ _ _ => (pg_name (i := 7) sc_moved.nd rfl (Or.inl rfl))) (fun _ _ _ _ _ => (pts_one (pt_cmpR op_ne (pv 7) (pv 1) (nomark _)))) (fun _ _ _ _ _ => (pv 7))) (pa_cons (pv 3) pa_nil))))
   (pss_cons (ps_set (i := 5) sc_moved.nd rfl (Or.inl rfl) (pe_op op_cat (pe_lst (pa_cons (pe_tup (pa_cons (pv 1) (pa_cons (pv 2) (pa_cons (pe_ix ix_tup (pe_cl C_person_of hr (by omega) (by rfl) (pa_cons (pv 0) (pa_cons (pv 1) pa_nil))) pe_int (fun _ _ => rfl)) pa_nil)))) pa_nil)) (pe_lc (own := [("one", 7)]) (g := gName 7) (tt := tYes) rfl sc_moved.nd (pi_list (pv 4)) (blkOk_by (N := N_moved) (sc := defScope s_moved) (by decide +kernel)) (fun _ _ _ _ _ => (pg_name (i := 7) sc_moved.nd rfl (Or.inl rfl))) (fun _ _ _ _ _ => pts_nil) (fun _ _ _ _ _ => (pe_cl C_person_of hr (by omega) (by rfl) (pa_cons (pv 0) (pa_cons (pv 7) pa_nil)))))))
   (pss_cons (ps_setLc (i := 6) (own := [("person", 8)]) (g := gName 8) (tt := _) rfl sc_moved.nd rfl rfl (sw_true rfl rfl rfl (by decide +kernel)) (pi_list (pe_cl C_walked hr (by omega) (by rfl) (pa_cons (pv 0) pa_nil))) (blkOk_by (N := N_moved) (sc := defScope s_moved) (by decide +kernel)) (fun _ _ _ _ _ => (pg_name (i := 8) sc_moved.nd rfl (Or.inl rfl))) (fun _ _ _ _ _ => (pts_one (PW.pt (pw_and (pt_cmpR op_ne (pe_ix (ix_tupK (K := K) rfl) (pv 8) pe_int (fun _ _ => rfl)) (pv 1) (nomark _)) (pw_and1 (pt_cmpR (op_notIn_seqK (K := K) rfl) (pe_ix (ix_tupK (K := K) rfl) (pv 8) pe_int (fun _ _ => rfl)) (pv 4) (by rfl))))))) (fun _ _ _ _ _ => (pv 8)))
   (pss_one (ps_ret (pe_tup (pa_cons (pe_ix ix_tup (pv 0) pe_int (fun _ _ => rfl)) (pa_cons (pe_ix ix_tup (pv 0) pe_int (fun _ _ => rfl)) (pa_cons (pe_cl C_put_in hr (by omega) (by rfl) (pa_cons (pv 6) (pa_cons (pv 5) (pa_cons (pv 3) pa_nil)))) pa_nil)))))))))))))), ?_⟩
  refine ⟨_, rfl, v, t, rfl, ht, g.ok, fun H1 s1 => ?_⟩
  have ht1 := TAt.tk (Same.tk s1) ht
  refine ⟨_, rfl, _, rfl, _, t, x, false, rfl, ht1, g.few, .inl j.nm, fun H2 s2 => ?_⟩
  have ht2 := TAt.tk (Same.tk s2) ht1
  refine ⟨_, rfl, _, rfl, rfl, rfl, _, t, c, true, rfl, ht2, g.few, ?_, fun H3 s3 => ?_⟩
  · rcases j.cal with z | z
    · exact .inr ⟨rfl, z⟩
    · exact .inl z
  have ht3 := TAt.tk (Same.tk s3) ht2
  have few : (lowB t.ppl x).length ≤ 1000 := Nat.le_trans j.few (by decide)
  refine ⟨_, rfl, _, rfl, _, t, x, rfl, ht3, g.few, j.fits, few, fun H4 l s4 hl hl4 => ?_⟩
  have ht4 := TAt.tk (Same.tk s4) ht3
  -- if caller == name or caller in lower
  refine ⟨_, rfl, _, rfl, rfl, _, rfl, ?_⟩
  have e1 : decide (V.str c = V.str x) = false := decide_eq_false fun z => j.ne (V.str.inj z)
  show if decide (V.str c = V.str x) = true then _ else _
  rw [e1]
  refine iteF ⟨_, rfl, _, rfl, l, _, rfl, .inl (SqL.of hl4), rfl, flat_strs _, ?_⟩
  show ∃ b, V.bl (inV (V.str c) ((lowB t.ppl x).map V.str)) = V.bl b ∧ _
  rw [inV_strs, decide_eq_false j.nb]
  refine ⟨_, rfl, iteF ?_⟩
  -- need_place
  refine ⟨_, rfl, _, rfl, _, t, c, rfl, ht4, g.few, fun H5 m s5 hm hm5 => ?_⟩
  have ht5 := TAt.tk (Same.tk s5) ht4
  refine ⟨m, rfl, ⟨_, SqL.of hm5⟩, fun D hD => ?_⟩
  have lo : ((ownl t.ppl c).map V.str).length ≤ 1000 := by
    rw [List.length_map]
    exact Nat.le_trans (ownl_len _ _) g.few
  refine lc_rel (σ := [some v, some (.str x), some (.str c), some (plV pl), some (.ref l), none, none, none, none]) (xs := (ownl t.ppl c).map V.str) (ownl t.ppl c) (fun y => if y ≠ x then some y else none) (fun _ v n => v = .str n) (fun _ v n => v = .str n) walk_list (fun H' q => SqL.of (q _ _ hm5)) hD (small1000 lo) (Paired.ofMap _ _) (fun _ h => h) (fun _ h => h) ?_ ?_
  · rintro _ y H' Qk Qn _ _ rfl hk hno
    refine ⟨rfl, _, rfl, _, rfl, rfl, _, rfl, ?_⟩
    by_cases e : y = x
    · have e1 : decide (V.str y = V.str x) = true := decide_eq_true (congrArg V.str e)
      show if (!decide (V.str y = V.str x)) = true then _ else _
      rw [e1]
      exact iteF (hno (if_neg fun z => z e) _ (Same.refl _))
    · have e1 : decide (V.str y = V.str x) = false := decide_eq_false fun z => e (V.str.inj z)
      show if (!decide (V.str y = V.str x)) = true then _ else _
      rw [e1]
      exact iteT ⟨_, rfl, hk _ _ _ (if_pos e) (Same.refl _) rfl⟩
  intro H6 ys s6 hy r6
  have ht6 := TAt.tk (Same.tk s6) ht5
  refine ⟨_, rfl, D, ys, _, rfl, hy, ?_, ?_⟩
  · cases pl with
    | none => exact .inl rfl
    | some n =>
      refine .inr ⟨(n : Int), rfl, by omega, ?_⟩
      have q := j.p1 n rfl
      rw [Paired.len r6]
      omega
  -- group
  refine ⟨_, rfl, _, rfl, _, rfl, _, rfl, _, t, x, p0, rfl, ht6, g.few, j.at_, fun H7 u s7 ⟨c0, eu, hc0⟩ => ?_⟩
  subst eu
  have ht7 := TAt.tk (Same.tk s7) ht6
  refine ⟨_, _, _, _, rfl, rfl, SqT.of hc0, rfl, by show 3 ≤ sizeLine; decide, fun q1 hq1 => ⟨by show 1 ≤ sizeLine; decide, fun q2 hq2 => ?_⟩⟩
  have n1 : Same H7 (upd H7 q1 (.tup [V.str x, V.str c, V.int p0.2.2])) := Same.upd hq1
  have n2 := n1.trans (Same.upd hq2 (o := .lst [V.ref q1]))
  have s47 := ((s5.trans s6).trans s7).trans n2
  have hl8 := s47 _ _ hl4
  refine ⟨_, rfl, l, rfl, ⟨_, SqL.of hl8⟩, fun D2 hD2 => ?_⟩
  have llo : ((lowB t.ppl x).map V.str).length ≤ 1000 := by
    rw [List.length_map]
    exact few
  have ht8 := TAt.tk (Same.tk n2) ht7
  refine lc_rel (σ := [some v, some (.str x), some (.str c), some (plV pl), some (.ref l), none, none, none, none]) (xs := (lowB t.ppl x).map V.str) (lowB t.ppl x) (named t.ppl) (fun _ v n => v = .str n) PAt walk_list (fun H' q => SqL.of (q _ _ hl8)) hD2 (small1000 llo) (Paired.ofMap _ _) (fun _ h => h) (fun q h => PAt.tk q h) ?_ ?_
  · rintro _ y H' Qk Qn hy s3 rfl hk _
    cases e : named t.ppl y with
    | none =>
      have q := j.there y hy
      rw [e] at q
      cases q
    | some p =>
      exact ⟨rfl, _, rfl, _, rfl, _, t, y, p, rfl, TAt.tk (Same.tk s3) ht8, g.few, e, fun H4 u s4 hp => hk u p H4 e s4 hp⟩
  intro H9 zs s9 hz r9
  have hq9 := s9 _ _ (upd_same (H := upd H7 q1 (.tup [V.str x, V.str c, V.int p0.2.2])) (a := q2) (o := .lst [V.ref q1]))
  have lzs : zs.length ≤ 300 := by
    rw [Paired.len r9]
    exact Nat.le_trans (List.length_filterMap_le _ _) j.few
  refine ⟨q2, D2, [V.ref q1], zs, rfl, rfl, hq9, hz, ?_, fun gp hgp => ?_⟩
  · rw [List.length_singleton]
    exact Nat.le_of_lt (small1000 (by omega))
  have n10 : Same H9 (upd H9 gp (.lst ([V.ref q1] ++ zs))) := Same.upd hgp
  have ht10 := TAt.tk (Same.tk (s9.trans n10)) ht8
  -- rest
  refine ⟨_, rfl, _, t, rfl, ht10, g, fun H11 wl us s11 hwl hwl11 rw_ => ?_⟩
  have ht11 := TAt.tk (Same.tk s11) ht10
  have hl11 := s11 _ _ (n10 _ _ (s9 _ _ hl8))
  have lus : us.length ≤ 1000 := by
    have q := walkP_len g
    rw [Paired.len rw_]
    exact q
  refine ⟨wl, rfl, ⟨_, SqL.of hwl11⟩, fun D3 hD3 => ?_⟩
  refine lc_rel (σ := [some v, some (.str x), some (.str c), some (plV pl), some (.ref l), some (.ref gp), none, none, none]) (xs := us) (walkP t.ppl) (fun p => if p.1 ≠ x ∧ p.1 ∉ lowB t.ppl x then some p else none) PAt PAt walk_list (fun H' q => SqL.of (q _ _ hwl11)) hD3 (small1000 lus) rw_ (fun q h => PAt.tk (Same.tk q) h) (fun q h => PAt.tk q h) ?_ ?_
  · rintro _ p H' Qk Qn _ s12 ⟨c1, rfl, hc1⟩ hk hno
    refine ⟨rfl, _, rfl, _, _, _, _, rfl, rfl, SqT.of hc1, rfl, _, rfl, rfl, _, rfl, ?_⟩
    by_cases e : p.1 = x
    · have e1 : decide (V.str p.1 = V.str x) = true := decide_eq_true (congrArg V.str e)
      show if (!decide (V.str p.1 = V.str x)) = true then _ else _
      rw [e1]
      exact iteF (hno (if_neg fun z => z.1 e) _ (Same.refl _))
    · have e1 : decide (V.str p.1 = V.str x) = false := decide_eq_false fun z => e (V.str.inj z)
      show if (!decide (V.str p.1 = V.str x)) = true then _ else _
      rw [e1]
      refine iteT ⟨_, rfl, _, _, _, _, rfl, rfl, SqT.of hc1, rfl, _, rfl, l, _, rfl, .inl (SqL.of (s12 _ _ hl11)), rfl, flat_strs _, ?_⟩
      show ∃ b, V.bl (!inV (V.str p.1) ((lowB t.ppl x).map V.str)) = V.bl b ∧ _
      rw [inV_strs]
      by_cases e2 : p.1 ∈ lowB t.ppl x
      · rw [decide_eq_true e2]
        exact ⟨_, rfl, iteF (hno (if_neg fun z => z.2 e2) _ (Same.refl _))⟩
      · rw [decide_eq_false e2]
        exact ⟨_, rfl, iteT ⟨_, rfl, hk _ _ _ (if_pos ⟨e, e2⟩) (Same.refl _) ⟨c1, rfl, hc1⟩⟩⟩
  intro H13 rs s13 hrs r13
  have ht13 := TAt.tk (Same.tk s13) ht11
  have hgp13 := s13 _ _ (s11 _ _ (upd_same (H := H9) (a := gp) (o := .lst ([V.ref q1] ++ zs))))
  have tk13 : TK H9 H13 := Same.tk ((n10.trans s11).trans s13)
  have hq13 := tk13 _ _ (s9 _ _ (Eq.trans (upd_ne (ne_of_none upd_same hq2)) (upd_same (H := H7) (a := q1) (o := .tup [V.str x, V.str c, V.int p0.2.2]))))
  obtain ⟨a, d, ps, e2, ha, hb, rp⟩ := id ht13
  subst e2
  refine ⟨_, rfl, _, _, _, _, rfl, rfl, SqT.of ha, rfl, _, rfl, _, _, _, _, rfl, rfl, SqT.of ha, rfl, ?_⟩
  refine ⟨_, rfl, _, rfl, _, rfl, D3, gp, rs, _, restP t.ppl x, (x, c, p0.2.2), (lowB t.ppl x).filterMap (named t.ppl), pl, rfl, hrs, r13, ?_, hgp13, ?_, ?_, j.p2, fun H14 b ws s14 hb14 rws => ?_⟩
  · rw [Paired.len r13]
    exact Nat.le_trans (List.length_filterMap_le _ _) j.len
  · exact .cons ⟨q1, rfl, hq13⟩ (PsAt.tk tk13 r9)
  · rw [List.length_append, List.length_singleton]
    omega
  · refine ⟨by show 3 ≤ sizeLine; decide, fun z hz => ?_⟩
    have n3 := Same.upd hz (o := .tup [V.int t.wait, V.int t.deep, V.ref b])
    have s113 := ((((s1.trans s2).trans s3).trans s4).trans s47).trans (((s9.trans n10).trans s11).trans s13)
    exact k _ _ (s113.trans (s14.trans n3)) ⟨z, b, ws, rfl, upd_same, n3 _ _ hb14, PsAt.tk (Same.tk n3) rws⟩
theorem len_moved : ∀ vs H Q E, sp_moved vs H Q E → vs.length = P_moved.length := fun vs H Q E h => by
  obtain ⟨v, t, x, c, p, pl, rfl, _⟩ := h
  rfl
theorem cal_moved (T : Txt K mg) : Cal P w K mg base 21 "moved" sp_moved [] := by
  obtain ⟨f, fd, F, hm⟩ := T.d_moved.ex
  exact cal_d (dvs := [.non]) F hm (DfnD.fn F sc_moved len_moved (body_moved T)) 4 1 (by simp) rfl fun T kV doc pm an cdv ct us its h1 h2 => match us, its, h1, h2 with | [_, _, _, _], [_], _, _ => ⟨_, rfl, rfl⟩
theorem cal_moved_3 (T : Txt K mg) : Cal P w K mg base 21 "moved" sp_moved [.non] := by
  obtain ⟨f, fd, F, hm⟩ := T.d_moved.ex
  exact cal_d (dvs := [.non]) F hm (DfnD.fn F sc_moved len_moved (body_moved T)) 3 0 (by simp) rfl fun T kV doc pm an cdv ct us its h1 h2 => match us, its, h1, h2 with | [_, _, _], [_], _, _ => ⟨_, rfl, rfl⟩
/-- moved(.., .., place=.., caller=..) -/
theorem cal_moved_2_place_caller (T : Txt K mg) : CalK P w K mg base 21 "moved" 2 ["place", "caller"] (fun vs zs => vs ++ (zs.drop 1 ++ zs.take 1)) sp_moved := by
  obtain ⟨f, fd, F, hm⟩ := T.d_moved.ex
  exact calk_d (dvs := [.non]) F hm (DfnD.fn F sc_moved len_moved (body_moved T)) 2 ["place", "caller"] (fun us ws => us ++ (ws.drop 1 ++ ws.take 1)) (by simp) (fun r1 r2 => r1.append ((r2.drop 1).append (r2.take 1))) fun T kV doc pm an cdv ct us ws its h1 h2 h3 => match us, ws, its, h1, h2, h3 with | [_, _], [_, _], [_], _, _, _ => ⟨_, rfl, rfl⟩
/-- moved(caller=.., place=.., tree=.., name=..) -/
theorem cal_moved_0_caller_place_tree_name (T : Txt K mg) : CalK P w K mg base 21 "moved" 0 ["caller", "place", "tree", "name"] (fun _ zs => zs.drop 2 ++ zs.take 2) sp_moved := by
  obtain ⟨f, fd, F, hm⟩ := T.d_moved.ex
  exact calk_d (dvs := [.non]) F hm (DfnD.fn F sc_moved len_moved (body_moved T)) 0 ["caller", "place", "tree", "name"] (fun _ zs => zs.drop 2 ++ zs.take 2) (by simp) (fun _ r => (r.drop 2).append (r.take 2)) fun T kV doc pm an cdv ct us ws its h1 h2 h3 => match us, ws, its, h1, h2, h3 with | [], [_, _, _, _], [_], _, _, _ => ⟨_, rfl, rfl⟩
end
end RD
set_option Elab.async false
set_option linter.all false
set_option maxRecDepth 100000
set_option maxHeartbeats 4000000
local macro_rules | `(tactic| walk_at "isT") => `(tactic| refine ⟨_, _, _, _, true, rfl, L2.ClsV.ty _, L2.TyX.base (by first | exact .int _ | exact .str _ | exact .bl _ | exact .non), L2.kit_ty (by decide +kernel), ?_⟩)
local macro_rules | `(tactic| walk_at "isF") => `(tactic| refine ⟨_, _, _, _, false, rfl, L2.ClsV.ty _, L2.TyX.base (by first | exact .int _ | exact .str _ | exact .bl _ | exact .non), L2.kit_ty (by decide +kernel), ?_⟩)
namespace RD
open PySem PySem.Spec PyProof.Rows L2
theorem dgetS {H : Hp} {a : Addr} {kvs : List (Key × V)} {x : Str} {v : V} (h : H a = some (.dK kvs)) (e : valV kvs (Sum.inr x) = some v) : DGet H a (.str x) (some v) := by
  have z := DGet.k (k := Sum.inr x) h
  rw [e] at z
  exact z
section
variable {P : Program} {w : World} {K : PySem.W.Frag} {mg : Str → Option Value} {base : Heap}
def sp_l_mixed : Sp := fun vs H Q _ => ∃ c k : Int, vs = [.int c, .int k] ∧ 0 ≤ k ∧ k ≤ 1000000000000 ∧ ∀ H' r, Same H H' → Q (.int r) H'
theorem cal_l_mixed (T : Txt K mg) : Cal P w K mg base 1 "_law_mixed" sp_l_mixed [] := by
  refine T.d_l_mixed.cal sc_l_mixed (fun vs H Q E h => ?_) (fun f cdv A outer s H vs Q E hr h => ?_) (fun _ _ _ _ _ _ us hl => match us, hl with | [_, _], _ => rfl)
  · obtain ⟨c, k, rfl, _⟩ := h; rfl
  obtain ⟨c, n, rfl, h0, h1, k⟩ := h
  have hu := hu_of hr
  refine ⟨_, (pss_cons (ps_set (i := 2) sc_l_mixed.nd rfl (Or.inl rfl) (pe_op op_add (pe_op op_add (pe_op op_mod (pv 0) (pe_ix ix_list (pe_lst (pa_cons pe_int (pa_cons pe_int (pa_cons pe_int (pa_cons pe_int pa_nil))))) (pe_op op_mod (pv 1) pe_int) (fun _ _ => rfl))) (pe_op op_mul pe_int (pv 1))) pe_int))
   (pss_one (ps_ret (pe_op op_mod (pe_op op_mul (pe_op op_mod (pe_op op_mul (pv 2) (pv 2)) pe_int) pe_int) pe_int)))), ?_⟩
  refine ⟨_, rfl, by show 4 ≤ sizeLine; decide, fun p hp => ?_⟩
  have key : ∀ m : Int, 0 < m → m ≤ 2147483629 → (-(2 ^ 64) < c % m + 7919 * n + 13 ∧ c % m + 7919 * n + 13 < 2 ^ 64) := fun m m0 m1 => by
    have q1 := Int.emod_nonneg c (show m ≠ 0 by omega)
    have q2 := Int.emod_lt_of_pos c m0
    constructor <;> omega
  have h4 : n % 4 = 0 ∨ n % 4 = 1 ∨ n % 4 = 2 ∨ n % 4 = 3 := by omega
  refine ⟨_, rfl, _, _, rfl, rfl, (by show (0 : Int) < 4; decide), ?_⟩
  obtain ⟨m, m0, m1, e⟩ : ∃ m : Int, 0 < m ∧ m ≤ 2147483629 ∧ atI [V.int 1000000007, V.int 998244353, V.int 2147483629, V.int 1000000009] (n % 4) = some (.int m) := by
    rcases h4 with e | e | e | e <;> rw [e]
    · exact ⟨1000000007, by decide, by decide, rfl⟩
    · exact ⟨998244353, by decide, by decide, rfl⟩
    · exact ⟨2147483629, by decide, by decide, rfl⟩
    · exact ⟨1000000009, by decide, by decide, rfl⟩
  refine ⟨p, _, _, _, rfl, rfl, SqL.of upd_same, e, _, _, rfl, rfl, m0, _, rfl, _, _, rfl, rfl, .inl ⟨by decide, by decide⟩, _, _, rfl, rfl, _, _, rfl, rfl, ?_⟩
  have kk := key m m0 m1
  refine ⟨_, rfl, _, rfl, _, _, rfl, rfl, .inl kk, _, _, rfl, rfl, (by show (0 : Int) < 2147483647; decide), _, _, rfl, rfl, .inr ⟨by decide, by decide⟩, _, _, rfl, rfl, (by show (0 : Int) < 2147483647; decide), ?_⟩
  exact k _ _ (Same.upd hp)

def sp_l_draw : Sp := fun vs H Q _ => ∃ c k : Int, vs = [.int c, .int k] ∧ 0 ≤ k ∧ k ≤ 1000 ∧ ∀ H' p, Same H H' → H p = none → StAt H' p 1000000 → Q (.ref p) H'
theorem cal_l_draw (T : Txt K mg) : Cal P w K mg base 1 "_law_draw" sp_l_draw [] := by
  refine T.d_l_draw.cal sc_l_draw (fun vs H Q E h => ?_) (fun f cdv A outer s H vs Q E hr h => ?_) (fun _ _ _ _ _ _ us hl => match us, hl with | [_, _], _ => rfl)
  · obtain ⟨c, k, rfl, _⟩ := h; rfl
  obtain ⟨c, n, rfl, h0, h1, k⟩ := h
  have hu := hu_of hr
  refine ⟨_, (pss_one (ps_ret (pe_disp (pps_cons pe_str (pe_ifExp (pt_cmpR op_ge (pv 0) (pe_op op_pow pe_int pe_int) (nomark _)) (pv 0) pe_int) (pps_cons pe_str (pv 0) (pps_cons pe_str (pe_op op_mul pe_int (pv 1)) pps_nil))) (by rfl) (by rfl) (fun z => by cases z) (by decide)))), ?_⟩
  intro p hp
  have fin : ∀ z : Int, tPairs [(tC (.str "cell"), tVar 0), (tC (.str "turns"), tOp (rI CMul fun i j => .int (i * j)) (tC (.int 1000)) (tVar 1))] (start N_l_draw [.int c, .int n]) (upd H p (.dK [])) fun ps H2 => (fun ps' H2 => H2 p = some (.dK []) ∧ ∃ kvs : List (Key × V), ps' = kvs.map (fun kv => (kV kv.1, kv.2)) ∧ kvs.length ≤ 15 ∧ Q (.ref p) (upd H2 p (.dK (mergeK [] kvs)))) ((V.str "left", V.int z) :: ps) H2 := by
    intro z
    refine ⟨_, rfl, _, rfl, _, _, rfl, rfl, .inl ⟨by decide, by decide⟩, upd_same, [(.inr "left", .int z), (.inr "cell", .int c), (.inr "turns", .int (1000 * n))], rfl, by show 3 ≤ 15; decide, ?_⟩
    rw [upd_upd]
    refine k _ p (Same.upd hp) hp ⟨_, z, c, 1000 * n, upd_same, ?_, ?_, ?_, ?_, by omega, by omega⟩ <;> (unfold mergeK; simp only [List.foldl_cons, List.foldl_nil])
    · have q1 := length_putK ([] : List (Key × V)) (Sum.inr "left") (.int z)
      have q2 := length_putK (putK ([] : List (Key × V)) (Sum.inr "left") (.int z)) (Sum.inr "cell") (.int c)
      have q3 := length_putK (putK (putK ([] : List (Key × V)) (Sum.inr "left") (.int z)) (Sum.inr "cell") (.int c)) (Sum.inr "turns") (.int (1000 * n))
      simp only [List.length_nil] at q1
      omega
    · rw [val_put_ne ne_tl, val_put_ne ne_lc, val_put_same]
    · rw [val_put_ne ne_ct, val_put_same]
    · rw [val_put_same]
  refine ⟨_, rfl, _, _, rfl, rfl, ⟨by decide, by decide, by decide⟩, _, _, rfl, rfl, _, rfl, ?_⟩
  refine ite2 (fun _ => ?_) (fun _ => ?_)
  · exact ⟨_, rfl, fin c⟩
  · exact fin 0

/-- the next digit, one of so many; four steps of the state at the most -/
def sp_l_digit : Sp := fun vs H Q _ => ∃ (st : Addr) (m : Int) (N : Nat), vs = [.ref st, .int m] ∧ 1 ≤ m ∧ m < 1073741824 ∧ StAt H st N ∧ N ≤ 100000000000 ∧ ∀ H' d, 0 ≤ d → d < m → Kb st H H' → StAt H' st (N + 4) → Q (.int d) H'
theorem cal_l_digit (T : Txt K mg) : Cal P w K mg base 2 "_law_digit" sp_l_digit [] := by
  refine T.d_l_digit.cal sc_l_digit (fun vs H Q E h => ?_) (fun f cdv A outer s H vs Q E hr h => ?_) (fun _ _ _ _ _ _ us hl => match us, hl with | [_, _], _ => rfl)
  · obtain ⟨st, m, N, rfl, _⟩ := h; rfl
  obtain ⟨st, m, N, rfl, m1, m2, S, hN, k⟩ := h
  have hu := hu_of hr
  have C_l_mixed := cal_l_mixed (P := P) (w := w) (base := base) T
  refine ⟨_, (pss_cons (ps_if (pt_cmpR op_eq (pe_dget hu (pv 0) pe_str (fun _ _ => rfl)) pe_int (nomark _)) (pss_one (ps_for PassesOwn.never rfl (pi_range1 rfl T.b_range (pa_cons pe_int pa_nil)) (pg_name (i := 2) sc_l_digit.nd rfl (Or.inl rfl)) (pss_cons (ps_dput hu (pv 0) pe_str (pe_op op_add (pe_dget hu (pv 0) pe_str (fun _ _ => rfl)) pe_int) rfl) (pss_one (ps_dput hu (pv 0) pe_str (pe_op op_add (pe_op op_mul (pe_dget hu (pv 0) pe_str (fun _ _ => rfl)) pe_int) (pe_cl C_l_mixed hr (by omega) (by rfl) (pa_cons (pe_dget hu (pv 0) pe_str (fun _ _ => rfl)) (pa_cons (pe_dget hu (pv 0) pe_str (fun _ _ => rfl)) pa_nil)))) rfl))))) pss_nil)
   (pss_cons (ps_set (i := 3) sc_l_digit.nd rfl (Or.inl rfl) (pe_op op_mod (pe_dget hu (pv 0) pe_str (fun _ _ => rfl)) (pv 1)))
   (pss_cons (ps_dput hu (pv 0) pe_str (pe_op op_fdivN (pe_dget hu (pv 0) pe_str (fun _ _ => rfl)) (pv 1)) rfl)
   (pss_one (ps_ret (pv 3)))))), ?_⟩
  have tail : ∀ (D : Ends) (v2 : Option V) (H1 : Hp), D.rt = Q → Kb st H H1 → StAt H1 st (N + 4) → tSeq (tAsg (tOp (rI (fun _ j => 0 < j) fun i j => .int (i % j)) (tDGet (tVar 0) (tC (.str "left"))) (tVar 1)) (gName 3)) (tSeq (sDPut (tVar 0) (tC (.str "left")) (tOp (rI CDivN fun i j => .int (i.fdiv j)) (tDGet (tVar 0) (tC (.str "left"))) (tVar 1))) (tRet (tVar 3))) D [some (.ref st), some (.int m), v2, none] H1 := by
    intro D v2 H1 eD kb S1
    obtain ⟨kvs, l, c, t, h0, h1, h2, h3, h4, h5, h6⟩ := S1
    refine ⟨_, rfl, _, _, rfl, dgetS h0 h2, _, rfl, _, _, rfl, rfl, by omega, ?_⟩
    refine ⟨_, rfl, _, _, rfl, dgetS h0 h2, _, rfl, _, _, rfl, rfl, ⟨by omega, by omega⟩, ?_⟩
    refine ⟨_, rfl, st, _, rfl, DPut.k (k := Sum.inr "left") h0 (small1000 (by omega)), ?_⟩
    refine ⟨_, rfl, ?_⟩
    show D.rt _ _
    rw [eD]
    refine k _ _ (Int.emod_nonneg _ (by omega)) (Int.emod_lt_of_pos _ (by omega)) (kb.trans Kb.upd) ⟨_, _, c, t, upd_same, putK_le h2 h1, val_put_same, ?_, ?_, h5, h6⟩
    · rw [val_put_ne ne_cl]
      exact h3
    · rw [val_put_ne ne_lt]
      exact h4
  obtain ⟨kvs, l, c, t, h0, h1, h2, h3, h4, h5, h6⟩ := id S
  refine ⟨_, rfl, _, _, rfl, dgetS h0 h2, rfl, _, rfl, ?_⟩
  refine ite2 (fun _ => ?_) (fun _ => ?_)
  · refine ⟨4, rfl, by decide, by decide, for_range (lo := 0) (n := 4) (fun i σ H2 => ∃ v2 : Option V, σ = [some (.ref st), some (.int m), v2, none] ∧ Kb st H H2 ∧ StAt H2 st (N + i)) ⟨none, rfl, Kb.refl _ _, S⟩ ?_ ?_⟩
    · rintro i σ H2 hi ⟨v2, rfl, kb, S2⟩
      obtain ⟨kvs, l, c, t, h0, h1, h2, h3, h4, h5, h6⟩ := S2
      refine ⟨_, rfl, _, _, rfl, dgetS h0 h4, _, _, rfl, rfl, ?_⟩
      refine ⟨_, rfl, st, _, rfl, DPut.k (k := Sum.inr "turns") h0 (small1000 (by omega)), ?_⟩
      have g2 := (val_put_ne (v := .int (t + 1)) (kvs := kvs) ne_tl).trans h2
      have g3 := (val_put_ne (v := .int (t + 1)) (kvs := kvs) ne_ct).trans h3
      have g4 : valV (putK kvs (Sum.inr "turns") (.int (t + 1))) (Sum.inr "turns") = some (.int (t + 1)) := val_put_same
      have g1 := putK_le (v := .int (t + 1)) h4 h1
      refine ⟨_, rfl, _, _, rfl, dgetS upd_same g2, _, _, rfl, rfl, .inr ⟨by decide, by decide⟩, ?_⟩
      refine ⟨_, rfl, _, _, rfl, dgetS upd_same g3, _, rfl, _, _, rfl, dgetS upd_same g4, c, t + 1, rfl, by omega, by omega, fun H3 r s3 => ?_⟩
      have h0' := s3 _ _ (upd_same (H := H2) (a := st) (o := .dK (putK kvs (Sum.inr "turns") (.int (t + 1)))))
      refine ⟨_, _, rfl, rfl, _, rfl, st, _, rfl, DPut.k (k := Sum.inr "left") h0' (small1000 (by omega)), ?_⟩
      refine ⟨_, rfl, ?_, _, _, c, t + 1, upd_same, putK_le g2 g1, val_put_same, ?_, ?_, by omega, by omega⟩
      · exact (kb.trans Kb.upd).trans ((Same.kb s3).trans Kb.upd)
      · rw [val_put_ne ne_cl]
        exact g3
      · rw [val_put_ne ne_lt]
        exact g4
    · rintro σ H2 ⟨v2, rfl, kb, S2⟩
      exact tail _ v2 H2 rfl kb S2
  · exact tail _ none H rfl (Kb.refl _ _) (S.mono (Nat.le_add_right _ _))
end
end RD
set_option Elab.async false
set_option linter.all false
set_option maxRecDepth 100000
set_option maxHeartbeats 4000000
local macro_rules | `(tactic| walk_at "isT") => `(tactic| refine ⟨_, _, _, _, true, rfl, L2.ClsV.ty _, L2.TyX.base (by first | exact .int _ | exact .str _ | exact .bl _ | exact .non), L2.kit_ty (by decide +kernel), ?_⟩)
local macro_rules | `(tactic| walk_at "isF") => `(tactic| refine ⟨_, _, _, _, false, rfl, L2.ClsV.ty _, L2.TyX.base (by first | exact .int _ | exact .str _ | exact .bl _ | exact .non), L2.kit_ty (by decide +kernel), ?_⟩)
namespace RD
open PySem PySem.Spec PyProof.Rows L2
/-! ### words -/
def wrd (cs : List Nat) : Str := ⟨cs.toArray⟩
def sg1 (c : Nat) : Str := ⟨#[c]⟩
theorem joinL_one : ∀ cs : List Nat, TL.joinL [] (cs.map fun c => [c]) = cs
  | [] => rfl
  | [c] => rfl
  | c :: d :: r => by
    have ih := joinL_one (d :: r)
    show [c] ++ ([] ++ TL.joinL [] ((d :: r).map fun c => [c])) = c :: d :: r
    rw [ih]
    rfl
theorem join_wrd (cs : List Nat) : Txt.join "" (cs.map sg1) = wrd cs := by
  have e := SX.join_S [] (cs.map fun c => [c])
  rw [joinL_one, List.map_map] at e
  exact e
theorem letters_len : letters.cps.toList.length = 26 := by decide +kernel
theorem nameOk_wrd {cs : List Nat} (h1 : 1 ≤ cs.length) (h2 : cs.length ≤ 8) (h : ∀ c ∈ cs, c ∈ letters.cps.toList) : nameOk (wrd cs) = true := by
  have e : (wrd cs).length = cs.length := by simp [wrd, Str.length]
  unfold nameOk
  rw [e, decide_eq_true ⟨h1, h2⟩]
  have e2 : (wrd cs).cps.toList = cs := by simp [wrd]
  rw [e2, Bool.true_and, List.all_eq_true]
  exact fun c hc => decide_eq_true (h c hc)
theorem sum_ones (cs : List Nat) : ((cs.map sg1).map (·.length)).sum = cs.length := by
  induction cs with
  | nil => rfl
  | cons c r ih =>
    rw [List.map_cons, List.map_cons, List.sum_cons, ih, List.length_cons]
    have e : (sg1 c).length = 1 := rfl
    omega
theorem letter_at {d : Int} (h0 : 0 ≤ d) (h1 : d < 26) : ∃ c, c ∈ letters.cps.toList ∧ atI letters.cps.toList d = some c := by
  obtain ⟨n, rfl⟩ : ∃ n : Nat, d = n := ⟨d.toNat, by omega⟩
  have hl : n < letters.cps.toList.length := by rw [letters_len]; omega
  exact ⟨letters.cps.toList[n], List.getElem_mem hl, atI_nat (List.getElem?_eq_getElem hl)⟩
theorem mem_at {xs : List V} {d : Int} (h0 : 0 ≤ d) (h1 : d < (xs.length : Int)) : ∃ v, v ∈ xs ∧ atI xs d = some v := by
  obtain ⟨n, rfl⟩ : ∃ n : Nat, d = n := ⟨d.toNat, by omega⟩
  have hl : n < xs.length := by omega
  exact ⟨xs[n], List.getElem_mem hl, atI_nat (List.getElem?_eq_getElem hl)⟩
section
variable {P : Program} {w : World} {K : PySem.W.Frag} {mg : Str → Option Value} {base : Heap}
def sp_l_word : Sp := fun vs H Q _ => ∃ (st : Addr) (N : Nat), vs = [.ref st] ∧ StAt H st N ∧ N ≤ 10000000000 ∧ ∀ H' x, nameOk x = true → Kb st H H' → StAt H' st (N + 40) → Q (.str x) H'
theorem cal_l_word (T : Txt K mg) : Cal P w K mg base 3 "_law_word" sp_l_word [] := by
  refine T.d_l_word.cal sc_l_word (fun vs H Q E h => ?_) (fun f cdv A outer s H vs Q E hr h => ?_) (fun _ _ _ _ _ _ us hl => match us, hl with | [_], _ => rfl)
  · obtain ⟨st, N, rfl, _⟩ := h; rfl
  obtain ⟨st, N, rfl, S, hN, k⟩ := h
  have hu := hu_of hr
  have C_l_digit := cal_l_digit (P := P) (w := w) (base := base) T
  refine ⟨_, (pss_cons (ps_setLc (i := 1) (own := [("_law_j", 3)]) (g := gName 3) (tt := tYes) rfl sc_l_word.nd rfl rfl (sw_true rfl rfl rfl (by decide +kernel)) (pi_range1 rfl T.b_range (pa_cons (pe_op op_add pe_int (pe_cl C_l_digit hr (by omega) (by rfl) (pa_cons (pv 0) (pa_cons pe_int pa_nil)))) pa_nil)) (blkOk_by (N := N_l_word) (sc := defScope s_l_word) (by decide +kernel)) (fun _ _ _ _ _ => (pg_name (i := 3) sc_l_word.nd rfl (Or.inl rfl))) (fun _ _ _ _ _ => pts_nil) (fun _ _ _ _ _ => (pe_ix ix_str pe_str (pe_cl C_l_digit hr (by omega) (by rfl) (pa_cons (pv 0) (pa_cons pe_int pa_nil))) (fun _ _ => rfl))))
   (pss_cons (ps_set (i := 2) sc_l_word.nd rfl (Or.inl rfl) (pe_lst (pa_cons (pe_join pe_str (pv 1)) (pa_cons (pe_join pe_str (pe_slice sl_list (pv 1) po_none (po_some pe_int))) (pa_cons pe_str (pa_cons pe_str (pa_cons pe_str (pa_cons pe_str (pa_cons pe_str (pa_cons pe_str (pa_cons pe_str (pa_cons pe_str (pa_cons pe_str (pa_cons pe_str pa_nil))))))))))))))
   (pss_one (ps_ret (pe_ix ix_list (pv 2) (pe_cl C_l_digit hr (by omega) (by rfl) (pa_cons (pv 0) (pa_cons pe_int pa_nil))) (fun _ _ => rfl)))))), ?_⟩
  refine ⟨_, rfl, st, 8, N, rfl, by decide, by decide, S, by omega, fun H1 n n0 n1 kb1 S1 => ?_⟩
  refine ⟨_, _, rfl, rfl, _, rfl, by omega, by omega, fun D hD => ?_⟩
  have hsd : st ≠ D := fun z => S1.some (z ▸ hD)
  refine lc_range (lo := 0) (n := (1 + n).toNat) (σ := L2.start N_l_word [.ref st]) (fun i H2 => Kb st H1 H2 ∧ StAt H2 st (N + 4 + 4 * i) ∧ ∃ cs : List Nat, H2 D = some (.lst ((cs.map sg1).map V.str)) ∧ cs.length = i ∧ ∀ c ∈ cs, c ∈ letters.cps.toList)
    ⟨Same.kb (Same.upd hD), S1.same (Same.upd hD), [], upd_same, rfl, by simp⟩ ?_ ?_
  · rintro i H2 hi ⟨kb2, S2, cs, hc, hl, hm⟩
    refine ⟨rfl, _, rfl, st, 26, _, rfl, by decide, by decide, S2, by omega, fun H3 d d0 d1 kb3 S3 => ?_⟩
    obtain ⟨c, cm, ec⟩ := letter_at d0 d1
    have hc3 := kb3 _ _ hsd.symm hc
    refine ⟨letters, d, c, rfl, rfl, by decide +kernel, ec, _, hc3, ?_, ?_, ?_, cs ++ [c], ?_, ?_, ?_⟩
    · rw [List.length_map, List.length_map]
      exact small1000 (by omega)
    · exact fun b o nb h => by
        have nd : b ≠ D := fun z => by
          rw [z, hD] at h
          cases h
        rw [upd_ne nd]
        exact kb3 _ _ nb (kb2 _ _ nb h)
    · obtain ⟨kvs, a1, a2, a3, g0, g⟩ := S3
      refine StAt.mono (N := N + 4 + 4 * i + 4) ⟨kvs, a1, a2, a3, ?_, g⟩ (by omega)
      rw [upd_ne hsd]
      exact g0
    · rw [upd_same, List.map_append, List.map_append]
      rfl
    · rw [List.length_append, hl]
      rfl
    · intro c' h'
      rcases List.mem_append.mp h' with z | z
      · exact hm c' z
      · rw [List.mem_singleton.mp z]
        exact cm
  · rintro H2 ⟨kb2, S2, cs, hc, hl, hm⟩
    have l1 : 1 ≤ cs.length := by omega
    have l2 : cs.length ≤ 8 := by omega
    refine ⟨⟨_, rfl⟩, _, rfl, "", D, cs.map sg1, rfl, rfl, .inl (SqL.of hc), ?_, ?_⟩
    · rw [sum_ones, List.length_map]
      have e : ("" : Str).length = 0 := rfl
      rw [e]
      omega
    rw [join_wrd]
    refine ⟨⟨_, rfl⟩, _, rfl, _, rfl, D, _, rfl, SqL.of hc, fun p hp => ?_⟩
    have ec2 : cutV ((cs.map sg1).map V.str) none (some 2) = ((cs.take 2).map sg1).map V.str := by
      have e := cut_take ((cs.map sg1).map V.str) 2
      rw [List.map_take, List.map_take]
      exact e
    rw [ec2]
    refine ⟨"", p, (cs.take 2).map sg1, rfl, rfl, .inl (SqL.of upd_same), ?_, ?_⟩
    · rw [sum_ones, List.length_map, List.length_take]
      have e : ("" : Str).length = 0 := rfl
      rw [e]
      omega
    rw [join_wrd]
    have n1 : Same H2 (upd H2 p (.lst (((cs.take 2).map sg1).map V.str))) := Same.upd hp
    refine ⟨by show 12 ≤ sizeLine; decide, fun q hq => ?_⟩
    have n2 := n1.trans (Same.upd hq (o := .lst [V.str (wrd cs), V.str (wrd (cs.take 2)), V.str "a", V.str "ab", V.str "b", V.str "bell", V.str "away", V.str "tree", V.str "told", V.str "last", V.str "lost", V.str "ring"]))
    have S4 : StAt _ st (N + 36) := (S2.same n2).mono (by omega)
    refine ⟨_, rfl, _, rfl, st, 12, _, rfl, by decide, by decide, S4, by omega, fun H5 d d0 d1 kb5 S5 => ?_⟩
    have hq5 := kb5 q _ (fun z => S4.some (by
      have := S2.some
      exact absurd (z ▸ hq) (fun y => (S2.same n1).some y))) upd_same
    obtain ⟨v, vm, ev⟩ := mem_at (xs := [V.str (wrd cs), V.str (wrd (cs.take 2)), V.str "a", V.str "ab", V.str "b", V.str "bell", V.str "away", V.str "tree", V.str "told", V.str "last", V.str "lost", V.str "ring"]) d0 d1
    refine ⟨q, _, d, v, rfl, rfl, SqL.of hq5, ev, ?_⟩
    have kf : Kb st H H5 := ((kb1.trans kb2).trans (Same.kb n2)).trans kb5
    have w2 : nameOk (wrd (cs.take 2)) = true := nameOk_wrd (by rw [List.length_take]; omega) (by rw [List.length_take]; omega) fun c hc => hm c (List.mem_of_mem_take hc)
    have w1 : nameOk (wrd cs) = true := nameOk_wrd l1 l2 hm
    have fin : ∀ x : Str, nameOk x = true → Q (.str x) H5 := fun x hx => k H5 x hx kf S5
    simp only [List.mem_cons, List.not_mem_nil, or_false] at vm
    rcases vm with rfl | rfl | rfl | rfl | rfl | rfl | rfl | rfl | rfl | rfl | rfl | rfl
    · exact fin _ w1
    · exact fin _ w2
    all_goals exact fin _ (by decide +kernel)
end
end RD
set_option Elab.async false
set_option linter.all false
set_option maxRecDepth 100000
set_option maxHeartbeats 4000000
local macro_rules | `(tactic| walk_at "isT") => `(tactic| refine ⟨_, _, _, _, true, rfl, L2.ClsV.ty _, L2.TyX.base (by first | exact .int _ | exact .str _ | exact .bl _ | exact .non), L2.kit_ty (by decide +kernel), ?_⟩)
local macro_rules | `(tactic| walk_at "isF") => `(tactic| refine ⟨_, _, _, _, false, rfl, L2.ClsV.ty _, L2.TyX.base (by first | exact .int _ | exact .str _ | exact .bl _ | exact .non), L2.kit_ty (by decide +kernel), ?_⟩)
namespace RD
open PySem PySem.Spec PyProof.Rows L2
theorem ne_st {H : Hp} {st a : Addr} {N : Nat} {o : HO} (S : StAt H st N) (h : H a = some o) (hk : ∀ kvs, o ≠ .dK kvs) : a ≠ st := fun z => by
  obtain ⟨kvs, _, _, _, e, _⟩ := S
  rw [z, e] at h
  exact hk kvs (Option.some.inj h).symm
theorem mem_cut {xs : List V} {lo hi : Option Int} {v : V} (h : v ∈ cutV xs lo hi) : v ∈ xs := List.mem_of_mem_drop (List.mem_of_mem_take h)
theorem cut_neg {xs : List V} (h : 1 ≤ xs.length) (k : Nat) (hk : 1 ≤ k) : 1 ≤ (cutV xs (some (-(k : Int))) none).length := by
  have e : HT.sIx xs.length 0 (some (-(k : Int))) = (-(k : Int) + (xs.length : Int)).toNat := by
    show (if (-(k : Int)) < 0 then _ else _) = _
    rw [if_pos (by omega)]
  unfold cutV
  rw [e, HT.sIx_none, List.length_take, List.length_drop]
  omega
theorem PplOk.snoc {ps : List Pr} {p : Pr} (h : PplOk ps) (hp : PrOk p fun x => decide (x ∈ nmz ps)) : PplOk (ps ++ [p]) := fun i q hq => by
  by_cases hi : i < ps.length
  · rw [List.getElem?_append_left hi] at hq
    rw [List.take_append_of_le_length (Nat.le_of_lt hi)]
    exact h i q hq
  · rw [List.getElem?_append_right (by omega)] at hq
    have e : i = ps.length := by
      have := (List.getElem?_eq_some_iff.mp hq).1
      simp at this
      omega
    subst e
    simp at hq
    subst hq
    simpa using hp
theorem PplOk.nil : PplOk [] := fun i q hq => by simp at hq
section
variable {P : Program} {w : World} {K : PySem.W.Frag} {mg : Str → Option Value} {base : Heap}
def sp_l_pick : Sp := fun vs H Q _ => ∃ (st l : Addr) (N : Nat) (xs : List V), vs = [.ref st, .ref l] ∧ StAt H st N ∧ N ≤ 10000000000 ∧ H l = some (.lst xs) ∧ 1 ≤ xs.length ∧ xs.length ≤ 1000 ∧ ∀ H' v, v ∈ xs → Kb st H H' → StAt H' st (N + 4) → Q v H'
theorem cal_l_pick (T : Txt K mg) : Cal P w K mg base 3 "_law_pick" sp_l_pick [] := by
  refine T.d_l_pick.cal sc_l_pick (fun vs H Q E h => ?_) (fun f cdv A outer s H vs Q E hr h => ?_) (fun _ _ _ _ _ _ us hl => match us, hl with | [_, _], _ => rfl)
  · obtain ⟨st, l, N, xs, rfl, _⟩ := h; rfl
  obtain ⟨st, l, N, xs, rfl, S, hN, hl, x1, x2, k⟩ := h
  have hu := hu_of hr
  have C_l_digit := cal_l_digit (P := P) (w := w) (base := base) T
  have nls : l ≠ st := ne_st S hl (by intro _ z; cases z)
  refine ⟨_, (pss_one (ps_ret (pe_ix ix_list (pv 1) (pe_cl C_l_digit hr (by omega) (by rfl) (pa_cons (pv 0) (pa_cons (pe_callB call_len_seq (by rfl) T.b_len (by decide +kernel) (pa_cons (pv 1) pa_nil)) pa_nil))) (fun _ _ => rfl)))), ?_⟩
  refine ⟨_, rfl, _, rfl, _, rfl, l, _, rfl, .inl (SqL.of hl), st, _, N, rfl, by omega, by omega, S, by omega, fun H1 d d0 d1 kb S1 => ?_⟩
  obtain ⟨v, vm, ev⟩ := mem_at d0 d1
  exact ⟨l, xs, d, v, rfl, rfl, SqL.of (kb _ _ nls hl), ev, k H1 v vm kb S1⟩
def sp_l_place : Sp := fun vs H Q _ => ∃ (st : Addr) (m : Nat) (N : Nat), vs = [.ref st, .int (m : Nat)] ∧ StAt H st N ∧ N ≤ 1000000000 ∧ m ≤ 100 ∧ ∀ H' pl, (∀ n, pl = some n → n ≤ m) → Kb st H H' → StAt H' st (N + 4) → Q (plV pl) H'
theorem cal_l_place (T : Txt K mg) : Cal P w K mg base 4 "_law_place" sp_l_place [] := by
  refine T.d_l_place.cal sc_l_place (fun vs H Q E h => ?_) (fun f cdv A outer s H vs Q E hr h => ?_) (fun _ _ _ _ _ _ us hl => match us, hl with | [_, _], _ => rfl)
  · obtain ⟨st, m, N, rfl, _⟩ := h; rfl
  obtain ⟨st, m, N, rfl, S, hN, hm, k⟩ := h
  have hu := hu_of hr
  have C_l_pick := cal_l_pick (P := P) (w := w) (base := base) T
  refine ⟨_, (pss_one (ps_ret (pe_cl C_l_pick hr (by omega) (by rfl) (pa_cons (pv 0) (pa_cons (pe_op op_cat (pe_lst (pa_cons pe_non (pa_cons (pv 1) pa_nil))) (pe_listRg rfl rfl T.b_list (prg_1 rfl T.b_range (pe_op op_add (pv 1) pe_int)))) pa_nil))))), ?_⟩
  refine ⟨_, rfl, _, rfl, by show 2 ≤ sizeLine; decide, fun p hp => ?_⟩
  have n1 : Same H (upd H p (.lst [V.non, V.int (m : Nat)])) := Same.upd hp
  refine ⟨_, rfl, _, _, rfl, rfl, _, rfl, RgOk.of_le (by decide) (by omega) (by decide) (by omega), fun q hq => ?_⟩
  have n2 := n1.trans (Same.upd hq (o := .lst (rgV 0 ((m : Int) + 1))))
  have npq : p ≠ q := ne_of_none upd_same hq
  have lr : (rgV 0 ((m : Int) + 1)).length = m + 1 := by
    rw [rgV_length]
    omega
  refine ⟨p, q, _, _, rfl, rfl, Eq.trans (upd_ne npq) upd_same, upd_same, ?_, fun r hr => ?_⟩
  · rw [lr]
    exact Nat.le_of_lt (small1000 (by show 2 + (m + 1) ≤ 1000; omega))
  have n3 := n2.trans (Same.upd hr (o := .lst ([V.non, V.int (m : Nat)] ++ rgV 0 ((m : Int) + 1))))
  refine ⟨st, r, N, _, rfl, S.same n3, by omega, upd_same, ?_, ?_, fun H4 v vm kb S4 => ?_⟩
  · rw [List.length_append, lr]
    omega
  · rw [List.length_append, lr]
    show 2 + (m + 1) ≤ 1000
    omega
  · have kf := (Same.kb n3 (st := st)).trans kb
    rcases List.mem_append.mp vm with z | z
    · simp only [List.mem_cons, List.not_mem_nil, or_false] at z
      rcases z with rfl | rfl
      · exact k H4 none (fun n e => nomatch e) kf S4
      · exact k H4 (some m) (fun n e => by cases e; exact Nat.le_refl _) kf S4
    · unfold rgV at z
      obtain ⟨i, hi, rfl⟩ := List.mem_map.mp z
      have hi := List.mem_range.mp hi
      have e : V.int (0 + (i : Nat)) = plV (some i) := by
        show V.int (0 + (i : Int)) = V.int (i : Int)
        rw [Int.zero_add]
      rw [e]
      exact k H4 (some i) (fun n e => by cases e; omega) kf S4

/-! ### a drawn tree -/
def sp_l_tree : Sp := fun vs H Q _ => ∃ (st : Addr) (m : Nat) (N : Nat), vs = [.ref st, .int (m : Nat)] ∧ m ≤ 16 ∧ StAt H st N ∧ N ≤ 100000000 ∧ ∀ H' u t, TrOk t → t.ppl.length ≤ m → TAt H' u t → Kb st H H' → StAt H' st (N + 3000) → Q u H'
theorem cal_l_tree (T : Txt K mg) : Cal P w K mg base 4 "_law_tree" sp_l_tree [] := by
  refine T.d_l_tree.cal sc_l_tree (fun vs H Q E h => ?_) (fun f cdv A outer s H vs Q E hr h => ?_) (fun _ _ _ _ _ _ us hl => match us, hl with | [_, _], _ => rfl)
  · obtain ⟨st, m, N, rfl, _⟩ := h; rfl
  obtain ⟨st, m, N, rfl, hm, S, hN, k⟩ := h
  have hu := hu_of hr
  have C_l_digit := cal_l_digit (P := P) (w := w) (base := base) T
  have C_l_word := cal_l_word (P := P) (w := w) (base := base) T
  refine ⟨_, (pss_cons (ps_par (i := 2) (j := 3) (by rfl) sc_l_tree.nd rfl rfl (by decide) rfl rfl (pa_cons (pe_cl C_l_digit hr (by omega) (by rfl) (pa_cons (pv 0) (pa_cons pe_int pa_nil))) (pa_cons (pe_cl C_l_digit hr (by omega) (by rfl) (pa_cons (pv 0) (pa_cons (pe_op op_add (pv 1) pe_int) pa_nil))) pa_nil)) (by rfl))
   (pss_cons (ps_set (i := 4) sc_l_tree.nd rfl (Or.inl rfl) (pe_tup (pa_cons (pe_op op_add pe_int (pe_cl C_l_digit hr (by omega) (by rfl) (pa_cons (pv 0) (pa_cons pe_int pa_nil)))) (pa_cons (pe_cl C_l_digit hr (by omega) (by rfl) (pa_cons (pv 0) (pa_cons pe_int pa_nil))) pa_nil))))
   (pss_cons (ps_par (i := 5) (j := 6) (by rfl) sc_l_tree.nd rfl rfl (by decide) rfl rfl (pa_cons (pe_lst pa_nil) (pa_cons (pe_lst pa_nil) pa_nil)) (by rfl))
   (pss_cons (ps_for PassesOwn.never rfl (pi_range1 rfl T.b_range (pa_cons (pe_op op_mul pe_int (pv 3)) pa_nil)) (pg_name (i := 7) sc_l_tree.nd rfl (Or.inl rfl)) (pss_cons (ps_par (i := 8) (j := 9) (by rfl) sc_l_tree.nd rfl rfl (by decide) rfl rfl (pa_cons (pe_cl C_l_word hr (by omega) (by rfl) (pa_cons (pv 0) pa_nil)) (pa_cons (pe_ix ix_list (pe_lst (pa_cons pe_int (pa_cons pe_int (pa_cons pe_int (pa_cons (pe_op op_add pe_int (pe_cl C_l_digit hr (by omega) (by rfl) (pa_cons (pv 0) (pa_cons pe_int pa_nil)))) pa_nil))))) (pe_cl C_l_digit hr (by omega) (by rfl) (pa_cons (pv 0) (pa_cons pe_int pa_nil))) (fun _ _ => rfl)) pa_nil)) (by rfl)) (pss_cons (ps_set (i := 10) sc_l_tree.nd rfl (Or.inl rfl) (pe_op op_cat (pe_lst (pa_cons pe_str pa_nil)) (pv 5))) (pss_cons (ps_set (i := 10) sc_l_tree.nd rfl (Or.inl rfl) (pe_ix ix_list (pe_lst (pa_cons (pv 10) (pa_cons (pe_slice sl_list (pv 10) (po_some (pe_un un_neg pe_int)) po_none) (pa_cons (pe_slice sl_list (pv 10) po_none (po_some pe_int)) (pa_cons (pe_slice sl_list (pv 10) (po_some (pe_un un_neg pe_int)) po_none) pa_nil))))) (pv 2) (fun _ _ => rfl))) (pss_cons (ps_set (i := 11) sc_l_tree.nd rfl (Or.inl rfl) (pe_ix ix_list (pv 10) (pe_cl C_l_digit hr (by omega) (by rfl) (pa_cons (pv 0) (pa_cons (pe_callB call_len_seq (by rfl) T.b_len (by decide +kernel) (pa_cons (pv 10) pa_nil)) pa_nil))) (fun _ _ => rfl))) (pss_one (ps_if (PW.pt (pw_and (pt_cmpR op_notIn_seq (pv 8) (pv 5) (by rfl)) (pw_and1 (pt_cmpR op_lt (pe_callB call_len_seq (by rfl) T.b_len (by decide +kernel) (pa_cons (pv 5) pa_nil)) (pv 3) (nomark _))))) (pss_cons (ps_expr (pe_bm PySem.F.plainAttrs_list PySem.F.slot_list_append PySem.F.type_list_append mt_append (pv 5) (pa_cons (pv 8) pa_nil))) (pss_one (ps_expr (pe_bm PySem.F.plainAttrs_list PySem.F.slot_list_append PySem.F.type_list_append mt_append (pv 6) (pa_cons (pe_tup (pa_cons (pv 8) (pa_cons (pv 11) (pa_cons (pv 9) pa_nil)))) pa_nil))))) pss_nil)))))))
   (pss_one (ps_ret (pe_op op_catA (pv 4) (pe_tup (pa_cons (pe_callTy call_tuple_of (by rfl) T.b_tuple (by decide +kernel) (pa_cons (pv 6) pa_nil)) pa_nil))))))))), ?_⟩
  refine ⟨_, rfl, st, _, N, rfl, by decide, by decide, S, by omega, fun H1 way y0 y1 kb1 S1 => ?_⟩
  refine ⟨_, rfl, _, rfl, _, _, rfl, rfl, st, _, _, rfl, by omega, by omega, S1, by omega, fun H2 many z0 z1 kb2 S2 => ?_⟩
  refine ⟨_, _, rfl, ?_⟩
  refine ⟨_, rfl, st, _, _, rfl, by decide, by decide, S2, by omega, fun H3 wt w0 w1 kb3 S3 => ?_⟩
  refine ⟨_, _, rfl, rfl, ?_⟩
  refine ⟨_, rfl, st, _, _, rfl, by decide, by decide, S3, by omega, fun H4 dp dp0 dp1 kb4 S4 => ?_⟩
  refine ⟨by show 2 ≤ sizeLine; decide, fun hd hhd => ?_⟩
  have kb14 := ((kb1.trans kb2).trans kb3).trans kb4
  have n5 : Same H4 (upd H4 hd (.tup [V.int (1 + wt), V.int dp])) := Same.upd hhd
  refine ⟨Nat.zero_le _, fun ln hln => ⟨Nat.zero_le _, fun lp hlp => ⟨_, _, rfl, ?_⟩⟩⟩
  have n6 := n5.trans (Same.upd hln (o := .lst []))
  have n7 := n6.trans (Same.upd hlp (o := .lst []))
  have nlp : ln ≠ lp := ne_of_none upd_same hlp
  have kb7 := kb14.trans (Same.kb n7)
  have S7 := S4.same n7
  have hst : st ≠ ln := fun z => (S4.same n5).some (z ▸ hln)
  have hst2 : st ≠ lp := fun z => (S4.same n6).some (z ▸ hlp)
  have fln : H ln = none := kb14.free S.some (n5.free hln) hst.symm
  have flp : H lp = none := kb14.free S.some (n6.free hlp) hst2.symm
  refine ⟨_, rfl, _, _, rfl, rfl, .inl ⟨by decide, by decide⟩, _, rfl, by omega, by omega, ?_⟩
  refine for_range (lo := 0) (n := (2 * many).toNat) (fun i σ G => ∃ (a7 a8 a9 a10 a11 : Option V) (ps : List Pr) (us : List V), σ = [some (.ref st), some (.int (m : Nat)), some (.int way), some (.int many), some (.ref hd), some (.ref ln), some (.ref lp), a7, a8, a9, a10, a11] ∧
      Kb st H G ∧ StAt G st (N + 16 + 80 * i) ∧ G hd = some (.tup [V.int (1 + wt), V.int dp]) ∧ G ln = some (.lst ((nmz ps).map V.str)) ∧ G lp = some (.lst us) ∧ Paired (PAt G) us ps ∧ PplOk ps ∧ (ps.length : Int) ≤ many)
    ⟨none, none, none, none, none, [], [], rfl, kb7, S7.mono (by omega), ?_, ?_, upd_same, .nil, PplOk.nil, z0⟩ ?_ ?_
  · rw [upd_ne (ne_of_none (Eq.trans (upd_ne (ne_of_none upd_same hln)) upd_same) hlp), upd_ne (ne_of_none upd_same hln), upd_same]
  · rw [upd_ne nlp, upd_same]
    rfl
  · rintro i σ G hi ⟨a7, a8, a9, a10, a11, ps, us, rfl, kb, SG, ghd, gln, glp, rp, ok, hps⟩
    have psl : ps.length ≤ 16 := by omega
    have i32 : i < 32 := by omega
    -- word, span
    refine ⟨_, rfl, st, _, rfl, SG, by omega, fun G1 x xok k1 T1 => ?_⟩
    refine ⟨_, rfl, st, 60, _, rfl, by decide, by decide, T1, by omega, fun G2 sp sp0 sp1 k2 T2 => ?_⟩
    refine ⟨_, _, rfl, rfl, by show 4 ≤ sizeLine; decide, fun p1 hp1 => ?_⟩
    have m1 : Same G2 (upd G2 p1 (.lst [V.int 1, V.int 4, V.int 4, V.int (1 + sp)])) := Same.upd hp1
    refine ⟨_, rfl, st, 4, _, rfl, by decide, by decide, T2.same m1, by omega, fun G3 d d0 d1 k3 T3 => ?_⟩
    have np1 : p1 ≠ st := fun z => T2.some (z ▸ hp1)
    obtain ⟨v, vm, ev⟩ := mem_at (xs := [V.int 1, V.int 4, V.int 4, V.int (1 + sp)]) d0 d1
    obtain ⟨tk, rfl, t1, t2⟩ : ∃ tk : Int, v = .int tk ∧ 1 ≤ tk ∧ tk ≤ 60 := by
      simp only [List.mem_cons, List.not_mem_nil, or_false] at vm
      rcases vm with rfl | rfl | rfl | rfl
      · exact ⟨_, rfl, by decide, by decide⟩
      · exact ⟨_, rfl, by decide, by decide⟩
      · exact ⟨_, rfl, by decide, by decide⟩
      · exact ⟨_, rfl, by omega, by omega⟩
    refine ⟨p1, _, d, _, rfl, rfl, SqL.of (k3 _ _ np1 upd_same), ev, _, _, rfl, ?_⟩
    have kG3 : Kb st G G3 := ((k1.trans k2).trans (Same.kb m1)).trans k3
    have gln3 := kG3 _ _ hst.symm gln
    -- some
    refine ⟨by show 1 ≤ sizeLine; decide, fun p2 hp2 => ?_⟩
    have m2 : Same G3 (upd G3 p2 (.lst [V.str ""])) := Same.upd hp2
    refine ⟨_, rfl, p2, ln, _, _, rfl, rfl, upd_same, m2 _ _ gln3, ?_, fun p3 hp3 => ?_⟩
    · rw [List.length_map]
      unfold nmz
      rw [List.length_map]
      exact Nat.le_of_lt (small1000 (by show 1 + ps.length ≤ 1000; omega))
    have esome : [V.str ""] ++ (nmz ps).map V.str = (("" : Str) :: nmz ps).map V.str := rfl
    rw [esome]
    have m3 := m2.trans (Same.upd hp3 (o := .lst ((("" : Str) :: nmz ps).map V.str)))
    have e3 : (upd (upd G3 p2 (.lst [V.str ""])) p3 (.lst ((("" : Str) :: nmz ps).map V.str))) p3 = some (.lst ((("" : Str) :: nmz ps).map V.str)) := upd_same
    generalize hG4 : upd (upd G3 p2 (.lst [V.str ""])) p3 (.lst ((("" : Str) :: nmz ps).map V.str)) = G4 at m3 e3
    have lz : (("" : Str) :: nmz ps).length = ps.length + 1 := by simp [nmz]
    generalize hzs : (("" : Str) :: nmz ps) = zs at e3 lz
    refine ⟨_, rfl, _, rfl, _, rfl, _, rfl, p3, _, rfl, SqL.of e3, fun q1 hq1 => ?_⟩
    have r1 : Same G4 (upd G4 q1 (.lst (cutV (zs.map V.str) (some (-1)) none))) := Same.upd hq1
    refine ⟨_, rfl, _, rfl, p3, _, rfl, SqL.of (r1 _ _ e3), fun q2 hq2 => ?_⟩
    have r2 := r1.trans (Same.upd hq2 (o := .lst (cutV (zs.map V.str) none (some 2))))
    refine ⟨_, rfl, _, rfl, _, rfl, p3, _, rfl, SqL.of (r2 _ _ e3), fun q3 hq3 => ?_⟩
    have r3 := r2.trans (Same.upd hq3 (o := .lst (cutV (zs.map V.str) (some (-3)) none)))
    refine ⟨by show 4 ≤ sizeLine; decide, fun q4 hq4 => ?_⟩
    have r4 := r3.trans (Same.upd hq4 (o := .lst [V.ref p3, V.ref q1, V.ref q2, V.ref q3]))
    have e4 := r4 _ _ e3
    generalize hG8 : upd (upd (upd (upd G4 q1 (.lst (cutV (zs.map V.str) (some (-1)) none))) q2 (.lst (cutV (zs.map V.str) none (some 2)))) q3 (.lst (cutV (zs.map V.str) (some (-3)) none))) q4 (.lst [V.ref p3, V.ref q1, V.ref q2, V.ref q3]) = G8 at r4 e4
    have eq4 : G8 q4 = some (.lst [V.ref p3, V.ref q1, V.ref q2, V.ref q3]) := by rw [← hG8, upd_same]
    have eq3 : G8 q3 = some (.lst (cutV (zs.map V.str) (some (-3)) none)) := by rw [← hG8, upd_ne (ne_of_none upd_same hq4), upd_same]
    have eq2 : G8 q2 = some (.lst (cutV (zs.map V.str) none (some 2))) := by
      have n23 := ne_of_none upd_same hq3
      rw [← hG8, upd_ne (ne_of_none (Eq.trans (upd_ne n23) upd_same) hq4), upd_ne n23, upd_same]
    have eq1 : G8 q1 = some (.lst (cutV (zs.map V.str) (some (-1)) none)) := by
      have n12 := ne_of_none upd_same hq2
      have n13 := ne_of_none (Eq.trans (upd_ne n12) upd_same) hq3
      rw [← hG8, upd_ne (ne_of_none (Eq.trans (upd_ne n13) (Eq.trans (upd_ne n12) upd_same)) hq4), upd_ne n13, upd_ne n12, upd_same]
    have lzs : (zs.map V.str).length = ps.length + 1 := by rw [List.length_map, lz]
    have some_ok : ∀ v ∈ [V.ref p3, V.ref q1, V.ref q2, V.ref q3], ∃ l xs, v = .ref l ∧ G8 l = some (.lst xs) ∧ (∀ y ∈ xs, y ∈ zs.map V.str) ∧ 1 ≤ xs.length ∧ xs.length ≤ 1000 := by
      intro v vm
      simp only [List.mem_cons, List.not_mem_nil, or_false] at vm
      rcases vm with rfl | rfl | rfl | rfl
      · exact ⟨p3, _, rfl, e4, fun y h => h, by omega, by omega⟩
      · exact ⟨q1, _, rfl, eq1, fun y h => mem_cut h, cut_neg (by omega) 1 (by decide), Nat.le_trans (cutV_length _ _ _) (by omega)⟩
      · refine ⟨q2, _, rfl, eq2, fun y h => mem_cut h, ?_, Nat.le_trans (cutV_length _ _ _) (by omega)⟩
        have e := cut_take (zs.map V.str) 2
        have e : cutV (zs.map V.str) none (some 2) = _ := e
        rw [e, List.length_take]
        omega
      · exact ⟨q3, _, rfl, eq3, fun y h => mem_cut h, cut_neg (by omega) 3 (by decide), Nat.le_trans (cutV_length _ _ _) (by omega)⟩
    obtain ⟨v, vm2, ev2⟩ := mem_at (xs := [V.ref p3, V.ref q1, V.ref q2, V.ref q3]) y0 y1
    obtain ⟨sl, xs, rfl, hsl, xsub, x1, x2⟩ := some_ok v vm2
    refine ⟨_, rfl, q4, _, way, _, rfl, rfl, SqL.of eq4, ev2, ?_⟩
    -- chief
    have k8 : Kb st G G8 := kG3.trans (Same.kb (m3.trans r4))
    have T8 := T3.same (m3.trans r4)
    have nsl : sl ≠ st := ne_st T8 hsl (by intro _ z; cases z)
    refine ⟨_, rfl, _, rfl, _, rfl, sl, _, rfl, .inl (SqL.of hsl), st, _, _, rfl, by omega, by omega, T8, by omega, fun G9 d2 g0 g1 k9 T9 => ?_⟩
    obtain ⟨cv, cm, ecv⟩ := mem_at g0 g1
    obtain ⟨c, cz, rfl⟩ := List.mem_map.mp (xsub cv cm)
    refine ⟨sl, xs, d2, _, rfl, rfl, SqL.of (k9 _ _ nsl hsl), ecv, ?_⟩
    have kG9 : Kb st G G9 := k8.trans k9
    have gln9 := kG9 _ _ hst.symm gln
    have glp9 := kG9 _ _ hst2.symm glp
    have ghd9 := kG9 _ _ (fun z => SG.nt _ (z ▸ ghd)) ghd
    have rp9 := PsAt.tk (SG.kb kG9) rp
    have T9' : StAt G9 st (N + 16 + 80 * (i + 1)) := T9.mono (by omega)
    have cok : c = "" ∨ c ∈ nmz ps := by
      rw [← hzs] at cz
      exact List.mem_cons.mp cz
    -- if word not in names and len(names) < many
    refine ⟨_, rfl, _, rfl, ln, _, rfl, .inl (SqL.of gln9), rfl, flat_strs _, ?_⟩
    show ∃ b, V.bl (!inV (V.str x) ((nmz ps).map V.str)) = V.bl b ∧ _
    rw [inV_strs]
    have skip : ∀ a9' a10' a11' : Option V, ∃ (a7 a8 a9 a10 a11 : Option V) (ps : List Pr) (us : List V), [some (.ref st), some (.int (m : Nat)), some (.int way), some (.int many), some (.ref hd), some (.ref ln), some (.ref lp), some (.int (0 + (i : Nat))), some (.str x), a9', a10', a11'] = [some (.ref st), some (.int (m : Nat)), some (.int way), some (.int many), some (.ref hd), some (.ref ln), some (.ref lp), a7, a8, a9, a10, a11] ∧
      Kb st H G9 ∧ StAt G9 st (N + 16 + 80 * (i + 1)) ∧ G9 hd = some (.tup [V.int (1 + wt), V.int dp]) ∧ G9 ln = some (.lst ((nmz ps).map V.str)) ∧ G9 lp = some (.lst us) ∧ Paired (PAt G9) us ps ∧ PplOk ps ∧ (ps.length : Int) ≤ many := fun a9' a10' a11' => ⟨_, _, _, _, _, ps, us, rfl, kb.trans kG9, T9', ghd9, gln9, glp9, rp9, ok, hps⟩
    by_cases hx : x ∈ nmz ps
    · rw [decide_eq_true hx]
      exact ⟨_, rfl, iteF (skip _ _ _)⟩
    rw [decide_eq_false hx]
    refine ⟨_, rfl, iteT ⟨_, rfl, ln, _, rfl, .inl (SqL.of gln9), _, rfl, _, _, rfl, rfl, _, rfl, ?_⟩⟩
    have enm : ((nmz ps).map V.str).length = ps.length := by simp [nmz]
    refine ite2 (fun hlt => ?_) (fun _ => skip _ _ _)
    have hlt : ((((nmz ps).map V.str).length : Nat) : Int) < many := of_decide_eq_true hlt
    rw [enm] at hlt
    refine ⟨_, rfl, .inl ⟨rfl, _, SqL.of gln9⟩, _, rfl, ln, _, _, rfl, rfl, gln9, small1000 (by omega), ?_⟩
    have nlp9 : lp ≠ ln := nlp.symm
    refine ⟨_, rfl, .inl ⟨rfl, _, SqL.of (Eq.trans (upd_ne nlp9) glp9)⟩, _, rfl, _, rfl, _, rfl, by show 3 ≤ sizeLine; decide, fun z hz => ?_⟩
    have nz : Same (upd G9 ln (.lst ((nmz ps).map V.str ++ [V.str x]))) (upd (upd G9 ln (.lst ((nmz ps).map V.str ++ [V.str x]))) z (.tup [V.str x, V.str c, V.int tk])) := Same.upd hz
    have glp10 := nz _ _ (Eq.trans (upd_ne nlp9) glp9)
    have lus : us.length = ps.length := Paired.len rp9
    refine ⟨lp, us, _, rfl, rfl, glp10, small1000 (by omega), ?_⟩
    have nzln : z ≠ ln := fun q => by
      rw [q, upd_same] at hz
      cases hz
    have nzlp : z ≠ lp := fun q => by
      rw [q, upd_ne nlp9, glp9] at hz
      cases hz
    have up : ∀ b o, b ≠ ln → b ≠ lp → G9 b = some o → upd (upd (upd G9 ln (.lst ((nmz ps).map V.str ++ [V.str x]))) z (.tup [V.str x, V.str c, V.int tk])) lp (.lst (us ++ [V.ref z])) b = some o := fun b o h1 h2 h => by
      have h3 : upd G9 ln (.lst ((nmz ps).map V.str ++ [V.str x])) b = some o := by
        rw [upd_ne h1]
        exact h
      rw [upd_ne h2]
      exact nz _ _ h3
    have tkf : TK G9 (upd (upd (upd G9 ln (.lst ((nmz ps).map V.str ++ [V.str x]))) z (.tup [V.str x, V.str c, V.int tk])) lp (.lst (us ++ [V.ref z]))) := fun b ys h => up b _ (ne_of h gln9 (by intro q; cases q)) (ne_of h glp9 (by intro q; cases q)) h
    refine ⟨_, _, _, _, _, ps ++ [(x, c, tk)], us ++ [V.ref z], rfl, ?_, ?_, up _ _ (ne_of ghd9 gln9 (by intro q; cases q)) (ne_of ghd9 glp9 (by intro q; cases q)) ghd9, ?_, upd_same, ?_, ?_, ?_⟩
    · exact fun b o nb h => up b o (ne_of_none h fln) (ne_of_none h flp) ((kb.trans kG9) b o nb h)
    · obtain ⟨kvs, b1, b2, b3, g0, g⟩ := T9'
      exact ⟨kvs, b1, b2, b3, up _ _ hst hst2 g0, g⟩
    · rw [upd_ne nlp, upd_ne nzln.symm, upd_same]
      unfold nmz
      rw [List.map_append, List.map_append]
      rfl
    · refine Paired.app (PsAt.tk tkf rp9) (.cons ⟨z, rfl, ?_⟩ .nil)
      rw [upd_ne nzlp, upd_same]
    · exact ok.snoc ⟨xok, decide_eq_false hx, cok.imp id fun h => decide_eq_true h, t1, t2⟩
    · rw [List.length_append, List.length_singleton]
      omega
  · rintro σ G ⟨a7, a8, a9, a10, a11, ps, us, rfl, kb, SG, ghd, gln, glp, rp, ok, hps⟩
    refine ⟨_, rfl, _, rfl, lp, us, rfl, .inl ⟨SqL.of glp, fun p hp => ⟨by show 1 ≤ sizeLine; decide, fun q hq => ?_⟩⟩⟩
    have n1 : Same G (upd G p (.tup us)) := Same.upd hp
    have n2 := n1.trans (Same.upd hq (o := .tup [V.ref p]))
    have hqt : (upd (upd G p (.tup us)) q (.tup [V.ref p])) q = some (.tup [V.ref p]) := upd_same
    refine ⟨hd, q, _, _, rfl, rfl, SqT.of (n2 _ _ ghd), SqT.of hqt, by show 2 + 1 ≤ sizeLine; decide, (fun z => nomatch z), (fun _ z => nomatch z), fun _ _ r hr => ?_⟩
    have n3 := n2.trans (Same.upd hr (o := .tup ([V.int (1 + wt), V.int dp] ++ [V.ref p])))
    refine k _ _ ⟨1 + wt, dp, ps⟩ ⟨by show 1 ≤ 1 + wt; omega, by show 1 + wt ≤ 60; omega, dp0, by show dp ≤ 4; omega, by show ps.length ≤ 16; omega, ok⟩ (by show ps.length ≤ m; omega) ⟨r, p, us, rfl, upd_same, ?_, PsAt.tk (Same.tk n3) rp⟩ (kb.trans (Same.kb n3)) ((SG.same n3).mono (by omega))
    have hp' : upd (upd G p (.tup us)) q (.tup [V.ref p]) p = some (.tup us) := by
      rw [upd_ne (ne_of_none upd_same hq), upd_same]
    rw [upd_ne (ne_of_none hp' hr)]
    exact hp'
end
end RD
set_option Elab.async false
set_option linter.all false
set_option maxRecDepth 100000
set_option maxHeartbeats 4000000
local macro_rules | `(tactic| walk_at "isT") => `(tactic| refine ⟨_, _, _, _, true, rfl, L2.ClsV.ty _, L2.TyX.base (by first | exact .int _ | exact .str _ | exact .bl _ | exact .non), L2.kit_ty (by decide +kernel), ?_⟩)
local macro_rules | `(tactic| walk_at "isF") => `(tactic| refine ⟨_, _, _, _, false, rfl, L2.ClsV.ty _, L2.TyX.base (by first | exact .int _ | exact .str _ | exact .bl _ | exact .non), L2.kit_ty (by decide +kernel), ?_⟩)
namespace RD
open PySem PySem.Spec PyProof.Rows L2
/-! ### the law's own lists are made -/
def talkF (ps : List Pr) (x : Str) : Int := match named ps x with
  | some p => p.2.2
  | none => 0
theorem ownl_snoc (ps : List Pr) (p : Pr) (y : Str) : ownl (ps ++ [p]) y = ownl ps y ++ if p.2.1 = y then [p.1] else [] := by
  unfold ownl
  rw [List.filterMap_append]
  congr 1
  by_cases e : p.2.1 = y <;> simp [e]
theorem named_none {ps : List Pr} {x : Str} (h : x ∉ nmz ps) : named ps x = none := by
  unfold named
  rw [List.find?_eq_none]
  intro p hp e
  exact h (List.mem_map.mpr ⟨p, hp, of_decide_eq_true e⟩)
theorem talkF_snoc_ne (ps : List Pr) (p : Pr) {y : Str} (h : y ≠ p.1) : talkF (ps ++ [p]) y = talkF ps y := by
  unfold talkF named
  rw [List.find?_append]
  have e : ¬ p.1 = y := fun z => h z.symm
  cases ps.find? fun q => decide (q.1 = y) <;> simp [e]
theorem talkF_snoc_same (ps : List Pr) (p : Pr) (h : p.1 ∉ nmz ps) : talkF (ps ++ [p]) p.1 = p.2.2 := by
  have e := named_none h
  unfold named at e
  unfold talkF named
  rw [List.find?_append, e]
  simp
theorem PplOk.take {ps : List Pr} (h : PplOk ps) (n : Nat) : PplOk (ps.take n) := fun i p hp => by
  by_cases hi : i < n
  · rw [List.getElem?_take_of_lt hi] at hp
    have e : (ps.take n).take i = ps.take i := by rw [List.take_take, Nat.min_eq_left (Nat.le_of_lt hi)]
    rw [e]
    exact h i p hp
  · rw [List.getElem?_take_eq_none (by omega)] at hp
    cases hp
/-- who stands ahead has a caller ahead -/
theorem PplOk.callers {ps : List Pr} (h : PplOk ps) {q : Pr} (hq : q ∈ ps) : q.2.1 = "" ∨ q.2.1 ∈ nmz ps := by
  obtain ⟨i, hi⟩ := List.getElem?_of_mem hq
  rcases (h i q hi).2.2.1 with e | e
  · exact .inl e
  · refine .inr ?_
    obtain ⟨p, hp, e2⟩ := List.mem_map.mp (of_decide_eq_true e)
    exact List.mem_map.mpr ⟨p, List.mem_of_mem_take hp, e2⟩
theorem PplOk.nodup {ps : List Pr} (h : PplOk ps) : (nmz ps).Nodup := by
  unfold nmz
  refine List.pairwise_iff_getElem.mpr fun i j hi hj hij e => ?_
  rw [List.length_map] at hi hj
  rw [List.getElem_map, List.getElem_map] at e
  have z := (h j _ (List.getElem?_eq_getElem hj)).2.1
  refine absurd ?_ (of_decide_eq_false z)
  rw [← e]
  exact List.mem_map.mpr ⟨ps[i], List.mem_of_getElem? (i := i) (by rw [List.getElem?_take_of_lt hij, List.getElem?_eq_getElem hi]), rfl⟩
theorem nameOk_ne {x : Str} (h : nameOk x = true) : x ≠ "" := fun e => by
  have q := (nameOk_len h).1
  rw [e] at q
  exact absurd q (by decide)
theorem mergeK_len : ∀ (l acc : List (Key × V)), (mergeK acc l).length ≤ acc.length + l.length
  | [], acc => Nat.le_refl _
  | p :: r, acc => by
    have ih := mergeK_len r (putK acc p.1 p.2)
    have q := length_putK acc p.1 p.2
    rw [List.length_cons]
    show (mergeK (putK acc p.1 p.2) r).length ≤ _
    omega
section
variable {P : Program} {w : World} {K : PySem.W.Frag} {mg : Str → Option Value} {base : Heap}
def sp_l_own : Sp := fun vs H Q _ => ∃ (v : V) (t : Tr) (st : Addr), vs = [v] ∧ TAt H v t ∧ PplOk t.ppl ∧ t.ppl.length ≤ 16 ∧ H st ≠ none ∧ ∀ H' o, OwnAt st H H' o t.wait t.deep (("" : Str) :: nmz t.ppl) (ownl t.ppl) (nmz t.ppl) (talkF t.ppl) → Same H H' → Q (.ref o) H'
theorem cal_l_own (T : Txt K mg) : Cal P w K mg base 1 "_law_own" sp_l_own [] := by
  refine T.d_l_own.cal sc_l_own (fun vs H Q E h => ?_) (fun f cdv A outer s H vs Q E hr h => ?_) (fun _ _ _ _ _ _ us hl => match us, hl with | [_], _ => rfl)
  · obtain ⟨v, t, st, rfl, _⟩ := h; rfl
  obtain ⟨v, t, st, rfl, ⟨a, b, ps, rfl, ha, hb, rp⟩, ok, hn, hst, k⟩ := h
  have hu := hu_of hr
  refine ⟨_, (pss_cons (ps_set (i := 1) sc_l_own.nd rfl (Or.inl rfl) (pe_disp (pps_cons pe_str (pe_ix ix_tup (pv 0) pe_int (fun _ _ => rfl)) (pps_cons pe_str (pe_ix ix_tup (pv 0) pe_int (fun _ _ => rfl)) (pps_cons pe_str (pe_disp (pps_cons pe_str (pe_lst pa_nil) pps_nil) (by rfl) (by rfl) (fun z => by cases z) (by decide)) (pps_cons pe_str pe_dnewK pps_nil)))) (by rfl) (by rfl) (fun z => by cases z) (by decide)))
   (pss_cons (ps_for PassesOwn.never rfl (pi_tup (pe_ix ix_tup (pv 0) pe_int (fun _ _ => rfl))) (pg_tup (by rfl) (pgs_cons (pg_name (i := 2) sc_l_own.nd rfl (Or.inl rfl)) (pgs_cons (pg_name (i := 3) sc_l_own.nd rfl (Or.inl rfl)) (pgs_cons (pg_name (i := 4) sc_l_own.nd rfl (Or.inl rfl)) pgs_nil)))) (pss_cons (ps_dput hu (pe_dget hu (pv 1) pe_str (fun _ _ => rfl)) (pv 2) (pe_lst pa_nil) rfl) (pss_cons (ps_expr (pe_bm PySem.F.plainAttrs_list PySem.F.slot_list_append PySem.F.type_list_append mt_append (pe_dget hu (pe_dget hu (pv 1) pe_str (fun _ _ => rfl)) (pv 3) (fun _ _ => rfl)) (pa_cons (pv 2) pa_nil))) (pss_one (ps_dput hu (pe_dget hu (pv 1) pe_str (fun _ _ => rfl)) (pv 2) (pv 4) rfl)))))
   (pss_one (ps_ret (pv 1))))), ?_⟩
  intro o ho
  have n1 : Same H (upd H o (.dK [])) := Same.upd ho
  refine ⟨_, rfl, _, _, _, _, rfl, rfl, SqT.of (n1 _ _ ha), rfl, ?_⟩
  refine ⟨_, rfl, _, _, _, _, rfl, rfl, SqT.of (n1 _ _ ha), rfl, ?_⟩
  intro dl hdl
  refine ⟨Nat.zero_le _, fun l hl => ?_⟩
  have ndl : dl ≠ l := ne_of_none upd_same hl
  refine ⟨Eq.trans (upd_ne ndl) upd_same, [(Sum.inr "", .ref l)], rfl, by show 1 ≤ 15; decide, ?_⟩
  intro dt hdt
  have nol : o ≠ dl := ne_of_none upd_same hdl
  have nol2 : o ≠ l := ne_of_none (Eq.trans (upd_ne nol) upd_same) hl
  have em : mergeK [] [((Sum.inr "" : Key), V.ref l)] = mapD [""] fun _ => .ref l := rfl
  rw [em] at hdt ⊢
  have nldl : l ≠ dl := ndl.symm
  have nodt : o ≠ dt := ne_of_none (Eq.trans (upd_ne nol) (Eq.trans (upd_ne nol2) (Eq.trans (upd_ne nol) upd_same))) hdt
  have ndlt : dl ≠ dt := ne_of_none upd_same hdt
  have nldt : l ≠ dt := ne_of_none (Eq.trans (upd_ne nldl) upd_same) hdt
  refine ⟨?_, [(Sum.inr "wait", .int t.wait), (Sum.inr "deep", .int t.deep), (Sum.inr "lists", .ref dl), (Sum.inr "talks", .ref dt)], rfl, by show 4 ≤ 15; decide, ?_⟩
  · rw [upd_ne nodt, upd_ne nol, upd_ne nol2, upd_ne nol, upd_same]
  have f1 : H dl = none := by
    rw [upd_ne nol.symm] at hdl
    exact hdl
  have f2 : H l = none := by
    rw [upd_ne ndl.symm, upd_ne nol2.symm] at hl
    exact hl
  have f3 : H dt = none := by
    rw [upd_ne ndlt.symm, upd_ne nldt.symm, upd_ne ndlt.symm, upd_ne nodt.symm] at hdt
    exact hdt
  have X0 : OwnX st H (upd (upd (upd (upd (upd (upd H o (.dK [])) dl (.dK [])) l (.lst [])) dl (.dK (mapD [""] fun _ => .ref l))) dt (.dK [])) o (.dK (mergeK [] [(Sum.inr "wait", .int t.wait), (Sum.inr "deep", .int t.deep), (Sum.inr "lists", .ref dl), (Sum.inr "talks", .ref dt)]))) o t.wait t.deep [""] (fun _ => []) [] (fun _ => 0)
      (mergeK [] [(Sum.inr "wait", .int t.wait), (Sum.inr "deep", .int t.deep), (Sum.inr "lists", .ref dl), (Sum.inr "talks", .ref dt)]) dl dt (fun _ => l) := by
    refine ⟨upd_same, ?_, ?_, ?_, ?_, ?_, ?_, ?_, fun x m => ?_, ?_, nol, nodt, ndlt, ho, f1, f3, fun x _ => f2, fun b u nb hb => ?_, hst, by simp, by simp, by decide, by decide, fun x _ => by decide⟩
    · exact mergeK_len _ []
    · unfold mergeK
      simp only [List.foldl_cons, List.foldl_nil]
      rw [val_put_ne (by decide +kernel), val_put_ne (by decide +kernel), val_put_ne (by decide +kernel), val_put_same]
    · unfold mergeK
      simp only [List.foldl_cons, List.foldl_nil]
      rw [val_put_ne (by decide +kernel), val_put_ne (by decide +kernel), val_put_same]
    · unfold mergeK
      simp only [List.foldl_cons, List.foldl_nil]
      rw [val_put_ne (by decide +kernel), val_put_same]
    · unfold mergeK
      simp only [List.foldl_cons, List.foldl_nil]
      rw [val_put_same]
    · rw [upd_ne nol.symm, upd_ne ndlt, upd_same]
    · rw [upd_ne nodt.symm, upd_same]
      rfl
    · rw [upd_ne nol2.symm, upd_ne nldt, upd_ne nldl, upd_same]
      rfl
    · intro x mx y my _
      rw [List.mem_singleton.mp mx, List.mem_singleton.mp my]
    · rw [upd_ne (ne_of_none hb ho), upd_ne (ne_of_none hb f3), upd_ne (ne_of_none hb f1), upd_ne (ne_of_none hb f2), upd_ne (ne_of_none hb f1), upd_ne (ne_of_none hb ho)]
      exact hb
  have hst' : (upd (upd (upd (upd (upd (upd H o (.dK [])) dl (.dK [])) l (.lst [])) dl (.dK (mapD [""] fun _ => .ref l))) dt (.dK [])) o (.dK (mergeK [] [(Sum.inr "wait", .int t.wait), (Sum.inr "deep", .int t.deep), (Sum.inr "lists", .ref dl), (Sum.inr "talks", .ref dt)]))) st = H st := by
    have q : ∀ a, H a = none → st ≠ a := fun a z e => hst (e ▸ z)
    rw [upd_ne (q _ ho), upd_ne (q _ f3), upd_ne (q _ f1), upd_ne (q _ f2), upd_ne (q _ f1), upd_ne (q _ ho)]
  generalize (mergeK [] [((Sum.inr "wait" : Key), V.int t.wait), (Sum.inr "deep", .int t.deep), (Sum.inr "lists", .ref dl), (Sum.inr "talks", .ref dt)]) = kvs at X0 hst' ⊢
  generalize (upd (upd (upd (upd (upd (upd H o (.dK [])) dl (.dK [])) l (.lst [])) dl (.dK (mapD [""] fun _ => .ref l))) dt (.dK [])) o (.dK kvs)) = HF at X0 hst' ⊢
  have ab : ∀ {G ad ks ls nm tf}, OwnX st H G o t.wait t.deep ks ls nm tf kvs dl dt ad → G st = H st → Same H G := fun X e c u h => by
    by_cases q : c = st
    · rw [q, e, ← q]
      exact h
    · exact X.kb c u q h
  have s0 := ab X0 hst'
  refine ⟨_, rfl, _, _, _, _, rfl, rfl, SqT.of (s0 _ _ ha), rfl, _, rfl, ⟨_, SqT.of (s0 _ _ hb)⟩, ?_⟩
  refine for_it walk_tup (fun i σ G => ∃ (v2 v3 v4 : Option V) (ad : Str → Addr), σ = [some (.ref a), some (.ref o), v2, v3, v4] ∧ G st = H st ∧ OwnX st H G o t.wait t.deep (("" : Str) :: nmz (t.ppl.take i)) (ownl (t.ppl.take i)) (nmz (t.ppl.take i)) (talkF (t.ppl.take i)) kvs dl dt ad)
    ⟨none, none, none, _, rfl, hst', X0⟩ (fun i σ G _ ⟨_, _, _, _, _, e, X⟩ => SqT.of (ab X e _ _ hb)) ?_ ?_
  · rintro i x σ G G1 hi ⟨v2, v3, v4, ad, rfl, e, X⟩ ⟨rfl, hx⟩
    have s1 := ab X e
    obtain ⟨p, hp, c, rfl, hc⟩ := Paired.get (PsAt.tk (Same.tk s1) rp) hx
    have pok := ok i p hp
    have i16 : i < 16 := by
      have := (List.getElem?_eq_some_iff.mp hp).1
      omega
    have et : t.ppl.take (i + 1) = t.ppl.take i ++ [p] := by
      rw [List.take_succ, hp]
      rfl
    have tok := PplOk.take ok i
    have lt : (t.ppl.take i).length ≤ 16 := Nat.le_trans (List.length_take_le _ _) (by omega)
    have ln : (nmz (t.ppl.take i)).length ≤ 16 := by
      unfold nmz
      rw [List.length_map]
      exact lt
    have nx : p.1 ∉ nmz (t.ppl.take i) := of_decide_eq_false pok.2.1
    have nk : p.1 ∉ ("" : Str) :: nmz (t.ppl.take i) := fun z => (List.mem_cons.mp z).elim (nameOk_ne pok.1) nx
    have ck : p.2.1 ∈ ("" : Str) :: nmz (t.ppl.take i) := pok.2.2.1.elim (fun z => z ▸ List.mem_cons_self ..) fun z => List.mem_cons_of_mem _ (of_decide_eq_true z)
    have nc : p.2.1 ≠ p.1 := fun z => nk (z ▸ ck)
    have none_ : ownl (t.ppl.take i) p.1 = [] := by
      unfold ownl
      rw [List.filterMap_eq_nil_iff]
      intro q hq
      refine if_neg fun z => ?_
      rcases tok.callers hq with y | y
      · exact nameOk_ne pok.1 (z ▸ y)
      · exact nx (z ▸ y)
    refine ⟨_, _, rfl, SqT.of hc, rfl, _, _, rfl, _, _, rfl, _, _, rfl, rfl, ?_⟩
    -- lists[who] = []
    refine ⟨Nat.zero_le _, fun q hq => ?_⟩
    have Xq := X.same (Same.upd hq (o := .lst []))
    refine ⟨_, rfl, _, _, rfl, dgetS Xq.ho Xq.el, _, rfl, dl, _, rfl, DPut.k (k := Sum.inr p.1) Xq.hl (small1000 (by rw [mapD_len]; exact Nat.le_trans Xq.few (by decide))), ?_⟩
    have fq : H q = none := by
      cases z : H q with
      | none => rfl
      | some u =>
        rw [s1 _ _ z] at hq
        cases hq
    have X1 := Xq.newKey nk (p := q) (new := []) upd_same fq (fun y my z => by
      have := X.hx y my
      rw [z, hq] at this
      cases this) (Nat.zero_le _) (by rw [List.length_cons]; omega)
    have es1 : ∀ z, z ≠ st → True := fun _ _ => trivial
    have nst : ∀ z, H z = none → st ≠ z := fun z h q => hst (q ▸ h)
    -- lists[chief].append(who)
    have ck1 : p.2.1 ∈ (("" : Str) :: nmz (t.ppl.take i)) ++ [p.1] := List.mem_append_left _ ck
    have hcl := X1.hx _ ck1
    refine ⟨_, rfl, _, _, rfl, dgetS X1.ho X1.el, _, rfl, _, _, rfl, dgetM X1.hl ck1, .inl ⟨rfl, _, SqL.of hcl⟩, _, rfl, _, _, _, rfl, rfl, hcl, small1000 (by rw [List.length_map]; exact Nat.le_trans (X1.fwl _ ck1) (by decide)), ?_⟩
    have ls2 : (updF (ownl (t.ppl.take i)) p.1 [] p.2.1 ++ [p.1]).length ≤ 50 := by
      rw [updF_ne nc, List.length_append, List.length_singleton]
      have := ownl_len (t.ppl.take i) p.2.1
      omega
    have X2 := X1.setList ck1 (new := updF (ownl (t.ppl.take i)) p.1 [] p.2.1 ++ [p.1]) ls2
    have eapp : (List.map V.str (updF (ownl (t.ppl.take i)) p.1 [] p.2.1 ++ [p.1])) = List.map V.str (updF (ownl (t.ppl.take i)) p.1 [] p.2.1) ++ [V.str p.1] := by rw [List.map_append]; rfl
    rw [eapp] at X2
    -- talks[who] = span
    refine ⟨_, rfl, _, rfl, _, _, rfl, dgetS X2.ho X2.et, _, rfl, dt, _, rfl, DPut.k (k := Sum.inr p.1) X2.ht (small1000 (by rw [mapD_len]; omega)), ?_⟩
    have X3 := X2.newTalk nx p.2.2 (by omega)
    refine ⟨_, _, _, updF ad p.1 q, rfl, ?_, ?_⟩
    · rw [upd_ne (nst _ f3), upd_ne (nst _ (X1.fx _ ck1)), upd_ne (nst _ f1), upd_ne (nst _ fq)]
      exact e
    · have ekeys : ("" : Str) :: nmz (t.ppl.take (i + 1)) = (("" : Str) :: nmz (t.ppl.take i)) ++ [p.1] := by
        rw [et]
        simp [nmz]
      have enm : nmz (t.ppl.take (i + 1)) = nmz (t.ppl.take i) ++ [p.1] := by
        rw [et]
        simp [nmz]
      rw [ekeys, enm, et]
      refine X3.congr (fun y my => ?_) fun y my => ?_
      · rw [ownl_snoc]
        by_cases e1 : y = p.2.1
        · rw [e1, updF_same, updF_ne nc, if_pos rfl]
        · have e1' : ¬ p.2.1 = y := fun z => e1 z.symm
          rw [updF_ne e1, if_neg e1', List.append_nil]
          by_cases e2 : y = p.1
          · rw [e2, updF_same, none_]
          · rw [updF_ne e2]
      · by_cases e1 : y = p.1
        · rw [e1, updF_same, talkF_snoc_same _ _ nx]
        · rw [updF_ne e1, talkF_snoc_ne _ _ e1]
  · rintro σ G ⟨v2, v3, v4, ad, rfl, e, X⟩
    have lz : ps.length = t.ppl.length := Paired.len rp
    rw [lz, List.take_length] at X
    exact ⟨_, rfl, k G o ⟨_, _, _, _, X⟩ (ab X e)⟩
end
end RD
set_option Elab.async false
set_option linter.all false
set_option maxRecDepth 100000
set_option maxHeartbeats 4000000
local macro_rules | `(tactic| walk_at "isT") => `(tactic| refine ⟨_, _, _, _, true, rfl, L2.ClsV.ty _, L2.TyX.base (by first | exact .int _ | exact .str _ | exact .bl _ | exact .non), L2.kit_ty (by decide +kernel), ?_⟩)
local macro_rules | `(tactic| walk_at "isF") => `(tactic| refine ⟨_, _, _, _, false, rfl, L2.ClsV.ty _, L2.TyX.base (by first | exact .int _ | exact .str _ | exact .bl _ | exact .non), L2.kit_ty (by decide +kernel), ?_⟩)
namespace RD
open PySem PySem.Spec PyProof.Rows L2
/-- rows below x, by lists and talks, n levels deep -/
def walkR (ls : Str → List Str) (tf : Str → Int) : Nat → Str → List Pr
  | 0, _ => []
  | n + 1, x => (ls x).flatMap fun c => (c, x, tf c) :: walkR ls tf n c
/-- all below x, at most n levels deep, have lists and talks -/
def Rch (keys nm : List Str) (ls : Str → List Str) : Nat → Str → Prop
  | 0, x => x ∈ keys ∧ ls x = []
  | n + 1, x => x ∈ keys ∧ ∀ c ∈ ls x, c ∈ nm ∧ Rch keys nm ls n c
theorem Rch.key {keys nm : List Str} {ls : Str → List Str} : ∀ {n : Nat} {x : Str}, Rch keys nm ls n x → x ∈ keys
  | 0, _, h => h.1
  | _ + 1, _, h => h.1
theorem flat_take_le {α β : Type} (g : α → List β) (l : List α) (i : Nat) : ((l.take i).flatMap g).length ≤ (l.flatMap g).length := by
  have e : l = l.take i ++ l.drop i := (List.take_append_drop i l).symm
  conv => rhs; rw [e]
  rw [List.flatMap_append, List.length_append]
  exact Nat.le_add_right _ _
theorem take_flatG {α β : Type} (g : α → List β) {l : List α} {i : Nat} {c : α} (h : l[i]? = some c) : (l.take (i + 1)).flatMap g = (l.take i).flatMap g ++ g c := by
  rw [List.take_succ, h, List.flatMap_append]
  simp
section
variable {P : Program} {w : World} {K : PySem.W.Frag} {mg : Str → Option Value} {base : Heap}
def sp_lw : Nat → Sp
  | 0 => fun _ _ _ _ => False
  | n + 1 => fun vs H Q _ => ∃ (o st : Addr) (H0 : Hp) (x : Str) (wt dp : Int) (keys : List Str) (ls : Str → List Str) (nm : List Str) (tf : Str → Int), vs = [.ref o, .str x] ∧ OwnAt st H0 H o wt dp keys ls nm tf ∧ Rch keys nm ls n x ∧ (walkR ls tf n x).length ≤ 900 ∧
      ∀ H' l us, Same H H' → H l = none → H' l = some (.lst us) → Paired (PAt H') us (walkR ls tf n x) → Q (.ref l) H'
theorem len_lw : ∀ n vs H Q E, sp_lw n vs H Q E → vs.length = P_l_walk.length := fun n vs H Q E h => by
  cases n with
  | zero => exact h.elim
  | succ n =>
    obtain ⟨o, st, H0, x, wt, dp, keys, ls, nm, tf, rfl, _⟩ := h
    rfl
theorem cal_lw_step (T : Txt K mg) (n : Nat) (C_l_walk : Cal P w K mg base (1 + n) "_law_walk" (sp_lw n) []) : Cal P w K mg base (1 + n + 1) "_law_walk" (sp_lw (n + 1)) [] := by
  refine T.d_l_walk.cal sc_l_walk (len_lw (n + 1)) (fun f cdv A outer s H vs Q E hr h => ?_) (fun _ _ _ _ _ _ us hl => match us, hl with | [_, _], _ => rfl)
  obtain ⟨o, st, H0, x, wt, dp, keys, ls, nm, tf, rfl, ⟨kvs, dl, dt, ad, X⟩, hre, hlen, k⟩ := h
  have hu := hu_of hr
  have xk := hre.key
  refine ⟨_, (pss_cons (ps_set (i := 2) sc_l_walk.nd rfl (Or.inl rfl) (pe_lst pa_nil))
   (pss_cons (ps_for PassesOwn.never rfl (pi_list (pe_dget hu (pe_dget hu (pv 0) pe_str (fun _ _ => rfl)) (pv 1) (fun _ _ => rfl))) (pg_name (i := 3) sc_l_walk.nd rfl (Or.inl rfl)) (pss_one (ps_set (i := 2) sc_l_walk.nd rfl (Or.inl rfl) (pe_op op_cat (pe_op op_cat (pv 2) (pe_lst (pa_cons (pe_tup (pa_cons (pv 3) (pa_cons (pv 1) (pa_cons (pe_dget hu (pe_dget hu (pv 0) pe_str (fun _ _ => rfl)) (pv 3) (fun _ _ => rfl)) pa_nil)))) pa_nil))) (pe_cl C_l_walk hr (by omega) (by rfl) (pa_cons (pv 0) (pa_cons (pv 3) pa_nil)))))))
   (pss_one (ps_ret (pv 2))))), ?_⟩
  refine ⟨Nat.zero_le _, fun l0 hl0 => ?_⟩
  have s0 : Same H (upd H l0 (.lst [])) := Same.upd hl0
  have X0 := X.same s0
  refine ⟨_, rfl, _, _, rfl, dgetS X0.ho X0.el, _, rfl, _, _, rfl, dgetM X0.hl xk, _, rfl, ⟨_, SqL.of (X0.hx x xk)⟩, ?_⟩
  have ll : ((ls x).map V.str).length = (ls x).length := List.length_map _
  refine for_it walk_list (fun i σ G => ∃ (v3 : Option V) (r : Addr) (us : List V), σ = [some (.ref o), some (.str x), some (.ref r), v3] ∧ Same H G ∧ H r = none ∧ G r = some (.lst us) ∧ Paired (PAt G) us (((ls x).take i).flatMap fun c => (c, x, tf c) :: walkR ls tf (n - 1) c))
    ⟨none, l0, [], rfl, s0, hl0, upd_same, .nil⟩ (fun i σ G _ ⟨_, _, _, _, sG, _⟩ => SqL.of ((X.same sG).hx x xk)) ?_ ?_
  · rintro i y σ G G1 hi ⟨v3, r, us, rfl, sG, hr0, hrG, rp⟩ ⟨rfl, hy⟩
    rw [List.getElem?_map] at hy
    cases hc : (ls x)[i]? with
    | none =>
      rw [hc] at hy
      cases hy
    | some c =>
      rw [hc] at hy
      cases hy
      have cm : c ∈ ls x := List.mem_of_getElem? hc
      cases n with
      | zero =>
        have hf : ls x = [] := hre.2
        rw [hf] at cm
        cases cm
      | succ n =>
        obtain ⟨cn, cr⟩ := hre.2 c cm
        have XG := X.same sG
        have hlen : ((ls x).flatMap fun c => (c, x, tf c) :: walkR ls tf n c).length ≤ 900 := hlen
        have l1 := flat_take_le (fun c => (c, x, tf c) :: walkR ls tf n c) (ls x) i
        have l2 := flat_take_le (fun c => (c, x, tf c) :: walkR ls tf n c) (ls x) (i + 1)
        have et := take_flatG (fun c => (c, x, tf c) :: walkR ls tf n c) hc
        rw [et, List.length_append, List.length_cons] at l2
        have rp : Paired (PAt G1) us (((ls x).take i).flatMap fun c => (c, x, tf c) :: walkR ls tf n c) := rp
        have lus := Paired.len rp
        refine ⟨_, rfl, _, rfl, _, rfl, _, rfl, _, _, rfl, dgetS XG.ho XG.et, _, rfl, _, _, rfl, dgetM XG.ht cn, ?_⟩
        refine ⟨by show 3 ≤ sizeLine; decide, fun q hq => ⟨by show 1 ≤ sizeLine; decide, fun q2 hq2 => ?_⟩⟩
        have n1 : Same G1 (upd G1 q (.tup [V.str c, V.str x, V.int (tf c)])) := Same.upd hq
        have n2 := n1.trans (Same.upd hq2 (o := .lst [V.ref q]))
        refine ⟨r, q2, us, _, rfl, rfl, n2 _ _ hrG, upd_same, ?_, fun q3 hq3 => ?_⟩
        · rw [List.length_singleton]
          exact Nat.le_of_lt (small1000 (by omega))
        have n3 := n2.trans (Same.upd hq3 (o := .lst (us ++ [V.ref q])))
        have XG3 := X.same (sG.trans n3)
        refine ⟨_, rfl, _, rfl, o, st, H0, c, wt, dp, keys, ls, nm, tf, rfl, ⟨_, _, _, _, XG3⟩, cr, by omega, fun G4 m ws s4 hm hm4 rw_ => ?_⟩
        have h34 := s4 _ _ (upd_same (H := upd (upd G1 q (.tup [V.str c, V.str x, V.int (tf c)])) q2 (.lst [V.ref q])) (a := q3) (o := .lst (us ++ [V.ref q])))
        have lws := Paired.len rw_
        refine ⟨q3, m, _, ws, rfl, rfl, h34, hm4, ?_, fun q5 hq5 => ?_⟩
        · rw [List.length_append, List.length_singleton]
          exact Nat.le_of_lt (small1000 (by omega))
        have n5 := (n3.trans s4).trans (Same.upd hq5 (o := .lst (us ++ [V.ref q] ++ ws)))
        have s5 : Same G4 (upd G4 q5 (.lst (us ++ [V.ref q] ++ ws))) := Same.upd hq5
        refine ⟨_, q5, _, rfl, sG.trans n5, (sG.trans (n3.trans s4)).free hq5, upd_same, ?_⟩
        show Paired (PAt _) _ (((ls x).take (i + 1)).flatMap fun c => (c, x, tf c) :: walkR ls tf n c)
        rw [et, show ((ls x).take i).flatMap (fun c => (c, x, tf c) :: walkR ls tf n c) ++ ((c, x, tf c) :: walkR ls tf n c) = (((ls x).take i).flatMap (fun c => (c, x, tf c) :: walkR ls tf n c) ++ [(c, x, tf c)]) ++ walkR ls tf n c by simp]
        have hq6 : upd G4 q5 (.lst (us ++ [V.ref q] ++ ws)) q = some (.tup [V.str c, V.str x, V.int (tf c)]) := by
          have z : upd (upd (upd G1 q (.tup [V.str c, V.str x, V.int (tf c)])) q2 (.lst [V.ref q])) q3 (.lst (us ++ [V.ref q])) q = some (.tup [V.str c, V.str x, V.int (tf c)]) := by
            have nq2 := ne_of_none (upd_same (H := G1) (a := q) (o := .tup [V.str c, V.str x, V.int (tf c)])) hq2
            rw [upd_ne (ne_of_none (Eq.trans (upd_ne nq2) upd_same) hq3), upd_ne nq2, upd_same]
          exact s5 _ _ (s4 _ _ z)
        exact Paired.app (Paired.app (PsAt.tk (Same.tk n5) rp) (.cons ⟨q, rfl, hq6⟩ .nil)) (PsAt.tk (Same.tk s5) rw_)
  · rintro σ G ⟨v3, r, us, rfl, sG, hr0, hrG, rp⟩
    rw [ll, List.take_length] at rp
    refine ⟨_, rfl, k G r us sG hr0 hrG ?_⟩
    cases n with
    | zero =>
      have hf : ls x = [] := hre.2
      rw [hf] at rp
      exact rp
    | succ n => exact rp
theorem cal_lw (T : Txt K mg) : ∀ n, Cal P w K mg base (1 + n) "_law_walk" (sp_lw n) []
  | 0 => (T.d_l_walk.nopr (ps := P_l_walk) (fun _ _ _ _ _ _ us hl => match us, hl with | [_, _], _ => rfl)).mono (Nat.zero_le 1)
  | n + 1 => cal_lw_step T n (cal_lw T n)

def sp_l_told_tree : Sp := fun vs H Q _ => ∃ (o st : Addr) (H0 : Hp) (wt dp : Int) (keys : List Str) (ls : Str → List Str) (nm : List Str) (tf : Str → Int), vs = [.ref o] ∧ OwnAt st H0 H o wt dp keys ls nm tf ∧ Rch keys nm ls 16 "" ∧ (walkR ls tf 16 "").length ≤ 900 ∧ ∀ H' u, Same H H' → TAt H' u ⟨wt, dp, walkR ls tf 16 ""⟩ → Q u H'
theorem cal_l_told_tree (T : Txt K mg) : Cal P w K mg base 19 "_law_told_tree" sp_l_told_tree [] := by
  refine T.d_l_told_tree.cal sc_l_told_tree (fun vs H Q E h => ?_) (fun f cdv A outer s H vs Q E hr h => ?_) (fun _ _ _ _ _ _ us hl => match us, hl with | [_], _ => rfl)
  · obtain ⟨o, st, H0, wt, dp, keys, ls, nm, tf, rfl, _⟩ := h; rfl
  obtain ⟨o, st, H0, wt, dp, keys, ls, nm, tf, rfl, ⟨kvs, dl, dt, ad, X⟩, hre, hlen, k⟩ := h
  have hu := hu_of hr
  have C_l_walk := cal_lw (P := P) (w := w) (base := base) T 17
  refine ⟨_, (pss_one (ps_ret (pe_tup (pa_cons (pe_dget hu (pv 0) pe_str (fun _ _ => rfl)) (pa_cons (pe_dget hu (pv 0) pe_str (fun _ _ => rfl)) (pa_cons (pe_callTy call_tuple_of (by rfl) T.b_tuple (by decide +kernel) (pa_cons (pe_cl C_l_walk hr (by omega) (by rfl) (pa_cons (pv 0) (pa_cons pe_str pa_nil))) pa_nil)) pa_nil)))))), ?_⟩
  refine ⟨_, rfl, _, _, rfl, dgetS X.ho X.ew, _, rfl, _, _, rfl, dgetS X.ho X.ed, _, rfl, o, st, H0, "", wt, dp, keys, ls, nm, tf, rfl, ⟨_, _, _, _, X⟩, hre, hlen, fun H1 l us s1 hl hl1 rp => ?_⟩
  refine ⟨l, _, rfl, .inl ⟨SqL.of hl1, fun p hp => ⟨by show 3 ≤ sizeLine; decide, fun q hq => ?_⟩⟩⟩
  have n1 : Same H1 (upd H1 p (.tup us)) := Same.upd hp
  have n2 := n1.trans (Same.upd hq (o := .tup [V.int wt, V.int dp, V.ref p]))
  exact k _ _ (s1.trans n2) ⟨q, p, us, rfl, upd_same, Eq.trans (upd_ne (ne_of_none upd_same hq)) upd_same, PsAt.tk (Same.tk n2) rp⟩

/-- in whose list x stands -/
def sp_l_caller : Sp := fun vs H Q _ => ∃ (o st : Addr) (H0 : Hp) (x c : Str) (wt dp : Int) (keys : List Str) (ls : Str → List Str) (nm : List Str) (tf : Str → Int), vs = [.ref o, .str x] ∧ OwnAt st H0 H o wt dp keys ls nm tf ∧ c ∈ keys ∧ x ∈ ls c ∧ (∀ y ∈ keys, x ∈ ls y → y = c) ∧ ∀ H', Same H H' → Q (.str c) H'
theorem cal_l_caller (T : Txt K mg) : Cal P w K mg base 1 "_law_caller" sp_l_caller [] := by
  refine T.d_l_caller.cal sc_l_caller (fun vs H Q E h => ?_) (fun f cdv A outer s H vs Q E hr h => ?_) (fun _ _ _ _ _ _ us hl => match us, hl with | [_, _], _ => rfl)
  · obtain ⟨o, st, H0, x, c, wt, dp, keys, ls, nm, tf, rfl, _⟩ := h; rfl
  obtain ⟨o, st, H0, x, c, wt, dp, keys, ls, nm, tf, rfl, ⟨kvs, dl, dt, ad, X⟩, ck, cx, un, k⟩ := h
  have hu := hu_of hr
  refine ⟨_, (pss_one (ps_ret (pe_ix ix_list (pe_lock (pe_lc (own := [("_law_one", 2)]) (g := gName 2) (tt := _) rfl sc_l_caller.nd (pi_keys (pe_dget hu (pv 0) pe_str (fun _ _ => rfl))) (blkOk_by (N := N_l_caller) (sc := defScope s_l_caller) (by decide +kernel)) (fun _ _ _ _ _ => (pg_name (i := 2) sc_l_caller.nd rfl (Or.inl rfl))) (fun _ _ _ _ _ => (pts_one (pt_cmpR (op_in_seqK (K := K) rfl) (pv 1) (pe_dget hu (pe_dget hu (pv 0) pe_str (fun _ _ => rfl)) (pv 2) (fun _ _ => rfl)) (by rfl)))) (fun _ _ _ _ _ => (pv 2)))) pe_int (fun _ _ => rfl)))), ?_⟩
  refine ⟨dl, _, X.hl, trivial, fun od => ?_⟩
  have ho : upd H dl (.frz od (.dK (mapD keys fun x => .ref (ad x)))) o = some (.dK kvs) := by rw [upd_ne X.n1]; exact X.ho
  have hd : upd H dl (.frz od (.dK (mapD keys fun x => .ref (ad x)))) dl = some (.frz od (.dK (mapD keys fun x => .ref (ad x)))) := upd_same
  refine ⟨_, rfl, _, _, rfl, dgetS ho X.el, dl, od, rfl, .inl ⟨_, hd, fun D hD => ?_⟩⟩
  have lk : keys.length ≤ 50 := X.few
  refine lc_relG (σ := [some (.ref o), some (.str x), none]) (n := (mapD keys fun x => V.ref (ad x)).length) keys (fun y => if x ∈ ls y then some y else none) (fun _ v y => v = .str y) (fun _ v y => v = .str y) walk_keys (fun H' q => q _ _ hd) hD (small1000 (by rw [mapD_len]; omega)) (by rw [mapD_len]) ?_ (fun _ h => h) ?_ ?_
  · rintro i G v G' hi s1 ⟨rfl, kk, vv, e, rfl⟩
    unfold mapD at e
    rw [List.getElem?_map] at e
    cases ey : keys[i]? with
    | none =>
      rw [ey] at e
      cases e
    | some y =>
      rw [ey] at e
      cases e
      exact ⟨y, rfl, Same.refl _, rfl⟩
  · rintro _ y G Qk Qn hy s1 rfl hk hno
    have hxy : G (ad y) = some (.lst ((ls y).map V.str)) := s1 _ _ (by rw [upd_ne (X.dlad hy).2.1]; exact X.hx y hy)
    refine ⟨rfl, _, rfl, _, rfl, _, _, rfl, dgetS (s1 _ _ ho) X.el, _, rfl, _, _, rfl, dgetF (s1 _ _ hd) hy, _, _, rfl, .inl (SqL.of hxy), rfl, flat_strs _, ?_⟩
    show ∃ b, V.bl (inV (V.str x) ((ls y).map V.str)) = V.bl b ∧ _
    rw [inV_strs]
    by_cases e : x ∈ ls y
    · rw [decide_eq_true e]
      exact ⟨_, rfl, iteT ⟨_, rfl, hk _ _ _ (if_pos e) (Same.refl _) rfl⟩⟩
    · rw [decide_eq_false e]
      exact ⟨_, rfl, iteF (hno (if_neg e) _ (Same.refl _))⟩
  · intro G ys s1 hy r
    have ey := Paired.toMap r
    refine ⟨s1 _ _ hd, ?_⟩
    have sF : Same H (upd G dl (.dK (mapD keys fun x => .ref (ad x)))) := fun b u h => by
      by_cases e : b = dl
      · rw [e] at h ⊢
        rw [upd_same, ← h, X.hl]
      · rw [upd_ne e]
        exact s1 _ _ (by rw [upd_ne e]; exact h)
    have nD : D ≠ dl := fun z => by
      rw [z, hd] at hD
      cases hD
    have cm : c ∈ keys.filterMap fun y => if x ∈ ls y then some y else none := List.mem_filterMap.mpr ⟨c, ck, if_pos cx⟩
    obtain ⟨z, zs, ez⟩ : ∃ z zs, (keys.filterMap fun y => if x ∈ ls y then some y else none) = z :: zs := by
      cases h : (keys.filterMap fun y => if x ∈ ls y then some y else none) with
      | nil =>
        rw [h] at cm
        cases cm
      | cons z zs => exact ⟨z, zs, rfl⟩
    have zc : z = c := by
      have zm : z ∈ keys.filterMap fun y => if x ∈ ls y then some y else none := by rw [ez]; exact List.mem_cons_self ..
      obtain ⟨y, yk, e⟩ := List.mem_filterMap.mp zm
      by_cases h : x ∈ ls y
      · rw [if_pos h] at e
        cases e
        exact un _ yk h
      · rw [if_neg h] at e
        cases e
    rw [ez, zc] at ey
    refine ⟨D, ys, 0, .str c, rfl, rfl, SqL.of (by rw [upd_ne nD]; exact hy), at_of (j := 0) rfl (by rw [ey]; rfl), k _ sF⟩
end
end RD
set_option Elab.async false
set_option linter.all false
set_option maxRecDepth 100000
set_option maxHeartbeats 4000000
local macro_rules | `(tactic| walk_at "isT") => `(tactic| refine ⟨_, _, _, _, true, rfl, L2.ClsV.ty _, L2.TyX.base (by first | exact .int _ | exact .str _ | exact .bl _ | exact .non), L2.kit_ty (by decide +kernel), ?_⟩)
local macro_rules | `(tactic| walk_at "isF") => `(tactic| refine ⟨_, _, _, _, false, rfl, L2.ClsV.ty _, L2.TyX.base (by first | exact .int _ | exact .str _ | exact .bl _ | exact .non), L2.kit_ty (by decide +kernel), ?_⟩)
namespace RD
open PySem PySem.Spec PyProof.Rows L2
/-! ### one change to the law's own lists -/
def insAt (l : List Str) (x : Str) (pl : Option Nat) : List Str := l.take (pl.getD l.length) ++ [x] ++ l.drop (pl.getD l.length)
theorem insAt_len (l : List Str) (x : Str) (pl : Option Nat) : (insAt l x pl).length = l.length + 1 := by
  have e := congrArg List.length (List.take_append_drop (pl.getD l.length) l)
  rw [List.length_append] at e
  unfold insAt
  rw [List.length_append, List.length_append, List.length_singleton]
  omega
/-- tuples stay, and the state -/
def TKS (st : Addr) (H H' : Hp) : Prop := TK H H' ∧ H' st = H st
theorem TKS.trans {st : Addr} {H H1 H2 : Hp} (a : TKS st H H1) (b : TKS st H1 H2) : TKS st H H2 := ⟨a.1.trans b.1, b.2.trans a.2⟩
theorem TKS.upd {st a : Addr} {H : Hp} {o : HO} (h : ∀ xs, H a ≠ some (.tup xs)) (n : st ≠ a) : TKS st H (upd H a o) :=
  ⟨fun b ys e => by
    have nb : b ≠ a := fun z => by
      rw [z] at e
      exact h ys e
    rw [upd_ne nb]
    exact e, upd_ne n⟩
theorem TKS.same {st : Addr} {H H' : Hp} (s : Same H H') (h : H st ≠ none) : TKS st H H' := ⟨Same.tk s, by
  cases e : H st with
  | none => exact absurd e h
  | some o => exact s _ _ e⟩
structure Sound (keys nm : List Str) (ls : Str → List Str) : Prop where
  ke : keys = ("" : Str) :: nm
  nx : ("" : Str) ∉ nm
  nd : nm.Nodup
  few : nm.length ≤ 16
  sub : ∀ c ∈ keys, ∀ x ∈ ls c, x ∈ nm
  one : ∀ c ∈ keys, (ls c).Nodup
  ex : ∀ x ∈ nm, ∃ c ∈ keys, x ∈ ls c ∧ c ≠ x
  un : ∀ c ∈ keys, ∀ d ∈ keys, ∀ x, x ∈ ls c → x ∈ ls d → c = d
theorem nodup_sub_len : ∀ {l m : List Str}, l.Nodup → (∀ x ∈ l, x ∈ m) → l.length ≤ m.length
  | [], _, _, _ => Nat.zero_le _
  | x :: r, m, h, s => by
    have q := List.nodup_cons.mp h
    have xm := s x (List.mem_cons_self ..)
    have ih := nodup_sub_len (m := m.erase x) q.2 fun y hy => (List.mem_erase_of_ne (fun z => q.1 (by rw [← z]; exact hy))).mpr (s y (List.mem_cons_of_mem _ hy))
    have e := List.length_erase_of_mem xm
    have p := List.length_pos_of_mem xm
    rw [List.length_cons]
    omega
theorem Sound.len {keys nm : List Str} {ls : Str → List Str} (S : Sound keys nm ls) {c : Str} (h : c ∈ keys) : (ls c).length ≤ 16 :=
  Nat.le_trans (nodup_sub_len (S.one c h) (S.sub c h)) S.few
inductive Deed where
  | join (x c : Str) (i : Int) (pl : Option Nat)
  | leave (x : Str)
  | move (x c : Str) (pl : Option Nat)
  | talk (x : Str) (i : Int)
  | wait (i : Int)
  | deep (i : Int)
def Deed.vals : Deed → List V
  | .join x c i pl => [.str "join", .str x, .str c, .int i, plV pl]
  | .leave x => [.str "leave", .str x]
  | .move x c pl => [.str "move", .str x, .str c, plV pl]
  | .talk x i => [.str "talk", .str x, .int i]
  | .wait i => [.str "wait", .int i]
  | .deep i => [.str "deep", .int i]
def dropL (x : Str) (l : List Str) : List Str := l.filter fun y => decide (y ≠ x)
def Deed.Fit (keys nm : List Str) (ls : Str → List Str) : Deed → Prop
  | .join x c _ pl => x ∉ keys ∧ c ∈ keys ∧ nm.length < 16 ∧ ∀ n, pl = some n → n ≤ (ls c).length
  | .leave x => x ∈ nm
  | .move x c pl => x ∈ nm ∧ c ∈ keys ∧ c ≠ x ∧ ∀ n, pl = some n → n ≤ (dropL x (ls c)).length
  | .talk x _ => x ∈ nm
  | .wait _ => True
  | .deep _ => True
def Deed.keysN (keys : List Str) : Deed → List Str
  | .join x _ _ _ => keys ++ [x]
  | .leave x => keys.filter fun y => decide (y ≠ x)
  | _ => keys
def Deed.lsN (ls : Str → List Str) : Deed → Str → List Str
  | .join x c _ pl => updF (updF ls x []) c (insAt (ls c) x pl)
  | .leave x => fun y => (ls y).flatMap fun z => if z = x then ls x else [z]
  | .move x c pl => updF (fun y => dropL x (ls y)) c (insAt (dropL x (ls c)) x pl)
  | _ => ls
def Deed.tfN (tf : Str → Int) : Deed → Str → Int
  | .join x _ i _ => updF tf x i
  | .talk x i => updF tf x i
  | _ => tf
def Deed.wN (w : Int) : Deed → Int
  | .wait i => i
  | _ => w
def Deed.dN (d : Int) : Deed → Int
  | .deep i => i
  | _ => d
/-! a list and the one place of x in it -/
theorem split_at {l : List Str} {x : Str} (h : x ∈ l) (nd : l.Nodup) : ∃ A B, l = A ++ x :: B ∧ x ∉ A ∧ x ∉ B := by
  obtain ⟨A, B, e⟩ := List.append_of_mem h
  subst e
  have q := List.nodup_append.mp nd
  refine ⟨A, B, rfl, fun z => q.2.2 x z x (List.mem_cons_self ..) rfl, (List.nodup_cons.mp q.2.1).1⟩
theorem flat_other {x : Str} {m : List Str} : ∀ {l : List Str}, x ∉ l → (l.flatMap fun z => if z = x then m else [z]) = l
  | [], _ => rfl
  | y :: r, h => by
    have e : ¬ y = x := fun z => h (z ▸ List.mem_cons_self ..)
    rw [List.flatMap_cons, if_neg e, flat_other fun z => h (List.mem_cons_of_mem _ z)]
    rfl
theorem flat_at {x : Str} {m A B : List Str} (h1 : x ∉ A) (h2 : x ∉ B) : ((A ++ x :: B).flatMap fun z => if z = x then m else [z]) = A ++ m ++ B := by
  rw [List.flatMap_append, List.flatMap_cons, if_pos rfl, flat_other h1, flat_other h2, List.append_assoc]
theorem drop_other {x : Str} {l : List Str} (h : x ∉ l) : dropL x l = l := by
  unfold dropL
  rw [List.filter_eq_self]
  exact fun y hy => decide_eq_true fun z => h (z ▸ hy)
theorem drop_at {x : Str} {A B : List Str} (h1 : x ∉ A) (h2 : x ∉ B) : dropL x (A ++ x :: B) = A ++ B := by
  have e1 := drop_other h1
  have e2 := drop_other h2
  unfold dropL at e1 e2 ⊢
  rw [List.filter_append, e1, List.filter_cons]
  simp only [ne_eq, not_true_eq_false, decide_false, Bool.false_eq_true, if_false]
  rw [← e2]
  simp
theorem wT {a : Str} {p q : Prop} (h : p) : if decide (V.str a = V.str a) = true then p else q := by
  rw [decide_eq_true rfl]
  exact h
theorem wF {a b : Str} {p q : Prop} (e : decide (a = b) = false) (h : q) : if decide (V.str a = V.str b) = true then p else q := by
  rw [decide_eq_false fun z => of_decide_eq_false e (V.str.inj z)]
  exact h
theorem at_mid (A B : List Str) (x : Str) : (A ++ x :: B)[A.length]? = some x := by simp
theorem erase_mid (A B : List Str) (x : Str) : (A ++ x :: B).eraseIdx A.length = A ++ B := by simp [List.eraseIdx_append_of_length_le]
theorem before_mid {A B : List Str} {x : Str} (h : x ∉ A) (m : Nat) (hm : m < A.length) : (A ++ x :: B)[m]? ≠ some x := fun e => by
  rw [List.getElem?_append_left hm] at e
  exact h (List.mem_of_getElem? e)
end RD
set_option Elab.async false
set_option linter.all false
set_option maxRecDepth 100000
set_option maxHeartbeats 4000000
local macro_rules | `(tactic| walk_at "isT") => `(tactic| refine ⟨_, _, _, _, true, rfl, L2.ClsV.ty _, L2.TyX.base (by first | exact .int _ | exact .str _ | exact .bl _ | exact .non), L2.kit_ty (by decide +kernel), ?_⟩)
local macro_rules | `(tactic| walk_at "isF") => `(tactic| refine ⟨_, _, _, _, false, rfl, L2.ClsV.ty _, L2.TyX.base (by first | exact .int _ | exact .str _ | exact .bl _ | exact .non), L2.kit_ty (by decide +kernel), ?_⟩)
namespace RD
open PySem PySem.Spec PyProof.Rows L2
/-! ### a new name -/
def abc : List Str := letters.cps.toList.map sg1
theorem abc_len : abc.length = 26 := by decide +kernel
theorem abc_nd : abc.Nodup := by decide +kernel
theorem abc_ok : ∀ x ∈ abc, nameOk x = true := by decide +kernel
theorem abc_at {i : Nat} (h : i < 26) : ∃ c, atI letters.cps.toList (0 + (i : Int)) = some c ∧ abc[i]? = some (sg1 c) := by
  have hl : i < letters.cps.toList.length := by rw [letters_len]; omega
  refine ⟨letters.cps.toList[i], ?_, ?_⟩
  · rw [Int.zero_add]
    exact atI_nat (List.getElem?_eq_getElem hl)
  · unfold abc
    rw [List.getElem?_map, List.getElem?_eq_getElem hl]
    rfl
theorem take_succS {l : List Str} {i : Nat} {c : Str} (h : l[i]? = some c) : (l.take (i + 1)).map V.str = (l.take i).map V.str ++ [V.str c] := by
  rw [List.take_succ, h, List.map_append]
  rfl
theorem strOk_name {x : Str} (h : nameOk x = true) : PyData.strOk x = true := by
  have q : ∀ c ∈ letters.cps.toList, c < 0x110000 := by decide +kernel
  unfold nameOk at h
  rw [Bool.and_eq_true] at h
  have h2 := List.all_eq_true.mp h.2
  unfold PyData.strOk
  rw [← Array.all_toList, List.all_eq_true]
  exact fun c hc => decide_eq_true (q c (of_decide_eq_true (h2 c hc)))
theorem lay_names : ∀ {ns : List Str}, (∀ x ∈ ns, nameOk x = true) → PyData.canLayAll0 (ns.map PyData.str) = true ∧ PyData.depthAll (ns.map PyData.str) = 0
  | [], _ => ⟨rfl, rfl⟩
  | x :: r, h => by
    have ih := lay_names fun y hy => h y (List.mem_cons_of_mem _ hy)
    constructor
    · show ((PyData.str x).canLay0 && PyData.canLayAll0 (r.map PyData.str)) = true
      rw [ih.1, Bool.and_true]
      exact strOk_name (h x (List.mem_cons_self ..))
    · show max (PyData.depth (PyData.str x)) (PyData.depthAll (r.map PyData.str)) = 0
      rw [ih.2]
      rfl
theorem dpAll_names {K : PySem.W.Frag} {H : Hp} : ∀ ns : List Str, DpAll K H (ns.map V.str) (ns.map PyData.str)
  | [] => .nil
  | x :: r => .cons (.str x) (dpAll_names r)
theorem dropL_fm (x : Str) : ∀ l : List Str, (l.filterMap fun y => if y ≠ x then some y else none) = dropL x l
  | [] => rfl
  | y :: r => by
    have ih := dropL_fm x r
    unfold dropL at ih ⊢
    rw [List.filterMap_cons, List.filter_cons]
    by_cases e : y = x
    · rw [if_neg (fun z => z e), decide_eq_false (fun z => z e)]
      exact ih
    · rw [if_pos e, decide_eq_true e]
      exact congrArg (y :: ·) ih
theorem walkR_nm {keys nm : List Str} {ls : Str → List Str} {tf : Str → Int} : ∀ {n : Nat} {x : Str}, Rch keys nm ls n x → ∀ p ∈ walkR ls tf n x, p.1 ∈ nm
  | 0, _, _, p, hp => by cases hp
  | n + 1, x, h, p, hp => by
    obtain ⟨c, cm, h1⟩ := List.mem_flatMap.mp hp
    obtain ⟨a, b⟩ := h.2 c cm
    rcases List.mem_cons.mp h1 with e | e
    · rw [e]
      exact a
    · exact walkR_nm b p e
section
variable {P : Program} {w : World} {K : PySem.W.Frag} {mg : Str → Option Value} {base : Heap}
def sp_l_fresh : Sp := fun vs H Q _ => ∃ (o st : Addr) (H0 : Hp) (N : Nat) (wt dp : Int) (keys : List Str) (ls : Str → List Str) (nm : List Str) (tf : Str → Int), vs = [.ref st, .ref o] ∧ StAt H st N ∧ N ≤ 1000000000 ∧ OwnAt st H0 H o wt dp keys ls nm tf ∧ nm.length ≤ 16 ∧
  ∀ H' x, nameOk x = true → x ∉ nm → Kb st H H' → StAt H' st (N + 40) → Q (.str x) H'
theorem cal_l_fresh (T : Txt K mg) : Cal P w K mg base 4 "_law_fresh" sp_l_fresh [] := by
  refine T.d_l_fresh.cal sc_l_fresh (fun vs H Q E h => ?_) (fun f cdv A outer s H vs Q E hr h => ?_) (fun _ _ _ _ _ _ us hl => match us, hl with | [_, _], _ => rfl)
  · obtain ⟨o, st, H0, N, wt, dp, keys, ls, nm, tf, rfl, _⟩ := h; rfl
  obtain ⟨o, st, H0, N, wt, dp, keys, ls, nm, tf, rfl, S, hN, ⟨kvs, dl, dt, ad, X⟩, few, k⟩ := h
  have hu := hu_of hr
  have C_l_word := cal_l_word (P := P) (w := w) (base := base) T
  refine ⟨_, (pss_cons (ps_set (i := 2) sc_l_fresh.nd rfl (Or.inl rfl) (pe_op op_cat (pe_lst (pa_cons (pe_cl C_l_word hr (by omega) (by rfl) (pa_cons (pv 0) pa_nil)) pa_nil)) (pe_lc (own := [("_law_j", 3)]) (g := gName 3) (tt := tYes) rfl sc_l_fresh.nd (pi_range1 rfl T.b_range (pa_cons pe_int pa_nil)) (blkOk_by (N := N_l_fresh) (sc := defScope s_l_fresh) (by decide +kernel)) (fun _ _ _ _ _ => (pg_name (i := 3) sc_l_fresh.nd rfl (Or.inl rfl))) (fun _ _ _ _ _ => pts_nil) (fun _ _ _ _ _ => (pe_ix ix_str pe_str (pv 3) (fun _ _ => rfl))))))
   (pss_one (ps_ret (pe_ix ix_list (pe_lc (own := [("_law_name", 4)]) (g := gName 4) (tt := _) rfl sc_l_fresh.nd (pi_list (pv 2)) (blkOk_by (N := N_l_fresh) (sc := defScope s_l_fresh) (by decide +kernel)) (fun _ _ _ _ _ => (pg_name (i := 4) sc_l_fresh.nd rfl (Or.inl rfl))) (fun _ _ _ _ _ => (pts_one (pt_cmp (pc_dnotin hu (pv 4) (pe_dget hu (pv 1) pe_str (fun _ _ => rfl)))))) (fun _ _ _ _ _ => (pv 4))) pe_int (fun _ _ => rfl))))), ?_⟩
  refine ⟨_, rfl, st, N, rfl, S, by omega, fun H1 x xok kb1 S1 => ?_⟩
  refine ⟨by show 1 ≤ sizeLine; decide, fun p hp => ?_⟩
  have n1 : Same H1 (upd H1 p (.lst [V.str x])) := Same.upd hp
  have e1 : (upd H1 p (.lst [V.str x])) p = some (.lst [V.str x]) := upd_same
  have S2 := S1.same n1
  have kb2 := kb1.trans (Same.kb n1)
  have X2 := X.keep kb2
  generalize upd H1 p (.lst [V.str x]) = H2 at n1 e1 S2 kb2 X2 ⊢
  refine ⟨26, rfl, by decide, by decide, fun D hD => ?_⟩
  have npD : p ≠ D := fun z => by
    rw [z, hD] at e1
    cases e1
  refine lc_range (lo := 0) (n := 26) (σ := L2.start N_l_fresh [.ref st, .ref o]) (fun i H3 => Same H2 H3 ∧ H3 D = some (.lst ((abc.take i).map V.str)))
    ⟨Same.upd hD, upd_same⟩ ?_ ?_
  · rintro i H3 hi ⟨s3, h3⟩
    obtain ⟨c, ec, eb⟩ := abc_at hi
    refine ⟨rfl, _, rfl, letters, _, c, rfl, rfl, by decide +kernel, ec, _, h3, ?_, ?_, ?_⟩
    · rw [List.length_map]
      exact small1000 (Nat.le_trans (List.length_take_le _ _) (by omega))
    · exact fun b u h => by
        have nd : b ≠ D := fun z => by
          rw [z, hD] at h
          cases h
        rw [upd_ne nd]
        exact s3 _ _ h
    · rw [upd_same, take_succS eb]
      rfl
  · rintro H3 ⟨s3, h3⟩
    have et : abc.take 26 = abc := by rw [← abc_len, List.take_length]
    rw [et] at h3
    have S3 := S2.same s3
    refine ⟨p, D, _, _, rfl, rfl, s3 _ _ e1, h3, ?_, fun q hq => ?_⟩
    · rw [List.length_map, abc_len]
      exact Nat.le_of_lt (small1000 (by show 1 + 26 ≤ 1000; omega))
    have s4 := s3.trans (Same.upd hq (o := .lst ([V.str x] ++ abc.map V.str)))
    have X4 := X2.same s4
    have e4 : (upd H3 q (.lst ([V.str x] ++ abc.map V.str))) q = some (.lst ((x :: abc).map V.str)) := by
      rw [upd_same]
      rfl
    generalize upd H3 q (.lst ([V.str x] ++ abc.map V.str)) = H4 at s4 X4 e4 ⊢
    refine ⟨_, rfl, q, rfl, ⟨_, SqL.of e4⟩, fun D2 hD2 => ?_⟩
    have la : ((x :: abc).map V.str).length = 27 := by rw [List.length_map, List.length_cons, abc_len]
    refine lc_rel (σ := [some (.ref st), some (.ref o), some (.ref q), none, none]) (xs := (x :: abc).map V.str) (x :: abc) (fun y => if y ∉ nm then some y else none) (fun _ v n => v = .str n) (fun _ v n => v = .str n) walk_list (fun H' z => SqL.of (z _ _ e4)) hD2 (small1000 (by omega)) (Paired.ofMap _ _) (fun _ h => h) (fun _ h => h) ?_ ?_
    · rintro _ y G Qk Qn hy s5 rfl hk hno
      have X5 := X4.same s5
      refine ⟨rfl, _, rfl, _, rfl, _, _, rfl, dgetS X5.ho X5.et, _, _, rfl, DGet.k (k := Sum.inr y) X5.ht, ?_⟩
      rw [mapD_val]
      by_cases e : y ∈ nm
      · rw [if_pos e]
        exact ⟨_, rfl, iteF (hno (if_neg fun z => z e) _ (Same.refl _))⟩
      · rw [if_neg e]
        exact ⟨_, rfl, iteT ⟨_, rfl, hk _ _ _ (if_pos e) (Same.refl _) rfl⟩⟩
    · intro G ys s5 hy r
      have ey := Paired.toMap r
      have S5 := (S3.same (Same.refl _))
      obtain ⟨z, zs, ez⟩ : ∃ z zs, ((x :: abc).filterMap fun y => if y ∉ nm then some y else none) = z :: zs := by
        cases h : ((x :: abc).filterMap fun y => if y ∉ nm then some y else none) with
        | nil =>
          exfalso
          rw [List.filterMap_eq_nil_iff] at h
          have q := nodup_sub_len (m := nm) abc_nd fun y hy => by
            by_cases e : y ∈ nm
            · exact e
            · have q := h y (List.mem_cons_of_mem _ hy)
              rw [if_pos e] at q
              cases q
          rw [abc_len] at q
          omega
        | cons z zs => exact ⟨z, zs, rfl⟩
      have zm : z ∈ (x :: abc).filterMap fun y => if y ∉ nm then some y else none := by
        rw [ez]
        exact List.mem_cons_self ..
      obtain ⟨y, ym, e⟩ := List.mem_filterMap.mp zm
      have zn : z ∉ nm ∧ nameOk z = true := by
        by_cases h : y ∉ nm
        · rw [if_pos h] at e
          cases e
          exact ⟨h, (List.mem_cons.mp ym).elim (fun q => q ▸ xok) (abc_ok _)⟩
        · rw [if_neg h] at e
          cases e
      rw [ez] at ey
      have sF := s4.trans s5
      refine ⟨D2, ys, 0, .str z, rfl, rfl, SqL.of hy, at_of (j := 0) rfl (by rw [ey]; rfl), k _ _ zn.2 zn.1 (kb2.trans (Same.kb sF)) (S2.same sF)⟩

end
def Deed.Ok (ls : Str → List Str) (tf : Str → Int) : Deed → Prop
  | .join x _ i _ => nameOk x = true ∧ 1 ≤ i ∧ i ≤ 60
  | .leave _ => True
  | .move x c _ => c ∉ (walkR ls tf 16 x).map (·.1)
  | .talk _ i => 1 ≤ i ∧ i ≤ 60
  | .wait i => 1 ≤ i ∧ i ≤ 60
  | .deep i => 0 ≤ i ∧ i ≤ 4
end RD
set_option Elab.async false
set_option linter.all false
set_option maxRecDepth 100000
set_option maxHeartbeats 4000000
local macro_rules | `(tactic| walk_at "isT") => `(tactic| refine ⟨_, _, _, _, true, rfl, L2.ClsV.ty _, L2.TyX.base (by first | exact .int _ | exact .str _ | exact .bl _ | exact .non), L2.kit_ty (by decide +kernel), ?_⟩)
local macro_rules | `(tactic| walk_at "isF") => `(tactic| refine ⟨_, _, _, _, false, rfl, L2.ClsV.ty _, L2.TyX.base (by first | exact .int _ | exact .str _ | exact .bl _ | exact .non), L2.kit_ty (by decide +kernel), ?_⟩)
namespace RD
open PySem PySem.Spec PyProof.Rows L2
/-! ### what the program tells of a change -/
def callF (ps : List Pr) (x : Str) : Str := match named ps x with
  | some p => p.2.1
  | none => ""
def Deed.resP (t : Tr) : Deed → Tr
  | .join x c i pl => ⟨t.wait, t.deep, joinP t.ppl x c i pl⟩
  | .leave x => ⟨t.wait, t.deep, leftP t.ppl x (callF t.ppl x)⟩
  | .move x c pl => ⟨t.wait, t.deep, moveP t.ppl x c (talkF t.ppl x) pl⟩
  | .talk x i => ⟨t.wait, t.deep, retalkP t.ppl x i⟩
  | .wait i => ⟨i, t.deep, walkP t.ppl⟩
  | .deep i => ⟨t.wait, i, walkP t.ppl⟩
def Deed.POk (t : Tr) : Deed → Prop
  | .join x c i pl => JoinOk t x c i pl
  | .leave x => x ∈ nmz t.ppl ∧ ∃ p, named t.ppl x = some p
  | .move x c pl => ∃ p, MoveOk t x c p pl
  | .talk x i => x ∈ nmz t.ppl ∧ 1 ≤ i ∧ i ≤ 60
  | .wait i => 1 ≤ i ∧ i ≤ 60
  | .deep i => 0 ≤ i ∧ i ≤ 4
def Deed.num : Deed → Bool
  | .talk _ _ => true
  | .wait _ => true
  | .deep _ => true
  | _ => false
end RD
set_option Elab.async false
set_option linter.all false
set_option maxRecDepth 100000
set_option maxHeartbeats 4000000
local macro_rules | `(tactic| walk_at "isT") => `(tactic| refine ⟨_, _, _, _, true, rfl, L2.ClsV.ty _, L2.TyX.base (by first | exact .int _ | exact .str _ | exact .bl _ | exact .non), L2.kit_ty (by decide +kernel), ?_⟩)
local macro_rules | `(tactic| walk_at "isF") => `(tactic| refine ⟨_, _, _, _, false, rfl, L2.ClsV.ty _, L2.TyX.base (by first | exact .int _ | exact .str _ | exact .bl _ | exact .non), L2.kit_ty (by decide +kernel), ?_⟩)
namespace RD
open PySem PySem.Spec PyProof.Rows L2
/-! # The plain law -/
section
variable {ls g : Str → List Str} {tf tg : Str → Int}
theorem nmz_app (a b : List Pr) : nmz (a ++ b) = nmz a ++ nmz b := List.map_append ..
theorem nmz_flat (f : Str → List Pr) (h : Str → List Str) (e : ∀ y, nmz (f y) = h y) : ∀ l : List Str, nmz (l.flatMap f) = l.flatMap h
  | [] => rfl
  | y :: r => by rw [List.flatMap_cons, List.flatMap_cons, nmz_app, e, nmz_flat f h e r]
theorem nmz_walkR (ls : Str → List Str) (tf : Str → Int) : ∀ (n : Nat) (x : Str), nmz (walkR ls tf n x) = belowN ls n x
  | 0, _ => rfl
  | n + 1, x => nmz_flat (fun c => (c, x, tf c) :: walkR ls tf n c) (fun c => c :: belowN ls n c) (fun y => congrArg (y :: ·) (nmz_walkR ls tf n y)) (ls x)
theorem flat_congr {α β : Type} {f h : α → List β} {l : List α} (e : ∀ y ∈ l, f y = h y) : l.flatMap f = l.flatMap h := by
  induction l with
  | nil => rfl
  | cons y r ih => rw [List.flatMap_cons, List.flatMap_cons, e y (List.mem_cons_self ..), ih fun z hz => e z (List.mem_cons_of_mem _ hz)]
theorem fuel1 (ls : Str → List Str) (tf : Str → Int) : ∀ {n : Nat} {x : Str}, Fits ls n x → Fits ls (n + 1) x ∧ walkR ls tf (n + 1) x = walkR ls tf n x
  | 0, x, h => by
    have h : ls x = [] := h
    refine ⟨fun c hc => ?_, ?_⟩
    · rw [h] at hc
      cases hc
    · show (ls x).flatMap _ = []
      rw [h]
      rfl
  | n + 1, x, h => by
    have h : ∀ c ∈ ls x, Fits ls n c := h
    exact ⟨fun c hc => (fuel1 ls tf (h c hc)).1, flat_congr fun c hc => congrArg ((c, x, tf c) :: ·) (fuel1 ls tf (h c hc)).2⟩
theorem fuelAdd (tf : Str → Int) {n : Nat} {x : Str} (h : Fits ls n x) : ∀ k : Nat, Fits ls (n + k) x ∧ walkR ls tf (n + k) x = walkR ls tf n x
  | 0 => ⟨h, rfl⟩
  | k + 1 => by
    obtain ⟨a, b⟩ := fuelAdd tf h k
    obtain ⟨c, d⟩ := fuel1 ls tf a
    exact ⟨c, d.trans b⟩
theorem Fits.le {n m : Nat} {x : Str} (h : Fits ls n x) (l : n ≤ m) : Fits ls m x := by
  have q := (fuelAdd (fun _ => 0) h (m - n)).1
  rwa [Nat.add_sub_cancel' l] at q
theorem walk_fuel {n m : Nat} {x : Str} (h : Fits ls n x) (k : Fits ls m x) : walkR ls tf n x = walkR ls tf m x := by
  rcases Nat.le_total n m with l | l
  · have q := (fuelAdd tf h (m - n)).2
    rw [Nat.add_sub_cancel' l] at q
    exact q.symm
  · have q := (fuelAdd tf k (n - m)).2
    rw [Nat.add_sub_cancel' l] at q
    exact q
theorem below_fuel {n m : Nat} {x : Str} (h : Fits ls n x) (k : Fits ls m x) : belowN ls n x = belowN ls m x := by
  rw [← nmz_walkR ls (fun _ => 0) n, ← nmz_walkR ls (fun _ => 0) m, walk_fuel h k]
theorem mem_below_succ {n : Nat} {x y : Str} : y ∈ belowN ls (n + 1) x ↔ ∃ c ∈ ls x, y = c ∨ y ∈ belowN ls n c := by
  show y ∈ (ls x).flatMap _ ↔ _
  rw [List.mem_flatMap]
  exact ⟨fun ⟨c, a, b⟩ => ⟨c, a, List.mem_cons.mp b⟩, fun ⟨c, a, b⟩ => ⟨c, a, List.mem_cons.mpr b⟩⟩
theorem walk_congr : ∀ {n : Nat} {x : Str}, (∀ y, y = x ∨ y ∈ belowN ls n x → g y = ls y) → (∀ y ∈ belowN ls n x, tg y = tf y) → walkR g tg n x = walkR ls tf n x ∧ (Fits ls n x → Fits g n x)
  | 0, x, h, _ => ⟨rfl, fun e => (h x (.inl rfl)).trans e⟩
  | n + 1, x, h, ht => by
    have ex := h x (.inl rfl)
    have key : ∀ c ∈ ls x, walkR g tg n c = walkR ls tf n c ∧ (Fits ls n c → Fits g n c) := fun c hc =>
      walk_congr (fun y hy => h y (.inr (mem_below_succ.mpr ⟨c, hc, hy⟩))) fun y hy => ht y (mem_below_succ.mpr ⟨c, hc, .inr hy⟩)
    refine ⟨?_, fun f c hc => ?_⟩
    · show (g x).flatMap _ = (ls x).flatMap _
      rw [ex]
      refine flat_congr fun c hc => ?_
      rw [ht c (mem_below_succ.mpr ⟨c, hc, .inl rfl⟩), (key c hc).1]
    · rw [ex] at hc
      exact (key c hc).2 (f c hc)
theorem below_congr {n : Nat} {x : Str} (h : ∀ y, y = x ∨ y ∈ belowN ls n x → g y = ls y) : belowN g n x = belowN ls n x := by
  rw [← nmz_walkR g (fun _ => 0) n, ← nmz_walkR ls (fun _ => 0) n, (walk_congr h fun _ _ => rfl).1]
theorem rows_of : ∀ {n : Nat} {x : Str} {p : Pr}, p ∈ walkR ls tf n x → p.1 ∈ ls p.2.1 ∧ p.2.2 = tf p.1 ∧ (p.2.1 = x ∨ p.2.1 ∈ belowN ls n x)
  | 0, _, _, h => by cases h
  | n + 1, x, p, h => by
    obtain ⟨c, hc, h1⟩ := List.mem_flatMap.mp h
    rcases List.mem_cons.mp h1 with e | e
    · rw [e]
      exact ⟨hc, rfl, .inl rfl⟩
    · obtain ⟨a, b, d⟩ := rows_of e
      exact ⟨a, b, .inr (mem_below_succ.mpr ⟨c, hc, d⟩)⟩
theorem below_closed : ∀ {n : Nat} {x y z : Str}, Fits ls n x → (y = x ∨ y ∈ belowN ls n x) → z ∈ ls y → z ∈ belowN ls n x
  | 0, x, y, z, f, hy, hz => by
    rcases hy with e | e
    · have f : ls x = [] := f
      rw [e, f] at hz
      cases hz
    · cases e
  | n + 1, x, y, z, f, hy, hz => by
    rcases hy with e | e
    · rw [e] at hz
      exact mem_below_succ.mpr ⟨z, hz, .inl rfl⟩
    · obtain ⟨c, hc, h1⟩ := mem_below_succ.mp e
      exact mem_below_succ.mpr ⟨c, hc, .inr (below_closed (f c hc) h1 hz)⟩
theorem fits_len : ∀ {n k : Nat} {x : Str}, Fits ls n x → (belowN ls n x).length ≤ k → Fits ls k x
  | 0, 0, _, f, _ => f
  | 0, k + 1, x, f, _ => Fits.le (show Fits ls 0 x from f) (Nat.zero_le _)
  | n + 1, k, x, f, h => by
    cases k with
    | zero =>
      show ls x = []
      cases e : ls x with
      | nil => rfl
      | cons c r =>
        have h : ((ls x).flatMap fun c => c :: belowN ls n c).length ≤ 0 := h
        rw [e, List.flatMap_cons, List.length_append, List.length_cons] at h
        omega
    | succ k =>
      intro c hc
      refine fits_len (f c hc) ?_
      obtain ⟨a, b, e⟩ := List.append_of_mem hc
      have h : ((ls x).flatMap fun c => c :: belowN ls n c).length ≤ k + 1 := h
      rw [e, List.flatMap_append, List.flatMap_cons, List.length_append, List.length_append, List.length_cons] at h
      omega
structure WF (ls : Str → List Str) (n : Nat) (r : Str) : Prop where
  fits : Fits ls n r
  nd : (r :: belowN ls n r).Nodup
/-- who is called for stands ahead -/
def Pre : List Str → List Pr → Prop
  | _, [] => True
  | kn, p :: r => p.2.1 ∈ kn ∧ Pre (kn ++ [p.1]) r
theorem Pre.mono : ∀ {l : List Pr} {a b : List Str}, (∀ x ∈ a, x ∈ b) → Pre a l → Pre b l
  | [], _, _, _, _ => trivial
  | p :: r, a, b, h, q => ⟨h _ q.1, Pre.mono (fun x hx => (List.mem_append.mp hx).elim (fun z => List.mem_append_left _ (h x z)) fun z => List.mem_append_right _ z) q.2⟩
theorem Pre.app : ∀ {a b : List Pr} {kn : List Str}, Pre kn a → Pre (kn ++ nmz a) b → Pre kn (a ++ b)
  | [], b, kn, _, h => by
    have e : kn ++ nmz [] = kn := List.append_nil _
    rw [e] at h
    exact h
  | p :: r, b, kn, h1, h2 => ⟨h1.1, Pre.app h1.2 (by
      have e : (kn ++ [p.1]) ++ nmz r = kn ++ nmz (p :: r) := by simp [nmz]
      rw [e]
      exact h2)⟩
theorem pre_walk (ls : Str → List Str) (tf : Str → Int) : ∀ (n : Nat) (x : Str) (kn : List Str), x ∈ kn → Pre kn (walkR ls tf n x)
  | 0, _, _, _ => trivial
  | n + 1, x, kn, hx => by
    show Pre kn ((ls x).flatMap fun c => (c, x, tf c) :: walkR ls tf n c)
    generalize ls x = l
    induction l generalizing kn with
    | nil => trivial
    | cons c r ih =>
      rw [List.flatMap_cons]
      refine Pre.app ⟨hx, pre_walk ls tf n c _ (List.mem_append_right _ (List.mem_singleton.mpr rfl))⟩ (ih _ (List.mem_append_left _ hx))
/-- c and all below it stand in one piece -/
theorem ctx (ls : Str → List Str) (tf : Str → Int) : ∀ (n : Nat) (r c : Str), WF ls n r → (c = r ∨ c ∈ belowN ls n r) → ∃ (m : Nat) (A B : List Pr), WF ls m c ∧ n ≤ m + (belowN ls n r).length ∧ (c = r → A = [] ∧ B = []) ∧ (c ≠ r → ∃ A0 p, A = A0 ++ [(c, p, tf c)]) ∧
    ∀ (g : Str → List Str) (tg : Str → Int), (∀ y, y = r ∨ y ∈ belowN ls n r → y ≠ c → g y = ls y) → (∀ y ∈ belowN ls n r, tg y = tf y) → walkR g tg n r = A ++ walkR g tg m c ++ B ∧ (Fits g m c → Fits g n r) := by
  intro n
  induction n with
  | zero =>
    intro r c W hc
    rcases hc with rfl | hc
    · exact ⟨0, [], [], W, Nat.zero_le _, fun _ => ⟨rfl, rfl⟩, fun h => absurd rfl h, fun g tg _ _ => ⟨rfl, id⟩⟩
    · cases hc
  | succ n ih =>
    intro r c W hc
    by_cases e : c = r
    · subst e
      exact ⟨n + 1, [], [], W, Nat.le_add_right _ _, fun _ => ⟨rfl, rfl⟩, fun h => absurd rfl h, fun g tg _ _ => ⟨by simp, id⟩⟩
    have hc := hc.resolve_left e
    obtain ⟨k, hk, h1⟩ := mem_below_succ.mp hc
    obtain ⟨K1, K2, eK⟩ := List.append_of_mem hk
    have eb : belowN ls (n + 1) r = (K1.flatMap fun c => c :: belowN ls n c) ++ ((k :: belowN ls n k) ++ K2.flatMap fun c => c :: belowN ls n c) := by
      show (ls r).flatMap _ = _
      rw [eK, List.flatMap_append, List.flatMap_cons]
    have nd := (List.nodup_cons.mp W.nd).2
    rw [eb] at nd
    have nd1 := List.nodup_append.mp nd
    have nd2 := List.nodup_append.mp nd1.2.1
    have hck : c ∈ k :: belowN ls n k := List.mem_cons.mpr h1
    have Wk : WF ls n k := ⟨W.fits k hk, nd2.1⟩
    obtain ⟨m, A, B, w1, w2, w3, w4, w5⟩ := ih k c Wk h1
    refine ⟨m, (K1.flatMap fun c => (c, r, tf c) :: walkR ls tf n c) ++ (k, r, tf k) :: A, B ++ K2.flatMap fun c => (c, r, tf c) :: walkR ls tf n c, w1, ?_, fun z => absurd z e, fun _ => ?_, fun g tg hg ht => ?_⟩
    · rw [eb, List.length_append, List.length_append, List.length_cons]
      omega
    · by_cases ek : c = k
      · obtain ⟨a, b⟩ := w3 ek
        rw [a, ← ek]
        exact ⟨_, r, rfl⟩
      · obtain ⟨A0, p, ea⟩ := w4 ek
        rw [ea]
        exact ⟨(K1.flatMap fun c => (c, r, tf c) :: walkR ls tf n c) ++ (k, r, tf k) :: A0, p, by simp⟩
    · have in1 : ∀ {d y : Str}, d ∈ ls r → (y = d ∨ y ∈ belowN ls n d) → y ∈ belowN ls (n + 1) r := fun hd hy => mem_below_succ.mpr ⟨_, hd, hy⟩
      have er : g r = ls r := hg r (.inl rfl) (fun z => e z.symm)
      have other : ∀ d ∈ ls r, c ∉ d :: belowN ls n d → ((d, r, tg d) :: walkR g tg n d = (d, r, tf d) :: walkR ls tf n d) ∧ Fits g n d := fun d hd nc => by
        have q := walk_congr (ls := ls) (g := g) (tf := tf) (tg := tg) (n := n) (x := d) (fun y hy => hg y (.inr (in1 hd hy)) fun z => nc (by rw [← z]; exact List.mem_cons.mpr hy)) fun y hy => ht y (in1 hd (.inr hy))
        rw [q.1, ht d (in1 hd (.inl rfl))]
        exact ⟨rfl, q.2 (W.fits d hd)⟩
      have m1 : ∀ d ∈ K1, d ∈ ls r ∧ c ∉ d :: belowN ls n d := fun d hd => ⟨by rw [eK]; exact List.mem_append_left _ hd, fun z => nd1.2.2 c (List.mem_flatMap.mpr ⟨d, hd, z⟩) c (List.mem_append_left _ hck) rfl⟩
      have m2 : ∀ d ∈ K2, d ∈ ls r ∧ c ∉ d :: belowN ls n d := fun d hd => ⟨by rw [eK]; exact List.mem_append_right _ (List.mem_cons_of_mem _ hd), fun z => nd2.2.2 c hck c (List.mem_flatMap.mpr ⟨d, hd, z⟩) rfl⟩
      obtain ⟨v1, v2⟩ := w5 g tg (fun y hy ny => hg y (.inr (in1 hk hy)) ny) fun y hy => ht y (in1 hk (.inr hy))
      constructor
      · show (g r).flatMap _ = _
        rw [er, eK, List.flatMap_append, List.flatMap_cons, flat_congr fun d hd => (other d (m1 d hd).1 (m1 d hd).2).1, flat_congr (l := K2) fun d hd => (other d (m2 d hd).1 (m2 d hd).2).1, v1, ht k (in1 hk (.inl rfl))]
        simp
      · intro f d hd
        rw [er, eK] at hd
        rcases List.mem_append.mp hd with z | z
        · exact (other d (m1 d z).1 (m1 d z).2).2
        · rcases List.mem_cons.mp z with z | z
          · rw [z]
            exact v2 f
          · exact (other d (m2 d z).1 (m2 d z).2).2
end
end RD
set_option Elab.async false
set_option linter.all false
set_option maxRecDepth 100000
set_option maxHeartbeats 4000000
local macro_rules | `(tactic| walk_at "isT") => `(tactic| refine ⟨_, _, _, _, true, rfl, L2.ClsV.ty _, L2.TyX.base (by first | exact .int _ | exact .str _ | exact .bl _ | exact .non), L2.kit_ty (by decide +kernel), ?_⟩)
local macro_rules | `(tactic| walk_at "isF") => `(tactic| refine ⟨_, _, _, _, false, rfl, L2.ClsV.ty _, L2.TyX.base (by first | exact .int _ | exact .str _ | exact .bl _ | exact .non), L2.kit_ty (by decide +kernel), ?_⟩)
namespace RD
open PySem PySem.Spec PyProof.Rows L2
/-! ### end_below, spots, put_in on a walk -/
def ebG (x : Str) : List Pr → List Str → Nat → Nat → List Str × Nat
  | [], kn, _, e => (kn, e)
  | p :: r, kn, s, e => if p.1 = x ∨ p.2.1 ∈ kn then ebG x r (kn ++ [p.1]) (s + 1) (s + 1) else ebG x r kn (s + 1) e
theorem ebG_hit {x : Str} {p : Pr} {r : List Pr} {kn : List Str} {s e : Nat} (h : p.1 = x ∨ p.2.1 ∈ kn) : ebG x (p :: r) kn s e = ebG x r (kn ++ [p.1]) (s + 1) (s + 1) := if_pos h
theorem ebG_miss {x : Str} {p : Pr} {r : List Pr} {kn : List Str} {s e : Nat} (h : ¬ (p.1 = x ∨ p.2.1 ∈ kn)) : ebG x (p :: r) kn s e = ebG x r kn (s + 1) e := if_neg h
theorem ebG_app (x : Str) : ∀ (a b : List Pr) (kn : List Str) (s e : Nat), ebG x (a ++ b) kn s e = ebG x b (ebG x a kn s e).1 (s + a.length) (ebG x a kn s e).2
  | [], b, kn, s, e => rfl
  | p :: r, b, kn, s, e => by
    have e1 : s + (p :: r).length = s + 1 + r.length := by rw [List.length_cons]; omega
    rw [e1, List.cons_append]
    by_cases h : p.1 = x ∨ p.2.1 ∈ kn
    · rw [ebG_hit h, ebG_hit h]
      exact ebG_app x r b _ _ _
    · rw [ebG_miss h, ebG_miss h]
      exact ebG_app x r b _ _ _
theorem ebAt_take (ps : List Pr) (x : Str) : ∀ i, i ≤ ps.length → ebAt ps x i = ebG x (ps.take i) [x] 0 0
  | 0, _ => by rw [List.take_zero]; rfl
  | i + 1, h => by
    have ih := ebAt_take ps x i (by omega)
    have hp : ps[i]? = some ps[i] := List.getElem?_eq_getElem (by omega)
    have et : ps.take (i + 1) = ps.take i ++ [ps[i]] := by
      rw [List.take_succ, hp]
      rfl
    have el : (ps.take i).length = i := by rw [List.length_take]; omega
    rw [et, ebG_app, el, Nat.zero_add, ← ih]
    show (match ps[i]? with | some p => _ | none => _) = _
    rw [hp]
    show (if ps[i].1 = x ∨ ps[i].2.1 ∈ (ebAt ps x i).1 then ((ebAt ps x i).1 ++ [ps[i].1], i + 1) else ebAt ps x i) = _
    by_cases h : ps[i].1 = x ∨ ps[i].2.1 ∈ (ebAt ps x i).1
    · rw [if_pos h, ebG_hit h]
      rfl
    · rw [if_neg h, ebG_miss h]
      rfl
theorem endB_eq (ps : List Pr) (x : Str) : endB ps x = (ebG x ps [x] 0 0).2 := by
  unfold endB
  rw [ebAt_take ps x _ (Nat.le_refl _), List.take_length]
theorem ebG_no (x : Str) : ∀ (l : List Pr) (kn : List Str) (s e : Nat), (∀ p ∈ l, p.1 ≠ x ∧ p.2.1 ∉ kn) → ebG x l kn s e = (kn, e)
  | [], _, _, _, _ => rfl
  | p :: r, kn, s, e, h => by
    have q := h p (List.mem_cons_self ..)
    rw [ebG_miss fun z => z.elim q.1 q.2]
    exact ebG_no x r kn _ _ fun y hy => h y (List.mem_cons_of_mem _ hy)
theorem ebG_pre (x : Str) : ∀ (l : List Pr) (kn : List Str) (s : Nat), Pre kn l → ebG x l kn s s = (kn ++ nmz l, s + l.length)
  | [], kn, s, _ => by rw [show nmz [] = [] from rfl, List.append_nil]; rfl
  | p :: r, kn, s, h => by
    rw [ebG_hit (.inr h.1), ebG_pre x r _ _ h.2]
    have e1 : (kn ++ [p.1]) ++ nmz r = kn ++ nmz (p :: r) := by simp [nmz]
    rw [e1, List.length_cons]
    congr 1
    omega
theorem endB_mid {A S B : List Pr} {c : Str} (hS : Pre [c] S) (hA : A = [] ∨ ∃ A0 p, A = A0 ++ [p] ∧ p.1 = c ∧ ∀ q ∈ A0, q.1 ≠ c ∧ q.2.1 ≠ c) (hB : ∀ q ∈ B, q.1 ≠ c ∧ q.2.1 ≠ c ∧ q.2.1 ∉ nmz S) : endB (A ++ S ++ B) c = A.length + S.length := by
  rw [endB_eq, ebG_app, ebG_app]
  have key : ∃ kn : List Str, (∀ y, y ∈ kn ↔ y = c) ∧ ebG c A [c] 0 0 = (kn, A.length) := by
    rcases hA with rfl | ⟨A0, p, rfl, hp, h0⟩
    · exact ⟨[c], fun y => List.mem_singleton, rfl⟩
    · refine ⟨[c] ++ [p.1], fun y => by simp [hp], ?_⟩
      rw [ebG_app, ebG_no c A0 [c] 0 0 fun q hq => ⟨(h0 q hq).1, fun z => (h0 q hq).2 (List.mem_singleton.mp z)⟩]
      show ebG c [p] [c] (0 + A0.length) 0 = _
      rw [ebG_hit (.inl hp), List.length_append, Nat.zero_add]
      rfl
  obtain ⟨kn, hk, e⟩ := key
  rw [e]
  show (ebG c B (ebG c S kn (0 + A.length) A.length).1 _ (ebG c S kn (0 + A.length) A.length).2).2 = _
  rw [Nat.zero_add, ebG_pre c S kn _ (Pre.mono (fun x hx => (hk x).mpr (List.mem_singleton.mp hx)) hS)]
  rw [ebG_no c B _ _ _ fun q hq => ⟨(hB q hq).1, fun z => ?_⟩]
  rcases List.mem_append.mp z with z | z
  · exact (hB q hq).2.1 ((hk _).mp z)
  · exact (hB q hq).2.2 z
def spotsO (k : Nat) (ps : List Pr) (c : Str) : List Nat := (ps.zipIdx k).filterMap fun d => if d.1.2.1 = c then some d.2 else none
theorem spotsO_nil (k : Nat) (c : Str) : spotsO k [] c = [] := rfl
theorem spotsO_cons (k : Nat) (p : Pr) (r : List Pr) (c : Str) : spotsO k (p :: r) c = (if p.2.1 = c then [k] else []) ++ spotsO (k + 1) r c := by
  unfold spotsO
  rw [List.zipIdx_cons, List.filterMap_cons]
  by_cases e : p.2.1 = c <;> simp [e]
theorem spotsO_app (c : Str) : ∀ (a b : List Pr) (k : Nat), spotsO k (a ++ b) c = spotsO k a c ++ spotsO (k + a.length) b c
  | [], b, k => rfl
  | p :: r, b, k => by
    have e1 : k + (p :: r).length = k + 1 + r.length := by rw [List.length_cons]; omega
    rw [e1, List.cons_append, spotsO_cons, spotsO_cons, spotsO_app c r b, List.append_assoc]
theorem spotsO_no (c : Str) : ∀ (a : List Pr) (k : Nat), (∀ p ∈ a, p.2.1 ≠ c) → spotsO k a c = []
  | [], _, _ => rfl
  | p :: r, k, h => by
    rw [spotsO_cons, if_neg (h p (List.mem_cons_self ..)), spotsO_no c r _ fun q hq => h q (List.mem_cons_of_mem _ hq)]
    rfl
theorem spots_kids {c : Str} {t : Str → Int} {G : Str → List Pr} : ∀ (L : List Str) (k : Nat), (∀ y ∈ L, ∀ p ∈ G y, p.2.1 ≠ c) → (spotsO k (L.flatMap fun y => (y, c, t y) :: G y) c).length = L.length ∧
    ∀ j, j < L.length → (spotsO k (L.flatMap fun y => (y, c, t y) :: G y) c).getD j 0 = k + ((L.take j).flatMap fun y => (y, c, t y) :: G y).length
  | [], k, _ => ⟨rfl, fun j hj => absurd hj (Nat.not_lt_zero _)⟩
  | y :: r, k, h => by
    have hy := h y (List.mem_cons_self ..)
    have ih := spots_kids (t := t) r (k + 1 + (G y).length) fun z hz => h z (List.mem_cons_of_mem _ hz)
    have e : spotsO k ((y :: r).flatMap fun y => (y, c, t y) :: G y) c = k :: spotsO (k + 1 + (G y).length) (r.flatMap fun y => (y, c, t y) :: G y) c := by
      rw [List.flatMap_cons, List.cons_append, spotsO_cons, if_pos rfl, spotsO_app, spotsO_no c _ _ hy]
      rfl
    rw [e]
    refine ⟨by rw [List.length_cons, ih.1, List.length_cons], fun j hj => ?_⟩
    cases j with
    | zero => simp
    | succ j =>
      rw [List.getD_cons_succ, ih.2 j (by rw [List.length_cons] at hj; omega), List.take_succ_cons, List.flatMap_cons, List.length_append, List.length_cons]
      omega
theorem putIn_mid {A B gs : List Pr} {c : Str} {t : Str → Int} {G : Str → List Pr} (L : List Str) (hG : ∀ y ∈ L, ∀ p ∈ G y, p.2.1 ≠ c) (hA0 : ∀ p ∈ A, p.2.1 ≠ c) (hB0 : ∀ p ∈ B, p.2.1 ≠ c)
    (he : endB (A ++ (L.flatMap fun y => (y, c, t y) :: G y) ++ B) c = A.length + (L.flatMap fun y => (y, c, t y) :: G y).length) :
    (spotsN (A ++ (L.flatMap fun y => (y, c, t y) :: G y) ++ B) c).length = L.length ∧
    ∀ pl : Option Nat, pl.getD L.length ≤ L.length → putIn (A ++ (L.flatMap fun y => (y, c, t y) :: G y) ++ B) gs c pl =
      A ++ ((L.take (pl.getD L.length)).flatMap fun y => (y, c, t y) :: G y) ++ gs ++ ((L.drop (pl.getD L.length)).flatMap fun y => (y, c, t y) :: G y) ++ B := by
  have es : spotsN (A ++ (L.flatMap fun y => (y, c, t y) :: G y) ++ B) c = spotsO A.length (L.flatMap fun y => (y, c, t y) :: G y) c := by
    show spotsO 0 _ c = _
    rw [spotsO_app, spotsO_app, spotsO_no c A _ hA0, spotsO_no c B _ hB0, List.append_nil, Nat.zero_add]
    rfl
  obtain ⟨k1, k2⟩ := spots_kids (t := t) L A.length hG
  refine ⟨by rw [es, k1], fun pl hpl => ?_⟩
  have ea : atOf (A ++ (L.flatMap fun y => (y, c, t y) :: G y) ++ B) c pl = A.length + ((L.take (pl.getD L.length)).flatMap fun y => (y, c, t y) :: G y).length := by
    cases pl with
    | none =>
      show endB _ c = _
      rw [he]
      show _ = A.length + ((L.take L.length).flatMap _).length
      rw [List.take_length]
    | some i =>
      have hpl : i ≤ L.length := hpl
      show (if i = (spotsN _ c).length then endB _ c else (spotsN _ c).getD i 0) = A.length + ((L.take i).flatMap _).length
      rw [es, k1]
      by_cases e : i = L.length
      · rw [if_pos e, he, e, List.take_length]
      · rw [if_neg e, k2 i (by omega)]
  generalize pl.getD L.length = j at ea hpl ⊢
  have eL : (L.flatMap fun y => (y, c, t y) :: G y) = ((L.take j).flatMap fun y => (y, c, t y) :: G y) ++ ((L.drop j).flatMap fun y => (y, c, t y) :: G y) := by
    rw [← List.flatMap_append, List.take_append_drop]
  unfold putIn
  rw [ea, eL]
  generalize ((L.take j).flatMap fun y => (y, c, t y) :: G y) = T
  generalize ((L.drop j).flatMap fun y => (y, c, t y) :: G y) = D
  have e1 : A ++ (T ++ D) ++ B = (A ++ T) ++ (D ++ B) := by simp
  have e2 : A.length + T.length = (A ++ T).length := by rw [List.length_append]
  rw [e1, e2, List.take_left' rfl, List.drop_left' rfl]
  simp
end RD
set_option Elab.async false
set_option linter.all false
set_option maxRecDepth 100000
set_option maxHeartbeats 4000000
local macro_rules | `(tactic| walk_at "isT") => `(tactic| refine ⟨_, _, _, _, true, rfl, L2.ClsV.ty _, L2.TyX.base (by first | exact .int _ | exact .str _ | exact .bl _ | exact .non), L2.kit_ty (by decide +kernel), ?_⟩)
local macro_rules | `(tactic| walk_at "isF") => `(tactic| refine ⟨_, _, _, _, false, rfl, L2.ClsV.ty _, L2.TyX.base (by first | exact .int _ | exact .str _ | exact .bl _ | exact .non), L2.kit_ty (by decide +kernel), ?_⟩)
namespace RD
open PySem PySem.Spec PyProof.Rows L2
/-! ### pieces of a walk; one put in -/
section
variable {ls g : Str → List Str} {tf tg : Str → Int} {n m k : Nat} {r c x : Str}
theorem mem_nmz {p : Pr} {l : List Pr} (h : p ∈ l) : p.1 ∈ nmz l := List.mem_map.mpr ⟨p, h, rfl⟩
structure Piece (ls : Str → List Str) (tf : Str → Int) (n : Nat) (r c : Str) (m : Nat) (A B : List Pr) : Prop where
  wf : WF ls m c
  fuel : n ≤ m + (belowN ls n r).length
  eq : walkR ls tf n r = A ++ walkR ls tf m c ++ B
  eqn : belowN ls n r = nmz A ++ belowN ls m c ++ nmz B
  nA : ∀ p ∈ A, p.2.1 ≠ c
  nB : ∀ p ∈ B, p.2.1 ≠ c
  eb : endB (A ++ walkR ls tf m c ++ B) c = A.length + (walkR ls tf m c).length
  dA : ∀ y ∈ nmz A, y ∉ belowN ls m c ∧ y ∉ nmz B
  dB : ∀ y ∈ nmz B, y ∉ belowN ls m c
  go : ∀ (g : Str → List Str) (tg : Str → Int), (∀ y, y = r ∨ y ∈ belowN ls n r → y ≠ c → g y = ls y) → (∀ y ∈ belowN ls n r, tg y = tf y) → walkR g tg n r = A ++ walkR g tg m c ++ B ∧ (Fits g m c → Fits g n r)
theorem piece (tf : Str → Int) (W : WF ls n r) (hc : c = r ∨ c ∈ belowN ls n r) : ∃ m A B, Piece ls tf n r c m A B := by
  obtain ⟨m, A, B, w1, w2, w3, w4, w5⟩ := ctx ls tf n r c W hc
  have e1 := (w5 ls tf (fun _ _ _ => rfl) fun _ _ => rfl).1
  have e2 : belowN ls n r = nmz A ++ belowN ls m c ++ nmz B := by
    rw [← nmz_walkR ls tf, e1, nmz_app, nmz_app, nmz_walkR]
  have nd := (List.nodup_cons.mp W.nd).2
  have nr := (List.nodup_cons.mp W.nd).1
  rw [e2] at nd nr
  have nd1 := List.nodup_append.mp nd
  have nd2 := List.nodup_append.mp nd1.1
  have dA : ∀ y ∈ nmz A, y ∉ belowN ls m c ∧ y ∉ nmz B := fun y hy => ⟨fun z => nd2.2.2 y hy y z rfl, fun z => nd1.2.2 y (List.mem_append_left _ hy) y z rfl⟩
  have dB : ∀ y ∈ nmz B, y ∉ belowN ls m c := fun y hy z => nd1.2.2 y (List.mem_append_right _ z) y hy rfl
  have clo : ∀ {y z : Str}, (y = c ∨ y ∈ belowN ls m c) → z ∈ ls y → z ∈ belowN ls m c := fun hy hz => below_closed w1.fits hy hz
  have rA : ∀ p ∈ A, p.1 ∈ ls p.2.1 := fun p hp => (rows_of (tf := tf) (n := n) (x := r) (p := p) (by rw [e1]; exact List.mem_append_left _ (List.mem_append_left _ hp))).1
  have rB : ∀ p ∈ B, p.1 ∈ ls p.2.1 := fun p hp => (rows_of (tf := tf) (n := n) (x := r) (p := p) (by rw [e1]; exact List.mem_append_right _ hp)).1
  have nA : ∀ p ∈ A, p.2.1 ≠ c := fun p hp z => (dA _ (mem_nmz hp)).1 (clo (.inl z) (rA p hp))
  have nB : ∀ p ∈ B, p.2.1 ≠ c := fun p hp z => dB _ (mem_nmz hp) (clo (.inl z) (rB p hp))
  refine ⟨m, A, B, w1, w2, e1, e2, nA, nB, endB_mid (pre_walk ls tf m c [c] (List.mem_singleton.mpr rfl)) ?_ fun q hq => ⟨fun z => ?_, nB q hq, fun z => ?_⟩, dA, dB, w5⟩
  · by_cases e : c = r
    · exact .inl (w3 e).1
    · obtain ⟨A0, p, ea⟩ := w4 e
      refine .inr ⟨A0, (c, p, tf c), ea, rfl, fun q hq => ⟨fun z => ?_, nA q (by rw [ea]; exact List.mem_append_left _ hq)⟩⟩
      have ndA := nd2.1
      rw [ea, nmz_app] at ndA
      exact (List.nodup_append.mp ndA).2.2 _ (mem_nmz hq) c (List.mem_singleton.mpr rfl) z
  · by_cases e : c = r
    · rw [(w3 e).2] at hq
      cases hq
    · obtain ⟨A0, p, ea⟩ := w4 e
      have cA : c ∈ nmz A := by
        rw [ea, nmz_app]
        exact List.mem_append_right _ (List.mem_singleton.mpr rfl)
      exact (dA c cA).2 (z ▸ mem_nmz hq)
  · rw [nmz_walkR] at z
    exact dB _ (mem_nmz hq) (clo (.inr z) (rB q hq))
theorem Piece.sub {A B : List Pr} (p : Piece ls tf n r c m A B) {y : Str} (h : y ∈ belowN ls m c) : y ∈ belowN ls n r := by
  rw [p.eqn]
  exact List.mem_append_left _ (List.mem_append_right _ h)
/-- below a child of c, c does not stand -/
theorem WF.kid (W : WF ls (m + 1) c) {y : Str} (h : y ∈ ls c) : c ∉ y :: belowN ls m y ∧ Fits ls m y := ⟨fun z => (List.nodup_cons.mp W.nd).1 (mem_below_succ.mpr ⟨y, h, List.mem_cons.mp z⟩), W.fits y h⟩
theorem ins (W : WF ls n r) (hc : c = r ∨ c ∈ belowN ls n r) (pl : Option Nat) (hpl : pl.getD (ls c).length ≤ (ls c).length) (hg : ∀ y, y = r ∨ y ∈ belowN ls n r → y ≠ c → g y = ls y) (hgc : g c = insAt (ls c) x pl) (ht : ∀ y ∈ belowN ls n r, tg y = tf y)
    (fx : Fits g k x) (hn : (belowN ls n r).length + 1 + k ≤ n) (nx : (x :: belowN g k x).Nodup) (dx : ∀ y ∈ x :: belowN g k x, ¬ (y = r ∨ y ∈ belowN ls n r)) :
    (spotsN (walkR ls tf n r) c).length = (ls c).length ∧ putIn (walkR ls tf n r) ((x, c, tg x) :: walkR g tg k x) c pl = walkR g tg n r ∧ WF g n r ∧ (belowN g n r).Perm ((x :: belowN g k x) ++ belowN ls n r) := by
  obtain ⟨m, A, B, p⟩ := piece tf W hc
  obtain ⟨m, rfl⟩ : ∃ m', m = m' + 1 := ⟨m - 1, by have := p.fuel; omega⟩
  have hk : k ≤ m := by have := p.fuel; omega
  have e0 : walkR ls tf (m + 1) c = (ls c).flatMap fun y => (y, c, tf y) :: walkR ls tf m y := rfl
  have hG : ∀ y ∈ ls c, ∀ q ∈ walkR ls tf m y, q.2.1 ≠ c := fun y hy q hq z => (p.wf.kid hy).1 (by
    rw [← z]
    exact List.mem_cons.mpr (rows_of hq).2.2)
  have eb := p.eb
  rw [e0] at eb
  obtain ⟨s1, s2⟩ := putIn_mid (gs := (x, c, tg x) :: walkR g tg k x) (ls c) hG p.nA p.nB eb
  have s2 := s2 pl hpl
  rw [← e0, ← p.eq] at s1 s2
  obtain ⟨v1, v2⟩ := p.go g tg hg ht
  have inK : ∀ {y z : Str}, y ∈ ls c → (z = y ∨ z ∈ belowN ls m y) → z ∈ belowN ls n r := fun hy hz => p.sub (mem_below_succ.mpr ⟨_, hy, hz⟩)
  have kid : ∀ y ∈ ls c, ((y, c, tg y) :: walkR g tg m y = (y, c, tf y) :: walkR ls tf m y) ∧ Fits g m y := fun y hy => by
    have q := walk_congr (ls := ls) (g := g) (tf := tf) (tg := tg) (n := m) (x := y) (fun z hz => hg z (.inr (inK hy hz)) fun e => (p.wf.kid hy).1 (by rw [← e]; exact List.mem_cons.mpr hz)) fun z hz => ht z (inK hy (.inr hz))
    rw [q.1, ht y (inK hy (.inl rfl))]
    exact ⟨rfl, q.2 (p.wf.kid hy).2⟩
  have fxm : Fits g m x := fx.le hk
  have ex : walkR g tg m x = walkR g tg k x := walk_fuel fxm fx
  have emid : walkR g tg (m + 1) c = ((ls c).take (pl.getD (ls c).length)).flatMap (fun y => (y, c, tf y) :: walkR ls tf m y) ++ ((x, c, tg x) :: walkR g tg k x) ++ ((ls c).drop (pl.getD (ls c).length)).flatMap fun y => (y, c, tf y) :: walkR ls tf m y := by
    show (g c).flatMap _ = _
    rw [hgc]
    unfold insAt
    rw [List.flatMap_append, List.flatMap_append, List.flatMap_singleton, ex, flat_congr (l := (ls c).take _) fun y hy => (kid y (List.mem_of_mem_take hy)).1, flat_congr (l := (ls c).drop _) fun y hy => (kid y (List.mem_of_mem_drop hy)).1]
  have enew : walkR g tg n r = putIn (walkR ls tf n r) ((x, c, tg x) :: walkR g tg k x) c pl := by
    rw [v1, emid, s2]
    simp
  have eL : walkR ls tf (m + 1) c = ((ls c).take (pl.getD (ls c).length)).flatMap (fun y => (y, c, tf y) :: walkR ls tf m y) ++ ((ls c).drop (pl.getD (ls c).length)).flatMap fun y => (y, c, tf y) :: walkR ls tf m y := by
    rw [← List.flatMap_append, List.take_append_drop]
    rfl
  have perm : (belowN g n r).Perm ((x :: belowN g k x) ++ belowN ls n r) := by
    rw [← nmz_walkR g tg n, ← nmz_walkR ls tf n, ← nmz_walkR g tg k, enew, s2, p.eq, eL]
    generalize ((ls c).take (pl.getD (ls c).length)).flatMap (fun y => (y, c, tf y) :: walkR ls tf m y) = T
    generalize ((ls c).drop (pl.getD (ls c).length)).flatMap (fun y => (y, c, tf y) :: walkR ls tf m y) = D
    have ex : x :: nmz (walkR g tg k x) = nmz ((x, c, tg x) :: walkR g tg k x) := rfl
    rw [ex, ← nmz_app]
    unfold nmz
    refine List.Perm.map _ ?_
    generalize (x, c, tg x) :: walkR g tg k x = M
    have e1 : A ++ T ++ M ++ D ++ B = (A ++ T) ++ (M ++ (D ++ B)) := by simp
    have e2 : M ++ (A ++ (T ++ D) ++ B) = M ++ ((A ++ T) ++ (D ++ B)) := by simp
    rw [e1, e2]
    exact List.perm_append_comm_assoc _ _ _
  have rnot : r ∉ belowN ls n r := (List.nodup_cons.mp W.nd).1
  refine ⟨s1, enew.symm, ⟨v2 fun y hy => ?_, ?_⟩, perm⟩
  · rw [hgc] at hy
    unfold insAt at hy
    rcases List.mem_append.mp hy with z | z
    · rcases List.mem_append.mp z with z | z
      · exact (kid y (List.mem_of_mem_take z)).2
      · rw [List.mem_singleton.mp z]
        exact fxm
    · exact (kid y (List.mem_of_mem_drop z)).2
  · refine List.nodup_cons.mpr ⟨fun z => ?_, perm.nodup_iff.mpr (List.nodup_append.mpr ⟨nx, (List.nodup_cons.mp W.nd).2, fun a ha b hb e => dx a ha (.inr (e ▸ hb))⟩)⟩
    rcases List.mem_append.mp (perm.mem_iff.mp z) with z | z
    · exact dx r z (.inl rfl)
    · exact rnot z
end
end RD
set_option Elab.async false
set_option linter.all false
set_option maxRecDepth 100000
set_option maxHeartbeats 4000000
local macro_rules | `(tactic| walk_at "isT") => `(tactic| refine ⟨_, _, _, _, true, rfl, L2.ClsV.ty _, L2.TyX.base (by first | exact .int _ | exact .str _ | exact .bl _ | exact .non), L2.kit_ty (by decide +kernel), ?_⟩)
local macro_rules | `(tactic| walk_at "isF") => `(tactic| refine ⟨_, _, _, _, false, rfl, L2.ClsV.ty _, L2.TyX.base (by first | exact .int _ | exact .str _ | exact .bl _ | exact .non), L2.kit_ty (by decide +kernel), ?_⟩)
namespace RD
open PySem PySem.Spec PyProof.Rows L2
/-! ### one taken out -/
section
variable {ls g : Str → List Str} {tf tg : Str → Int} {n m k : Nat} {r c x : Str}
theorem cutOut (tf : Str → Int) (W : WF ls n r) (hc : c = r ∨ c ∈ belowN ls n r) (hx : x ∈ ls c) (hn : (belowN ls n r).length + 2 ≤ n) :
    ∃ (m : Nat) (T D : List Str) (L1 L2 : List Pr), ls c = T ++ x :: D ∧ x ∉ T ∧ x ∉ D ∧ Fits ls (m + 1) x ∧ (∀ y, y = x ∨ y ∈ belowN ls (m + 1) x → y ∈ belowN ls n r ∧ y ≠ c) ∧ (x :: belowN ls (m + 1) x).Nodup ∧
      walkR ls tf n r = L1 ++ ((x, c, tf x) :: walkR ls tf (m + 1) x) ++ L2 ∧ (∀ p ∈ L1 ++ L2, p.1 ≠ x ∧ p.1 ∉ belowN ls (m + 1) x ∧ p.1 ∈ ls p.2.1) ∧
      ∀ (g : Str → List Str) (M : List Str), (∀ y, y = r ∨ y ∈ belowN ls n r → y ≠ c → g y = ls y) → g c = T ++ M ++ D → (∀ y ∈ M, walkR g tf (m + 1) y = walkR ls tf (m + 1) y ∧ Fits g (m + 1) y) →
        walkR g tf n r = L1 ++ M.flatMap (fun y => (y, c, tf y) :: walkR ls tf (m + 1) y) ++ L2 ∧ Fits g n r := by
  obtain ⟨m, A, B, p⟩ := piece tf W hc
  obtain ⟨m, rfl⟩ : ∃ m', m = m' + 1 + 1 := ⟨m - 2, by have := p.fuel; omega⟩
  have ndc := (List.nodup_cons.mp p.wf.nd).2
  have inK : ∀ {y z : Str}, y ∈ ls c → (z = y ∨ z ∈ belowN ls (m + 1) y) → z ∈ belowN ls n r := fun hy hz => p.sub (mem_below_succ.mpr ⟨_, hy, hz⟩)
  obtain ⟨T, D, ec⟩ := List.append_of_mem hx
  have eS : walkR ls tf (m + 1 + 1) c = T.flatMap (fun y => (y, c, tf y) :: walkR ls tf (m + 1) y) ++ (((x, c, tf x) :: walkR ls tf (m + 1) x) ++ D.flatMap fun y => (y, c, tf y) :: walkR ls tf (m + 1) y) := by
    show (ls c).flatMap _ = _
    rw [ec, List.flatMap_append, List.flatMap_cons]
  have eW : walkR ls tf n r = (A ++ T.flatMap (fun y => (y, c, tf y) :: walkR ls tf (m + 1) y)) ++ ((x, c, tf x) :: walkR ls tf (m + 1) x) ++ (D.flatMap (fun y => (y, c, tf y) :: walkR ls tf (m + 1) y) ++ B) := by
    rw [p.eq, eS]
    simp
  have nd := (List.nodup_cons.mp W.nd).2
  rw [← nmz_walkR ls tf, eW, nmz_app, nmz_app] at nd
  have nd1 := List.nodup_append.mp nd
  have nd2 := List.nodup_append.mp nd1.1
  have eX : nmz ((x, c, tf x) :: walkR ls tf (m + 1) x) = x :: belowN ls (m + 1) x := congrArg (x :: ·) (nmz_walkR ls tf (m + 1) x)
  rw [eX] at nd1 nd2
  have hrow : ∀ q, q ∈ (A ++ T.flatMap (fun y => (y, c, tf y) :: walkR ls tf (m + 1) y)) ++ (D.flatMap (fun y => (y, c, tf y) :: walkR ls tf (m + 1) y) ++ B) → q ∈ walkR ls tf n r := fun q hq => by
    rw [eW]
    rcases List.mem_append.mp hq with z | z
    · exact List.mem_append_left _ (List.mem_append_left _ z)
    · exact List.mem_append_right _ z
  have hno : ∀ q, q ∈ (A ++ T.flatMap (fun y => (y, c, tf y) :: walkR ls tf (m + 1) y)) ++ (D.flatMap (fun y => (y, c, tf y) :: walkR ls tf (m + 1) y) ++ B) → q.1 ∉ x :: belowN ls (m + 1) x := fun q hq h => by
    rcases List.mem_append.mp hq with z | z
    · exact nd2.2.2 _ (mem_nmz z) _ h rfl
    · exact nd1.2.2 _ (List.mem_append_right _ h) _ (mem_nmz z) rfl
  have inT : ∀ y ∈ T, x ≠ y := fun y hy e => hno (y, c, tf y) (List.mem_append_left _ (List.mem_append_right _ (List.mem_flatMap.mpr ⟨y, hy, List.mem_cons_self ..⟩))) (by rw [e]; exact List.mem_cons_self ..)
  have inD : ∀ y ∈ D, x ≠ y := fun y hy e => hno (y, c, tf y) (List.mem_append_right _ (List.mem_append_left _ (List.mem_flatMap.mpr ⟨y, hy, List.mem_cons_self ..⟩))) (by rw [e]; exact List.mem_cons_self ..)
  refine ⟨m, T, D, _, _, ec, fun z => inT x z rfl, fun z => inD x z rfl, (p.wf.kid hx).2, fun y hy => ⟨inK hx hy, fun e => (p.wf.kid hx).1 (by rw [← e]; exact List.mem_cons.mpr hy)⟩, nd2.2.1, eW, fun q hq => ⟨fun e => hno q hq (by rw [e]; exact List.mem_cons_self ..), fun e => hno q hq (List.mem_cons_of_mem _ e), (rows_of (hrow q hq)).1⟩, fun g M hg hgc hM => ?_⟩
  obtain ⟨v1, v2⟩ := p.go g tf hg fun _ _ => rfl
  have kid : ∀ y ∈ ls c, ((y, c, tf y) :: walkR g tf (m + 1) y = (y, c, tf y) :: walkR ls tf (m + 1) y) ∧ Fits g (m + 1) y := fun y hy => by
    have q := walk_congr (ls := ls) (g := g) (tf := tf) (tg := tf) (n := m + 1) (x := y) (fun z hz => hg z (.inr (inK hy hz)) fun e => (p.wf.kid hy).1 (by rw [← e]; exact List.mem_cons.mpr hz)) fun z hz => rfl
    rw [q.1]
    exact ⟨rfl, q.2 (p.wf.kid hy).2⟩
  have tin : ∀ y ∈ T, y ∈ ls c := fun y hy => by rw [ec]; exact List.mem_append_left _ hy
  have din : ∀ y ∈ D, y ∈ ls c := fun y hy => by rw [ec]; exact List.mem_append_right _ (List.mem_cons_of_mem _ hy)
  constructor
  · rw [v1]
    show A ++ (g c).flatMap _ ++ B = _
    rw [hgc, List.flatMap_append, List.flatMap_append, flat_congr (l := T) fun y hy => (kid y (tin y hy)).1, flat_congr (l := D) fun y hy => (kid y (din y hy)).1, flat_congr (l := M) fun y hy => congrArg ((y, c, tf y) :: ·) (hM y hy).1]
    simp
  · refine v2 fun y hy => ?_
    rw [hgc] at hy
    rcases List.mem_append.mp hy with z | z
    · rcases List.mem_append.mp z with z | z
      · exact (kid y (tin y z)).2
      · exact (hM y z).2
    · exact (kid y (din y z)).2
theorem fm_keep {α : Type} {f : α → Option α} {l : List α} (h : ∀ p ∈ l, f p = some p) : l.filterMap f = l := by
  induction l with
  | nil => rfl
  | cons p r ih => rw [List.filterMap_cons, h p (List.mem_cons_self ..), ih fun q hq => h q (List.mem_cons_of_mem _ hq)]
theorem fm_lose {α : Type} {f : α → Option α} {l : List α} (h : ∀ p ∈ l, f p = none) : l.filterMap f = [] := by
  rw [List.filterMap_eq_nil_iff]
  exact h
theorem map_keep {α : Type} {f : α → α} {l : List α} (h : ∀ p ∈ l, f p = p) : l.map f = l := by
  induction l with
  | nil => rfl
  | cons p r ih => rw [List.map_cons, h p (List.mem_cons_self ..), ih fun q hq => h q (List.mem_cons_of_mem _ hq)]
theorem wf_of_perm (W : WF ls n r) {X : List Str} (f : Fits g n r) (p : (X ++ belowN g n r).Perm (belowN ls n r)) : WF g n r := by
  have q := p.nodup_iff.mpr (List.nodup_cons.mp W.nd).2
  refine ⟨f, List.nodup_cons.mpr ⟨fun z => (List.nodup_cons.mp W.nd).1 (p.mem_iff.mp (List.mem_append_right _ z)), (List.nodup_append.mp q).2.1⟩⟩
/-- x moves out with all below -/
theorem moveOut (W : WF ls n r) (hc : c = r ∨ c ∈ belowN ls n r) (hx : x ∈ ls c) (hn : (belowN ls n r).length + 2 ≤ n) (fk : Fits ls k x) (hg : ∀ y, y = r ∨ y ∈ belowN ls n r → y ≠ c → g y = ls y) (hgc : g c = dropL x (ls c)) :
    (walkR ls tf n r).filterMap (fun p => if p.1 ≠ x ∧ p.1 ∉ belowN ls k x then some p else none) = walkR g tf n r ∧ WF g n r ∧ ((x :: belowN ls k x) ++ belowN g n r).Perm (belowN ls n r) ∧ (x :: belowN ls k x).Nodup ∧ (∀ y, y = x ∨ y ∈ belowN ls k x → y ∈ belowN ls n r ∧ y ≠ c) := by
  obtain ⟨m, T, D, L1, L2, ec, nT, nD, fx, hin, ndx, eW, hL, hgo⟩ := cutOut tf W hc hx hn
  have eb : belowN ls k x = belowN ls (m + 1) x := below_fuel fk fx
  obtain ⟨v1, v2⟩ := hgo g [] hg (by rw [hgc, ec, drop_at nT nD, List.append_nil]) (fun y hy => by cases hy)
  rw [List.flatMap_nil, List.append_nil] at v1
  have perm : ((x :: belowN ls k x) ++ belowN g n r).Perm (belowN ls n r) := by
    rw [eb, ← nmz_walkR g tf n, ← nmz_walkR ls tf n, ← nmz_walkR ls tf (m + 1), v1, eW]
    have ex : x :: nmz (walkR ls tf (m + 1) x) = nmz ((x, c, tf x) :: walkR ls tf (m + 1) x) := rfl
    rw [ex, ← nmz_app]
    unfold nmz
    refine List.Perm.map _ ?_
    generalize (x, c, tf x) :: walkR ls tf (m + 1) x = M
    rw [List.append_assoc]
    exact List.perm_append_comm_assoc _ _ _
  refine ⟨?_, wf_of_perm W v2 perm, perm, by rw [eb]; exact ndx, by rw [eb]; exact hin⟩
  rw [v1, eW, eb, List.filterMap_append, List.filterMap_append]
  have k1 : ∀ p ∈ L1 ++ L2, (if p.1 ≠ x ∧ p.1 ∉ belowN ls (m + 1) x then some p else none) = some p := fun p hp => if_pos ⟨(hL p hp).1, (hL p hp).2.1⟩
  rw [fm_keep fun p hp => k1 p (List.mem_append_left _ hp), fm_keep (l := L2) fun p hp => k1 p (List.mem_append_right _ hp), fm_lose (l := (x, c, tf x) :: _) fun p hp => ?_, List.append_nil]
  refine if_neg fun z => ?_
  rcases List.mem_cons.mp hp with e | e
  · exact z.1 (by rw [e])
  · exact z.2 (by rw [← nmz_walkR ls tf (m + 1)]; exact mem_nmz e)
/-- x leaves; those in its list take its place -/
theorem leaves (W : WF ls n r) (hc : c = r ∨ c ∈ belowN ls n r) (hx : x ∈ ls c) (hn : (belowN ls n r).length + 2 ≤ n) (hg : ∀ y, y = r ∨ y ∈ belowN ls n r → y ≠ c → g y = ls y) (hgc : g c = (ls c).flatMap fun z => if z = x then ls x else [z]) :
    ((walkR ls tf n r).filterMap fun p => if p.1 = x then none else some p).map (fun p => (p.1, if p.2.1 = x then c else p.2.1, p.2.2)) = walkR g tf n r ∧ WF g n r ∧ ([x] ++ belowN g n r).Perm (belowN ls n r) := by
  obtain ⟨m, T, D, L1, L2, ec, nT, nD, fx, hin, ndx, eW, hL, hgo⟩ := cutOut tf W hc hx hn
  have hk : ∀ y ∈ ls x, (∀ z, z = y ∨ z ∈ belowN ls m y → z ∈ belowN ls (m + 1) x) ∧ Fits ls m y := fun y hy => ⟨fun z hz => mem_below_succ.mpr ⟨y, hy, hz⟩, fx y hy⟩
  obtain ⟨v1, v2⟩ := hgo g (ls x) hg (by rw [hgc, ec, flat_at nT nD]) fun y hy => by
    have f1 := (hk y hy).2
    have f2 : Fits ls (m + 1) y := f1.le (Nat.le_succ _)
    have eb : belowN ls (m + 1) y = belowN ls m y := below_fuel f2 f1
    have q := walk_congr (ls := ls) (g := g) (tf := tf) (tg := tf) (n := m + 1) (x := y) (fun z hz => by
      rw [eb] at hz
      have h := hin z (.inr ((hk y hy).1 z hz))
      exact hg z (.inr h.1) h.2) fun z hz => rfl
    exact ⟨q.1, q.2 f2⟩
  have eX : walkR ls tf (m + 1) x = (ls x).flatMap fun y => (y, x, tf y) :: walkR ls tf m y := rfl
  have eF : ∀ y ∈ ls x, walkR ls tf (m + 1) y = walkR ls tf m y := fun y hy => walk_fuel ((hk y hy).2.le (Nat.le_succ _)) (hk y hy).2
  have xnot : x ∉ belowN ls (m + 1) x := (List.nodup_cons.mp ndx).1
  have key : ((walkR ls tf n r).filterMap fun p => if p.1 = x then none else some p).map (fun p => (p.1, if p.2.1 = x then c else p.2.1, p.2.2)) = walkR g tf n r := by
    rw [v1, eW, List.filterMap_append, List.filterMap_append, List.map_append, List.map_append]
    have k1 : ∀ p ∈ L1 ++ L2, (if p.1 = x then none else some p) = some p := fun p hp => if_neg (hL p hp).1
    have k2 : ∀ p ∈ L1 ++ L2, ((p.1, if p.2.1 = x then c else p.2.1, p.2.2) : Pr) = p := fun p hp => by
      have e : ¬ p.2.1 = x := fun e => (hL p hp).2.1 (mem_below_succ.mpr ⟨p.1, by
        have := (hL p hp).2.2
        rwa [e] at this, .inl rfl⟩)
      rw [if_neg e]
    rw [fm_keep (l := L1) fun p hp => k1 p (List.mem_append_left _ hp), fm_keep (l := L2) fun p hp => k1 p (List.mem_append_right _ hp), map_keep (l := L1) fun p hp => k2 p (List.mem_append_left _ hp), map_keep (l := L2) fun p hp => k2 p (List.mem_append_right _ hp)]
    congr 2
    rw [List.filterMap_cons, if_pos rfl, fm_keep fun p hp => if_neg fun e => xnot (by
      have h : p.1 ∈ belowN ls (m + 1) x := by
        rw [← nmz_walkR ls tf (m + 1)]
        exact mem_nmz hp
      rw [e] at h
      exact h), eX]
    have : ∀ l : List Str, (∀ y ∈ l, y ∈ ls x) → (l.flatMap fun y => (y, x, tf y) :: walkR ls tf m y).map (fun p => ((p.1, if p.2.1 = x then c else p.2.1, p.2.2) : Pr)) = l.flatMap fun y => (y, c, tf y) :: walkR ls tf (m + 1) y := by
      intro l hl
      induction l with
      | nil => rfl
      | cons y r ih =>
        have hy := hl y (List.mem_cons_self ..)
        rw [List.flatMap_cons, List.flatMap_cons, List.map_append, ih fun z hz => hl z (List.mem_cons_of_mem _ hz), List.map_cons, eF y hy]
        congr 1
        rw [show ((((y, x, tf y) : Pr).1, if ((y, x, tf y) : Pr).2.1 = x then c else ((y, x, tf y) : Pr).2.1, ((y, x, tf y) : Pr).2.2) : Pr) = (y, c, tf y) by simp]
        congr 1
        refine map_keep fun p hp => ?_
        have e : ¬ p.2.1 = x := fun e => xnot (by
          have q := (hk y hy).1 p.2.1 (rows_of hp).2.2
          rwa [e] at q)
        rw [if_neg e]
    exact this _ fun _ h => h
  have perm : ([x] ++ belowN g n r).Perm (belowN ls n r) := by
    rw [← nmz_walkR g tf n, ← nmz_walkR ls tf n, ← key, eW, List.filterMap_append, List.filterMap_append, List.map_append, List.map_append]
    have em : ∀ l : List Pr, nmz (l.map fun p => ((p.1, if p.2.1 = x then c else p.2.1, p.2.2) : Pr)) = nmz l := fun l => by
      unfold nmz
      rw [List.map_map]
      rfl
    have k1 : ∀ p ∈ L1 ++ L2, (if p.1 = x then none else some p) = some p := fun p hp => if_neg (hL p hp).1
    rw [fm_keep (l := L1) fun p hp => k1 p (List.mem_append_left _ hp), fm_keep (l := L2) fun p hp => k1 p (List.mem_append_right _ hp), List.filterMap_cons, if_pos rfl, fm_keep fun p hp => if_neg fun e => xnot (by
      have h : p.1 ∈ belowN ls (m + 1) x := by
        rw [← nmz_walkR ls tf (m + 1)]
        exact mem_nmz hp
      rw [e] at h
      exact h)]
    simp only [nmz_app, em]
    have e1 : nmz ((x, c, tf x) :: walkR ls tf (m + 1) x) = [x] ++ nmz (walkR ls tf (m + 1) x) := rfl
    rw [e1]
    have e2 : nmz L1 ++ ([x] ++ nmz (walkR ls tf (m + 1) x)) ++ nmz L2 = nmz L1 ++ ([x] ++ (nmz (walkR ls tf (m + 1) x) ++ nmz L2)) := by simp
    have e3 : [x] ++ (nmz L1 ++ nmz (walkR ls tf (m + 1) x) ++ nmz L2) = [x] ++ (nmz L1 ++ (nmz (walkR ls tf (m + 1) x) ++ nmz L2)) := by simp
    rw [e2, e3]
    exact List.perm_append_comm_assoc _ _ _
  exact ⟨key, wf_of_perm W v2 perm, perm⟩
end
end RD
set_option Elab.async false
set_option linter.all false
set_option maxRecDepth 100000
set_option maxHeartbeats 4000000
local macro_rules | `(tactic| walk_at "isT") => `(tactic| refine ⟨_, _, _, _, true, rfl, L2.ClsV.ty _, L2.TyX.base (by first | exact .int _ | exact .str _ | exact .bl _ | exact .non), L2.kit_ty (by decide +kernel), ?_⟩)
local macro_rules | `(tactic| walk_at "isF") => `(tactic| refine ⟨_, _, _, _, false, rfl, L2.ClsV.ty _, L2.TyX.base (by first | exact .int _ | exact .str _ | exact .bl _ | exact .non), L2.kit_ty (by decide +kernel), ?_⟩)
namespace RD
open PySem PySem.Spec PyProof.Rows L2
/-! ### trees as lists -/
theorem named_of {ps : List Pr} (nd : (nmz ps).Nodup) {q : Pr} (h : q ∈ ps) : named ps q.1 = some q := by
  unfold named
  induction ps with
  | nil => cases h
  | cons p r ih =>
    have nd := List.nodup_cons.mp nd
    rw [List.find?_cons]
    rcases List.mem_cons.mp h with e | e
    · rw [e]
      simp
    · have ne : ¬ p.1 = q.1 := fun z => nd.1 (by show p.1 ∈ nmz r; rw [z]; exact mem_nmz e)
      rw [decide_eq_false ne]
      exact ih nd.2 e
theorem mem_ownl {ps : List Pr} {x c : Str} : x ∈ ownl ps c ↔ ∃ t, (x, c, t) ∈ ps := by
  unfold ownl
  rw [List.mem_filterMap]
  constructor
  · rintro ⟨⟨a, b, t⟩, h, e⟩
    by_cases z : b = c
    · rw [if_pos z] at e
      cases e
      exact ⟨t, z ▸ h⟩
    · rw [if_neg z] at e
      cases e
  · rintro ⟨t, h⟩
    exact ⟨_, h, if_pos rfl⟩
theorem ownl_un {ps : List Pr} (nd : (nmz ps).Nodup) {x c d : Str} (h : x ∈ ownl ps c) (k : x ∈ ownl ps d) : c = d := by
  obtain ⟨t, h⟩ := mem_ownl.mp h
  obtain ⟨u, k⟩ := mem_ownl.mp k
  have e1 := named_of nd h
  have e2 := named_of nd k
  rw [e1] at e2
  cases e2
  rfl
theorem row_named {ps : List Pr} (nd : (nmz ps).Nodup) {n : Nat} {r : Str} {p : Pr} (h : p ∈ walkR (ownl ps) (talkF ps) n r) : named ps p.1 = some p := by
  obtain ⟨a, b, _⟩ := rows_of h
  obtain ⟨t, ht⟩ := mem_ownl.mp a
  have e := named_of nd ht
  have et : talkF ps p.1 = t := by
    unfold talkF
    rw [show named ps p.1 = some (p.1, p.2.1, t) from e]
  rw [show named ps p.1 = some (p.1, p.2.1, t) from e, ← et, ← b]
theorem names_named {ps : List Pr} {W : List Pr} (h : ∀ p ∈ W, named ps p.1 = some p) : (nmz W).filterMap (named ps) = W := by
  induction W with
  | nil => rfl
  | cons p r ih =>
    show (p.1 :: nmz r).filterMap (named ps) = p :: r
    rw [List.filterMap_cons, h p (List.mem_cons_self ..), ih fun q hq => h q (List.mem_cons_of_mem _ hq)]
theorem below_named {ps : List Pr} (nd : (nmz ps).Nodup) (n : Nat) (r : Str) : (belowN (ownl ps) n r).filterMap (named ps) = walkR (ownl ps) (talkF ps) n r := by
  rw [← nmz_walkR (ownl ps) (talkF ps), names_named fun p hp => row_named nd hp]
theorem nmz_take (ps : List Pr) (i : Nat) : nmz (ps.take i) = (nmz ps).take i := List.map_take ..
theorem ppl_wf {ps : List Pr} (ok : PplOk ps) (h16 : ps.length ≤ 16) : ∀ i, i ≤ ps.length → WF (ownl (ps.take i)) 40 "" ∧ (belowN (ownl (ps.take i)) 40 "").Perm (nmz (ps.take i))
  | 0, _ => by
    rw [List.take_zero]
    refine ⟨⟨fun c hc => ?_, ?_⟩, .refl _⟩
    · have hc : c ∈ ([] : List Str) := hc
      cases hc
    · show ([("" : Str)] : List Str).Nodup
      simp
  | i + 1, h => by
    obtain ⟨W, pm⟩ := ppl_wf ok h16 i (by omega)
    have hp : ps[i]? = some ps[i] := List.getElem?_eq_getElem (by omega)
    have et : ps.take (i + 1) = ps.take i ++ [ps[i]] := by
      rw [List.take_succ, hp]
      rfl
    have pok := ok i _ hp
    have tok := ok.take i
    generalize ps[i] = p at pok et
    rw [et]
    have lt : (ps.take i).length ≤ 16 := Nat.le_trans (List.length_take_le _ _) (by omega)
    generalize ps.take i = qs at W pm pok tok lt
    have nx : p.1 ∉ nmz qs := of_decide_eq_false pok.2.1
    have ck : p.2.1 = "" ∨ p.2.1 ∈ nmz qs := pok.2.2.1.imp id fun z => of_decide_eq_true z
    have nc : p.2.1 ≠ p.1 := fun z => ck.elim (fun e => nameOk_ne pok.1 (z ▸ e)) fun e => nx (z ▸ e)
    have lb : (belowN (ownl qs) 40 "").length ≤ 16 := by
      rw [pm.length_eq]
      unfold nmz
      rw [List.length_map]
      exact lt
    have gx : ownl (qs ++ [p]) p.1 = [] := by
      rw [ownl_snoc, if_neg nc, List.append_nil]
      unfold ownl
      rw [List.filterMap_eq_nil_iff]
      intro q hq
      refine if_neg fun z => ?_
      rcases tok.callers hq with y | y
      · exact nameOk_ne pok.1 (z ▸ y)
      · exact nx (z ▸ y)
    obtain ⟨_, _, w, pm2⟩ := ins (g := ownl (qs ++ [p])) (x := p.1) (k := 0) (tf := fun _ => 0) (tg := fun _ => 0) W (ck.imp id fun z => pm.mem_iff.mpr z) none (Nat.le_refl _) (fun y _ ny => by
      rw [ownl_snoc, if_neg (fun z => ny z.symm), List.append_nil]) (by
      rw [ownl_snoc, if_pos rfl]
      unfold insAt
      show _ = (ownl qs p.2.1).take (ownl qs p.2.1).length ++ [p.1] ++ (ownl qs p.2.1).drop (ownl qs p.2.1).length
      rw [List.take_length, List.drop_length, List.append_nil]) (fun _ _ => rfl) gx (by omega) (by show [p.1].Nodup; simp) (fun y hy => by
      have hy : y ∈ [p.1] := hy
      rw [List.mem_singleton.mp hy]
      exact fun z => z.elim (nameOk_ne pok.1) fun z => nx (pm.mem_iff.mp z))
    refine ⟨w, pm2.trans ?_⟩
    have pm2 : (([p.1] : List Str) ++ belowN (ownl qs) 40 "").Perm (nmz qs ++ [p.1]) := (List.perm_append_comm).trans (List.Perm.append_right _ pm)
    rw [nmz_app]
    exact pm2
/-- what is known of a good people's lists -/
structure Fo (ps : List Pr) : Prop where
  wf : WF (ownl ps) 40 ""
  pm : (belowN (ownl ps) 40 "").Perm (nmz ps)
  nd : (nmz ps).Nodup
  l16 : (nmz ps).length ≤ 16
  sd : Sound (("" : Str) :: nmz ps) (nmz ps) (ownl ps)
theorem ownl_sub (c : Str) : ∀ ps : List Pr, (ownl ps c).Sublist (nmz ps)
  | [] => .slnil
  | p :: r => by
    have ih := ownl_sub c r
    unfold ownl nmz at ih ⊢
    rw [List.filterMap_cons, List.map_cons]
    by_cases e : p.2.1 = c
    · rw [if_pos e]
      exact List.Sublist.cons_cons _ ih
    · rw [if_neg e]
      exact List.Sublist.cons _ ih
theorem fo_of {ps : List Pr} (ok : PplOk ps) (h16 : ps.length ≤ 16) : Fo ps := by
  obtain ⟨w, pm⟩ := ppl_wf ok h16 ps.length (Nat.le_refl _)
  rw [List.take_length] at w pm
  have nd := ok.nodup
  have l16 : (nmz ps).length ≤ 16 := by
    unfold nmz
    rw [List.length_map]
    exact h16
  refine ⟨w, pm, nd, l16, rfl, fun z => ?_, nd, l16, fun c _ x hx => ?_, fun c _ => ?_, fun x hx => ?_, fun c _ d _ x h k => ownl_un nd h k⟩
  · obtain ⟨q, hq, e⟩ := List.mem_map.mp z
    obtain ⟨i, hi⟩ := List.getElem?_of_mem hq
    exact nameOk_ne (ok i q hi).1 e
  · obtain ⟨t, h⟩ := mem_ownl.mp hx
    exact mem_nmz h
  · exact List.Sublist.nodup (ownl_sub c ps) nd
  · obtain ⟨q, hq, e⟩ := List.mem_map.mp hx
    obtain ⟨i, hi⟩ := List.getElem?_of_mem hq
    have pok := ok i q hi
    refine ⟨q.2.1, ?_, mem_ownl.mpr ⟨q.2.2, by rw [← e]; exact hq⟩, fun z => ?_⟩
    · rcases ok.callers hq with y | y
      · rw [y]
        exact List.mem_cons_self ..
      · exact List.mem_cons_of_mem _ y
    · rw [← e] at z
      rcases pok.2.2.1 with y | y
      · exact nameOk_ne pok.1 (z ▸ y)
      · have a := of_decide_eq_true y
        rw [z] at a
        exact of_decide_eq_false pok.2.1 a
section
variable {ls : Str → List Str} {tf : Str → Int}
theorem walk_len (ls : Str → List Str) (tf : Str → Int) (n : Nat) (x : Str) : (walkR ls tf n x).length = (belowN ls n x).length := by
  rw [← nmz_walkR ls tf]
  unfold nmz
  rw [List.length_map]
theorem rch_of {keys nm : List Str} : ∀ {n : Nat} {x : Str}, Fits ls n x → (∀ y, y = x ∨ y ∈ belowN ls n x → y ∈ keys) → (∀ y ∈ belowN ls n x, y ∈ nm) → Rch keys nm ls n x
  | 0, x, f, hk, _ => ⟨hk x (.inl rfl), f⟩
  | n + 1, x, f, hk, hn => ⟨hk x (.inl rfl), fun c hc => ⟨hn c (mem_below_succ.mpr ⟨c, hc, .inl rfl⟩), rch_of (f c hc) (fun y hy => hk y (.inr (mem_below_succ.mpr ⟨c, hc, hy⟩))) fun y hy => hn y (mem_below_succ.mpr ⟨c, hc, .inr hy⟩)⟩⟩
theorem WF.at16 {ls : Str → List Str} (W : WF ls 40 "") (h : (belowN ls 40 "").length ≤ 16) : Fits ls 16 "" ∧ belowN ls 16 "" = belowN ls 40 "" := by
  have f := fits_len W.fits h
  exact ⟨f, below_fuel f W.fits⟩
theorem WF.walk16 {ls : Str → List Str} (W : WF ls 40 "") (h : (belowN ls 40 "").length ≤ 16) (tf : Str → Int) : walkR ls tf 16 "" = walkR ls tf 40 "" := walk_fuel (W.at16 h).1 W.fits
theorem WF.sub16 {ls : Str → List Str} (W : WF ls 40 "") (h : (belowN ls 40 "").length ≤ 16) {x : Str} (hx : x ∈ belowN ls 40 "") : Fits ls 16 x ∧ (belowN ls 16 x).length ≤ 16 ∧ ∀ y ∈ belowN ls 16 x, y ∈ belowN ls 40 "" := by
  obtain ⟨m, A, B, p⟩ := piece (fun _ => 0) W (.inr hx)
  have l : (belowN ls m x).length ≤ 16 := by
    have := congrArg List.length p.eqn
    rw [List.length_append, List.length_append] at this
    omega
  have f := fits_len p.wf.fits l
  have e : belowN ls 16 x = belowN ls m x := below_fuel f p.wf.fits
  rw [e]
  exact ⟨f, l, fun y hy => p.sub hy⟩
theorem spots_len (W : WF ls 40 "") (h : (belowN ls 40 "").length ≤ 16) {c : Str} (hc : c = "" ∨ c ∈ belowN ls 40 "") : (spotsN (walkR ls tf 40 "") c).length = (ls c).length := by
  obtain ⟨m, A, B, p⟩ := piece tf W hc
  obtain ⟨m, rfl⟩ : ∃ m', m = m' + 1 := ⟨m - 1, by have := p.fuel; omega⟩
  have e0 : walkR ls tf (m + 1) c = (ls c).flatMap fun y => (y, c, tf y) :: walkR ls tf m y := rfl
  have hG : ∀ y ∈ ls c, ∀ q ∈ walkR ls tf m y, q.2.1 ≠ c := fun y hy q hq z => (p.wf.kid hy).1 (by
    rw [← z]
    exact List.mem_cons.mpr (rows_of hq).2.2)
  have eb := p.eb
  rw [e0] at eb
  have s1 := (putIn_mid (gs := []) (ls c) hG p.nA p.nB eb).1
  rw [← e0, ← p.eq] at s1
  exact s1
end
theorem Fo.good {t : Tr} (ok : TrOk t) : Good t := by
  have F := fo_of ok.ppl ok.len
  have l : (belowN (ownl t.ppl) 40 "").length ≤ 16 := by rw [F.pm.length_eq]; exact F.l16
  obtain ⟨f, e⟩ := F.wf.at16 l
  refine ⟨ok, f, by rw [e]; omega, fun x hx => ?_⟩
  rw [e] at hx
  obtain ⟨q, hq, e⟩ := List.mem_map.mp (F.pm.mem_iff.mp hx)
  rw [← e, named_of F.nd hq]
  rfl
theorem Fo.walkP {ps : List Pr} (F : Fo ps) : walkP ps = walkR (ownl ps) (talkF ps) 40 "" := by
  have l : (belowN (ownl ps) 40 "").length ≤ 16 := by rw [F.pm.length_eq]; exact F.l16
  show (belowN (ownl ps) 16 "").filterMap (named ps) = _
  rw [below_named F.nd, F.wf.walk16 l]
end RD
set_option Elab.async false
set_option linter.all false
set_option maxRecDepth 100000
set_option maxHeartbeats 4000000
local macro_rules | `(tactic| walk_at "isT") => `(tactic| refine ⟨_, _, _, _, true, rfl, L2.ClsV.ty _, L2.TyX.base (by first | exact .int _ | exact .str _ | exact .bl _ | exact .non), L2.kit_ty (by decide +kernel), ?_⟩)
local macro_rules | `(tactic| walk_at "isF") => `(tactic| refine ⟨_, _, _, _, false, rfl, L2.ClsV.ty _, L2.TyX.base (by first | exact .int _ | exact .str _ | exact .bl _ | exact .non), L2.kit_ty (by decide +kernel), ?_⟩)
set_option maxHeartbeats 400000
namespace RD
open PySem PySem.Spec PyProof.Rows L2
/-! ### each change -/
theorem mem_keys {nm : List Str} {c : Str} (h : c ∈ ("" : Str) :: nm) : c = "" ∨ c ∈ nm := List.mem_cons.mp h
theorem walk_map (ls : Str → List Str) (tf : Str → Int) (x : Str) (i : Int) : ∀ (n : Nat) (r : Str), (walkR ls tf n r).map (fun p => ((p.1, p.2.1, if p.1 = x then i else p.2.2) : Pr)) = walkR ls (updF tf x i) n r
  | 0, _ => rfl
  | n + 1, r => by
    show ((ls r).flatMap _).map _ = (ls r).flatMap _
    induction ls r with
    | nil => rfl
    | cons y l ih =>
      rw [List.flatMap_cons, List.flatMap_cons, List.map_append, ih, List.map_cons, walk_map ls tf x i n y]
      rfl
structure Res (t : Tr) (D : Deed) : Prop where
  pok : D.POk t
  wf : WF (D.lsN (ownl t.ppl)) 40 ""
  mem : ∀ y, y ∈ belowN (D.lsN (ownl t.ppl)) 40 "" ↔ y ∈ D.keysN (nmz t.ppl)
  len : (belowN (D.lsN (ownl t.ppl)) 40 "").length ≤ 16
  eq : D.resP t = ⟨D.wN t.wait, D.dN t.deep, walkR (D.lsN (ownl t.ppl)) (D.tfN (talkF t.ppl)) 40 ""⟩
section
variable {t : Tr}
theorem named_some {ps : List Pr} (F : Fo ps) {x : Str} (h : x ∈ nmz ps) : ∃ p, named ps x = some p ∧ p.1 = x ∧ p ∈ ps := by
  obtain ⟨q, hq, e⟩ := List.mem_map.mp h
  have n := named_of F.nd hq
  have e : q.1 = x := e
  rw [e] at n
  exact ⟨q, n, e, hq⟩
theorem res_join (ok : TrOk t) (F : Fo t.ppl) {x c : Str} {i : Int} {pl : Option Nat} (fit : (Deed.join x c i pl).Fit (("" : Str) :: nmz t.ppl) (nmz t.ppl) (ownl t.ppl)) (dok : (Deed.join x c i pl).Ok (ownl t.ppl) (talkF t.ppl)) : Res t (.join x c i pl) := by
  obtain ⟨f1, f2, f3, f4⟩ := fit
  obtain ⟨d1, d2, d3⟩ := dok
  have lb : (belowN (ownl t.ppl) 40 "").length ≤ 16 := by rw [F.pm.length_eq]; exact F.l16
  have hc : c = "" ∨ c ∈ belowN (ownl t.ppl) 40 "" := (mem_keys f2).imp id fun z => F.pm.mem_iff.mpr z
  have xc : c ≠ x := fun z => f1 (z ▸ f2)
  have hpl : pl.getD (ownl t.ppl c).length ≤ (ownl t.ppl c).length := by
    cases pl with
    | none => exact Nat.le_refl _
    | some n => exact f4 n rfl
  have xn : ¬ (x = "" ∨ x ∈ belowN (ownl t.ppl) 40 "") := fun z => f1 (z.elim (fun e => by rw [e]; exact List.mem_cons_self ..) fun e => List.mem_cons_of_mem _ (F.pm.mem_iff.mp e))
  have gx : (Deed.join x c i pl).lsN (ownl t.ppl) x = [] := by
    show updF (updF (ownl t.ppl) x []) c _ x = []
    rw [updF_ne (fun z => xc z.symm), updF_same]
  obtain ⟨s, e, w, pm⟩ := ins (ls := ownl t.ppl) (g := (Deed.join x c i pl).lsN (ownl t.ppl)) (tf := talkF t.ppl) (tg := updF (talkF t.ppl) x i) (x := x) (k := 0) F.wf hc pl hpl (fun y hy ny => by
    show updF (updF (ownl t.ppl) x []) c _ y = _
    have nyx : y ≠ x := fun z => xn (by rw [← z]; exact hy)
    rw [updF_ne ny, updF_ne nyx]) updF_same (fun y hy => by
    have nyx : y ≠ x := fun z => xn (by rw [← z]; exact .inr hy)
    exact updF_ne nyx) gx (by omega) (by show ([x] : List Str).Nodup; simp) (fun y hy => by
    have hy : y ∈ [x] := hy
    rw [List.mem_singleton.mp hy]
    exact xn)
  have pm : (belowN ((Deed.join x c i pl).lsN (ownl t.ppl)) 40 "").Perm ([x] ++ belowN (ownl t.ppl) 40 "") := pm
  refine ⟨⟨d1, fun z => f1 (List.mem_cons_of_mem _ z), mem_keys f2, d2, d3, ?_, f4, fun n h => ?_, ?_⟩, w, fun y => ?_, ?_, ?_⟩
  · have := f3
    unfold nmz at this
    rwa [List.length_map] at this
  · rw [F.walkP, s]
    exact f4 n h
  · rw [F.walkP, walk_len]
    omega
  · rw [pm.mem_iff, List.mem_append, F.pm.mem_iff]
    show _ ↔ y ∈ nmz t.ppl ++ [x]
    rw [List.mem_append, or_comm]
  · rw [pm.length_eq, List.length_append, F.pm.length_eq]
    show 1 + _ ≤ 16
    omega
  · show (⟨t.wait, t.deep, joinP t.ppl x c i pl⟩ : Tr) = ⟨t.wait, t.deep, walkR _ (updF (talkF t.ppl) x i) 40 ""⟩
    rw [← e]
    unfold joinP
    rw [F.walkP, updF_same]
    rfl
theorem own_off {ps : List Pr} (F : Fo ps) {x c y : Str} (h : x ∈ ownl ps c) (ny : y ≠ c) : x ∉ ownl ps y := fun z => ny (ownl_un F.nd z h)
theorem res_leave (ok : TrOk t) (F : Fo t.ppl) {x : Str} (fit : x ∈ nmz t.ppl) : Res t (.leave x) := by
  have lb : (belowN (ownl t.ppl) 40 "").length ≤ 16 := by rw [F.pm.length_eq]; exact F.l16
  obtain ⟨p, hp, ep, pm0⟩ := named_some F fit
  have hx : x ∈ ownl t.ppl p.2.1 := mem_ownl.mpr ⟨p.2.2, by rw [← ep]; exact pm0⟩
  have hc : p.2.1 = "" ∨ p.2.1 ∈ belowN (ownl t.ppl) 40 "" := (ok.ppl.callers pm0).imp id fun z => F.pm.mem_iff.mpr z
  obtain ⟨e, w, pm⟩ := leaves (ls := ownl t.ppl) (g := (Deed.leave x).lsN (ownl t.ppl)) (tf := talkF t.ppl) F.wf hc hx (by omega) (fun y _ ny => flat_other (own_off F hx ny)) rfl
  have ec : callF t.ppl x = p.2.1 := by
    unfold callF
    rw [hp]
  have pm := pm.trans F.pm
  have nd := pm.nodup_iff.mpr F.nd
  refine ⟨⟨fit, p, hp⟩, w, fun y => ?_, ?_, ?_⟩
  · show _ ↔ y ∈ (nmz t.ppl).filter fun y => decide (y ≠ x)
    rw [List.mem_filter]
    constructor
    · intro h
      have ne : y ≠ x := fun z => (List.nodup_append.mp nd).2.2 x (List.mem_singleton.mpr rfl) y h z.symm
      exact ⟨pm.mem_iff.mp (List.mem_append_right _ h), decide_eq_true ne⟩
    · rintro ⟨h, k⟩
      have k : y ≠ x := by
        have k : decide (y ≠ x) = true := k
        exact of_decide_eq_true k
      rcases List.mem_append.mp (pm.mem_iff.mpr h) with z | z
      · exact absurd (List.mem_singleton.mp z) k
      · exact z
  · have := pm.length_eq
    rw [List.length_append, List.length_singleton] at this
    have := F.l16
    omega
  · show (⟨t.wait, t.deep, leftP t.ppl x (callF t.ppl x)⟩ : Tr) = ⟨t.wait, t.deep, walkR _ (talkF t.ppl) 40 ""⟩
    rw [← e, ec]
    unfold leftP
    rw [F.walkP]
theorem res_move (ok : TrOk t) (F : Fo t.ppl) {x c : Str} {pl : Option Nat} (fit : (Deed.move x c pl).Fit (("" : Str) :: nmz t.ppl) (nmz t.ppl) (ownl t.ppl)) (dok : (Deed.move x c pl).Ok (ownl t.ppl) (talkF t.ppl)) : Res t (.move x c pl) := by
  obtain ⟨f1, f2, f3, f4⟩ := fit
  have lb : (belowN (ownl t.ppl) 40 "").length ≤ 16 := by rw [F.pm.length_eq]; exact F.l16
  obtain ⟨p, hp, ep, pm0⟩ := named_some F f1
  have hx : x ∈ ownl t.ppl p.2.1 := mem_ownl.mpr ⟨p.2.2, by rw [← ep]; exact pm0⟩
  have hc0 : p.2.1 = "" ∨ p.2.1 ∈ belowN (ownl t.ppl) 40 "" := (ok.ppl.callers pm0).imp id fun z => F.pm.mem_iff.mpr z
  have hxb : x ∈ belowN (ownl t.ppl) 40 "" := F.pm.mem_iff.mpr f1
  obtain ⟨fx, lx, sx⟩ := F.wf.sub16 lb hxb
  have dok : c ∉ nmz (walkR (ownl t.ppl) (talkF t.ppl) 16 x) := dok
  rw [nmz_walkR] at dok
  have d0 : ∀ y, y ≠ p.2.1 → dropL x (ownl t.ppl y) = ownl t.ppl y := fun y ny => drop_other (own_off F hx ny)
  obtain ⟨e1, w1, pm1, ndx, hin⟩ := moveOut (ls := ownl t.ppl) (g := fun y => dropL x (ownl t.ppl y)) (tf := talkF t.ppl) (k := 16) F.wf hc0 hx (by omega) fx (fun y _ ny => d0 y ny) rfl
  have nd1 := pm1.nodup_iff.mpr (List.nodup_cons.mp F.wf.nd).2
  have nd2 := List.nodup_append.mp nd1
  have ll := pm1.length_eq
  rw [List.length_append, List.length_cons] at ll
  have hcn : c ∉ x :: belowN (ownl t.ppl) 16 x := fun z => (List.mem_cons.mp z).elim f3 dok
  have hc1 : c = "" ∨ c ∈ belowN (fun y => dropL x (ownl t.ppl y)) 40 "" := (mem_keys f2).imp id fun z => by
    rcases List.mem_append.mp (pm1.mem_iff.mpr (F.pm.mem_iff.mpr z)) with h | h
    · exact absurd h hcn
    · exact h
  have hpl : pl.getD (dropL x (ownl t.ppl c)).length ≤ (dropL x (ownl t.ppl c)).length := by
    cases pl with
    | none => exact Nat.le_refl _
    | some n => exact f4 n rfl
  have cong := walk_congr (ls := ownl t.ppl) (g := (Deed.move x c pl).lsN (ownl t.ppl)) (tf := talkF t.ppl) (tg := talkF t.ppl) (n := 16) (x := x) (fun y hy => by
    show updF (fun y => dropL x (ownl t.ppl y)) c _ y = _
    rw [updF_ne fun z => hcn (by rw [← z]; exact List.mem_cons.mpr hy)]
    exact d0 y (hin y hy).2) fun _ _ => rfl
  have eb : belowN ((Deed.move x c pl).lsN (ownl t.ppl)) 16 x = belowN (ownl t.ppl) 16 x := by
    rw [← nmz_walkR _ (talkF t.ppl), cong.1, nmz_walkR]
  have bnot : ("" : Str) ∉ belowN (ownl t.ppl) 40 "" := (List.nodup_cons.mp F.wf.nd).1
  have ix := ins (ls := fun y => dropL x (ownl t.ppl y)) (g := (Deed.move x c pl).lsN (ownl t.ppl)) (tf := talkF t.ppl) (tg := talkF t.ppl) (x := x) (k := 16) w1 hc1 pl hpl (fun y _ ny => by
    show updF (fun y => dropL x (ownl t.ppl y)) c _ y = _
    exact updF_ne ny) (by
    show updF (fun y => dropL x (ownl t.ppl y)) c (insAt (dropL x (ownl t.ppl c)) x pl) c = _
    exact updF_same) (fun _ _ => rfl) (cong.2 fx) (by omega) (by rw [eb]; exact ndx) (fun y hy => by
    rw [eb] at hy
    rintro (z | z)
    · have h := (hin y (List.mem_cons.mp hy)).1
      rw [z] at h
      exact bnot h
    · exact nd2.2.2 y hy y z rfl)
  obtain ⟨s, e, w, pm⟩ := ix
  rw [eb] at pm
  have pmf := (pm.trans pm1).trans F.pm
  have es : (spotsN (restP t.ppl x) c).length = (dropL x (ownl t.ppl c)).length := by
    unfold restP
    rw [F.walkP, e1, s]
  refine ⟨⟨p, f1, mem_keys f2, fx, Nat.le_trans lx (by decide), fun y hy => ?_, f3, dok, hp, fun n h => ?_, fun n h => ?_, ?_⟩, w, fun y => pmf.mem_iff, by rw [pmf.length_eq]; exact F.l16, ?_⟩
  · obtain ⟨q, hq, _⟩ := named_some F (F.pm.mem_iff.mp (sx y hy))
    rw [hq]
    rfl
  · rw [dropL_fm]
    exact f4 n h
  · rw [es]
    exact f4 n h
  · rw [F.walkP, walk_len]
    omega
  · show (⟨t.wait, t.deep, moveP t.ppl x c (talkF t.ppl x) pl⟩ : Tr) = ⟨t.wait, t.deep, walkR _ (talkF t.ppl) 40 ""⟩
    rw [← e, cong.1]
    unfold moveP restP
    rw [F.walkP, e1, below_named F.nd]
theorem res_of (ok : TrOk t) {D : Deed} (fit : D.Fit (("" : Str) :: nmz t.ppl) (nmz t.ppl) (ownl t.ppl)) (dok : D.Ok (ownl t.ppl) (talkF t.ppl)) : Res t D := by
  have F := fo_of ok.ppl ok.len
  have lb : (belowN (ownl t.ppl) 40 "").length ≤ 16 := by rw [F.pm.length_eq]; exact F.l16
  cases D with
  | join x c i pl => exact res_join ok F fit dok
  | leave x => exact res_leave ok F fit
  | move x c pl => exact res_move ok F fit dok
  | talk x i =>
    refine ⟨⟨fit, dok.1, dok.2⟩, F.wf, fun y => F.pm.mem_iff, lb, ?_⟩
    show (⟨t.wait, t.deep, retalkP t.ppl x i⟩ : Tr) = ⟨t.wait, t.deep, walkR (ownl t.ppl) (updF (talkF t.ppl) x i) 40 ""⟩
    unfold retalkP
    rw [F.walkP, walk_map]
  | wait i =>
    refine ⟨dok, F.wf, fun y => F.pm.mem_iff, lb, ?_⟩
    show (⟨i, t.deep, walkP t.ppl⟩ : Tr) = ⟨i, t.deep, walkR (ownl t.ppl) (talkF t.ppl) 40 ""⟩
    rw [F.walkP]
  | deep i =>
    refine ⟨dok, F.wf, fun y => F.pm.mem_iff, lb, ?_⟩
    show (⟨t.wait, i, walkP t.ppl⟩ : Tr) = ⟨t.wait, i, walkR (ownl t.ppl) (talkF t.ppl) 40 ""⟩
    rw [F.walkP]
end
end RD
set_option Elab.async false
set_option linter.all false
set_option maxRecDepth 100000
set_option maxHeartbeats 4000000
local macro_rules | `(tactic| walk_at "isT") => `(tactic| refine ⟨_, _, _, _, true, rfl, L2.ClsV.ty _, L2.TyX.base (by first | exact .int _ | exact .str _ | exact .bl _ | exact .non), L2.kit_ty (by decide +kernel), ?_⟩)
local macro_rules | `(tactic| walk_at "isF") => `(tactic| refine ⟨_, _, _, _, false, rfl, L2.ClsV.ty _, L2.TyX.base (by first | exact .int _ | exact .str _ | exact .bl _ | exact .non), L2.kit_ty (by decide +kernel), ?_⟩)
set_option maxHeartbeats 400000
namespace RD
open PySem PySem.Spec PyProof.Rows L2
/-! ### the end of a turn -/
theorem pre_split : ∀ {a b : List Pr} {p : Pr} {kn : List Str}, Pre kn (a ++ p :: b) → p.2.1 ∈ kn ++ nmz a
  | [], b, p, kn, h => by
    rw [show nmz [] = [] from rfl, List.append_nil]
    exact h.1
  | q :: a, b, p, kn, h => by
    have e := pre_split h.2
    have e1 : (kn ++ [q.1]) ++ nmz a = kn ++ nmz (q :: a) := by simp [nmz]
    rw [e1] at e
    exact e
theorem pplOk_of {W : List Pr} (h1 : Pre [("" : Str)] W) (h2 : (nmz W).Nodup) (h3 : ∀ p ∈ W, nameOk p.1 = true ∧ 1 ≤ p.2.2 ∧ p.2.2 ≤ 60) : PplOk W := fun i p hp => by
  have hi := (List.getElem?_eq_some_iff.mp hp).1
  have hg : W[i] = p := (List.getElem?_eq_some_iff.mp hp).2
  have e : W = W.take i ++ p :: W.drop (i + 1) := by
    have q := (List.take_append_drop i W).symm
    rw [List.drop_eq_getElem_cons hi, hg] at q
    exact q
  have hm := h3 p (List.mem_of_getElem? hp)
  rw [e] at h1 h2
  have q := pre_split h1
  rw [nmz_app] at h2
  have nd := List.nodup_append.mp h2
  refine ⟨hm.1, decide_eq_false fun z => nd.2.2 p.1 z p.1 (List.mem_cons_self ..) rfl, ?_, hm.2.1, hm.2.2⟩
  rcases List.mem_append.mp q with z | z
  · exact .inl (List.mem_singleton.mp z)
  · exact .inr (decide_eq_true z)
theorem ppl_facts {ps : List Pr} (ok : PplOk ps) : ∀ p ∈ ps, nameOk p.1 = true ∧ (p.2.1 = "" ∨ nameOk p.2.1 = true) ∧ 1 ≤ p.2.2 ∧ p.2.2 ≤ 60 := fun p hp => by
  obtain ⟨i, hi⟩ := List.getElem?_of_mem hp
  have q := ok i p hi
  refine ⟨q.1, ?_, q.2.2.2⟩
  rcases ok.callers hp with e | e
  · exact .inl e
  · obtain ⟨r, hr, er⟩ := List.mem_map.mp e
    obtain ⟨j, hj⟩ := List.getElem?_of_mem hr
    exact .inr (er ▸ (ok j r hj).1)
theorem name_facts {ps : List Pr} (ok : PplOk ps) (F : Fo ps) {x : Str} (h : x ∈ nmz ps) : nameOk x = true ∧ 1 ≤ talkF ps x ∧ talkF ps x ≤ 60 := by
  obtain ⟨p, hp, e, hm⟩ := named_some F h
  have q := ppl_facts ok p hm
  unfold talkF
  rw [hp, ← e]
  exact ⟨q.1, q.2.2⟩
theorem reach {t : Tr} (ok : TrOk t) : ∀ x ∈ nmz t.ppl, Rch (("" : Str) :: nmz t.ppl) (nmz t.ppl) (ownl t.ppl) 16 x ∧ (walkR (ownl t.ppl) (talkF t.ppl) 16 x).length ≤ 900 := fun x hx => by
  have F := fo_of ok.ppl ok.len
  have lb : (belowN (ownl t.ppl) 40 "").length ≤ 16 := by rw [F.pm.length_eq]; exact F.l16
  obtain ⟨f, l, s⟩ := F.wf.sub16 lb (F.pm.mem_iff.mpr hx)
  have s' : ∀ y ∈ belowN (ownl t.ppl) 16 x, y ∈ nmz t.ppl := fun y hy => F.pm.mem_iff.mp (s y hy)
  refine ⟨rch_of f (fun y hy => List.mem_cons_of_mem _ ?_) s', by rw [walk_len]; omega⟩
  rcases hy with e | e
  · rw [e]
    exact hx
  · exact s' y e
structure Done (t : Tr) (D : Deed) : Prop where
  pok : D.POk t
  ok : TrOk (D.resP t)
  eq : D.resP t = ⟨D.wN t.wait, D.dN t.deep, walkR (D.lsN (ownl t.ppl)) (D.tfN (talkF t.ppl)) 16 ""⟩
  rch : Rch (D.keysN (("" : Str) :: nmz t.ppl)) (D.keysN (nmz t.ppl)) (D.lsN (ownl t.ppl)) 16 ""
  len : (walkR (D.lsN (ownl t.ppl)) (D.tfN (talkF t.ppl)) 16 "").length ≤ 900
theorem done_of {t : Tr} (ok : TrOk t) {D : Deed} (fit : D.Fit (("" : Str) :: nmz t.ppl) (nmz t.ppl) (ownl t.ppl)) (dok : D.Ok (ownl t.ppl) (talkF t.ppl)) : Done t D := by
  have F := fo_of ok.ppl ok.len
  have R := res_of ok fit dok
  obtain ⟨f, eb⟩ := R.wf.at16 R.len
  have ew := R.wf.walk16 R.len (D.tfN (talkF t.ppl))
  have eq : D.resP t = ⟨D.wN t.wait, D.dN t.deep, walkR (D.lsN (ownl t.ppl)) (D.tfN (talkF t.ppl)) 16 ""⟩ := by rw [ew]; exact R.eq
  have mem : ∀ y ∈ belowN (D.lsN (ownl t.ppl)) 16 "", y ∈ D.keysN (nmz t.ppl) := fun y hy => (R.mem y).mp (by rw [← eb]; exact hy)
  have nf : ∀ {x : Str}, x ∈ nmz t.ppl → nameOk x = true ∧ 1 ≤ talkF t.ppl x ∧ talkF t.ppl x ≤ 60 := fun h => name_facts ok.ppl F h
  have facts : ∀ y ∈ D.keysN (nmz t.ppl), nameOk y = true ∧ 1 ≤ D.tfN (talkF t.ppl) y ∧ D.tfN (talkF t.ppl) y ≤ 60 := by
    intro y hy
    cases D with
    | join x c i pl =>
      have hy : y ∈ nmz t.ppl ++ [x] := hy
      show nameOk y = true ∧ 1 ≤ updF (talkF t.ppl) x i y ∧ updF (talkF t.ppl) x i y ≤ 60
      by_cases e : y = x
      · rw [e, updF_same]
        exact dok
      · rw [updF_ne e]
        exact nf ((List.mem_append.mp hy).resolve_right fun z => e (List.mem_singleton.mp z))
    | leave x => exact nf (List.mem_filter.mp hy).1
    | move x c pl => exact nf hy
    | talk x i =>
      show nameOk y = true ∧ 1 ≤ updF (talkF t.ppl) x i y ∧ updF (talkF t.ppl) x i y ≤ 60
      by_cases e : y = x
      · rw [e, updF_same]
        exact ⟨(nf (x := x) fit).1, dok⟩
      · rw [updF_ne e]
        exact nf hy
    | wait i => exact nf hy
    | deep i => exact nf hy
  have bell : (("" : Str)) ∈ D.keysN (("" : Str) :: nmz t.ppl) := by
    cases D with
    | join x c i pl => exact List.mem_append_left _ (List.mem_cons_self ..)
    | leave x =>
      refine List.mem_filter.mpr ⟨List.mem_cons_self .., decide_eq_true fun z => ?_⟩
      have fit : x ∈ nmz t.ppl := fit
      exact nameOk_ne (nf fit).1 z.symm
    | _ => exact List.mem_cons_self ..
  have kin : ∀ y ∈ D.keysN (nmz t.ppl), y ∈ D.keysN (("" : Str) :: nmz t.ppl) := by
    intro y hy
    cases D with
    | join x c i pl =>
      have hy : y ∈ nmz t.ppl ++ [x] := hy
      show y ∈ (("" : Str) :: nmz t.ppl) ++ [x]
      rcases List.mem_append.mp hy with z | z
      · exact List.mem_append_left _ (List.mem_cons_of_mem _ z)
      · exact List.mem_append_right _ z
    | leave x =>
      have hy : y ∈ (nmz t.ppl).filter fun y => decide (y ≠ x) := hy
      show y ∈ (("" : Str) :: nmz t.ppl).filter fun y => decide (y ≠ x)
      have q := List.mem_filter.mp hy
      exact List.mem_filter.mpr ⟨List.mem_cons_of_mem _ q.1, q.2⟩
    | _ => exact List.mem_cons_of_mem _ hy
  have wl : (walkR (D.lsN (ownl t.ppl)) (D.tfN (talkF t.ppl)) 16 "").length ≤ 16 := by
    rw [walk_len, eb]
    exact R.len
  refine ⟨R.pok, ?_, eq, rch_of f (fun y hy => ?_) mem, Nat.le_trans wl (by decide)⟩
  · rw [eq]
    have wd : 1 ≤ D.wN t.wait ∧ D.wN t.wait ≤ 60 ∧ 0 ≤ D.dN t.deep ∧ D.dN t.deep ≤ 4 := by
      cases D with
      | wait i => exact ⟨dok.1, dok.2, ok.d1, ok.d2⟩
      | deep i => exact ⟨ok.w1, ok.w2, dok.1, dok.2⟩
      | _ => exact ⟨ok.w1, ok.w2, ok.d1, ok.d2⟩
    refine ⟨wd.1, wd.2.1, wd.2.2.1, wd.2.2.2, wl, pplOk_of (pre_walk _ _ 16 "" _ (List.mem_singleton.mpr rfl)) ?_ fun p hp => ?_⟩
    · show (nmz (walkR _ _ 16 "")).Nodup
      rw [nmz_walkR, eb]
      exact (List.nodup_cons.mp R.wf.nd).2
    · have q := facts p.1 (mem p.1 (by
        rw [← nmz_walkR _ (D.tfN (talkF t.ppl))]
        exact mem_nmz hp))
      rw [(rows_of hp).2.1]
      exact q
  · rcases hy with e | e
    · rw [e]
      exact bell
    · exact kin y (mem y e)
/-! ### how it shows -/
def prD (p : Pr) : PyData := .tuple [.str p.1, .str p.2.1, .int p.2.2]
def trD (t : Tr) : PyData := .tuple [.int t.wait, .int t.deep, .tuple (t.ppl.map prD)]
theorem int60 {i : Int} (h0 : 0 ≤ i) (h1 : i ≤ 60) : i.natAbs.log2 < 1920 ∧ PyData.weight (.int i) ≤ 6 ∧ i.natAbs < 10 ^ 12 := by
  obtain ⟨n, rfl⟩ : ∃ n : Nat, i = n := ⟨i.toNat, by omega⟩
  have q : ∀ n : Fin 61, ((n.val : Nat) : Int).natAbs.log2 < 1920 ∧ PyData.weight (.int ((n.val : Nat) : Int)) ≤ 6 := by decide +kernel
  have h := q ⟨n, by omega⟩
  refine ⟨h.1, h.2, ?_⟩
  have e : (10 : Nat) ^ 12 = 1000000000000 := by decide
  rw [e]
  omega
theorem str9 {x : Str} (h : x = "" ∨ nameOk x = true) : PyData.strOk x = true ∧ x.cps.size ≤ 8 := by
  rcases h with e | e
  · rw [e]
    decide +kernel
  · exact ⟨strOk_name e, (nameOk_len e).2⟩
theorem intShort {i : Int} (h : i.natAbs < 10 ^ 12) : PyData.intsShort 13 (.int i) = true := by
  unfold PyData.intsShort
  exact decide_eq_true (PyData.shown_int_le h)
theorem rows_lay : ∀ {l : List Pr}, (∀ p ∈ l, nameOk p.1 = true ∧ (p.2.1 = "" ∨ nameOk p.2.1 = true) ∧ 1 ≤ p.2.2 ∧ p.2.2 ≤ 60) →
    PyData.canLayAll0 (l.map prD) = true ∧ PyData.intsShortAll 13 (l.map prD) = true ∧ PyData.showableAll (l.map prD) = true ∧ PyData.depthAll (l.map prD) ≤ 1 ∧ PyData.weightAll (l.map prD) ≤ 30 * l.length
  | [], _ => ⟨rfl, rfl, rfl, Nat.zero_le _, Nat.zero_le _⟩
  | p :: r, h => by
    obtain ⟨i1, i2, i3, i4, i5⟩ := rows_lay (l := r) fun q hq => h q (List.mem_cons_of_mem _ hq)
    obtain ⟨a1, a2, a3, a4⟩ := h p (List.mem_cons_self ..)
    obtain ⟨n1, n2, n3⟩ := int60 (i := p.2.2) (by omega) a4
    obtain ⟨s1, s2⟩ := str9 (.inr a1)
    obtain ⟨s3, s4⟩ := str9 a2
    rw [List.map_cons]
    refine ⟨?_, ?_, ?_, ?_, ?_⟩
    · simp only [PyData.canLayAll0, prD, PyData.canLay0, s1, s3, i1, Bool.and_true]
    · simp only [PyData.intsShortAll, prD, PyData.intsShort, i2, Bool.and_true, Bool.true_and]
      exact decide_eq_true (PyData.shown_int_le n3)
    · simp only [PyData.showableAll, prD, PyData.showable, i3, Bool.and_true, Bool.true_and]
      exact decide_eq_true n1
    · simp only [PyData.depthAll, prD, PyData.depth]
      omega
    · have e : PyData.weightAll (prD p :: r.map prD) = (p.1.cps.size + 1 + (p.2.1.cps.size + 1 + (PyData.weight (.int p.2.2) + 1 + 0))) + 1 + PyData.weightAll (r.map prD) := rfl
      rw [e, List.length_cons]
      omega
theorem tr_shows {t : Tr} (ok : TrOk t) : (trD t).showable = true ∧ (trD t).hasDict = false ∧ (trD t).depth ≤ 60 ∧ (trD t).shown.length ≤ sizeLine := by
  obtain ⟨i1, i2, i3, i4, i5⟩ := rows_lay (ppl_facts ok.ppl)
  obtain ⟨n1, n2, n3⟩ := int60 (i := t.wait) (by have := ok.w1; omega) ok.w2
  obtain ⟨m1, m2, m3⟩ := int60 (i := t.deep) ok.d1 (by have := ok.d2; omega)
  have hl := ok.len
  have c0 : (trD t).canLay0 = true := by
    simp only [trD, PyData.canLay0, PyData.canLayAll0, i1, Bool.and_true]
  have dp : (trD t).depth ≤ 3 := by
    simp only [trD, PyData.depth, PyData.depthAll]
    omega
  have wt : (trD t).weight ≤ 1000 := by
    have e : (trD t).weight = PyData.weight (.int t.wait) + 1 + (PyData.weight (.int t.deep) + 1 + (PyData.weightAll (t.ppl.map prD) + 1 + 0)) := rfl
    rw [e]
    omega
  have ly : PyData.layable0 (trD t) = true := by
    unfold PyData.layable0
    rw [c0, decide_eq_true (show (trD t).depth ≤ 64 by omega), decide_eq_true (show (trD t).weight ≤ 2 ^ 20 from Nat.le_trans wt (by decide))]
    rfl
  have si : (trD t).intsShort 13 = true := by
    simp only [trD, PyData.intsShort, PyData.intsShortAll, i2, Bool.and_true, Bool.true_and]
    rw [decide_eq_true (PyData.shown_int_le n3), decide_eq_true (PyData.shown_int_le m3)]
    rfl
  refine ⟨?_, PyData.hasDict_of_canLay _ c0, by omega, PyData.shown_fits_of_layable0 (B := 13) (by decide) (by decide) ly si⟩
  simp only [trD, PyData.showable, PyData.showableAll, i3, Bool.and_true, Bool.true_and]
  rw [decide_eq_true n1, decide_eq_true m1]
  rfl
theorem dp_rows {K : PySem.W.Frag} {H : Hp} : ∀ {vs : List V} {ps : List Pr}, Paired (PAt H) vs ps → DpAll K H vs (ps.map prD)
  | _, _, .nil => .nil
  | _, _, .cons r t => by
    obtain ⟨a, rfl, ha⟩ := r
    exact .cons (.tup (SqT.of ha) (.cons (.str _) (.cons (.str _) (.cons (.int _) .nil)))) (dp_rows t)
theorem dp_tree {K : PySem.W.Frag} {H : Hp} {v : V} {t : Tr} (h : TAt H v t) : (∃ a, v = .ref a) ∧ Dp K H v (trD t) := by
  obtain ⟨a, b, vs, rfl, ha, hb, r⟩ := h
  exact ⟨⟨a, rfl⟩, .tup (SqT.of ha) (.cons (.int _) (.cons (.int _) (.cons (.tup (SqT.of hb) (dp_rows r)) .nil)))⟩
end RD
set_option Elab.async false
set_option linter.all false
set_option maxRecDepth 100000
set_option maxHeartbeats 4000000
local macro_rules | `(tactic| walk_at "isT") => `(tactic| refine ⟨_, _, _, _, true, rfl, L2.ClsV.ty _, L2.TyX.base (by first | exact .int _ | exact .str _ | exact .bl _ | exact .non), L2.kit_ty (by decide +kernel), ?_⟩)
local macro_rules | `(tactic| walk_at "isF") => `(tactic| refine ⟨_, _, _, _, false, rfl, L2.ClsV.ty _, L2.TyX.base (by first | exact .int _ | exact .str _ | exact .bl _ | exact .non), L2.kit_ty (by decide +kernel), ?_⟩)
set_option maxHeartbeats 400000
namespace RD
open PySem PySem.Spec PyProof.Rows L2
/-! ### a tree by its lists -/
theorem ownl_app (a b : List Pr) (c : Str) : ownl (a ++ b) c = ownl a c ++ ownl b c := List.filterMap_append ..
theorem ownl_no {a : List Pr} {c : Str} (h : ∀ p ∈ a, p.2.1 ≠ c) : ownl a c = [] := by
  unfold ownl
  rw [List.filterMap_eq_nil_iff]
  exact fun p hp => if_neg (h p hp)
theorem ownl_kids {c : Str} {t : Str → Int} {G : Str → List Pr} : ∀ (L : List Str), (∀ y ∈ L, ∀ p ∈ G y, p.2.1 ≠ c) → ownl (L.flatMap fun y => (y, c, t y) :: G y) c = L
  | [], _ => rfl
  | y :: r, h => by
    have ih := ownl_kids (t := t) r fun z hz => h z (List.mem_cons_of_mem _ hz)
    rw [List.flatMap_cons, List.cons_append]
    have e : ownl ((y, c, t y) :: (G y ++ r.flatMap fun y => (y, c, t y) :: G y)) c = y :: ownl (G y ++ r.flatMap fun y => (y, c, t y) :: G y) c := by
      unfold ownl
      rw [List.filterMap_cons, if_pos rfl]
    rw [e, ownl_app, ownl_no (h y (List.mem_cons_self ..)), ih]
    rfl
/-- the lists of a walk are those that were walked -/
theorem ownl_walk {ls : Str → List Str} {tf : Str → Int} {c : Str} (W : WF ls 40 "") (h : (belowN ls 40 "").length ≤ 16) (hc : c = "" ∨ c ∈ belowN ls 40 "") : ownl (walkR ls tf 40 "") c = ls c := by
  obtain ⟨m, A, B, p⟩ := piece tf W hc
  obtain ⟨m, rfl⟩ : ∃ m', m = m' + 1 := ⟨m - 1, by have := p.fuel; omega⟩
  have hG : ∀ y ∈ ls c, ∀ q ∈ walkR ls tf m y, q.2.1 ≠ c := fun y hy q hq z => (p.wf.kid hy).1 (by
    rw [← z]
    exact List.mem_cons.mpr (rows_of hq).2.2)
  rw [p.eq, ownl_app, ownl_app, ownl_no p.nA, ownl_no p.nB]
  show [] ++ ownl ((ls c).flatMap fun y => (y, c, tf y) :: walkR ls tf m y) c ++ [] = ls c
  rw [ownl_kids (ls c) hG]
  simp
theorem talk_walk {ls : Str → List Str} {tf : Str → Int} {x : Str} (W : WF ls 40 "") (hx : x ∈ belowN ls 40 "") : talkF (walkR ls tf 40 "") x = tf x := by
  have nd : (nmz (walkR ls tf 40 "")).Nodup := by
    rw [nmz_walkR]
    exact (List.nodup_cons.mp W.nd).2
  rw [← nmz_walkR ls tf] at hx
  obtain ⟨q, hq, e⟩ := List.mem_map.mp hx
  have e : q.1 = x := e
  have n := named_of nd hq
  rw [e] at n
  unfold talkF
  rw [n, ← e]
  exact (rows_of hq).2.1
/-- how a tree looks: its numbers, who is there, the lists, the talks -/
structure View (t : Tr) (w d : Int) (nm : List Str) (ls : Str → List Str) (tf : Str → Int) : Prop where
  ok : TrOk t
  ew : t.wait = w
  ed : t.deep = d
  en : ∀ x, x ∈ nmz t.ppl ↔ x ∈ nm
  el : ∀ c : Str, c = "" ∨ c ∈ nm → ownl t.ppl c = ls c
  et : ∀ x ∈ nm, talkF t.ppl x = tf x
theorem View.self {t : Tr} (ok : TrOk t) : View t t.wait t.deep (nmz t.ppl) (ownl t.ppl) (talkF t.ppl) := ⟨ok, rfl, rfl, fun _ => Iff.rfl, fun _ _ => rfl, fun _ _ => rfl⟩
theorem View.imp {t : Tr} {w d : Int} {nm nm' : List Str} {ls ls' : Str → List Str} {tf tf' : Str → Int} (v : View t w d nm ls tf) (h1 : ∀ x, x ∈ nm ↔ x ∈ nm') (h2 : ∀ c : Str, c = "" ∨ c ∈ nm' → ls c = ls' c) (h3 : ∀ x ∈ nm', tf x = tf' x) : View t w d nm' ls' tf' :=
  ⟨v.ok, v.ew, v.ed, fun x => (v.en x).trans (h1 x), fun c hc => (v.el c (hc.imp id fun z => (h1 c).mpr z)).trans (h2 c hc), fun x hx => (v.et x ((h1 x).mpr hx)).trans (h3 x hx)⟩
/-- its people stand as they are walked -/
def InWalk (t : Tr) : Prop := t.ppl = walkR (ownl t.ppl) (talkF t.ppl) 40 ""
theorem Fo.len {ps : List Pr} (F : Fo ps) : (belowN (ownl ps) 40 "").length ≤ 16 := by rw [F.pm.length_eq]; exact F.l16
/-- how a tree looks behind a change -/
theorem Res.view {t : Tr} {D : Deed} (R : Res t D) (ok : TrOk (D.resP t)) : View (D.resP t) (D.wN t.wait) (D.dN t.deep) (D.keysN (nmz t.ppl)) (D.lsN (ownl t.ppl)) (D.tfN (talkF t.ppl)) ∧ InWalk (D.resP t) := by
  have ep : (D.resP t).ppl = walkR (D.lsN (ownl t.ppl)) (D.tfN (talkF t.ppl)) 40 "" := by rw [R.eq]
  have hb : ∀ c : Str, c = "" ∨ c ∈ D.keysN (nmz t.ppl) → c = "" ∨ c ∈ belowN (D.lsN (ownl t.ppl)) 40 "" := fun c h => h.imp id (R.mem c).mpr
  have v : View (D.resP t) (D.wN t.wait) (D.dN t.deep) (D.keysN (nmz t.ppl)) (D.lsN (ownl t.ppl)) (D.tfN (talkF t.ppl)) := by
    refine ⟨ok, by rw [R.eq], by rw [R.eq], fun x => ?_, fun c hc => ?_, fun x hx => ?_⟩
    · rw [ep, nmz_walkR]
      exact R.mem x
    · rw [ep]
      exact ownl_walk R.wf R.len (hb c hc)
    · rw [ep]
      exact talk_walk R.wf ((R.mem x).mpr hx)
  refine ⟨v, ?_⟩
  unfold InWalk
  refine Eq.trans ep (walk_congr (fun y hy => ?_) fun y hy => ?_).1.symm
  · exact v.el y (hy.imp id (R.mem y).mp)
  · exact v.et y ((R.mem y).mp hy)
theorem Done.res {t : Tr} (ok : TrOk t) {D : Deed} (fit : D.Fit (("" : Str) :: nmz t.ppl) (nmz t.ppl) (ownl t.ppl)) (dok : D.Ok (ownl t.ppl) (talkF t.ppl)) : View (D.resP t) (D.wN t.wait) (D.dN t.deep) (D.keysN (nmz t.ppl)) (D.lsN (ownl t.ppl)) (D.tfN (talkF t.ppl)) ∧ InWalk (D.resP t) :=
  (res_of ok fit dok).view (done_of ok fit dok).ok
/-- two that look alike and stand as they are walked are the same -/
theorem View.same {t u : Tr} {w d : Int} {nm : List Str} {ls : Str → List Str} {tf : Str → Int} (v : View t w d nm ls tf) (k : View u w d nm ls tf) (hv : InWalk t) (hk : InWalk u) : t = u := by
  have F := fo_of v.ok.ppl v.ok.len
  have e : t.ppl = u.ppl := by
    rw [hv, hk]
    refine (walk_congr (fun y hy => ?_) fun y hy => ?_).1.symm
    · have hy' : y = "" ∨ y ∈ nm := hy.imp id fun z => (v.en y).mp (F.pm.mem_iff.mp z)
      rw [v.el y hy', k.el y hy']
    · have hy' := (v.en y).mp (F.pm.mem_iff.mp hy)
      rw [v.et y hy', k.et y hy']
  obtain ⟨a, b, c⟩ := t
  obtain ⟨a', b', c'⟩ := u
  have e1 : a = a' := v.ew.trans k.ew.symm
  have e2 : b = b' := v.ed.trans k.ed.symm
  have e3 : c = c' := e
  rw [e1, e2, e3]
/-- a tree, its people as they are walked -/
theorem walk_view {t : Tr} (ok : TrOk t) : View ⟨t.wait, t.deep, walkP t.ppl⟩ t.wait t.deep (nmz t.ppl) (ownl t.ppl) (talkF t.ppl) ∧ InWalk ⟨t.wait, t.deep, walkP t.ppl⟩ := by
  have q := Done.res (D := .wait t.wait) ok trivial ⟨ok.w1, ok.w2⟩
  exact q
theorem told_view {t : Tr} (ok : TrOk t) : walkR (ownl t.ppl) (talkF t.ppl) 16 "" = walkP t.ppl := by
  have F := fo_of ok.ppl ok.len
  rw [F.walkP, F.wf.walk16 F.len]
theorem InWalk.walkP {t : Tr} (ok : TrOk t) (h : InWalk t) : walkP t.ppl = t.ppl := by
  have F := fo_of ok.ppl ok.len
  rw [F.walkP]
  exact h.symm
end RD
set_option Elab.async false
set_option linter.all false
set_option maxRecDepth 100000
set_option maxHeartbeats 4000000
local macro_rules | `(tactic| walk_at "isT") => `(tactic| refine ⟨_, _, _, _, true, rfl, L2.ClsV.ty _, L2.TyX.base (by first | exact .int _ | exact .str _ | exact .bl _ | exact .non), L2.kit_ty (by decide +kernel), ?_⟩)
local macro_rules | `(tactic| walk_at "isF") => `(tactic| refine ⟨_, _, _, _, false, rfl, L2.ClsV.ty _, L2.TyX.base (by first | exact .int _ | exact .str _ | exact .bl _ | exact .non), L2.kit_ty (by decide +kernel), ?_⟩)
namespace RD
open PySem PySem.Spec PyProof.Rows L2
/-! ### list_of, below, same_tree -/
theorem tr_lay {t : Tr} (ok : TrOk t) : SeqAt.shaped (trD t) = true ∧ PyData.eqv (trD t) (trD t) = true := by
  obtain ⟨i1, i2, i3, i4, i5⟩ := rows_lay (ppl_facts ok.ppl)
  have c0 : (trD t).canLay0 = true := by
    simp only [trD, PyData.canLay0, PyData.canLayAll0, i1, Bool.and_true]
  have dp : (trD t).depth ≤ 64 := by
    simp only [trD, PyData.depth, PyData.depthAll]
    omega
  refine ⟨?_, SeqAt.eqv_refl _ c0⟩
  unfold SeqAt.shaped
  rw [c0, decide_eq_true dp]
  rfl
section
variable {P : Program} {w : World} {K : PySem.W.Frag} {mg : Str → Option Value} {base : Heap}
def sp_list_of : Sp := fun vs H Q _ => ∃ (v : V) (t : Tr) (x : Str), vs = [v, .str x] ∧ TAt H v t ∧ TrOk t ∧ (x ∈ nmz t.ppl ∨ x = "") ∧ ∀ H' p, Same H H' → H' p = some (.tup ((ownl t.ppl x).map V.str)) → Q (.ref p) H'
theorem cal_list_of (T : Txt K mg) : Cal P w K mg base 6 "list_of" sp_list_of [] := by
  obtain ⟨f, fd, F, hm⟩ := T.d_list_of.ex
  refine cal_d (dvs := [.str ""]) F hm (DfnD.fn F sc_list_of (fun vs H Q E h => ?_) (fun f cdv A outer s H vs Q E hr h => ?_)) 2 1 (by simp) rfl fun T kV doc pm an cdv ct us its h1 h2 => match us, its, h1, h2 with | [_, _], [_], _, _ => ⟨_, rfl, rfl⟩
  · obtain ⟨v, t, x, rfl, _⟩ := h; rfl
  obtain ⟨v, t, x, rfl, ht, ok, hx, k⟩ := h
  have hu := hu_of hr
  have few : t.ppl.length ≤ 1000 := Nat.le_trans ok.len (by decide)
  have C_need_tree := cal_need_tree (P := P) (w := w) (base := base) T
  have C_need_name_2_bell := cal_need_name_2_bell (P := P) (w := w) (base := base) T
  have C_own_list := cal_own_list (P := P) (w := w) (base := base) T
  refine ⟨_, (pss_cons (ps_expr (pe_cl C_need_tree hr (by omega) (by rfl) (pa_cons (pv 0) pa_nil)))
   (pss_cons (ps_expr (pe_clK C_need_name_2_bell hr (by omega) (by rfl) (pa_cons (pv 0) (pa_cons (pv 1) pa_nil)) (pk_cons pe_bl pk_nil)))
   (pss_one (ps_ret (pe_callTy call_tuple_of (by rfl) T.b_tuple (by decide +kernel) (pa_cons (pe_cl C_own_list hr (by omega) (by rfl) (pa_cons (pv 0) (pa_cons (pv 1) pa_nil))) pa_nil)))))), ?_⟩
  refine ⟨_, rfl, v, t, rfl, ht, ok, fun H1 s1 => ?_⟩
  have ht1 := TAt.tk (Same.tk s1) ht
  refine ⟨_, rfl, _, rfl, rfl, rfl, v, t, x, true, rfl, ht1, few, hx.imp id fun e => ⟨rfl, e⟩, fun H2 s2 => ?_⟩
  have ht2 := TAt.tk (Same.tk s2) ht1
  refine ⟨_, rfl, _, rfl, v, t, x, rfl, ht2, few, fun H3 l s3 hl hl3 => ?_⟩
  refine ⟨_, _, rfl, .inl ⟨SqL.of hl3, fun p hp => ?_⟩⟩
  exact k _ _ (((s1.trans s2).trans s3).trans (Same.upd hp)) upd_same
def sp_below : Sp := fun vs H Q _ => ∃ (v : V) (t : Tr) (x : Str), vs = [v, .str x] ∧ TAt H v t ∧ TrOk t ∧ x ∈ nmz t.ppl ∧ ∀ H' p, Same H H' → H' p = some (.tup ((belowN (ownl t.ppl) 16 x).map V.str)) → Q (.ref p) H'
theorem cal_below (T : Txt K mg) : Cal P w K mg base 19 "below" sp_below [] := by
  obtain ⟨f, fd, F, hm⟩ := T.d_below.ex
  refine cal_d (dvs := [.str ""]) F hm (DfnD.fn F sc_below (fun vs H Q E h => ?_) (fun f cdv A outer s H vs Q E hr h => ?_)) 2 1 (by simp) rfl fun T kV doc pm an cdv ct us its h1 h2 => match us, its, h1, h2 with | [_, _], [_], _, _ => ⟨_, rfl, rfl⟩
  · obtain ⟨v, t, x, rfl, _⟩ := h; rfl
  obtain ⟨v, t, x, rfl, ht, ok, hx, k⟩ := h
  have hu := hu_of hr
  have few : t.ppl.length ≤ 1000 := Nat.le_trans ok.len (by decide)
  have FO := fo_of ok.ppl ok.len
  obtain ⟨fx, lx, _⟩ := FO.wf.sub16 FO.len (FO.pm.mem_iff.mpr hx)
  have C_need_tree := cal_need_tree (P := P) (w := w) (base := base) T
  have C_need_name_2_bell := cal_need_name_2_bell (P := P) (w := w) (base := base) T
  have C_all_below := cal_ab (P := P) (w := w) (base := base) T 17
  refine ⟨_, (pss_cons (ps_expr (pe_cl C_need_tree hr (by omega) (by rfl) (pa_cons (pv 0) pa_nil)))
   (pss_cons (ps_expr (pe_clK C_need_name_2_bell hr (by omega) (by rfl) (pa_cons (pv 0) (pa_cons (pv 1) pa_nil)) (pk_cons pe_bl pk_nil)))
   (pss_one (ps_ret (pe_callTy call_tuple_of (by rfl) T.b_tuple (by decide +kernel) (pa_cons (pe_cl C_all_below hr (by omega) (by rfl) (pa_cons (pv 0) (pa_cons (pv 1) pa_nil))) pa_nil)))))), ?_⟩
  refine ⟨_, rfl, v, t, rfl, ht, ok, fun H1 s1 => ?_⟩
  have ht1 := TAt.tk (Same.tk s1) ht
  refine ⟨_, rfl, _, rfl, rfl, rfl, v, t, x, true, rfl, ht1, few, .inl hx, fun H2 s2 => ?_⟩
  have ht2 := TAt.tk (Same.tk s2) ht1
  refine ⟨_, rfl, _, rfl, v, t, x, rfl, ht2, few, fx, Nat.le_trans lx (by decide), fun H3 l s3 hl hl3 => ?_⟩
  refine ⟨_, _, rfl, .inl ⟨SqL.of hl3, fun p hp => ?_⟩⟩
  exact k _ _ (((s1.trans s2).trans s3).trans (Same.upd hp)) upd_same
/-- of two that are alike -/
def sp_same_tree : Sp := fun vs H Q _ => ∃ (v u : V) (t t' : Tr), vs = [v, u] ∧ TAt H v t ∧ TAt H u t' ∧ TrOk t ∧ TrOk t' ∧ walkT t = walkT t' ∧ ∀ H', Same H H' → Q (.bl true) H'
theorem walkT_ok {t : Tr} (ok : TrOk t) : TrOk (walkT t) := (walk_view ok).1.ok
theorem cal_same_tree (T : Txt K mg) : Cal P w K mg base 20 "same_tree" sp_same_tree [] := by
  refine T.d_same_tree.cal sc_same_tree (fun vs H Q E h => ?_) (fun f cdv A outer s H vs Q E hr h => ?_) (fun _ _ _ _ _ _ us hl => match us, hl with | [_, _], _ => rfl)
  · obtain ⟨v, u, t, t', rfl, _⟩ := h; rfl
  obtain ⟨v, u, t, t', rfl, ht, hu', ok, ok', e, k⟩ := h
  have hu := hu_of hr
  have C_need_tree := cal_need_tree (P := P) (w := w) (base := base) T
  have C_in_walk := cal_in_walk (P := P) (w := w) (base := base) T
  refine ⟨_, (pss_cons (ps_expr (pe_cl C_need_tree hr (by omega) (by rfl) (pa_cons (pv 0) pa_nil)))
   (pss_cons (ps_expr (pe_cl C_need_tree hr (by omega) (by rfl) (pa_cons (pv 1) pa_nil)))
   (pss_one (ps_ret (pe_cmpR (op_eqD hr.units) (pe_cl C_in_walk hr (by omega) (by rfl) (pa_cons (pv 0) pa_nil)) (pe_cl C_in_walk hr (by omega) (by rfl) (pa_cons (pv 1) pa_nil)) (nomark _)))))), ?_⟩
  refine ⟨_, rfl, v, t, rfl, ht, ok, fun H1 s1 => ?_⟩
  refine ⟨_, rfl, u, t', rfl, TAt.tk (Same.tk s1) hu', ok', fun H2 s2 => ?_⟩
  have s12 := s1.trans s2
  refine ⟨_, rfl, v, t, rfl, TAt.tk (Same.tk s12) ht, Fo.good ok, fun H3 a s3 ha => ?_⟩
  refine ⟨_, rfl, u, t', rfl, TAt.tk (Same.tk (s12.trans s3)) hu', Fo.good ok', fun H4 b s4 hb => ?_⟩
  obtain ⟨l1, l2⟩ := tr_lay (walkT_ok ok)
  rw [← e] at hb
  refine ⟨trD (walkT t), trD (walkT t), (dp_tree (TAt.tk (Same.tk s4) ha)).2, (dp_tree hb).2, l1, l1, ?_⟩
  rw [l2]
  exact k _ ((s12.trans s3).trans s4)
end
end RD
set_option Elab.async false
set_option linter.all false
set_option maxRecDepth 100000
set_option maxHeartbeats 4000000
local macro_rules | `(tactic| walk_at "isT") => `(tactic| refine ⟨_, _, _, _, true, rfl, L2.ClsV.ty _, L2.TyX.base (by first | exact .int _ | exact .str _ | exact .bl _ | exact .non), L2.kit_ty (by decide +kernel), ?_⟩)
local macro_rules | `(tactic| walk_at "isF") => `(tactic| refine ⟨_, _, _, _, false, rfl, L2.ClsV.ty _, L2.TyX.base (by first | exact .int _ | exact .str _ | exact .bl _ | exact .non), L2.kit_ty (by decide +kernel), ?_⟩)
namespace RD
open PySem PySem.Spec PyProof.Rows L2
/-! ### while, lists that are emptied -/
/-- a loop by a number that falls -/
theorem while_n {c : TT} {tb : TS} {D : Ends} {σ : L2.St} {H : Hp} (Pv : Nat → L2.St → Hp → Prop) (n : Nat) (h0 : Pv n σ H)
    (hs : ∀ n σ H, Pv n σ H → c σ H fun b H1 => if b = true then tb { D with nx := fun σ' H' => ∃ m, m < n ∧ Pv m σ' H', ct := fun σ' H' => ∃ m, m < n ∧ Pv m σ' H', bk := D.nx } σ H1 else D.nx σ H1)
    (mono : ∀ σ H Q Q', (∀ b H1, Q b H1 → Q' b H1) → c σ H Q → c σ H Q') : tWhile c tb D σ H :=
  ⟨Pv, ⟨n, h0⟩, fun m σ H p => mono σ H _ _ (fun b H1 q => by
    cases b with
    | true => exact ⟨_, fun _ _ z => z, q⟩
    | false => exact q) (hs m σ H p)⟩
theorem Paired.erase {α : Type} {R : V → α → Prop} : ∀ (k : Nat) {vs : List V} {ps : List α}, Paired R vs ps → Paired R (vs.eraseIdx k) (ps.eraseIdx k)
  | _, _, _, .nil => .nil
  | 0, _, _, .cons _ t => t
  | k + 1, _, _, .cons r t => .cons r (Paired.erase k t)
theorem erase_strs (ns : List Str) (k : Nat) : (ns.map V.str).eraseIdx k = (ns.eraseIdx k).map V.str := erase_mapS ns k
theorem erase_perm {α : Type} : ∀ {l : List α} {k : Nat} {x : α}, l[k]? = some x → (x :: l.eraseIdx k).Perm l
  | [], _, _, h => by simp at h
  | y :: r, 0, x, h => by
    have e : y = x := by simpa using h
    rw [e]
    exact .refl _
  | y :: r, k + 1, x, h => by
    have ih := erase_perm (l := r) (k := k) (x := x) (by simpa using h)
    exact (List.Perm.swap y x (r.eraseIdx k)).trans (ih.cons y)
theorem erase_len {α : Type} {l : List α} {k : Nat} {x : α} (h : l[k]? = some x) : (l.eraseIdx k).length + 1 = l.length := (erase_perm h).length_eq
theorem pop_at {xs : List V} {d : Int} (d0 : 0 ≤ d) (d1 : d < (xs.length : Int)) : ∃ k y, -(2 ^ 63) ≤ d ∧ (xs.length < 1000 → d < 2 ^ 63) ∧ seqIndex? d xs.length = some k ∧ xs[k]? = some y :=
  ⟨d.toNat, xs[d.toNat]'(by omega), by omega, fun _ => by omega, seqIndex_of d0 d1, List.getElem?_eq_getElem (by omega)⟩
/-- (name, talk) -/
def pj (p : Pr) : SI := (p.1, p.2.2)
theorem rows_data {ps : List Pr} (h : ∀ p ∈ ps, nameOk p.1 = true ∧ (p.2.1 = "" ∨ nameOk p.2.1 = true) ∧ 1 ≤ p.2.2 ∧ p.2.2 ≤ 60) : SeqAt.shaped (.list (ps.map prD)) = true ∧ PyData.eqv (.list (ps.map prD)) (.list []) = decide (ps = []) := by
  obtain ⟨i1, i2, i3, i4, i5⟩ := rows_lay h
  constructor
  · show (PyData.canLayAll0 (ps.map prD) && decide (PyData.depthAll (ps.map prD) + 1 ≤ 64)) = true
    rw [i1, decide_eq_true (by omega)]
    rfl
  · cases ps with
    | nil => rfl
    | cons _ _ => rfl
theorem names_data {ns : List Str} (h : ∀ x ∈ ns, nameOk x = true) : SeqAt.shaped (.list (ns.map PyData.str)) = true ∧ PyData.eqv (.list (ns.map PyData.str)) (.list []) = decide (ns = []) := by
  have l := lay_names h
  constructor
  · show (PyData.canLayAll0 (ns.map PyData.str) && decide (PyData.depthAll (ns.map PyData.str) + 1 ≤ 64)) = true
    rw [l.1, l.2]
    rfl
  · cases ns with
    | nil => rfl
    | cons _ _ => rfl
theorem pj_names (l : List Pr) : (l.map pj).map (·.1) = nmz l := by
  unfold nmz
  rw [List.map_map]
  rfl
section
variable {P : Program} {w : World} {K : PySem.W.Frag} {mg : Str → Option Value} {base : Heap}
def sp_l_other : Sp := fun vs H Q _ => ∃ (st : Addr) (v : V) (t : Tr) (N : Nat), vs = [.ref st, v] ∧ TAt H v t ∧ TrOk t ∧ StAt H st N ∧ N ≤ 100000000 ∧ ∀ H' u t', TAt H' u t' → TrOk t' → t'.wait = t.wait → t'.deep = t.deep → (t'.ppl.map pj).Perm (t.ppl.map pj) → Kb st H H' → StAt H' st (N + 200) → Q u H'
theorem cal_l_other (T : Txt K mg) : Cal P w K mg base 4 "_law_other" sp_l_other [] := by
  refine T.d_l_other.cal sc_l_other (fun vs H Q E h => ?_) (fun f cdv A outer s H vs Q E hr h => ?_) (fun _ _ _ _ _ _ us hl => match us, hl with | [_, _], _ => rfl)
  · obtain ⟨st, v, t, N, rfl, _⟩ := h; rfl
  obtain ⟨st, v, t, N, rfl, ht, ok, S, hN, k⟩ := h
  have hu := hu_of hr
  have C_l_digit := cal_l_digit (P := P) (w := w) (base := base) T
  have C_l_pick := cal_l_pick (P := P) (w := w) (base := base) T
  have facts := ppl_facts ok.ppl
  have nd := ok.ppl.nodup
  refine ⟨_, (pss_cons (ps_par3 (i := 2) (j := 3) (l := 4) (by rfl) sc_l_other.nd rfl rfl rfl (by decide) (by decide) (by decide) rfl rfl rfl (pa_cons (pe_callTy call_list_of (by rfl) T.b_list (by decide +kernel) (pa_cons (pe_ix ix_tup (pv 1) pe_int (fun _ _ => rfl)) pa_nil)) (pa_cons (pe_lst pa_nil) (pa_cons (pe_cl C_l_digit hr (by omega) (by rfl) (pa_cons (pv 0) (pa_cons pe_int pa_nil))) pa_nil))) (by rfl))
   (pss_cons (ps_while PassesOwn.never (pt_cmpR (op_neD hr.units) (pv 2) (pe_lst pa_nil) (nomark _)) (pss_cons (ps_asg (pe_bm PySem.F.plainAttrs_list PySem.F.slot_list_pop PySem.F.type_list_pop mt_popAt (pv 2) (pa_cons (pe_cl C_l_digit hr (by omega) (by rfl) (pa_cons (pv 0) (pa_cons (pe_callB call_len_seq (by rfl) T.b_len (by decide +kernel) (pa_cons (pv 2) pa_nil)) pa_nil))) pa_nil)) (pg_tup (by rfl) (pgs_cons (pg_name (i := 5) sc_l_other.nd rfl (Or.inl rfl)) (pgs_cons (pg_name (i := 6) sc_l_other.nd rfl (Or.inl rfl)) (pgs_cons (pg_name (i := 7) sc_l_other.nd rfl (Or.inl rfl)) pgs_nil))))) (pss_cons (ps_set (i := 8) sc_l_other.nd rfl (Or.inl rfl) (pe_op op_cat (pe_lst (pa_cons pe_str pa_nil)) (pe_lc (own := [("_law_one", 9), ("_law_above", 10), ("_law_size", 11)]) (tt := tYes) rfl sc_l_other.nd (pi_list (pv 3)) (blkOk_by (N := N_l_other) (sc := defScope s_l_other) (by decide +kernel)) (fun _ _ _ _ _ => (pg_tupK (K := K) (n := 3) rfl (by rfl) (pgs_cons (pg_name (i := 9) sc_l_other.nd rfl (Or.inl rfl)) (pgs_cons (pg_name (i := 10) sc_l_other.nd rfl (Or.inl rfl)) (pgs_cons (pg_name (i := 11) sc_l_other.nd rfl (Or.inl rfl)) pgs_nil))))) (fun _ _ _ _ _ => pts_nil) (fun _ _ _ _ _ => (pv 9))))) (pss_cons (ps_set (i := 8) sc_l_other.nd rfl (Or.inl rfl) (pe_ix ix_list (pe_lst (pa_cons (pv 8) (pa_cons (pe_slice sl_list (pv 8) (po_some (pe_un un_neg pe_int)) po_none) (pa_cons (pe_slice sl_list (pv 8) po_none (po_some pe_int)) pa_nil)))) (pv 4) (fun _ _ => rfl))) (pss_one (ps_expr (pe_bm PySem.F.plainAttrs_list PySem.F.slot_list_append PySem.F.type_list_append mt_append (pv 3) (pa_cons (pe_tup (pa_cons (pv 5) (pa_cons (pe_cl C_l_pick hr (by omega) (by rfl) (pa_cons (pv 0) (pa_cons (pv 8) pa_nil))) (pa_cons (pv 7) pa_nil)))) pa_nil))))))))
   (pss_one (ps_ret (pe_tup (pa_cons (pe_ix ix_tup (pv 1) pe_int (fun _ _ => rfl)) (pa_cons (pe_ix ix_tup (pv 1) pe_int (fun _ _ => rfl)) (pa_cons (pe_callTy call_tuple_of (by rfl) T.b_tuple (by decide +kernel) (pa_cons (pv 3) pa_nil)) pa_nil)))))))), ?_⟩
  obtain ⟨a, b, us, rfl, ha, hb, rp⟩ := id ht
  refine ⟨_, rfl, _, _, _, _, rfl, rfl, SqT.of ha, rfl, _, _, rfl, .inr (SqT.of hb), fun lr nlr => ⟨Nat.zero_le _, fun lf nlf => ?_⟩⟩
  have n1 := Same.upd nlr (o := .lst us)
  have n2 := n1.trans (Same.upd nlf (o := .lst []))
  have nrf : lr ≠ lf := ne_of_none upd_same nlf
  have er : (upd (upd H lr (.lst us)) lf (.lst [])) lr = some (.lst us) := by rw [upd_ne nrf, upd_same]
  have ef : (upd (upd H lr (.lst us)) lf (.lst [])) lf = some (.lst []) := upd_same
  have S2 := S.same n2
  have frl : H lr = none := nlr
  have frf : H lf = none := n1.free nlf
  have hst : st ≠ lr := fun z => S.some (by rw [z]; exact nlr)
  have hst2 : st ≠ lf := fun z => S.some (by rw [z]; exact frf)
  have k2 := Same.kb n2 (st := st)
  generalize upd (upd H lr (.lst us)) lf (.lst []) = H2 at n2 er ef S2 k2 ⊢
  refine ⟨_, rfl, st, 3, N, rfl, by decide, by decide, S2, by omega, fun H3 way y0 y1 kb3 S3 => ?_⟩
  refine ⟨_, _, _, rfl, ?_⟩
  refine while_n (fun n σ G => ∃ (a5 a6 a7 a8 a9 a10 a11 : Option V) (rs qs : List Pr) (u1 u2 : List V), σ = [some (.ref st), some (.ref a), some (.ref lr), some (.ref lf), some (.int way), a5, a6, a7, a8, a9, a10, a11] ∧ n = rs.length ∧
      G lr = some (.lst u1) ∧ Paired (PAt G) u1 rs ∧ G lf = some (.lst u2) ∧ Paired (PAt G) u2 qs ∧ PplOk qs ∧ (∀ p ∈ rs, p ∈ t.ppl) ∧ ((rs ++ qs).map pj).Perm (t.ppl.map pj) ∧ Kb st H G ∧ StAt G st (N + 4 + 8 * qs.length))
    t.ppl.length ⟨none, none, none, none, none, none, none, t.ppl, [], us, [], rfl, rfl, kb3 _ _ hst.symm er, PsAt.tk (S2.kb kb3) (PsAt.tk (Same.tk n2) rp), kb3 _ _ hst2.symm ef, .nil, PplOk.nil, fun p h => h, by rw [List.append_nil], k2.trans kb3, S3⟩ ?_ ?_
  · rintro n σ G ⟨a5, a6, a7, a8, a9, a10, a11, rs, qs, u1, u2, rfl, rfl, g1, r1, g2, r2, okq, sub, pm, kb, SG⟩
    have llen : rs.length + qs.length = t.ppl.length := by
      have := pm.length_eq
      rw [List.length_map, List.length_map, List.length_append] at this
      exact this
    have l16 := ok.len
    have lu1 := Paired.len r1
    have lu2 := Paired.len r2
    obtain ⟨sh, ev⟩ := rows_data (ps := rs) fun p hp => facts p (sub p hp)
    refine ⟨_, rfl, Nat.zero_le _, fun p0 hp0 => ?_⟩
    have m0 := Same.upd hp0 (o := .lst [])
    refine ⟨_, _, .lst (SqL.of (m0 _ _ g1)) (dp_rows (PsAt.tk (Same.tk m0) r1)), .lst (SqL.of upd_same) .nil, sh, by decide, _, rfl, ?_⟩
    rw [ev]
    by_cases e0 : rs = []
    · rw [decide_eq_true e0]
      refine iteF ?_
      have pm : (qs.map pj).Perm (t.ppl.map pj) := by
        rw [e0] at pm
        exact pm
      have tk0 : TK H (upd G p0 (.lst [])) := (S.kb kb).trans (Same.tk m0)
      have g2' := m0 _ _ g2
      have r2' := PsAt.tk (Same.tk m0) r2
      have kb' := kb.trans (Same.kb m0)
      have SG' := SG.same m0
      generalize upd G p0 (.lst []) = G0 at tk0 g2' r2' kb' SG' ⊢
      refine ⟨_, rfl, _, _, _, _, rfl, rfl, SqT.of (tk0 _ _ ha), rfl, _, rfl, _, _, _, _, rfl, rfl, SqT.of (tk0 _ _ ha), rfl, _, rfl, lf, u2, rfl, .inl ⟨SqL.of g2', fun p hp => ⟨by show 3 ≤ sizeLine; decide, fun q hq => ?_⟩⟩⟩
      have s1 := Same.upd hp (o := .tup u2)
      have s2 := s1.trans (Same.upd hq (o := .tup [V.int t.wait, V.int t.deep, V.ref p]))
      refine k _ _ ⟨t.wait, t.deep, qs⟩ ⟨q, p, u2, rfl, upd_same, Eq.trans (upd_ne (ne_of_none upd_same hq)) upd_same, PsAt.tk (Same.tk s2) r2'⟩ ⟨ok.w1, ok.w2, ok.d1, ok.d2, ?_, okq⟩ rfl rfl pm (kb'.trans (Same.kb s2)) ((SG'.same s2).mono (by omega))
      show qs.length ≤ 16
      omega
    · rw [decide_eq_false e0]
      refine iteT ?_
      have hpos : 1 ≤ rs.length := by
        cases rs with
        | nil => exact absurd rfl e0
        | cons _ _ => exact Nat.succ_le_succ (Nat.zero_le _)
      have g1' := m0 _ _ g1
      have g2' := m0 _ _ g2
      have r1' := PsAt.tk (Same.tk m0) r1
      have r2' := PsAt.tk (Same.tk m0) r2
      have kb' := kb.trans (Same.kb m0)
      have SG' := SG.same m0
      generalize upd G p0 (.lst []) = G0 at g1' g2' r1' r2' kb' SG' ⊢
      -- pop
      refine ⟨_, rfl, .inl ⟨rfl, _, SqL.of g1'⟩, _, rfl, _, rfl, lr, _, rfl, .inl (SqL.of g1'), st, _, _, rfl, by omega, by omega, SG', by omega, fun G4 d d0 d1 k4 S4 => ?_⟩
      have g4 := k4 _ _ hst.symm g1'
      have g4f := k4 _ _ hst2.symm g2'
      obtain ⟨i, y, b1, b2, b3, b4⟩ := pop_at (xs := u1) d0 d1
      obtain ⟨p, hp, c, rfl, hc⟩ := Paired.get (PsAt.tk (SG'.kb k4) r1') b4
      refine ⟨lr, u1, d, i, _, rfl, rfl, g4, b1, b2 (by omega), b3, b4, ?_⟩
      have hcl : c ≠ lr := ne_of hc g4 (by intro z; cases z)
      have ncf : c ≠ lf := ne_of hc g4f (by intro z; cases z)
      have r1e : Paired (PAt (upd G4 lr (.lst (u1.eraseIdx i)))) (u1.eraseIdx i) (rs.eraseIdx i) := PsAt.tk (fun z zs hz => by
        rw [upd_ne (ne_of hz g4 (by intro q; cases q))]
        exact hz) (Paired.erase i (PsAt.tk (SG'.kb k4) r1'))
      have r2e : Paired (PAt (upd G4 lr (.lst (u1.eraseIdx i)))) u2 qs := PsAt.tk (fun z zs hz => by
        rw [upd_ne (ne_of hz g4 (by intro q; cases q))]
        exact hz) (PsAt.tk (SG'.kb k4) r2')
      have hc5 : (upd G4 lr (.lst (u1.eraseIdx i))) c = some (.tup [.str p.1, .str p.2.1, .int p.2.2]) := by rw [upd_ne hcl]; exact hc
      have g5 : (upd G4 lr (.lst (u1.eraseIdx i))) lr = some (.lst (u1.eraseIdx i)) := upd_same
      have g5f : (upd G4 lr (.lst (u1.eraseIdx i))) lf = some (.lst u2) := by rw [upd_ne nrf.symm]; exact g4f
      have kb5 : Kb st H (upd G4 lr (.lst (u1.eraseIdx i))) := fun z o nz hz => by
        rw [upd_ne (ne_of_none hz frl)]
        exact (kb'.trans k4) z o nz hz
      have S5 : StAt (upd G4 lr (.lst (u1.eraseIdx i))) st (N + 4 + 8 * qs.length + 4) := by
        obtain ⟨kvs, c1, c2, c3, c4, c5⟩ := S4
        exact ⟨kvs, c1, c2, c3, by rw [upd_ne hst]; exact c4, c5⟩
      generalize upd G4 lr (.lst (u1.eraseIdx i)) = G5 at r1e r2e hc5 g5 g5f kb5 S5 ⊢
      refine ⟨_, _, rfl, SqT.of hc5, rfl, _, _, rfl, _, _, rfl, _, _, rfl, rfl, ?_⟩
      -- ahead
      refine ⟨by show 1 ≤ sizeLine; decide, fun p1 hp1 => ?_⟩
      have m1 := Same.upd hp1 (o := .lst [V.str ""])
      have e1 : (upd G5 p1 (.lst [V.str ""])) p1 = some (.lst [V.str ""]) := upd_same
      have S6 := S5.same m1
      have g6 := m1 _ _ g5
      have g6f := m1 _ _ g5f
      have r6 := PsAt.tk (Same.tk m1) r1e
      have r6f := PsAt.tk (Same.tk m1) r2e
      have kb6 := kb5.trans (Same.kb m1)
      generalize upd G5 p1 (.lst [V.str ""]) = G6 at e1 S6 g6 g6f r6 r6f kb6 ⊢
      refine ⟨_, rfl, lf, rfl, ⟨_, SqL.of g6f⟩, fun D hD => ?_⟩
      refine lc_rel (σ := [some (.ref st), some (.ref a), some (.ref lr), some (.ref lf), some (.int way), some (.str p.1), some (.str p.2.1), some (.int p.2.2), a8, a9, a10, a11]) (xs := u2) qs (fun p => some p.1) PAt (fun _ v n => v = .str n) walk_list (fun H' z => SqL.of (z _ _ g6f)) hD (small1000 (by omega)) r6f (fun q h => PAt.tk (Same.tk q) h) (fun _ h => h) ?_ ?_
      · rintro _ p' H' Qk Qn _ _ ⟨c', rfl, hc'⟩ hk _
        refine ⟨_, _, rfl, SqT.of hc', rfl, _, _, rfl, _, _, rfl, _, _, rfl, rfl, rfl, ?_⟩
        exact ⟨_, rfl, hk _ _ _ rfl (Same.refl _) rfl⟩
      · intro G7 ys s7 hy r7
        have ey := Paired.toMap r7
        rw [fm_some] at ey
        have ey : ys = (nmz qs).map V.str := ey
        have lys : ys.length = qs.length := by rw [ey, List.length_map]; unfold nmz; rw [List.length_map]
        refine ⟨p1, D, _, _, rfl, rfl, s7 _ _ e1, hy, Nat.le_of_lt (small1000 (by show 1 + ys.length ≤ 1000; omega)), fun p3 hp3 => ?_⟩
        have m8 := s7.trans (Same.upd hp3 (o := .lst ([V.str ""] ++ ys)))
        have e3 : (upd G7 p3 (.lst ([V.str ""] ++ ys))) p3 = some (.lst ((("" : Str) :: nmz qs).map V.str)) := by
          rw [upd_same, ey]
          rfl
        have S8 := S6.same m8
        have g8 := m8 _ _ g6
        have g8f := m8 _ _ g6f
        have r8 := PsAt.tk (Same.tk m8) r6
        have r8f := PsAt.tk (Same.tk m8) r6f
        have kb8 := kb6.trans (Same.kb m8)
        generalize upd G7 p3 (.lst ([V.str ""] ++ ys)) = G8 at e3 S8 g8 g8f r8 r8f kb8 ⊢
        have lz : (("" : Str) :: nmz qs).length = qs.length + 1 := by simp [nmz]
        generalize hzs : (("" : Str) :: nmz qs) = zs at e3 lz
        refine ⟨_, rfl, _, rfl, _, rfl, _, rfl, p3, _, rfl, SqL.of e3, fun q1 hq1 => ?_⟩
        have w1 : Same G8 (upd G8 q1 (.lst (cutV (zs.map V.str) (some (-1)) none))) := Same.upd hq1
        refine ⟨_, rfl, _, rfl, p3, _, rfl, SqL.of (w1 _ _ e3), fun q2 hq2 => ?_⟩
        have w2 := w1.trans (Same.upd hq2 (o := .lst (cutV (zs.map V.str) none (some 2))))
        refine ⟨by show 3 ≤ sizeLine; decide, fun q4 hq4 => ?_⟩
        have w4 := w2.trans (Same.upd hq4 (o := .lst [V.ref p3, V.ref q1, V.ref q2]))
        have e4 := w4 _ _ e3
        have S9 := S8.same w4
        have g9 := w4 _ _ g8
        have g9f := w4 _ _ g8f
        have r9 := PsAt.tk (Same.tk w4) r8
        have r9f := PsAt.tk (Same.tk w4) r8f
        have kb9 := kb8.trans (Same.kb w4)
        generalize hG9 : upd (upd (upd G8 q1 (.lst (cutV (zs.map V.str) (some (-1)) none))) q2 (.lst (cutV (zs.map V.str) none (some 2)))) q4 (.lst [V.ref p3, V.ref q1, V.ref q2]) = G9 at e4 S9 g9 g9f r9 r9f kb9 ⊢
        have eq4 : G9 q4 = some (.lst [V.ref p3, V.ref q1, V.ref q2]) := by rw [← hG9, upd_same]
        have eq2 : G9 q2 = some (.lst (cutV (zs.map V.str) none (some 2))) := by rw [← hG9, upd_ne (ne_of_none upd_same hq4), upd_same]
        have eq1 : G9 q1 = some (.lst (cutV (zs.map V.str) (some (-1)) none)) := by
          have n12 := ne_of_none upd_same hq2
          rw [← hG9, upd_ne (ne_of_none (Eq.trans (upd_ne n12) upd_same) hq4), upd_ne n12, upd_same]
        have lzs : (zs.map V.str).length = qs.length + 1 := by rw [List.length_map, lz]
        have some_ok : ∀ v ∈ [V.ref p3, V.ref q1, V.ref q2], ∃ l xs, v = .ref l ∧ G9 l = some (.lst xs) ∧ (∀ y ∈ xs, y ∈ zs.map V.str) ∧ 1 ≤ xs.length ∧ xs.length ≤ 1000 := by
          intro v vm
          simp only [List.mem_cons, List.not_mem_nil, or_false] at vm
          rcases vm with rfl | rfl | rfl
          · exact ⟨p3, _, rfl, e4, fun y h => h, by omega, by omega⟩
          · exact ⟨q1, _, rfl, eq1, fun y h => mem_cut h, cut_neg (by omega) 1 (by decide), Nat.le_trans (cutV_length _ _ _) (by omega)⟩
          · refine ⟨q2, _, rfl, eq2, fun y h => mem_cut h, ?_, Nat.le_trans (cutV_length _ _ _) (by omega)⟩
            have e := cut_take (zs.map V.str) 2
            have e : cutV (zs.map V.str) none (some 2) = _ := e
            rw [e, List.length_take]
            omega
        obtain ⟨v, vm2, ev2⟩ := mem_at (xs := [V.ref p3, V.ref q1, V.ref q2]) y0 y1
        obtain ⟨sl, xs, rfl, hsl, xsub, x1, x2⟩ := some_ok v vm2
        refine ⟨_, rfl, q4, _, way, _, rfl, rfl, SqL.of eq4, ev2, ?_⟩
        -- append
        refine ⟨_, rfl, .inl ⟨rfl, _, SqL.of g9f⟩, _, rfl, _, rfl, _, rfl, st, sl, _, _, rfl, S9, by omega, hsl, x1, x2, fun G10 cv cvm k10 S10 => ?_⟩
        obtain ⟨cn, cz, rfl⟩ := List.mem_map.mp (xsub cv cvm)
        refine ⟨_, rfl, by show 3 ≤ sizeLine; decide, fun z hz => ?_⟩
        have nz := Same.upd hz (o := .tup [V.str p.1, V.str cn, V.int p.2.2])
        have g10 := nz _ _ (k10 _ _ hst.symm g9)
        have g10f := nz _ _ (k10 _ _ hst2.symm g9f)
        have tk10 : TK G9 (upd G10 z (.tup [V.str p.1, V.str cn, V.int p.2.2])) := (S9.kb k10).trans (Same.tk nz)
        have r10 := PsAt.tk tk10 r9
        have r10f := PsAt.tk tk10 r9f
        have ez : (upd G10 z (.tup [V.str p.1, V.str cn, V.int p.2.2])) z = some (.tup [V.str p.1, V.str cn, V.int p.2.2]) := upd_same
        have kb10 := (kb9.trans k10).trans (Same.kb nz)
        have S11 := S10.same nz
        generalize upd G10 z (.tup [V.str p.1, V.str cn, V.int p.2.2]) = G11 at g10 g10f r10 r10f ez kb10 S11 ⊢
        refine ⟨lf, u2, _, rfl, rfl, g10f, small1000 (by omega), ?_⟩
        have kt : TK G11 (upd G11 lf (.lst (u2 ++ [V.ref z]))) := fun y zs hz => by
          rw [upd_ne (ne_of hz g10f (by intro q; cases q))]
          exact hz
        have pe := erase_perm hp
        have le := erase_len hp
        have pin : p ∈ rs := List.mem_of_getElem? hp
        have fp := facts p (sub p pin)
        have pm' : ((rs.eraseIdx i ++ (qs ++ [(p.1, cn, p.2.2)])).map pj).Perm (t.ppl.map pj) := by
          refine List.Perm.trans ?_ pm
          have e1 : (rs.eraseIdx i ++ (qs ++ [(p.1, cn, p.2.2)])).map pj = (rs.eraseIdx i).map pj ++ (qs.map pj ++ [pj p]) := by
            rw [List.map_append, List.map_append]
            rfl
          have e2 : (rs ++ qs).map pj = rs.map pj ++ qs.map pj := List.map_append ..
          rw [e1, e2]
          have q1 : ((pj p :: (rs.eraseIdx i).map pj) ++ qs.map pj).Perm (rs.map pj ++ qs.map pj) := List.Perm.append_right _ (pe.map pj)
          refine List.Perm.trans ?_ q1
          rw [← List.append_assoc]
          exact List.perm_append_comm
        have xq : p.1 ∉ nmz qs := by
          have e := (pm.map (·.1)).nodup_iff.mpr (by rw [pj_names]; exact nd)
          rw [pj_names, nmz_app] at e
          exact fun z => (List.nodup_append.mp e).2.2 p.1 (mem_nmz pin) p.1 z rfl
        refine ⟨_, by omega, _, _, _, _, _, _, _, rs.eraseIdx i, qs ++ [(p.1, cn, p.2.2)], _, _, rfl, rfl, ?_, PsAt.tk kt r10, upd_same, Paired.app (PsAt.tk kt r10f) (.cons ⟨z, rfl, kt _ _ ez⟩ .nil), okq.snoc ⟨fp.1, decide_eq_false xq, ?_, fp.2.2⟩, fun y hy => sub y (List.mem_of_mem_eraseIdx hy), pm', ?_, ?_⟩
        · rw [upd_ne nrf]
          exact g10
        · rw [← hzs] at cz
          exact (List.mem_cons.mp cz).imp id fun h => decide_eq_true h
        · exact fun y o ny hy => by
            rw [upd_ne (ne_of_none hy frf)]
            exact kb10 y o ny hy
        · obtain ⟨kvs, c1, c2, c3, c4, c5⟩ := S11
          refine StAt.mono (N := N + 4 + 8 * qs.length + 4 + 4) ⟨kvs, c1, c2, c3, by rw [upd_ne hst2]; exact c4, c5⟩ ?_
          rw [List.length_append, List.length_singleton]
          omega
  · exact fun σ H Q Q' hq ⟨x, e, h1, h2⟩ => ⟨x, e, h1, fun p hp => let ⟨d, e', a1, a2, a3, a4, b, eb, h⟩ := h2 p hp; ⟨d, e', a1, a2, a3, a4, b, eb, hq _ _ h⟩⟩
end
end RD
set_option Elab.async false
set_option linter.all false
set_option maxRecDepth 100000
set_option maxHeartbeats 4000000
local macro_rules | `(tactic| walk_at "isT") => `(tactic| refine ⟨_, _, _, _, true, rfl, L2.ClsV.ty _, L2.TyX.base (by first | exact .int _ | exact .str _ | exact .bl _ | exact .non), L2.kit_ty (by decide +kernel), ?_⟩)
local macro_rules | `(tactic| walk_at "isF") => `(tactic| refine ⟨_, _, _, _, false, rfl, L2.ClsV.ty _, L2.TyX.base (by first | exact .int _ | exact .str _ | exact .bl _ | exact .non), L2.kit_ty (by decide +kernel), ?_⟩)
namespace RD
open PySem PySem.Spec PyProof.Rows L2
section
variable {X : Cx} {K : PySem.W.Frag}
theorem cr_sortSIK (e : X.K = K) : CallR X (.builtin "sorted") (rSortSI K) := by
  subst e
  exact cr_sortSI
theorem op_neDK (e : X.K = K) (hu : X.A.units + 64 < cLine) : OpR X (compareOp .NotEq) (rNeD K) := by
  subst e
  exact op_neD hu
theorem pi_tupK {tg ex : Expr} {te : TE} (e : X.K = K) (h : PE X ex te) : PI X tg ex (iTup K te) := by
  subst e
  exact pi_tup h
end
/-- the scope of the comprehension that a def's first row sets -/
def scopeOfLc : List Stmt → Scope → Scope
  | .Assign _ (.ListComp _ _ sc _) _ :: _, _ => sc
  | _, d => d
def oscope_l_same_people : Scope := scopeOfLc (defBody s_l_same_people) (defScope s_l_same_people)
/-! ### rows (name, talk), sorted -/
def SIAt (H : Hp) (v : V) (p : SI) : Prop := ∃ b, v = .ref b ∧ H b = some (.tup [.str p.1, .int p.2])
theorem SIAt.tk {H H' : Hp} {v : V} {p : SI} (k : TK H H') (h : SIAt H v p) : SIAt H' v p := let ⟨b, e, q⟩ := h; ⟨b, e, k b _ q⟩
def keySI (H : Hp) : V → SI
  | .ref b => match H b with
    | some (.tup [.str x, .int i]) => (x, i)
    | _ => ("", 0)
  | _ => ("", 0)
theorem keySI_at {H : Hp} {v : V} {p : SI} (h : SIAt H v p) : keySI H v = p := by
  obtain ⟨b, rfl, e⟩ := h
  unfold keySI
  simp only [e]
theorem si_map {H : Hp} : ∀ {vs : List V} {ps : List SI}, Paired (SIAt H) vs ps → vs.map (keySI H) = ps
  | _, _, .nil => rfl
  | _, _, .cons r t => by rw [List.map_cons, keySI_at r, si_map t]
theorem si_back {H : Hp} : ∀ {vs : List V}, (∀ v ∈ vs, SIAt H v (keySI H v)) → Paired (SIAt H) vs (vs.map (keySI H))
  | [], _ => .nil
  | v :: r, h => .cons (h v (List.mem_cons_self ..)) (si_back fun u hu => h u (List.mem_cons_of_mem _ hu))
def siSorted (l : List SI) : Prop := l.Pairwise fun x y => siB y x = false
theorem si_uniq : ∀ {l m : List SI}, siSorted l → siSorted m → l.Perm m → l = m
  | [], m, _, _, p => by rw [List.nil_perm.mp p]
  | x :: l, [], _, _, p => by
    have := p.length_eq
    simp at this
  | x :: l, y :: m, hl, hm, p => by
    have hl' := List.pairwise_cons.mp hl
    have hm' := List.pairwise_cons.mp hm
    have e : x = y := by
      rcases si_tri x y with h | h | h
      · rcases List.mem_cons.mp (p.mem_iff.mp (List.mem_cons_self ..)) with e | e
        · exact e
        · exact absurd h (of_decide_eq_false (hm'.1 x e))
      · exact h
      · rcases List.mem_cons.mp (p.mem_iff.mpr (List.mem_cons_self ..)) with e | e
        · exact e.symm
        · exact absurd h (of_decide_eq_false (hl'.1 y e))
    subst e
    rw [si_uniq hl'.2 hm'.2 p.cons_inv]
/-- the list at a holds the rows of ps, sorted -/
def SoAt (H : Hp) (a : Addr) (ps : List Pr) : Prop := ∃ (zs : List V) (ss : List SI), H a = some (.lst zs) ∧ Paired (SIAt H) zs ss ∧ siSorted ss ∧ ss.Perm (ps.map pj)
def siD (p : SI) : PyData := .tuple [.str p.1, .int p.2]
theorem dp_si {K : PySem.W.Frag} {H : Hp} : ∀ {vs : List V} {ps : List SI}, Paired (SIAt H) vs ps → DpAll K H vs (ps.map siD)
  | _, _, .nil => .nil
  | _, _, .cons r t => by
    obtain ⟨a, rfl, ha⟩ := r
    exact .cons (.tup (SqT.of ha) (.cons (.str _) (.cons (.int _) .nil))) (dp_si t)
theorem si_lay : ∀ {l : List SI}, (∀ p ∈ l, nameOk p.1 = true) → PyData.canLayAll0 (l.map siD) = true ∧ PyData.depthAll (l.map siD) ≤ 1
  | [], _ => ⟨rfl, Nat.zero_le _⟩
  | p :: r, h => by
    obtain ⟨i1, i2⟩ := si_lay (l := r) fun q hq => h q (List.mem_cons_of_mem _ hq)
    have s1 := strOk_name (h p (List.mem_cons_self ..))
    rw [List.map_cons]
    constructor
    · simp only [PyData.canLayAll0, siD, PyData.canLay0, s1, i1, Bool.and_true]
    · simp only [PyData.depthAll, siD, PyData.depth]
      omega
theorem si_shaped {l : List SI} (h : ∀ p ∈ l, nameOk p.1 = true) : SeqAt.shaped (.list (l.map siD)) = true ∧ PyData.eqv (.list (l.map siD)) (.list (l.map siD)) = true := by
  obtain ⟨i1, i2⟩ := si_lay h
  have c0 : PyData.canLay0 (.list (l.map siD)) = true := i1
  refine ⟨?_, SeqAt.eqv_refl _ c0⟩
  show (PyData.canLayAll0 (l.map siD) && decide (PyData.depthAll (l.map siD) + 1 ≤ 64)) = true
  rw [i1, decide_eq_true (by omega)]
  rfl
section
variable {P : Program} {w : World} {K : PySem.W.Frag} {mg : Str → Option Value} {base : Heap}
def sp_l_same_people : Sp := fun vs H Q _ => ∃ (v u : V) (t t' : Tr), vs = [v, u] ∧ TAt H v t ∧ TAt H u t' ∧ TrOk t ∧ TrOk t' ∧ t.wait = t'.wait ∧ t.deep = t'.deep ∧ (t'.ppl.map pj).Perm (t.ppl.map pj) ∧ ∀ H', Same H H' → Q (.bl true) H'
theorem cal_l_same_people (T : Txt K mg) : Cal P w K mg base 1 "_law_same_people" sp_l_same_people [] := by
  refine T.d_l_same_people.cal sc_l_same_people (fun vs H Q E h => ?_) (fun f cdv A outer s H vs Q E hr h => ?_) (fun _ _ _ _ _ _ us hl => match us, hl with | [_, _], _ => rfl)
  · obtain ⟨v, u, t, t', rfl, _⟩ := h; rfl
  obtain ⟨v, u, t, t', rfl, ht, ht', ok, ok', ew, ed, pm, k⟩ := h
  have hu := hu_of hr
  refine ⟨_, (pss_cons (ps_setLc (i := 2) (own := [("_law_one", 3)]) (g := gName 3) (tt := tYes) rfl sc_l_same_people.nd rfl rfl (sw_true rfl rfl rfl (by decide +kernel)) (pi_tup (pe_tup (pa_cons (pv 0) (pa_cons (pv 1) pa_nil)))) (blkOk_by (N := N_l_same_people) (sc := defScope s_l_same_people) (by decide +kernel)) (fun _ _ _ _ _ => (pg_name (i := 3) sc_l_same_people.nd rfl (Or.inl rfl))) (fun _ _ _ _ _ => pts_nil) (fun _ _ _ _ _ => (pe_callB (cr_sortSIK (K := K) rfl) (by rfl) T.b_sorted (by decide +kernel) (pa_cons (pe_lc (own := [("_law_name", 4), ("_law_caller_here", 5), ("_law_talk", 6)]) (tt := tYes) rfl sc_l_same_people.nd (pi_tupK (K := K) rfl (pe_ix (ix_tupK (K := K) rfl) (pv 3) pe_int (fun _ _ => rfl))) (blkOk_by (N := N_l_same_people) (sc := oscope_l_same_people) (by decide +kernel)) (fun _ _ _ _ _ => (pg_tupK (K := K) (n := 3) rfl (by rfl) (pgs_cons (pg_name (i := 4) sc_l_same_people.nd rfl (Or.inl rfl)) (pgs_cons (pg_name (i := 5) sc_l_same_people.nd rfl (Or.inl rfl)) (pgs_cons (pg_name (i := 6) sc_l_same_people.nd rfl (Or.inl rfl)) pgs_nil))))) (fun _ _ _ _ _ => pts_nil) (fun _ _ _ _ _ => (pe_tup (pa_cons (pv 4) (pa_cons (pv 6) pa_nil))))) pa_nil))))
   (pss_one (ps_ret (pe_and (pe_cmpR (op_eqD hr.units) (pe_ix ix_list (pv 2) pe_int (fun _ _ => rfl)) (pe_ix ix_list (pv 2) pe_int (fun _ _ => rfl)) (nomark _)) (pe_one (pe_cmpR (op_eqD hr.units) (pe_slice sl_tupA (pv 0) po_none (po_some pe_int)) (pe_slice sl_tupA (pv 1) po_none (po_some pe_int)) (nomark _))))))), ?_⟩
  refine ⟨_, rfl, _, rfl, by show 2 ≤ sizeLine; decide, fun p0 hp0 => ?_⟩
  have n0 := Same.upd hp0 (o := .tup [v, u])
  have e0 : (upd H p0 (.tup [v, u])) p0 = some (.tup [v, u]) := upd_same
  generalize upd H p0 (.tup [v, u]) = H0 at n0 e0 ⊢
  refine ⟨p0, rfl, ⟨_, SqT.of e0⟩, fun D hD => ?_⟩
  have ht0 := TAt.tk (Same.tk n0) ht
  have ht0' := TAt.tk (Same.tk n0) ht'
  refine lc_it (σ := [some v, some u, none, none, none, none, none]) walk_tup (fun i G => Same H0 G ∧ ∃ ys : List V, G D = some (.lst ys) ∧ ys.length = i ∧ (∀ y, ys[0]? = some y → ∃ z, y = .ref z ∧ z ≠ D ∧ SoAt G z t.ppl) ∧ (∀ y, ys[1]? = some y → ∃ z, y = .ref z ∧ z ≠ D ∧ SoAt G z t'.ppl))
    ⟨Same.upd hD, [], upd_same, rfl, fun y h => (by simp at h), fun y h => (by simp at h)⟩ (fun i G _ q => SqT.of (q.1 _ _ e0)) ?_ ?_
  · rintro i x G G1 hi ⟨s1, ys, hy, ly, y0, y1⟩ ⟨rfl, hx⟩
    obtain ⟨t0, h0, ok0, hw⟩ : ∃ t0, TAt G1 x t0 ∧ TrOk t0 ∧ ((i = 0 ∧ t0 = t) ∨ (i = 1 ∧ t0 = t')) := by
      match i, hi, hx with
      | 0, _, hx =>
        cases hx
        exact ⟨t, TAt.tk (Same.tk s1) ht0, ok, .inl ⟨rfl, rfl⟩⟩
      | 1, _, hx =>
        cases hx
        exact ⟨t', TAt.tk (Same.tk s1) ht0', ok', .inr ⟨rfl, rfl⟩⟩
    obtain ⟨a, b, us, rfl, ha, hb, rp⟩ := id h0
    have lus := Paired.len rp
    have l16 := ok0.len
    refine ⟨rfl, _, rfl, _, _, _, _, rfl, rfl, SqT.of ha, rfl, b, rfl, ⟨_, SqT.of hb⟩, fun D2 hD2 => ?_⟩
    refine lc_rel (σ := [some v, some u, none, some (.ref a), none, none, none]) (xs := us) t0.ppl (fun p => some (pj p)) PAt SIAt walk_tup (fun H' q => SqT.of (q _ _ hb)) hD2 (small1000 (by omega)) rp (fun q h => PAt.tk (Same.tk q) h) (fun q h => SIAt.tk q h) ?_ ?_
    · rintro _ p H' Qk Qn _ _ ⟨c, rfl, hc⟩ hk _
      refine ⟨_, _, rfl, SqT.of hc, rfl, _, _, rfl, _, _, rfl, _, _, rfl, rfl, rfl, ?_⟩
      exact ⟨_, rfl, _, rfl, by show 2 ≤ sizeLine; decide, fun q hq => hk _ _ _ rfl (Same.upd hq) ⟨q, rfl, upd_same⟩⟩
    · intro G2 zs s2 hz r
      rw [fm_some] at r
      have em := si_map r
      refine ⟨D2, zs, keySI G2, rfl, SqL.of hz, fun v hv => ?_, fun ws q srt pw hq => ?_⟩
      · obtain ⟨j, hj⟩ := List.getElem?_of_mem hv
        obtain ⟨p, _, rp⟩ := Paired.get r hj
        obtain ⟨c, rfl, e⟩ := id rp
        refine ⟨c, rfl, ?_⟩
        rw [keySI_at rp]
        exact e
      · have nqD : q ≠ D := fun z => by
          rw [z, s2 _ _ hy] at hq
          cases hq
        have s3 : Same G1 (upd G2 q (.lst ws)) := s2.trans (Same.upd hq)
        have back : Paired (SIAt G2) ws (ws.map (keySI G2)) := si_back fun v hv => by
          obtain ⟨j, hj⟩ := List.getElem?_of_mem (pw.mem_iff.mp hv)
          obtain ⟨p, _, rp⟩ := Paired.get r hj
          rw [keySI_at rp]
          exact rp
        have up : ∀ z ps, z ≠ D → SoAt G1 z ps → SoAt (upd (upd G2 q (.lst ws)) D (.lst (ys ++ [V.ref q]))) z ps := fun z ps nz ⟨zs, ss, h1, h2, h3, h4⟩ => by
          refine ⟨zs, ss, by rw [upd_ne nz]; exact s3 _ _ h1, Paired.mapP h2 fun _ _ r => SIAt.tk (fun b xs hb => ?_) r, h3, h4⟩
          rw [upd_ne (ne_of (s3 _ _ hb) (s3 _ _ hy) (by intro z; cases z))]
          exact s3 _ _ hb
        have new : SoAt (upd (upd G2 q (.lst ws)) D (.lst (ys ++ [V.ref q]))) q t0.ppl := by
          refine ⟨ws, ws.map (keySI G2), by rw [upd_ne nqD, upd_same], Paired.mapP back fun _ _ r => SIAt.tk (fun b xs hb => ?_) r, List.pairwise_map.mpr srt, ?_⟩
          · have hb' : (upd G2 q (.lst ws)) b = some (.tup xs) := Same.upd hq _ _ hb
            rw [upd_ne (ne_of hb' (s3 _ _ hy) (by intro z; cases z))]
            exact hb'
          · rw [← em]
            exact pw.map _
        refine ⟨ys, s3 _ _ hy, small1000 (by rw [List.length_cons, List.length_cons] at hi; simp at hi; omega), fun b o h => ?_, ys ++ [V.ref q], upd_same, by rw [List.length_append, ly]; rfl, fun y h => ?_, fun y h => ?_⟩
        · rw [upd_ne (ne_of_none h hD)]
          exact s3 _ _ (s1 _ _ h)
        · rcases hw with ⟨rfl, rfl⟩ | ⟨rfl, rfl⟩
          · have e := List.eq_nil_of_length_eq_zero ly
            subst e
            have h : some (V.ref q) = some y := h
            cases h
            exact ⟨q, rfl, nqD, new⟩
          · obtain ⟨w0, rfl⟩ := List.length_eq_one_iff.mp ly
            have h : some w0 = some y := h
            cases h
            obtain ⟨z, e, nz, so⟩ := y0 _ rfl
            exact ⟨z, e, nz, up z _ nz so⟩
        · rcases hw with ⟨rfl, rfl⟩ | ⟨rfl, rfl⟩
          · have e := List.eq_nil_of_length_eq_zero ly
            subst e
            have h : (none : Option V) = some y := h
            cases h
          · obtain ⟨w0, rfl⟩ := List.length_eq_one_iff.mp ly
            have h : some (V.ref q) = some y := h
            cases h
            exact ⟨q, rfl, nqD, new⟩
  · rintro G ⟨s1, ys, hy, ly, y0, y1⟩
    have hl2 : ([v, u] : List V).length = 2 := rfl
    rw [hl2] at ly
    obtain ⟨w0, w1, rfl⟩ : ∃ w0 w1, ys = [w0, w1] := by
      match ys, ly with
      | [a, b], _ => exact ⟨a, b, rfl⟩
    obtain ⟨z0, rfl, _, zs0, ss0, g0, r0, o0, m0⟩ := y0 w0 rfl
    obtain ⟨z1, rfl, _, zs1, ss1, g1, r1, o1, m1⟩ := y1 w1 rfl
    have es : ss1 = ss0 := si_uniq o1 o0 (m1.trans (pm.trans m0.symm))
    have nok : ∀ p ∈ ss0, nameOk p.1 = true := fun p hp => by
      obtain ⟨q, hq, e⟩ := List.mem_map.mp (m0.mem_iff.mp hp)
      rw [← e]
      exact (ppl_facts ok.ppl q hq).1
    obtain ⟨l1, l2⟩ := si_shaped nok
    rw [es] at r1
    refine ⟨_, rfl, D, _, _, _, rfl, rfl, SqL.of hy, at_of (j := 0) rfl rfl, _, rfl, D, _, _, _, rfl, rfl, SqL.of hy, at_of (j := 1) rfl rfl, _, _, .lst (SqL.of g0) (dp_si r0), .lst (SqL.of g1) (dp_si r1), l1, l1, ?_⟩
    rw [l2]
    refine ⟨_, rfl, iteT ?_⟩
    have sG := n0.trans s1
    obtain ⟨a, b, us, rfl, ha, hb, rp⟩ := TAt.tk (Same.tk sG) ht
    obtain ⟨a', b', us', rfl, ha', hb', rp'⟩ := TAt.tk (Same.tk sG) ht'
    refine ⟨_, rfl, _, rfl, a, _, rfl, SqT.of ha, fun z => absurd z.2 (show ¬ HT.sIx 3 3 (some 2) = 3 by decide), fun _ p hp => ?_⟩
    have q1 := Same.upd hp (o := .tup (cutV [V.int t.wait, V.int t.deep, V.ref b] none (some 2)))
    refine ⟨_, rfl, _, rfl, a', _, rfl, SqT.of (q1 _ _ ha'), fun z => absurd z.2 (show ¬ HT.sIx 3 3 (some 2) = 3 by decide), fun _ p' hp' => ?_⟩
    have q2 := q1.trans (Same.upd hp' (o := .tup (cutV [V.int t'.wait, V.int t'.deep, V.ref b'] none (some 2))))
    have np := ne_of_none (upd_same (H := G) (a := p) (o := .tup (cutV [V.int t.wait, V.int t.deep, V.ref b] none (some 2)))) hp'
    refine ⟨.tuple [.int t.wait, .int t.deep], .tuple [.int t'.wait, .int t'.deep], .tup (SqT.of (Eq.trans (upd_ne np) upd_same)) (.cons (.int _) (.cons (.int _) .nil)), .tup (SqT.of upd_same) (.cons (.int _) (.cons (.int _) .nil)), rfl, rfl, ?_⟩
    have ee : PyData.eqv (.tuple [.int t.wait, .int t.deep]) (.tuple [.int t'.wait, .int t'.deep]) = true := by
      rw [ew, ed]
      exact SeqAt.eqv_refl _ rfl
    rw [ee]
    exact k _ (sG.trans q2)
end
end RD
set_option Elab.async false
set_option linter.all false
set_option maxRecDepth 100000
set_option maxHeartbeats 4000000
local macro_rules | `(tactic| walk_at "isT") => `(tactic| refine ⟨_, _, _, _, true, rfl, L2.ClsV.ty _, L2.TyX.base (by first | exact .int _ | exact .str _ | exact .bl _ | exact .non), L2.kit_ty (by decide +kernel), ?_⟩)
local macro_rules | `(tactic| walk_at "isF") => `(tactic| refine ⟨_, _, _, _, false, rfl, L2.ClsV.ty _, L2.TyX.base (by first | exact .int _ | exact .str _ | exact .bl _ | exact .non), L2.kit_ty (by decide +kernel), ?_⟩)
set_option maxHeartbeats 400000
namespace RD
open PySem PySem.Spec PyProof.Rows L2
/-! ### moves to the end of a list -/
theorem pj_eq {t : Tr} (ok : TrOk t) : t.ppl.map pj = (nmz t.ppl).map fun x => (x, talkF t.ppl x) := by
  have nd := ok.ppl.nodup
  unfold nmz
  rw [List.map_map]
  refine List.map_congr_left fun p hp => ?_
  show (p.1, p.2.2) = (p.1, talkF t.ppl p.1)
  unfold talkF
  rw [named_of nd hp]
theorem View.perm {t u : Tr} {w d w' d' : Int} {nm : List Str} {ls ls' : Str → List Str} {tf : Str → Int} (v : View t w d nm ls tf) (k : View u w' d' nm ls' tf) : (u.ppl.map pj).Perm (t.ppl.map pj) := by
  rw [pj_eq v.ok, pj_eq k.ok]
  have e : (nmz u.ppl).Perm (nmz t.ppl) := (List.perm_ext_iff_of_nodup k.ok.ppl.nodup v.ok.ppl.nodup).mpr fun x => (k.en x).trans (v.en x).symm
  have e2 : (nmz u.ppl).map (fun x => (x, talkF u.ppl x)) = (nmz u.ppl).map fun x => (x, talkF t.ppl x) := List.map_congr_left fun x hx => by
    have h := (k.en x).mp hx
    rw [k.et x h, v.et x h]
  rw [e2]
  exact e.map _
/-- the same rows but for the callers: the same names, the same talks -/
theorem pj_facts {t u : Tr} (ok : TrOk t) (ok' : TrOk u) (p : (u.ppl.map pj).Perm (t.ppl.map pj)) : (∀ x, x ∈ nmz u.ppl ↔ x ∈ nmz t.ppl) ∧ ∀ x ∈ nmz t.ppl, talkF u.ppl x = talkF t.ppl x := by
  have n : (nmz u.ppl).Perm (nmz t.ppl) := by
    have := p.map (·.1)
    rwa [pj_names, pj_names] at this
  refine ⟨fun x => n.mem_iff, fun x hx => ?_⟩
  have h1 : (x, talkF t.ppl x) ∈ u.ppl.map pj := p.mem_iff.mpr (by
    rw [pj_eq ok]
    exact List.mem_map.mpr ⟨x, hx, rfl⟩)
  rw [pj_eq ok'] at h1
  obtain ⟨y, _, e⟩ := List.mem_map.mp h1
  have e1 : y = x := congrArg Prod.fst e
  have e2 : talkF u.ppl y = talkF t.ppl x := congrArg Prod.snd e
  rw [← e2, e1]
section
variable {t : Tr} {w d : Int} {nm : List Str} {ls : Str → List Str} {tf : Str → Int}
theorem dropL_len (x : Str) (l : List Str) : (dropL x l).length ≤ l.length := List.length_filter_le _ _
theorem View.key (v : View t w d nm ls tf) {c : Str} (h : c = "" ∨ c ∈ nm) : c ∈ ("" : Str) :: nmz t.ppl := List.mem_cons.mpr (h.imp id (v.en c).mpr)
theorem View.below (v : View t w d nm ls tf) {x y : Str} (hx : x ∈ nm) (hy : y ∈ belowN (ownl t.ppl) 16 x) : y ∈ nm := by
  have F := fo_of v.ok.ppl v.ok.len
  obtain ⟨_, _, s⟩ := F.wf.sub16 F.len (F.pm.mem_iff.mpr ((v.en x).mpr hx))
  exact (v.en y).mp (F.pm.mem_iff.mp (s y hy))
theorem View.nob (v : View t w d nm ls tf) : ("" : Str) ∉ nm := fun z => (fo_of v.ok.ppl v.ok.len).sd.nx ((v.en _).mpr z)
/-- one moves -/
theorem View.move (v : View t w d nm ls tf) {x c : Str} {pl : Option Nat} (hx : x ∈ nm) (hc : c = "" ∨ c ∈ nm) (ne : c ≠ x) (nb : c ∉ belowN (ownl t.ppl) 16 x) (hp : ∀ n, pl = some n → n ≤ (dropL x (ls c)).length) :
    (Deed.move x c pl).POk t ∧ View ((Deed.move x c pl).resP t) w d nm (updF (fun y => dropL x (ls y)) c (insAt (dropL x (ls c)) x pl)) tf ∧ InWalk ((Deed.move x c pl).resP t) := by
  have fit : (Deed.move x c pl).Fit (("" : Str) :: nmz t.ppl) (nmz t.ppl) (ownl t.ppl) := ⟨(v.en x).mpr hx, v.key hc, ne, fun n e => by
    rw [v.el c hc]
    exact hp n e⟩
  have dok : (Deed.move x c pl).Ok (ownl t.ppl) (talkF t.ppl) := by
    show c ∉ nmz (walkR (ownl t.ppl) (talkF t.ppl) 16 x)
    rw [nmz_walkR]
    exact nb
  obtain ⟨k, iw⟩ := Done.res v.ok fit dok
  refine ⟨(res_of v.ok fit dok).pok, ⟨k.ok, k.ew.trans v.ew, k.ed.trans v.ed, fun y => (k.en y).trans (v.en y), fun y hy => ?_, fun y hy => (k.et y ((v.en y).mpr hy)).trans (v.et y hy)⟩, iw⟩
  refine (k.el y (hy.imp id (v.en y).mpr)).trans ?_
  show updF (fun y => dropL x (ownl t.ppl y)) c (insAt (dropL x (ownl t.ppl c)) x pl) y = _
  rw [v.el c hc]
  by_cases e : y = c
  · rw [e, updF_same, updF_same]
  · rw [updF_ne e, updF_ne e, v.el y hy]
theorem insAt_end (l : List Str) (x : Str) : insAt l x none = l ++ [x] := by
  unfold insAt
  show l.take l.length ++ [x] ++ l.drop l.length = _
  rw [List.take_length, List.drop_length, List.append_nil]
theorem dropL_app (x : Str) (a b : List Str) : dropL x (a ++ b) = dropL x a ++ dropL x b := List.filter_append ..
theorem mem_dropL {x y : Str} {l : List Str} : y ∈ dropL x l ↔ y ∈ l ∧ y ≠ x := by
  unfold dropL
  rw [List.mem_filter]
  exact ⟨fun h => ⟨h.1, of_decide_eq_true h.2⟩, fun h => ⟨h.1, decide_eq_true h.2⟩⟩
theorem ownl_sub' {P : List Pr} {x c : Str} (h : x ∈ ownl P c) : x ∈ nmz P := (ownl_sub c P).subset h
/-- the next row of the other tree: its one moves behind -/
theorem next_move {P : List Pr} {p : Pr} {rest : List Str} (v : View t w d nm (fun y => if y = "" then rest ++ ownl P "" else ownl P y) tf) (hx : p.1 ∈ nm) (nx : p.1 ∉ nmz P) (hc : p.2.1 = "" ∨ p.2.1 ∈ nmz P) (sub : ∀ y ∈ nmz P, y ∈ nm) (nc : ∀ q ∈ P, q.2.1 ≠ p.1) :
    (Deed.move p.1 p.2.1 none).POk t ∧ View ((Deed.move p.1 p.2.1 none).resP t) w d nm (fun y => if y = "" then dropL p.1 rest ++ ownl (P ++ [p]) "" else ownl (P ++ [p]) y) tf ∧ InWalk ((Deed.move p.1 p.2.1 none).resP t) := by
  have nb := v.nob
  have xb : p.1 ≠ "" := fun e => nb (e ▸ hx)
  have cx : p.2.1 ≠ p.1 := fun e => hc.elim (fun z => xb (e ▸ z)) fun z => nx (e ▸ z)
  have none_ : ownl t.ppl p.1 = [] := by
    rw [v.el p.1 (.inr hx), if_neg xb]
    exact ownl_no nc
  have be : belowN (ownl t.ppl) 16 p.1 = [] := by
    show (ownl t.ppl p.1).flatMap _ = []
    rw [none_]
    rfl
  obtain ⟨a, b, c⟩ := v.move (pl := none) hx (hc.imp id (sub _)) cx (by rw [be]; simp) (fun n e => by cases e)
  have dP : ∀ y, dropL p.1 (ownl P y) = ownl P y := fun y => drop_other fun z => nx (ownl_sub' z)
  refine ⟨a, b.imp (fun _ => Iff.rfl) (fun y hy => ?_) (fun _ _ => rfl), c⟩
  rw [insAt_end]
  by_cases e : y = p.2.1
  · rw [e, updF_same]
    by_cases e2 : p.2.1 = ""
    · rw [if_pos e2, if_pos e2, dropL_app, dP, ownl_app]
      have q : ownl [p] "" = [p.1] := by
        unfold ownl
        simp [e2]
      rw [q, List.append_assoc]
    · rw [if_neg e2, if_neg e2, dP, ownl_app]
      have q : ownl [p] p.2.1 = [p.1] := by
        unfold ownl
        simp
      rw [q]
  · rw [updF_ne e]
    have q : ownl [p] y = [] := ownl_no fun r hr => by
      rw [List.mem_singleton.mp hr]
      exact fun z => e z.symm
    by_cases e2 : y = ""
    · rw [e2] at q
      rw [if_pos e2, if_pos e2, dropL_app, dP, ownl_app, q, List.append_nil]
    · rw [if_neg e2, if_neg e2, dP, ownl_app, q, List.append_nil]
end
end RD
set_option Elab.async false
set_option linter.all false
set_option maxRecDepth 100000
set_option maxHeartbeats 4000000
local macro_rules | `(tactic| walk_at "isT") => `(tactic| refine ⟨_, _, _, _, true, rfl, L2.ClsV.ty _, L2.TyX.base (by first | exact .int _ | exact .str _ | exact .bl _ | exact .non), L2.kit_ty (by decide +kernel), ?_⟩)
local macro_rules | `(tactic| walk_at "isF") => `(tactic| refine ⟨_, _, _, _, false, rfl, L2.ClsV.ty _, L2.TyX.base (by first | exact .int _ | exact .str _ | exact .bl _ | exact .non), L2.kit_ty (by decide +kernel), ?_⟩)
namespace RD
open PySem PySem.Spec PyProof.Rows L2
/-! ### by moves -/
theorem inwalk_nil {t : Tr} (h : t.ppl = []) : InWalk t := by
  unfold InWalk
  rw [h]
  rfl
section
variable {P : Program} {w : World} {K : PySem.W.Frag} {mg : Str → Option Value} {base : Heap}
/-- the names of a tree's people, a new list -/
def sp_l_by (name : Str) : Sp := fun vs H Q _ => ∃ (st : Addr) (v u : V) (t f : Tr) (N : Nat), vs = [.ref st, v, u] ∧ TAt H v t ∧ TAt H u f ∧ TrOk t ∧ TrOk f ∧ t.wait = f.wait ∧ t.deep = f.deep ∧ (f.ppl.map pj).Perm (t.ppl.map pj) ∧ StAt H st N ∧ N ≤ 100000000 ∧
  ∀ H' x, TAt H' x ⟨t.wait, t.deep, walkP f.ppl⟩ → Kb st H H' → StAt H' st (N + 100) → Q x H'
theorem cal_l_by_moves (T : Txt K mg) : Cal P w K mg base 22 "_law_by_moves" (sp_l_by "_law_by_moves") [] := by
  refine T.d_l_by_moves.cal sc_l_by_moves (fun vs H Q E h => ?_) (fun f cdv A outer s H vs Q E hr h => ?_) (fun _ _ _ _ _ _ us hl => match us, hl with | [_, _, _], _ => rfl)
  · obtain ⟨st, v, u, t, f, N, rfl, _⟩ := h; rfl
  obtain ⟨st, v, u, t, fr, N, rfl, ht, hf, ok, okf, ew, ed, pm, S, hN, k⟩ := h
  have hu := hu_of hr
  have C_l_digit := cal_l_digit (P := P) (w := w) (base := base) T
  have C_moved_3 := cal_moved_3 (P := P) (w := w) (base := base) T
  have C_l_same_people := cal_l_same_people (P := P) (w := w) (base := base) T
  have C_list_of := cal_list_of (P := P) (w := w) (base := base) T
  have C_l_told_tree := cal_l_told_tree (P := P) (w := w) (base := base) T
  have C_l_own := cal_l_own (P := P) (w := w) (base := base) T
  refine ⟨_, (pss_cons (ps_asg (pe_tup (pa_cons (pv 1) (pa_cons (pe_lc (own := [("_law_name", 5), ("_law_caller_here", 6), ("_law_talk", 7)]) (tt := tYes) rfl sc_l_by_moves.nd (pi_tup (pe_ix ix_tup (pv 1) pe_int (fun _ _ => rfl))) (blkOk_by (N := N_l_by_moves) (sc := defScope s_l_by_moves) (by decide +kernel)) (fun _ _ _ _ _ => (pg_tupK (K := K) (n := 3) rfl (by rfl) (pgs_cons (pg_name (i := 5) sc_l_by_moves.nd rfl (Or.inl rfl)) (pgs_cons (pg_name (i := 6) sc_l_by_moves.nd rfl (Or.inl rfl)) (pgs_cons (pg_name (i := 7) sc_l_by_moves.nd rfl (Or.inl rfl)) pgs_nil))))) (fun _ _ _ _ _ => pts_nil) (fun _ _ _ _ _ => (pv 5))) pa_nil))) (pg_tup (by rfl) (pgs_cons (pg_name (i := 3) sc_l_by_moves.nd rfl (Or.inr rfl)) (pgs_cons (pg_name (i := 4) sc_l_by_moves.nd rfl (Or.inl rfl)) pgs_nil))))
   (pss_cons (ps_while PassesOwn.never (pt_cmpR (op_neD hr.units) (pv 4) (pe_lst pa_nil) (nomark _)) (pss_cons (ps_set (i := 3) sc_l_by_moves.nd rfl (Or.inr rfl) (pe_cl C_moved_3 hr (by omega) (by rfl) (pa_cons (pv 3) (pa_cons (pe_bm PySem.F.plainAttrs_list PySem.F.slot_list_pop PySem.F.type_list_pop mt_popAt (pv 4) (pa_cons (pe_cl C_l_digit hr (by omega) (by rfl) (pa_cons (pv 0) (pa_cons (pe_callB call_len_seq (by rfl) T.b_len (by decide +kernel) (pa_cons (pv 4) pa_nil)) pa_nil))) pa_nil)) (pa_cons pe_str pa_nil))))) (pss_one (ps_if (pt_not (pt_val (pe_cl C_l_same_people hr (by omega) (by rfl) (pa_cons (pv 1) (pa_cons (pv 3) pa_nil))))) (pss_one (ps_ret pe_non)) pss_nil))))
   (pss_cons (ps_if (pt_cmpR (op_neD hr.units) (pe_lc (own := [("_law_name", 5), ("_law_caller_here", 6), ("_law_talk", 7)]) (tt := _) rfl sc_l_by_moves.nd (pi_tup (pe_ix ix_tup (pv 3) pe_int (fun _ _ => rfl))) (blkOk_by (N := N_l_by_moves) (sc := defScope s_l_by_moves) (by decide +kernel)) (fun _ _ _ _ _ => (pg_tupK (K := K) (n := 3) rfl (by rfl) (pgs_cons (pg_name (i := 5) sc_l_by_moves.nd rfl (Or.inl rfl)) (pgs_cons (pg_name (i := 6) sc_l_by_moves.nd rfl (Or.inl rfl)) (pgs_cons (pg_name (i := 7) sc_l_by_moves.nd rfl (Or.inl rfl)) pgs_nil))))) (fun _ _ _ _ _ => (pts_one (PW.pt (pw_or (pt_cmpR op_ne (pv 6) pe_str (nomark _)) (pw_or1 (pt_cmpR (op_neDK (K := K) rfl hr.units) (pe_cl C_list_of hr (by omega) (by rfl) (pa_cons (pv 3) (pa_cons (pv 5) pa_nil))) (pe_tup pa_nil) (nomark _))))))) (fun _ _ _ _ _ => pe_int)) (pe_lst pa_nil) (nomark _)) (pss_one (ps_ret pe_non)) pss_nil)
   (pss_cons (ps_for PassesOwn.never rfl (pi_tup (pe_ix ix_tup (pe_cl C_l_told_tree hr (by omega) (by rfl) (pa_cons (pe_cl C_l_own hr (by omega) (by rfl) (pa_cons (pv 2) pa_nil)) pa_nil)) pe_int (fun _ _ => rfl))) (pg_tup (by rfl) (pgs_cons (pg_name (i := 5) sc_l_by_moves.nd rfl (Or.inl rfl)) (pgs_cons (pg_name (i := 6) sc_l_by_moves.nd rfl (Or.inl rfl)) (pgs_cons (pg_name (i := 7) sc_l_by_moves.nd rfl (Or.inl rfl)) pgs_nil)))) (pss_cons (ps_set (i := 3) sc_l_by_moves.nd rfl (Or.inr rfl) (pe_cl C_moved_3 hr (by omega) (by rfl) (pa_cons (pv 3) (pa_cons (pv 5) (pa_cons (pv 6) pa_nil))))) (pss_one (ps_if (pt_not (pt_val (pe_cl C_l_same_people hr (by omega) (by rfl) (pa_cons (pv 1) (pa_cons (pv 3) pa_nil))))) (pss_one (ps_ret pe_non)) pss_nil))))
   (pss_one (ps_ret (pv 3))))))), ?_⟩
  have F := fo_of ok.ppl ok.len
  have nob : ("" : Str) ∉ nmz t.ppl := F.sd.nx
  have l16 := ok.len
  have lnm : (nmz t.ppl).length = t.ppl.length := by unfold nmz; rw [List.length_map]
  obtain ⟨a, b, us, rfl, ha, hb, rp⟩ := id ht
  have lus := Paired.len rp
  refine ⟨_, rfl, _, rfl, _, _, _, _, rfl, rfl, SqT.of ha, rfl, b, rfl, ⟨_, SqT.of hb⟩, fun D hD => ?_⟩
  refine lc_rel (σ := L2.start N_l_by_moves [.ref st, .ref a, u]) (xs := us) t.ppl (fun p => some p.1) PAt (fun _ v n => v = .str n) walk_tup (fun H' q => SqT.of (q _ _ hb)) hD (small1000 (by omega)) rp (fun q h => PAt.tk (Same.tk q) h) (fun _ h => h) ?_ ?_
  · rintro _ p H' Qk Qn _ _ ⟨c, rfl, hc⟩ hk _
    refine ⟨_, _, rfl, SqT.of hc, rfl, _, _, rfl, _, _, rfl, _, _, rfl, rfl, rfl, ?_⟩
    exact ⟨_, rfl, hk _ _ _ rfl (Same.refl _) rfl⟩
  · intro H1 ys s1 hy r
    have ey := Paired.toMap r
    rw [fm_some] at ey
    have ey : ys = (nmz t.ppl).map V.str := ey
    subst ey
    refine ⟨by show 2 ≤ sizeLine; decide, fun q hq => ⟨_, _, rfl, SqT.of upd_same, rfl, _, _, rfl, _, _, rfl, rfl, ?_⟩⟩
    have s2 := s1.trans (Same.upd hq (o := .tup [V.ref a, V.ref D]))
    have hy2 := Same.upd hq (o := .tup [V.ref a, V.ref D]) _ _ hy
    have S2 := S.same s2
    have hst : st ≠ D := fun z => S.some (by rw [z]; exact hD)
    generalize upd H1 q (.tup [V.ref a, V.ref D]) = H2 at s2 hy2 S2 ⊢
    have ht2 := TAt.tk (Same.tk s2) ht
    have hf2 := TAt.tk (Same.tk s2) hf
    refine while_n (fun n σ G => ∃ (a5 a6 a7 : Option V) (x : V) (t' : Tr) (ls : Str → List Str) (ns : List Str), σ = [some (.ref st), some (.ref a), some u, some x, some (.ref D), a5, a6, a7] ∧ n = ns.length ∧ G D = some (.lst (ns.map V.str)) ∧ TAt G x t' ∧ View t' t.wait t.deep (nmz t.ppl) ls (talkF t.ppl) ∧
        (ns.length = (nmz t.ppl).length ∨ InWalk t') ∧ ns.Nodup ∧ (∀ z ∈ ns, z ∈ nmz t.ppl) ∧ (∀ y ∈ nmz t.ppl, ∀ z ∈ ls y, z ∈ ns) ∧ Kb st H G ∧ StAt G st (N + 4 * ((nmz t.ppl).length - ns.length)))
      _ ⟨none, none, none, .ref a, t, _, nmz t.ppl, rfl, rfl, hy2, ht2, View.self ok, .inl rfl, F.nd, fun z h => h, fun y hy z hz => ownl_sub' hz, Same.kb s2, S2.mono (by omega)⟩ ?_ ?_
    · rintro n σ G ⟨a5, a6, a7, x, t', ls, ns, rfl, rfl, gD, hx, vw, iw, ndn, sub, dn, kb, SG⟩
      have lns : ns.length ≤ (nmz t.ppl).length := nodup_sub_len ndn sub
      obtain ⟨sh, ev⟩ := names_data (ns := ns) fun z hz => (name_facts ok.ppl F (sub z hz)).1
      refine ⟨_, rfl, Nat.zero_le _, fun p0 hp0 => ?_⟩
      have m0 := Same.upd hp0 (o := .lst [])
      refine ⟨_, _, .lst (SqL.of (m0 _ _ gD)) (dpAll_names ns), .lst (SqL.of upd_same) .nil, sh, by decide, _, rfl, ?_⟩
      rw [ev]
      have gD' := m0 _ _ gD
      have hx' := TAt.tk (Same.tk m0) hx
      have kb' := kb.trans (Same.kb m0)
      have SG' := SG.same m0
      generalize upd G p0 (.lst []) = G0 at gD' hx' kb' SG' ⊢
      by_cases e0 : ns = []
      · rw [decide_eq_true e0]
        refine iteF ?_
        subst e0
        have iw' : InWalk t' := by
          rcases iw with e | e
          · refine inwalk_nil ?_
            cases hp : t'.ppl with
            | nil => rfl
            | cons q qs =>
              have h := (vw.en q.1).mp (by rw [hp]; exact List.mem_cons_self ..)
              rw [List.length_nil] at e
              rw [List.eq_nil_of_length_eq_zero e.symm] at h
              cases h
          · exact e
        have lsn : ∀ y ∈ nmz t.ppl, ls y = [] := fun y hy => List.eq_nil_iff_forall_not_mem.mpr fun z hz => by cases dn y hy z hz
        obtain ⟨a', b', us', rfl, ha', hb', rp'⟩ := id hx'
        have lus' := Paired.len rp'
        have l16' := vw.ok.len
        refine ⟨_, rfl, _, _, _, _, rfl, rfl, SqT.of ha', rfl, b', rfl, ⟨_, SqT.of hb'⟩, fun D2 hD2 => ?_⟩
        refine lc_rel (σ := [some (.ref st), some (.ref a), some u, some (.ref a'), some (.ref D), a5, a6, a7]) (xs := us') t'.ppl (fun _ => (none : Option Str)) PAt (fun _ v n => v = .str n) walk_tup (fun H' q => SqT.of (q _ _ hb')) hD2 (small1000 (by omega)) rp' (fun q h => PAt.tk (Same.tk q) h) (fun _ h => h) ?_ ?_
        · rintro _ p G1 Qk Qn hp s1 ⟨c, rfl, hc⟩ _ hno
          have pin : p.1 ∈ ownl t'.ppl p.2.1 := mem_ownl.mpr ⟨p.2.2, hp⟩
          have cb : p.2.1 = "" := by
            rcases vw.ok.ppl.callers hp with e | e
            · exact e
            · have e := (vw.en _).mp e
              rw [vw.el _ (.inr e), lsn _ e] at pin
              cases pin
          have pn : p.1 ∈ nmz t.ppl := (vw.en _).mp (mem_nmz hp)
          refine ⟨_, _, rfl, SqT.of hc, rfl, _, _, rfl, _, _, rfl, _, _, rfl, rfl, rfl, ?_⟩
          have e1 : (!decide (V.str p.2.1 = V.str "")) = false := by rw [cb]; rfl
          refine ⟨_, rfl, rfl, _, rfl, ?_⟩
          rw [e1]
          refine iteF ⟨_, rfl, _, rfl, .ref a', t', p.1, rfl, TAt.tk (Same.tk s1) hx', vw.ok, .inl (mem_nmz hp), fun G2 q s2 hq => ?_⟩
          rw [vw.el _ (.inr pn), lsn _ pn] at hq
          refine ⟨Nat.zero_le _, fun q2 hq2 => ?_⟩
          have s3 := Same.upd hq2 (o := .tup [])
          exact ⟨.tuple [], .tuple [], .tup (SqT.of (s3 _ _ hq)) .nil, .tup (SqT.of upd_same) .nil, by decide, by decide, _, rfl, iteF (hno rfl _ (s2.trans s3))⟩
        · intro G1 ys s1 hy _r
          have ey : ys = [] := by
            have e := Paired.len _r
            rw [show t'.ppl.filterMap (fun _ => (none : Option Str)) = [] from List.filterMap_eq_nil_iff.mpr fun _ _ => rfl] at e
            exact List.eq_nil_of_length_eq_zero e
          subst ey
          refine ⟨Nat.zero_le _, fun q hq => ?_⟩
          have s2 := s1.trans (Same.upd hq (o := .lst []))
          refine ⟨.list [], .list [], .lst (SqL.of (Same.upd hq _ _ hy)) .nil, .lst (SqL.of upd_same) .nil, by decide, by decide, _, rfl, iteF ?_⟩
          have kb2 := kb'.trans (Same.kb s2)
          have SG2 := SG'.same s2
          have hx2 := TAt.tk (Same.tk s2) hx'
          generalize upd G1 q (.lst []) = G2 at s2 kb2 SG2 hx2 ⊢
          have hf3 : TAt G2 u fr := TAt.tk (S.kb kb2) hf
          have FF := fo_of okf.ppl okf.len
          have lbF : (belowN (ownl fr.ppl) 16 "").length ≤ 16 := by
            rw [(FF.wf.at16 FF.len).2]
            exact FF.len
          have rchF : Rch (("" : Str) :: nmz fr.ppl) (nmz fr.ppl) (ownl fr.ppl) 16 "" := by
            have e := (FF.wf.at16 FF.len)
            have mm : ∀ y ∈ belowN (ownl fr.ppl) 16 "", y ∈ nmz fr.ppl := fun y hy => FF.pm.mem_iff.mp (by rw [← e.2]; exact hy)
            exact rch_of e.1 (fun y hy => List.mem_cons.mpr (hy.imp id (mm y))) mm
          refine ⟨_, rfl, u, fr, st, rfl, hf3, okf.ppl, okf.len, SG2.some, fun G3 o OW s3 => ?_⟩
          refine ⟨o, st, G2, _, _, _, _, _, _, rfl, OW, rchF, by rw [walk_len]; omega, fun G4 u4 s4 h4 => ?_⟩
          rw [told_view okf] at h4
          obtain ⟨a4, b4, us4, rfl, ha4, hb4, rp4⟩ := id h4
          refine ⟨_, _, _, _, rfl, rfl, SqT.of ha4, rfl, b4, rfl, ⟨_, SqT.of hb4⟩, ?_⟩
          obtain ⟨vwF, iwF⟩ := walk_view okf
          obtain ⟨pf1, pf2⟩ := pj_facts ok okf pm
          have okR : PplOk (walkP fr.ppl) := vwF.ok.ppl
          have nR : ∀ y, y ∈ nmz (walkP fr.ppl) ↔ y ∈ nmz t.ppl := fun y => (vwF.en y).trans (pf1 y)
          have lR : (walkP fr.ppl).length ≤ 16 := vwF.ok.len
          have rp4 : Paired (PAt G4) us4 (walkP fr.ppl) := rp4
          generalize walkP fr.ppl = R at vwF iwF okR nR lR rp4 k h4
          have lus4 := Paired.len rp4
          have s34 := s3.trans s4
          refine for_it walk_tup (fun i σ G => ∃ (a5 a6 a7 : Option V) (x : V) (t' : Tr) (rest : List Str), σ = [some (.ref st), some (.ref a), some u, some x, some (.ref D), a5, a6, a7] ∧ Same G4 G ∧ TAt G x t' ∧ View t' t.wait t.deep (nmz t.ppl) (fun y => if y = "" then rest ++ ownl (R.take i) "" else ownl (R.take i) y) (talkF t.ppl) ∧ InWalk t' ∧ (∀ z ∈ rest, z ∈ nmz t.ppl ∧ z ∉ nmz (R.take i)))
            ⟨a5, a6, a7, .ref a', t', ownl t'.ppl "", rfl, Same.refl _, TAt.tk (Same.tk s34) hx2, vw.imp (fun _ => Iff.rfl) (fun y hy => ?_) (fun _ _ => rfl), iw', fun z hz => ⟨(vw.en z).mp (ownl_sub' hz), by rw [List.take_zero]; exact fun q => by cases q⟩⟩ (fun i σ G _ ⟨_, _, _, _, _, _, _, s, _⟩ => SqT.of (s _ _ hb4)) ?_ ?_
          · rw [List.take_zero]
            by_cases e : y = ""
            · rw [if_pos e, e, vw.el "" (.inl rfl)]
              exact (List.append_nil _).symm
            · rw [if_neg e]
              exact lsn y (hy.resolve_left e)
          · rintro i y σ G G5 hi ⟨a5, a6, a7, x, t', rest, rfl, s5, hx5, vw5, iw5, hrest⟩ ⟨rfl, hyi⟩
            obtain ⟨p, hp, c, rfl, hc⟩ := Paired.get (PsAt.tk (Same.tk s5) rp4) hyi
            have pok := okR i p hp
            have et : R.take (i + 1) = R.take i ++ [p] := by
              rw [List.take_succ, hp]
              rfl
            have pin : p.1 ∈ nmz t.ppl := (nR _).mp (mem_nmz (List.mem_of_getElem? hp))
            have pnx : p.1 ∉ nmz (R.take i) := of_decide_eq_false pok.2.1
            have pc : p.2.1 = "" ∨ p.2.1 ∈ nmz (R.take i) := pok.2.2.1.imp id fun z => of_decide_eq_true z
            have tsub : ∀ y ∈ nmz (R.take i), y ∈ nmz t.ppl := fun y hy => (nR y).mp (by
              obtain ⟨q, hq, e⟩ := List.mem_map.mp hy
              rw [← e]
              exact mem_nmz (List.mem_of_mem_take hq))
            obtain ⟨pok', vw6, iw6⟩ := next_move vw5 pin pnx pc tsub fun q hq e => by
              rcases (okR.take i).callers hq with z | z
              · exact nob (by rw [← z, e]; exact pin)
              · exact pnx (by rw [← e]; exact z)
            obtain ⟨p1, mok⟩ := id pok'
            refine ⟨_, _, rfl, SqT.of hc, rfl, _, _, rfl, _, _, rfl, _, _, rfl, rfl, ?_⟩
            refine ⟨_, rfl, _, rfl, _, rfl, x, t', p.1, p.2.1, p1, none, rfl, hx5, Fo.good vw5.ok, mok, fun G6 x6 s6 h6 => ?_⟩
            have h6 : TAt G6 x6 ((Deed.move p.1 p.2.1 none).resP t') := by
              show TAt G6 x6 ⟨t'.wait, t'.deep, moveP t'.ppl p.1 p.2.1 (talkF t'.ppl p.1) none⟩
              unfold talkF
              rw [mok.at_]
              exact h6
            have ht6 : TAt G6 (.ref a) t := TAt.tk (S.kb (kb2.trans (Same.kb ((s34.trans s5).trans s6)))) ht
            refine ⟨_, rfl, _, rfl, .ref a, x6, t, _, rfl, ht6, h6, ok, vw6.ok, vw6.ew.symm, vw6.ed.symm, (View.self ok).perm vw6, fun G7 s7 => ?_⟩
            refine ⟨_, rfl, iteF ⟨_, _, _, x6, _, dropL p.1 rest, rfl, (s5.trans s6).trans s7, TAt.tk (Same.tk s7) h6, ?_, iw6, fun z hz => ?_⟩⟩
            · rw [et]
              exact vw6
            · obtain ⟨z1, z2⟩ := mem_dropL.mp hz
              refine ⟨(hrest z z1).1, ?_⟩
              rw [et, nmz_app]
              exact fun q => (List.mem_append.mp q).elim (hrest z z1).2 fun q => z2 (List.mem_singleton.mp q)
          · rintro σ G ⟨a5, a6, a7, x, t', rest, rfl, s5, hx5, vw5, iw5, hrest⟩
            rw [lus4, List.take_length] at vw5 hrest
            have er : rest = [] := List.eq_nil_iff_forall_not_mem.mpr fun z hz => (hrest z hz).2 ((nR z).mpr (hrest z hz).1)
            have vF : View ⟨fr.wait, fr.deep, R⟩ t.wait t.deep (nmz t.ppl) (fun y => if y = "" then rest ++ ownl R "" else ownl R y) (talkF t.ppl) := by
              refine ⟨vwF.ok, ew.symm, ed.symm, nR, fun c hc => ?_, fun y hy => ?_⟩
              · show ownl R c = _
                by_cases e : c = ""
                · rw [if_pos e, er, e]
                  rfl
                · rw [if_neg e]
              · exact (vwF.et y ((pf1 y).mpr hy)).trans (pf2 y hy)
            have et := View.same vw5 vF iw5 iwF
            rw [et, ← ew, ← ed] at hx5
            exact ⟨_, rfl, k G x hx5 (kb2.trans (Same.kb (s34.trans s5))) ((SG2.same (s34.trans s5)).mono (by omega))⟩
      · rw [decide_eq_false e0]
        refine iteT ?_
        have hpos : 1 ≤ ns.length := by
          cases ns with
          | nil => exact absurd rfl e0
          | cons _ _ => exact Nat.succ_le_succ (Nat.zero_le _)
        have lm : (ns.map V.str).length = ns.length := List.length_map _
        refine ⟨_, rfl, _, rfl, .inl ⟨rfl, _, SqL.of gD'⟩, _, rfl, _, rfl, D, _, rfl, .inl (SqL.of gD'), st, _, _, rfl, by omega, by omega, SG', by omega, fun G4 d d0 d1 k4 S4 => ?_⟩
        have g4 := k4 _ _ hst.symm gD'
        obtain ⟨i, y, b1, b2, b3, b4⟩ := pop_at (xs := ns.map V.str) d0 d1
        rw [List.getElem?_map] at b4
        cases ei : ns[i]? with
        | none =>
          rw [ei] at b4
          cases b4
        | some nx =>
        rw [ei] at b4
        have b4 : V.str nx = y := Option.some.inj b4
        have nin : nx ∈ ns := List.mem_of_getElem? ei
        refine ⟨D, ns.map V.str, d, i, y, rfl, rfl, g4, b1, b2 (by omega), b3, by rw [List.getElem?_map, ei, ← b4]; rfl, ?_⟩
        rw [← b4, erase_strs]
        have kt : TK G4 (upd G4 D (.lst ((ns.eraseIdx i).map V.str))) := fun z zs hz => by
          rw [upd_ne (ne_of hz g4 (by intro q; cases q))]
          exact hz
        have hx5 := TAt.tk kt (TAt.tk (SG'.kb k4) hx')
        have g5 : (upd G4 D (.lst ((ns.eraseIdx i).map V.str))) D = some (.lst ((ns.eraseIdx i).map V.str)) := upd_same
        have kb5 : Kb st H (upd G4 D (.lst ((ns.eraseIdx i).map V.str))) := fun z o nz hz => by
          rw [upd_ne (ne_of_none hz hD)]
          exact (kb'.trans k4) z o nz hz
        have S5 : StAt (upd G4 D (.lst ((ns.eraseIdx i).map V.str))) st (N + 4 * ((nmz t.ppl).length - ns.length) + 4) := by
          obtain ⟨kvs, c1, c2, c3, c4, c5⟩ := S4
          exact ⟨kvs, c1, c2, c3, by rw [upd_ne hst]; exact c4, c5⟩
        generalize upd G4 D (.lst ((ns.eraseIdx i).map V.str)) = G5 at hx5 g5 kb5 S5 ⊢
        have nn := sub nx nin
        have nbx : ("" : Str) ∉ belowN (ownl t'.ppl) 16 nx := fun z => nob (vw.below nn z)
        obtain ⟨pok, vw', iw'⟩ := vw.move (pl := none) nn (.inl rfl) (fun e => nob (by rw [e]; exact nn)) nbx (fun n e => by cases e)
        obtain ⟨p1, mok⟩ := id pok
        refine ⟨x, t', nx, "", p1, none, rfl, hx5, Fo.good vw.ok, mok, fun G6 x6 s6 h6 => ?_⟩
        have h6 : TAt G6 x6 ((Deed.move nx "" none).resP t') := by
          show TAt G6 x6 ⟨t'.wait, t'.deep, moveP t'.ppl nx "" (talkF t'.ppl nx) none⟩
          unfold talkF
          rw [mok.at_]
          exact h6
        have ht6 : TAt G6 (.ref a) t := TAt.tk ((S.kb kb5).trans (Same.tk s6)) ht
        refine ⟨_, rfl, _, rfl, .ref a, x6, t, _, rfl, ht6, h6, ok, vw'.ok, vw'.ew.symm, vw'.ed.symm, (View.self ok).perm vw', fun G7 s7 => ?_⟩
        refine ⟨_, rfl, iteF ?_⟩
        have s67 := s6.trans s7
        have le := erase_len ei
        have pe := erase_perm ei
        have nde := (pe.nodup_iff.mpr ndn)
        refine ⟨_, by omega, _, _, _, x6, _, _, ns.eraseIdx i, rfl, rfl, s67 _ _ g5, TAt.tk (Same.tk s7) h6, vw', .inr iw', (List.nodup_cons.mp nde).2, fun z hz => sub z (List.mem_of_mem_eraseIdx hz), fun y hy z hz => ?_, kb5.trans (Same.kb s67), (S5.same s67).mono (by omega)⟩
        have yb : y ≠ "" := fun e => nob (by rw [← e]; exact hy)
        rw [updF_ne yb] at hz
        obtain ⟨hz1, hz2⟩ := mem_dropL.mp hz
        exact (List.mem_cons.mp (pe.mem_iff.mpr (dn y hy z hz1))).resolve_left hz2
    · exact fun σ H Q Q' hq ⟨x, e, h1, h2⟩ => ⟨x, e, h1, fun p hp => let ⟨d, e', a1, a2, a3, a4, b, eb, h⟩ := h2 p hp; ⟨d, e', a1, a2, a3, a4, b, eb, hq _ _ h⟩⟩
end
end RD
set_option Elab.async false
set_option linter.all false
set_option maxRecDepth 100000
set_option maxHeartbeats 4000000
local macro_rules | `(tactic| walk_at "isT") => `(tactic| refine ⟨_, _, _, _, true, rfl, L2.ClsV.ty _, L2.TyX.base (by first | exact .int _ | exact .str _ | exact .bl _ | exact .non), L2.kit_ty (by decide +kernel), ?_⟩)
local macro_rules | `(tactic| walk_at "isF") => `(tactic| refine ⟨_, _, _, _, false, rfl, L2.ClsV.ty _, L2.TyX.base (by first | exact .int _ | exact .str _ | exact .bl _ | exact .non), L2.kit_ty (by decide +kernel), ?_⟩)
set_option maxHeartbeats 400000
namespace RD
open PySem PySem.Spec PyProof.Rows L2
/-! ### leaves, joins -/
section
variable {t : Tr} {w d : Int} {nm : List Str} {ls : Str → List Str} {tf : Str → Int}
theorem leave_ok (ok : TrOk t) {x : Str} (hx : x ∈ nmz t.ppl) : (Deed.leave x).POk t ∧ TrOk ((Deed.leave x).resP t) ∧ ((Deed.leave x).resP t).wait = t.wait ∧ ((Deed.leave x).resP t).deep = t.deep ∧ (∀ z, z ∈ nmz ((Deed.leave x).resP t).ppl ↔ z ∈ nmz t.ppl ∧ z ≠ x) := by
  obtain ⟨v, _⟩ := Done.res (D := .leave x) ok hx trivial
  refine ⟨(res_of (D := .leave x) ok hx trivial).pok, v.ok, v.ew, v.ed, fun z => (v.en z).trans ?_⟩
  show z ∈ (nmz t.ppl).filter (fun y => decide (y ≠ x)) ↔ _
  rw [List.mem_filter]
  exact ⟨fun h => ⟨h.1, of_decide_eq_true h.2⟩, fun h => ⟨h.1, decide_eq_true h.2⟩⟩
theorem View.join (v : View t w d nm ls tf) {x c : Str} {i : Int} {pl : Option Nat} (xo : nameOk x = true) (hx : x ∉ nm) (hc : c = "" ∨ c ∈ nm) (few : (nmz t.ppl).length < 16) (i1 : 1 ≤ i) (i2 : i ≤ 60) (hp : ∀ n, pl = some n → n ≤ (ls c).length) :
    (Deed.join x c i pl).POk t ∧ View ((Deed.join x c i pl).resP t) w d (nm ++ [x]) (updF (updF ls x []) c (insAt (ls c) x pl)) (updF tf x i) ∧ InWalk ((Deed.join x c i pl).resP t) := by
  have fit : (Deed.join x c i pl).Fit (("" : Str) :: nmz t.ppl) (nmz t.ppl) (ownl t.ppl) := ⟨fun z => (List.mem_cons.mp z).elim (nameOk_ne xo) fun z => hx ((v.en x).mp z), v.key hc, few, fun n e => by
    rw [v.el c hc]
    exact hp n e⟩
  have dok : (Deed.join x c i pl).Ok (ownl t.ppl) (talkF t.ppl) := ⟨xo, i1, i2⟩
  obtain ⟨k, iw⟩ := Done.res v.ok fit dok
  have mem : ∀ y, y ∈ nmz t.ppl ++ [x] ↔ y ∈ nm ++ [x] := fun y => by
    rw [List.mem_append, List.mem_append, v.en]
  refine ⟨(res_of v.ok fit dok).pok, ⟨k.ok, k.ew.trans v.ew, k.ed.trans v.ed, fun y => (k.en y).trans (mem y), fun y hy => ?_, fun y hy => ?_⟩, iw⟩
  · refine (k.el y (hy.imp id (mem y).mpr)).trans ?_
    show updF (updF (ownl t.ppl) x []) c (insAt (ownl t.ppl c) x pl) y = _
    rw [v.el c hc]
    by_cases e : y = c
    · rw [e, updF_same, updF_same]
    · rw [updF_ne e, updF_ne e]
      by_cases e2 : y = x
      · rw [e2, updF_same, updF_same]
      · rw [updF_ne e2, updF_ne e2]
        exact v.el y (hy.imp id fun z => (List.mem_append.mp z).resolve_right fun q => e2 (List.mem_singleton.mp q))
  · refine (k.et y ((mem y).mpr hy)).trans ?_
    show updF (talkF t.ppl) x i y = _
    by_cases e2 : y = x
    · rw [e2, updF_same, updF_same]
    · rw [updF_ne e2, updF_ne e2]
      exact v.et y ((List.mem_append.mp hy).resolve_right fun q => e2 (List.mem_singleton.mp q))
theorem insAt_first (l : List Str) (x : Str) : insAt l x (some 0) = x :: l := by
  unfold insAt
  show l.take 0 ++ [x] ++ l.drop 0 = _
  simp
/-- the lists while those of c are joined, the last one first -/
def midL (F : Str → List Str) (cs : List Str) (c : Str) (P : List Str) : Str → List Str := fun y => if y = c then P.reverse else if y ∈ cs ++ P then [] else F y
theorem join_next {F : Str → List Str} {cs P : List Str} {c x : Str} (v : View t w d nm (midL F cs c P) tf) (xo : nameOk x = true) (hx : x ∉ nm) (hc : c = "" ∨ c ∈ nm) (few : (nmz t.ppl).length < 16) (i1 : 1 ≤ tf x) (i2 : tf x ≤ 60) (xc : x ≠ c) :
    (Deed.join x c (tf x) (some 0)).POk t ∧ View ((Deed.join x c (tf x) (some 0)).resP t) w d (nm ++ [x]) (midL F cs c (P ++ [x])) tf ∧ InWalk ((Deed.join x c (tf x) (some 0)).resP t) := by
  obtain ⟨a, b, iw⟩ := v.join (pl := some 0) xo hx hc few i1 i2 (fun n e => by cases e; exact Nat.zero_le _)
  refine ⟨a, b.imp (fun _ => Iff.rfl) (fun y hy => ?_) (fun y hy => ?_), iw⟩
  · rw [insAt_first]
    by_cases e : y = c
    · rw [e, updF_same]
      unfold midL
      rw [if_pos rfl, if_pos rfl]
      simp
    · rw [updF_ne e]
      by_cases e2 : y = x
      · rw [e2, updF_same]
        unfold midL
        rw [if_neg xc, if_pos (List.mem_append_right _ (List.mem_append_right _ (List.mem_singleton.mpr rfl)))]
      · rw [updF_ne e2]
        unfold midL
        rw [if_neg e, if_neg e]
        have q : y ∈ cs ++ (P ++ [x]) ↔ y ∈ cs ++ P := by simp [e2]
        by_cases h : y ∈ cs ++ P
        · rw [if_pos h, if_pos (q.mpr h)]
        · rw [if_neg h, if_neg fun z => h (q.mp z)]
  · by_cases e2 : y = x
    · rw [e2, updF_same]
    · rw [updF_ne e2]
/-- how the tree looks while the callers cs are due -/
def dueL (F : Str → List Str) (cs : List Str) : Str → List Str := fun y => if y ∈ cs then [] else F y
theorem due_mid {F : Str → List Str} {cs : List Str} {c : Str} : dueL F (cs ++ [c]) = midL F cs c [] := by
  funext y
  unfold dueL midL
  by_cases e : y = c
  · rw [if_pos e, if_pos (by rw [e]; simp)]
    rfl
  · rw [if_neg e, List.append_nil]
    have q : y ∈ cs ++ [c] ↔ y ∈ cs := by simp [e]
    by_cases h : y ∈ cs
    · rw [if_pos h, if_pos (q.mpr h)]
    · rw [if_neg h, if_neg fun z => h (q.mp z)]
theorem mid_due {F : Str → List Str} {cs : List Str} {c : Str} (h1 : c ∉ cs) (h2 : c ∉ F c) : midL F cs c (F c).reverse = dueL F (cs ++ (F c).reverse) := by
  funext y
  unfold dueL midL
  by_cases e : y = c
  · have n : c ∉ cs ++ (F c).reverse := fun z => (List.mem_append.mp z).elim h1 fun z => h2 (List.mem_reverse.mp z)
    rw [e, if_pos rfl, if_neg n, List.reverse_reverse]
  · rw [if_neg e]
theorem below_in {F : Str → List Str} {J : List Str} (h : ∀ y : Str, y = "" ∨ y ∈ J → ∀ z ∈ F y, z ∈ J) : ∀ {n : Nat} {x : Str}, (x = "" ∨ x ∈ J) → ∀ y ∈ belowN F n x, y ∈ J
  | 0, _, _, y, hy => by cases hy
  | n + 1, x, hx, y, hy => by
    obtain ⟨c, hc, h1⟩ := mem_below_succ.mp hy
    have cj := h x hx c hc
    rcases h1 with e | e
    · rw [e]
      exact cj
    · exact below_in h (.inr cj) y e
/-- none of those due stands there yet -/
theorem due_new {F : Str → List Str} {cs : List Str} {c x : Str} (v : View t w d nm (dueL F cs) tf) (hc : c ∈ cs) (un : ∀ a b x, x ∈ F a → x ∈ F b → a = b) (hx : x ∈ F c) : x ∉ nm := fun hn => by
  have FO := fo_of v.ok.ppl v.ok.len
  obtain ⟨c', ck, cx, _⟩ := FO.sd.ex x ((v.en x).mpr hn)
  have ck' : c' = "" ∨ c' ∈ nm := (List.mem_cons.mp ck).imp id (v.en c').mp
  rw [v.el c' ck'] at cx
  unfold dueL at cx
  by_cases h : c' ∈ cs
  · rw [if_pos h] at cx
    cases cx
  · rw [if_neg h] at cx
    exact h (un c' c x cx hx ▸ hc)
theorem due_end {F : Str → List Str} (v : View t w d nm (dueL F []) tf) : ∀ y : Str, y = "" ∨ y ∈ nm → ∀ z ∈ F y, z ∈ nm := fun y hy z hz => by
  have e := v.el y hy
  unfold dueL at e
  rw [if_neg (by simp)] at e
  rw [← e] at hz
  exact (v.en z).mp (ownl_sub' hz)
end
end RD
set_option Elab.async false
set_option linter.all false
set_option maxRecDepth 100000
set_option maxHeartbeats 4000000
local macro_rules | `(tactic| walk_at "isT") => `(tactic| refine ⟨_, _, _, _, true, rfl, L2.ClsV.ty _, L2.TyX.base (by first | exact .int _ | exact .str _ | exact .bl _ | exact .non), L2.kit_ty (by decide +kernel), ?_⟩)
local macro_rules | `(tactic| walk_at "isF") => `(tactic| refine ⟨_, _, _, _, false, rfl, L2.ClsV.ty _, L2.TyX.base (by first | exact .int _ | exact .str _ | exact .bl _ | exact .non), L2.kit_ty (by decide +kernel), ?_⟩)
namespace RD
open PySem PySem.Spec PyProof.Rows L2
theorem names_data' {ns : List Str} (h : ∀ x ∈ ns, x = "" ∨ nameOk x = true) : SeqAt.shaped (.list (ns.map PyData.str)) = true ∧ PyData.eqv (.list (ns.map PyData.str)) (.list []) = decide (ns = []) := by
  have l : ∀ {ns : List Str}, (∀ x ∈ ns, x = "" ∨ nameOk x = true) → PyData.canLayAll0 (ns.map PyData.str) = true ∧ PyData.depthAll (ns.map PyData.str) = 0 := by
    intro ns h
    induction ns with
    | nil => exact ⟨rfl, rfl⟩
    | cons x r ih =>
      have i := ih fun y hy => h y (List.mem_cons_of_mem _ hy)
      constructor
      · show ((PyData.str x).canLay0 && PyData.canLayAll0 (r.map PyData.str)) = true
        rw [i.1, Bool.and_true]
        exact (str9 (h x (List.mem_cons_self ..))).1
      · show max (PyData.depth (PyData.str x)) (PyData.depthAll (r.map PyData.str)) = 0
        rw [i.2]
        rfl
  have l := l h
  constructor
  · show (PyData.canLayAll0 (ns.map PyData.str) && decide (PyData.depthAll (ns.map PyData.str) + 1 ≤ 64)) = true
    rw [l.1, l.2]
    rfl
  · cases ns with
    | nil => rfl
    | cons _ _ => rfl
theorem split_last {α : Type} {l : List α} (h : l ≠ []) : ∃ l0 x, l = l0 ++ [x] := ⟨l.dropLast, l.getLast h, (List.dropLast_concat_getLast h).symm⟩
section
variable {P : Program} {w : World} {K : PySem.W.Frag} {mg : Str → Option Value} {base : Heap}
theorem cal_l_by_leaving (T : Txt K mg) : Cal P w K mg base 22 "_law_by_leaving" (sp_l_by "_law_by_leaving") [] := by
  refine T.d_l_by_leaving.cal sc_l_by_leaving (fun vs H Q E h => ?_) (fun f cdv A outer s H vs Q E hr h => ?_) (fun _ _ _ _ _ _ us hl => match us, hl with | [_, _, _], _ => rfl)
  · obtain ⟨st, v, u, t, f, N, rfl, _⟩ := h; rfl
  obtain ⟨st, v, u, t, fr, N, rfl, ht, hf, ok, okf, ew, ed, pm, S, hN, k⟩ := h
  have hu := hu_of hr
  have C_l_digit := cal_l_digit (P := P) (w := w) (base := base) T
  have C_left := cal_left (P := P) (w := w) (base := base) T
  have C_joined := cal_joined (P := P) (w := w) (base := base) T
  have C_l_own := cal_l_own (P := P) (w := w) (base := base) T
  refine ⟨_, (pss_cons (ps_par (i := 3) (j := 4) (by rfl) sc_l_by_leaving.nd rfl rfl (by decide) rfl rfl (pa_cons (pv 1) (pa_cons (pe_lc (own := [("_law_name", 8), ("_law_caller_here", 7), ("_law_talk", 9)]) (tt := tYes) rfl sc_l_by_leaving.nd (pi_tup (pe_ix ix_tup (pv 1) pe_int (fun _ _ => rfl))) (blkOk_by (N := N_l_by_leaving) (sc := defScope s_l_by_leaving) (by decide +kernel)) (fun _ _ _ _ _ => (pg_tupK (K := K) (n := 3) rfl (by rfl) (pgs_cons (pg_name (i := 8) sc_l_by_leaving.nd rfl (Or.inl rfl)) (pgs_cons (pg_name (i := 7) sc_l_by_leaving.nd rfl (Or.inl rfl)) (pgs_cons (pg_name (i := 9) sc_l_by_leaving.nd rfl (Or.inl rfl)) pgs_nil))))) (fun _ _ _ _ _ => pts_nil) (fun _ _ _ _ _ => (pv 8))) pa_nil)) (by rfl))
   (pss_cons (ps_while PassesOwn.never (pt_cmpR (op_neD hr.units) (pv 4) (pe_lst pa_nil) (nomark _)) (pss_one (ps_set (i := 3) sc_l_by_leaving.nd rfl (Or.inl rfl) (pe_cl C_left hr (by omega) (by rfl) (pa_cons (pv 3) (pa_cons (pe_bm PySem.F.plainAttrs_list PySem.F.slot_list_pop PySem.F.type_list_pop mt_popAt (pv 4) (pa_cons (pe_cl C_l_digit hr (by omega) (by rfl) (pa_cons (pv 0) (pa_cons (pe_callB call_len_seq (by rfl) T.b_len (by decide +kernel) (pa_cons (pv 4) pa_nil)) pa_nil))) pa_nil)) pa_nil))))))
   (pss_cons (ps_if (pt_cmpR (op_neD hr.units) (pv 3) (pe_tup (pa_cons (pe_ix ix_tup (pv 1) pe_int (fun _ _ => rfl)) (pa_cons (pe_ix ix_tup (pv 1) pe_int (fun _ _ => rfl)) (pa_cons (pe_tup pa_nil) pa_nil)))) (nomark _)) (pss_one (ps_ret pe_non)) pss_nil)
   (pss_cons (ps_par (i := 5) (j := 6) (by rfl) sc_l_by_leaving.nd rfl rfl (by decide) rfl rfl (pa_cons (pe_cl C_l_own hr (by omega) (by rfl) (pa_cons (pv 2) pa_nil)) (pa_cons (pe_lst (pa_cons pe_str pa_nil)) pa_nil)) (by rfl))
   (pss_cons (ps_while PassesOwn.never (pt_cmpR (op_neD hr.units) (pv 6) (pe_lst pa_nil) (nomark _)) (pss_cons (ps_set (i := 7) sc_l_by_leaving.nd rfl (Or.inl rfl) (pe_bm0 PySem.F.plainAttrs_list PySem.F.slot_list_pop PySem.F.type_list_pop mt_pop (pv 6))) (pss_one (ps_for PassesOwn.never rfl (pi_list (pe_revL (pe_dget hu (pe_dget hu (pv 5) pe_str (fun _ _ => rfl)) (pv 7) (fun _ _ => rfl)))) (pg_name (i := 8) sc_l_by_leaving.nd rfl (Or.inl rfl)) (pss_cons (ps_set (i := 3) sc_l_by_leaving.nd rfl (Or.inl rfl) (pe_cl C_joined hr (by omega) (by rfl) (pa_cons (pv 3) (pa_cons (pv 8) (pa_cons (pv 7) (pa_cons (pe_dget hu (pe_dget hu (pv 5) pe_str (fun _ _ => rfl)) (pv 8) (fun _ _ => rfl)) (pa_cons pe_int pa_nil))))))) (pss_one (ps_expr (pe_bm PySem.F.plainAttrs_list PySem.F.slot_list_append PySem.F.type_list_append mt_append (pv 6) (pa_cons (pv 8) pa_nil)))))))))
   (pss_one (ps_ret (pv 3)))))))), ?_⟩
  have F := fo_of ok.ppl ok.len
  have l16 := ok.len
  have lnm : (nmz t.ppl).length = t.ppl.length := by unfold nmz; rw [List.length_map]
  obtain ⟨a, b, us, rfl, ha, hb, rp⟩ := id ht
  have lus := Paired.len rp
  refine ⟨_, rfl, _, rfl, _, _, _, _, rfl, rfl, SqT.of ha, rfl, b, rfl, ⟨_, SqT.of hb⟩, fun D hD => ?_⟩
  refine lc_rel (σ := L2.start N_l_by_leaving [.ref st, .ref a, u]) (xs := us) t.ppl (fun p => some p.1) PAt (fun _ v n => v = .str n) walk_tup (fun H' q => SqT.of (q _ _ hb)) hD (small1000 (by omega)) rp (fun q h => PAt.tk (Same.tk q) h) (fun _ h => h) ?_ ?_
  · rintro _ p H' Qk Qn _ _ ⟨c, rfl, hc⟩ hk _
    refine ⟨_, _, rfl, SqT.of hc, rfl, _, _, rfl, _, _, rfl, _, _, rfl, rfl, rfl, ?_⟩
    exact ⟨_, rfl, hk _ _ _ rfl (Same.refl _) rfl⟩
  · intro H2 ys s2 hy2 r
    have ey := Paired.toMap r
    rw [fm_some] at ey
    have ey : ys = (nmz t.ppl).map V.str := ey
    subst ey
    refine ⟨_, _, rfl, ?_⟩
    have S2 := S.same s2
    have hst : st ≠ D := fun z => S.some (by rw [z]; exact hD)
    have ht2 := TAt.tk (Same.tk s2) ht
    refine while_n (fun n σ G => ∃ (a5 a6 a7 a8 a9 : Option V) (x : V) (t' : Tr) (ns : List Str), σ = [some (.ref st), some (.ref a), some u, some x, some (.ref D), a5, a6, a7, a8, a9] ∧ n = ns.length ∧ G D = some (.lst (ns.map V.str)) ∧ TAt G x t' ∧ TrOk t' ∧ t'.wait = t.wait ∧ t'.deep = t.deep ∧ (∀ z, z ∈ nmz t'.ppl ↔ z ∈ ns) ∧
        ns.Nodup ∧ (∀ z ∈ ns, z ∈ nmz t.ppl) ∧ Kb st H G ∧ StAt G st (N + 4 * ((nmz t.ppl).length - ns.length)))
      _ ⟨none, none, none, none, none, .ref a, t, nmz t.ppl, rfl, rfl, hy2, ht2, ok, rfl, rfl, fun z => Iff.rfl, F.nd, fun z h => h, Same.kb s2, S2.mono (by omega)⟩ ?_ ?_
    · rintro n σ G ⟨a5, a6, a7, a8, a9, x, t', ns, rfl, rfl, gD, hx, ok', ew', ed', hns, ndn, sub, kb, SG⟩
      have lns : ns.length ≤ (nmz t.ppl).length := nodup_sub_len ndn sub
      obtain ⟨sh, ev⟩ := names_data (ns := ns) fun z hz => (name_facts ok.ppl F (sub z hz)).1
      refine ⟨_, rfl, Nat.zero_le _, fun p0 hp0 => ?_⟩
      have m0 := Same.upd hp0 (o := .lst [])
      refine ⟨_, _, .lst (SqL.of (m0 _ _ gD)) (dpAll_names ns), .lst (SqL.of upd_same) .nil, sh, by decide, _, rfl, ?_⟩
      rw [ev]
      have gD' := m0 _ _ gD
      have hx' := TAt.tk (Same.tk m0) hx
      have kb' := kb.trans (Same.kb m0)
      have SG' := SG.same m0
      generalize upd G p0 (.lst []) = G0 at gD' hx' kb' SG' ⊢
      by_cases e0 : ns = []
      · rw [decide_eq_true e0]
        refine iteF ?_
        subst e0
        have ep : t'.ppl = [] := by
          cases hp : t'.ppl with
          | nil => rfl
          | cons q qs => cases (hns q.1).mp (by rw [hp]; exact List.mem_cons_self ..)
        have tk0 : TK H G0 := S.kb kb'
        obtain ⟨l1, l2⟩ := tr_lay ok'
        have etr : trD t' = .tuple [.int t.wait, .int t.deep, .tuple []] := by
          show PyData.tuple [.int t'.wait, .int t'.deep, .tuple (t'.ppl.map prD)] = _
          rw [ep, ew', ed']
          rfl
        refine ⟨_, rfl, _, rfl, _, _, _, _, rfl, rfl, SqT.of (tk0 _ _ ha), rfl, _, rfl, _, _, _, _, rfl, rfl, SqT.of (tk0 _ _ ha), rfl, Nat.zero_le _, fun q hq => ⟨by show 3 ≤ sizeLine; decide, fun q2 hq2 => ?_⟩⟩
        have w1 := Same.upd hq (o := .tup [])
        have w2 := w1.trans (Same.upd hq2 (o := .tup [V.int t.wait, V.int t.deep, V.ref q]))
        refine ⟨trD t', trD t', (dp_tree (TAt.tk (Same.tk w2) hx')).2, ?_, l1, l1, _, rfl, ?_⟩
        · rw [etr]
          exact .tup (SqT.of upd_same) (.cons (.int _) (.cons (.int _) (.cons (.tup (SqT.of (Eq.trans (upd_ne (ne_of_none upd_same hq2)) upd_same)) .nil) .nil)))
        rw [l2]
        refine iteF ?_
        have hx2 := TAt.tk (Same.tk w2) hx'
        have kb2 := kb'.trans (Same.kb w2)
        have SG2 := SG'.same w2
        generalize upd (upd G0 q (.tup [])) q2 (.tup [V.int t.wait, V.int t.deep, V.ref q]) = G2 at hx2 kb2 SG2 ⊢
        have hf3 : TAt G2 u fr := TAt.tk (S.kb kb2) hf
        have FF := fo_of okf.ppl okf.len
        obtain ⟨pf1, pf2⟩ := pj_facts ok okf pm
        refine ⟨_, rfl, u, fr, st, rfl, hf3, okf.ppl, okf.len, SG2.some, fun G3 o OW s3 => ⟨by show 1 ≤ sizeLine; decide, fun lc hlc => ⟨_, _, rfl, ?_⟩⟩⟩
        obtain ⟨kvs, dl, dt, ad, X⟩ := OW
        have SG3 := SG2.same s3
        have un : ∀ a b x, x ∈ ownl fr.ppl a → x ∈ ownl fr.ppl b → a = b := fun a b x h1 h2 => ownl_un FF.nd h1 h2
        have lF : (nmz fr.ppl).length ≤ 16 := FF.l16
        refine while_n (fun n σ G => ∃ (a7 a8 a9 : Option V) (x : V) (t' : Tr) (cs J : List Str), σ = [some (.ref st), some (.ref a), some u, some x, some (.ref D), some (.ref o), some (.ref lc), a7, a8, a9] ∧ n = ((nmz fr.ppl).length - J.length) + cs.length ∧ Same G3 G ∧ G lc = some (.lst (cs.map V.str)) ∧ TAt G x t' ∧
            View t' t.wait t.deep J (dueL (ownl fr.ppl) cs) (talkF fr.ppl) ∧ InWalk t' ∧ cs.Nodup ∧ (∀ y ∈ cs, y = "" ∨ y ∈ J) ∧ J.Nodup ∧ (∀ z ∈ J, z ∈ nmz fr.ppl))
          _ ⟨a7, a8, a9, x, t', [""], [], rfl, rfl, Same.upd hlc, upd_same, TAt.tk (Same.tk (s3.trans (Same.upd hlc))) hx2, ⟨ok', ew', ed', hns, fun c hc => ?_, fun y hy => by cases hy⟩, inwalk_nil ep, by simp, fun y hy => .inl (List.mem_singleton.mp hy), List.nodup_nil, fun z hz => by cases hz⟩ ?_ ?_
        · have e : c = "" := hc.resolve_right fun z => by cases z
          rw [ep, e]
          unfold dueL
          rw [if_pos (List.mem_singleton.mpr rfl)]
          rfl
        · clear a5 a6 a7 a8 a9 hx' hx2 hx
          rintro n σ G ⟨a7, a8, a9, x, t', cs, J, rfl, rfl, s4, gc, hx4, vw, iw, ndc, hcs, ndj, jsub⟩
          have Fok := fo_of vw.ok.ppl vw.ok.len
          have lJ : J.length ≤ (nmz fr.ppl).length := nodup_sub_len ndj jsub
          obtain ⟨sh, ev⟩ := names_data' (ns := cs) fun z hz => (hcs z hz).imp id fun q => (name_facts okf.ppl FF (jsub z q)).1
          refine ⟨_, rfl, Nat.zero_le _, fun p0 hp0 => ?_⟩
          have m0 := Same.upd hp0 (o := .lst [])
          refine ⟨_, _, .lst (SqL.of (m0 _ _ gc)) (dpAll_names cs), .lst (SqL.of upd_same) .nil, sh, by decide, _, rfl, ?_⟩
          rw [ev]
          have gc' := m0 _ _ gc
          have hx5 := TAt.tk (Same.tk m0) hx4
          have s5 := s4.trans m0
          generalize upd G p0 (.lst []) = G5 at gc' hx5 s5 ⊢
          by_cases e0 : cs = []
          · rw [decide_eq_true e0]
            refine iteF ?_
            subst e0
            have cl := due_end vw
            obtain ⟨vwF, iwF⟩ := walk_view okf
            have allJ : ∀ z ∈ nmz fr.ppl, z ∈ J := fun z hz => below_in cl (.inl rfl) z (FF.pm.mem_iff.mpr hz)
            have jj : ∀ z, z ∈ J ↔ z ∈ nmz fr.ppl := fun z => ⟨jsub z, allJ z⟩
            have v1 : View t' t.wait t.deep (nmz fr.ppl) (ownl fr.ppl) (talkF fr.ppl) := vw.imp jj (fun c _ => by
              unfold dueL
              rw [if_neg (by simp)]) fun _ _ => rfl
            have v2 : View ⟨fr.wait, fr.deep, walkP fr.ppl⟩ t.wait t.deep (nmz fr.ppl) (ownl fr.ppl) (talkF fr.ppl) := ⟨vwF.ok, ew.symm, ed.symm, vwF.en, vwF.el, vwF.et⟩
            have et := View.same v1 v2 iw iwF
            rw [et, ← ew, ← ed] at hx5
            exact ⟨_, rfl, k G5 x hx5 (kb2.trans (Same.kb (s3.trans s5))) ((SG3.same s5).mono (by omega))⟩
          · rw [decide_eq_false e0]
            refine iteT ?_
            obtain ⟨cs0, c, ecs⟩ := split_last e0
            subst ecs
            have ckey : c = "" ∨ c ∈ J := hcs c (by simp)
            have ck : c ∈ ("" : Str) :: nmz fr.ppl := List.mem_cons.mpr (ckey.imp id (jsub c))
            have nd2 := List.nodup_append.mp ndc
            have cn0 : c ∉ cs0 := fun z => nd2.2.2 c z c (List.mem_singleton.mpr rfl) rfl
            have cself : c ∉ ownl fr.ppl c := fun z => by
              obtain ⟨c', k1, k2, k3⟩ := FF.sd.ex c (ownl_sub' z)
              exact k3 (un c' c c k2 z)
            refine ⟨_, rfl, .inl ⟨rfl, _, SqL.of gc'⟩, lc, _, .str c, rfl, rfl, gc', by simp, ?_⟩
            have edl : ((cs0 ++ [c]).map V.str).dropLast = cs0.map V.str := by simp
            rw [edl]
            have s6 : Same G3 (upd G5 lc (.lst (cs0.map V.str))) := fun b w hb => by
              rw [upd_ne (ne_of_none hb hlc)]
              exact s5 _ _ hb
            have kt : TK G5 (upd G5 lc (.lst (cs0.map V.str))) := fun z zs hz => by
              rw [upd_ne (ne_of hz gc' (by intro q; cases q))]
              exact hz
            have hx6 := TAt.tk kt hx5
            have gc6 : (upd G5 lc (.lst (cs0.map V.str))) lc = some (.lst (cs0.map V.str)) := upd_same
            generalize upd G5 lc (.lst (cs0.map V.str)) = G6 at s6 hx6 gc6 ⊢
            have X6 := X.same s6
            refine ⟨_, rfl, _, _, rfl, dgetS X6.ho X6.el, _, rfl, _, _, rfl, dgetM X6.hl ck, _, _, rfl, SqL.of (X6.hx c ck), fun pr hpr => ?_⟩
            have m7 := Same.upd hpr (o := .lst (((ownl fr.ppl c).map V.str).reverse))
            have erev : ((ownl fr.ppl c).map V.str).reverse = (ownl fr.ppl c).reverse.map V.str := by rw [List.map_reverse]
            rw [erev] at m7 ⊢
            have npl : pr ≠ lc := fun z => by
              rw [z, gc6] at hpr
              cases hpr
            refine ⟨pr, rfl, ⟨_, SqL.of upd_same⟩, ?_⟩
            have e7 : (upd G6 pr (.lst ((ownl fr.ppl c).reverse.map V.str))) pr = some (.lst ((ownl fr.ppl c).reverse.map V.str)) := upd_same
            have hx7 := TAt.tk (Same.tk m7) hx6
            have gc7 := m7 _ _ gc6
            have s7 := s6.trans m7
            generalize upd G6 pr (.lst ((ownl fr.ppl c).reverse.map V.str)) = G7 at e7 hx7 gc7 s7 ⊢
            have hpr3 : G3 pr = none := s6.free hpr
            have ndL : (ownl fr.ppl c).reverse.Nodup := (List.reverse_perm _).nodup_iff.mpr (FF.sd.one c ck)
            have newJ : ∀ z ∈ ownl fr.ppl c, z ∉ J := fun z hz => due_new vw (by simp) un hz
            rw [due_mid] at vw
            have lrev : ((ownl fr.ppl c).reverse.map V.str).length = (ownl fr.ppl c).length := by rw [List.length_map, List.length_reverse]
            generalize eL : (ownl fr.ppl c).reverse = L at e7 ndL lrev
            have Lm : ∀ z, z ∈ L ↔ z ∈ ownl fr.ppl c := fun z => by rw [← eL, List.mem_reverse]
            refine for_it walk_list (fun i σ G => ∃ (a8 a9 : Option V) (x : V) (t' : Tr), σ = [some (.ref st), some (.ref a), some u, some x, some (.ref D), some (.ref o), some (.ref lc), some (.str c), a8, a9] ∧ Same G3 G ∧ G pr = some (.lst (L.map V.str)) ∧ G lc = some (.lst ((cs0 ++ L.take i).map V.str)) ∧ TAt G x t' ∧
                View t' t.wait t.deep (J ++ L.take i) (midL (ownl fr.ppl) cs0 c (L.take i)) (talkF fr.ppl) ∧ InWalk t')
              ⟨a8, a9, x, t', rfl, s7, e7, by rw [List.take_zero, List.append_nil]; exact gc7, hx7, by rw [List.take_zero, List.append_nil]; exact vw, iw⟩ (fun i σ G _ ⟨_, _, _, _, _, _, q, _⟩ => SqL.of q) ?_ ?_
            · rintro i y σ G G8 hi ⟨a8, a9, x, t', rfl, s8, g8, gc8, hx8, vw8, iw8⟩ ⟨rfl, hyi⟩
              rw [List.getElem?_map] at hyi
              cases ei : L[i]? with
              | none =>
                rw [ei] at hyi
                cases hyi
              | some z =>
              rw [ei] at hyi
              cases hyi
              have et : L.take (i + 1) = L.take i ++ [z] := by
                rw [List.take_succ, ei]
                rfl
              have zL : z ∈ L := List.mem_of_getElem? ei
              have zF := (Lm z).mp zL
              have zn : z ∈ nmz fr.ppl := ownl_sub' zF
              obtain ⟨zo, z1, z2⟩ := name_facts okf.ppl FF zn
              have zt : z ∉ L.take i := by
                have e : (L.take (i + 1)).Nodup := List.Sublist.nodup (List.take_sublist _ _) ndL
                rw [et] at e
                exact fun q => (List.nodup_append.mp e).2.2 z q z (List.mem_singleton.mpr rfl) rfl
              have znj : z ∉ J ++ L.take i := fun q => (List.mem_append.mp q).elim (newJ z zF) zt
              have sub8 : ∀ q ∈ J ++ L.take i, q ∈ nmz fr.ppl := fun q hq => (List.mem_append.mp hq).elim (jsub q) fun h => ownl_sub' ((Lm q).mp (List.mem_of_mem_take h))
              have few : (nmz t'.ppl).length < 16 := by
                have n1 : (z :: nmz t'.ppl).Nodup := List.nodup_cons.mpr ⟨fun q => znj ((vw8.en z).mp q), vw8.ok.ppl.nodup⟩
                have n2 := nodup_sub_len (m := nmz fr.ppl) n1 fun q hq => by
                  rcases List.mem_cons.mp hq with e | e
                  · rw [e]
                    exact zn
                  · exact sub8 q ((vw8.en q).mp e)
                rw [List.length_cons] at n2
                omega
              have zc : z ≠ c := fun e => cself (by rw [e] at zF; exact zF)
              obtain ⟨pok, vw9, iw9⟩ := join_next vw8 zo znj (ckey.imp id fun q => List.mem_append_left _ q) few z1 z2 zc
              have X8 := X.same s8
              refine ⟨_, rfl, _, rfl, _, rfl, _, rfl, _, _, rfl, dgetS X8.ho X8.et, _, rfl, _, _, rfl, dgetM X8.ht zn, x, t', z, c, talkF fr.ppl z, some 0, rfl, hx8, Fo.good vw8.ok, pok, fun G9 x9 s9 h9 => ?_⟩
              have gc9 := s9 _ _ gc8
              have ltk : (L.take i).length ≤ 16 := Nat.le_trans (List.length_take_le _ _) (by
                rw [List.length_map] at hi
                have := FF.sd.len ck
                rw [List.length_map] at lrev
                omega)
              have lcs0 : cs0.length ≤ 17 := by
                have q := nodup_sub_len (m := ("" : Str) :: nmz fr.ppl) nd2.1 fun y hy => List.mem_cons.mpr ((hcs y (by simp [hy])).imp id (jsub y))
                rw [List.length_cons] at q
                omega
              refine ⟨_, rfl, .inl ⟨rfl, _, SqL.of gc9⟩, _, rfl, lc, _, _, rfl, rfl, gc9, small1000 (by rw [List.length_map, List.length_append]; omega), ?_⟩
              have kt9 : TK G9 (upd G9 lc (.lst ((cs0 ++ L.take i).map V.str ++ [V.str z]))) := fun q zs hz => by
                rw [upd_ne (ne_of hz gc9 (by intro q; cases q))]
                exact hz
              refine ⟨_, _, x9, _, rfl, fun b w hb => ?_, ?_, ?_, TAt.tk kt9 h9, ?_, iw9⟩
              · rw [upd_ne (ne_of_none hb hlc)]
                exact s9 _ _ (s8 _ _ hb)
              · rw [upd_ne npl]
                exact s9 _ _ g8
              · rw [upd_same, et, ← List.append_assoc, List.map_append (l₁ := cs0 ++ L.take i)]
                rfl
              · rw [et, ← List.append_assoc]
                exact vw9
            · rintro σ G ⟨a8, a9, x, t', rfl, s8, g8, gc8, hx8, vw8, iw8⟩
              rw [List.length_map, List.take_length] at vw8 gc8
              have eF : midL (ownl fr.ppl) cs0 c L = dueL (ownl fr.ppl) (cs0 ++ L) := by
                rw [← eL]
                exact mid_due cn0 cself
              rw [eF] at vw8
              have ndJL : (J ++ L).Nodup := List.nodup_append.mpr ⟨ndj, ndL, fun a ha b hb e => newJ b ((Lm b).mp hb) (e ▸ ha)⟩
              have subJL : ∀ q ∈ J ++ L, q ∈ nmz fr.ppl := fun q hq => (List.mem_append.mp hq).elim (jsub q) fun h => ownl_sub' ((Lm q).mp h)
              have lJL := nodup_sub_len ndJL subJL
              rw [List.length_append] at lJL
              refine ⟨((nmz fr.ppl).length - (J ++ L).length) + (cs0 ++ L).length, ?_, _, _, _, x, t', cs0 ++ L, J ++ L, rfl, rfl, s8, gc8, hx8, vw8, iw8, List.nodup_append.mpr ⟨nd2.1, ndL, fun p hp q hq e => ?_⟩, fun y hy => ?_, ndJL, subJL⟩
              · rw [List.length_append, List.length_append, List.length_append, List.length_singleton]
                omega
              · have qF := (Lm q).mp hq
                rw [e] at hp
                rcases hcs q (by simp [hp]) with h | h
                · exact FF.sd.nx (h ▸ ownl_sub' qF)
                · exact newJ q qF h
              · rcases List.mem_append.mp hy with h | h
                · exact (hcs y (by simp [h])).imp id fun q => List.mem_append_left _ q
                · exact .inr (List.mem_append_right _ h)
        · exact fun σ H Q Q' hq ⟨x, e, h1, h2⟩ => ⟨x, e, h1, fun p hp => let ⟨d, e', a1, a2, a3, a4, b, eb, h⟩ := h2 p hp; ⟨d, e', a1, a2, a3, a4, b, eb, hq _ _ h⟩⟩
      · rw [decide_eq_false e0]
        refine iteT ?_
        have hpos : 1 ≤ ns.length := by
          cases ns with
          | nil => exact absurd rfl e0
          | cons _ _ => exact Nat.succ_le_succ (Nat.zero_le _)
        have lm : (ns.map V.str).length = ns.length := List.length_map _
        refine ⟨_, rfl, _, rfl, .inl ⟨rfl, _, SqL.of gD'⟩, _, rfl, _, rfl, D, _, rfl, .inl (SqL.of gD'), st, _, _, rfl, by omega, by omega, SG', by omega, fun G4 d d0 d1 k4 S4 => ?_⟩
        have g4 := k4 _ _ hst.symm gD'
        obtain ⟨i, y, b1, b2, b3, b4⟩ := pop_at (xs := ns.map V.str) d0 d1
        rw [List.getElem?_map] at b4
        cases ei : ns[i]? with
        | none =>
          rw [ei] at b4
          cases b4
        | some nx =>
        rw [ei] at b4
        have b4 : V.str nx = y := Option.some.inj b4
        have nin : nx ∈ ns := List.mem_of_getElem? ei
        refine ⟨D, ns.map V.str, d, i, y, rfl, rfl, g4, b1, b2 (by omega), b3, by rw [List.getElem?_map, ei, ← b4]; rfl, ?_⟩
        rw [← b4, erase_strs]
        have kt : TK G4 (upd G4 D (.lst ((ns.eraseIdx i).map V.str))) := fun z zs hz => by
          rw [upd_ne (ne_of hz g4 (by intro q; cases q))]
          exact hz
        have hx5 := TAt.tk kt (TAt.tk (SG'.kb k4) hx')
        have g5 : (upd G4 D (.lst ((ns.eraseIdx i).map V.str))) D = some (.lst ((ns.eraseIdx i).map V.str)) := upd_same
        have kb5 : Kb st H (upd G4 D (.lst ((ns.eraseIdx i).map V.str))) := fun z o nz hz => by
          rw [upd_ne (ne_of_none hz hD)]
          exact (kb'.trans k4) z o nz hz
        have S5 : StAt (upd G4 D (.lst ((ns.eraseIdx i).map V.str))) st (N + 4 * ((nmz t.ppl).length - ns.length) + 4) := by
          obtain ⟨kvs, c1, c2, c3, c4, c5⟩ := S4
          exact ⟨kvs, c1, c2, c3, by rw [upd_ne hst]; exact c4, c5⟩
        generalize upd G4 D (.lst ((ns.eraseIdx i).map V.str)) = G5 at hx5 g5 kb5 S5 ⊢
        have nn := (hns nx).mpr nin
        obtain ⟨⟨_, p1, hp1⟩, ok6, ew6, ed6, mem6⟩ := leave_ok ok' nn
        refine ⟨x, t', nx, p1, rfl, hx5, Fo.good ok', nn, hp1, fun G6 x6 s6 h6 => ?_⟩
        have h6 : TAt G6 x6 ((Deed.leave nx).resP t') := by
          show TAt G6 x6 ⟨t'.wait, t'.deep, leftP t'.ppl nx (callF t'.ppl nx)⟩
          unfold callF
          rw [hp1]
          exact h6
        have le := erase_len ei
        have pe := erase_perm ei
        have nde := (pe.nodup_iff.mpr ndn)
        refine ⟨_, by omega, _, _, _, _, _, x6, _, ns.eraseIdx i, rfl, rfl, s6 _ _ g5, h6, ok6, ew6.trans ew', ed6.trans ed', fun z => ?_, (List.nodup_cons.mp nde).2, fun z hz => sub z (List.mem_of_mem_eraseIdx hz), kb5.trans (Same.kb s6), (S5.same s6).mono (by omega)⟩
        rw [mem6, hns, ← pe.mem_iff, List.mem_cons]
        constructor
        · rintro ⟨h | h, q⟩
          · exact absurd h q
          · exact h
        · intro h
          exact ⟨.inr h, fun e => (List.nodup_cons.mp nde).1 (by rw [← e]; exact h)⟩
    · exact fun σ H Q Q' hq ⟨x, e, h1, h2⟩ => ⟨x, e, h1, fun p hp => let ⟨d, e', a1, a2, a3, a4, b, eb, h⟩ := h2 p hp; ⟨d, e', a1, a2, a3, a4, b, eb, hq _ _ h⟩⟩
end
end RD
set_option Elab.async false
set_option linter.all false
set_option maxRecDepth 100000
set_option maxHeartbeats 4000000
local macro_rules | `(tactic| walk_at "isT") => `(tactic| refine ⟨_, _, _, _, true, rfl, L2.ClsV.ty _, L2.TyX.base (by first | exact .int _ | exact .str _ | exact .bl _ | exact .non), L2.kit_ty (by decide +kernel), ?_⟩)
local macro_rules | `(tactic| walk_at "isF") => `(tactic| refine ⟨_, _, _, _, false, rfl, L2.ClsV.ty _, L2.TyX.base (by first | exact .int _ | exact .str _ | exact .bl _ | exact .non), L2.kit_ty (by decide +kernel), ?_⟩)
set_option maxHeartbeats 400000
namespace RD
open PySem PySem.Spec PyProof.Rows L2
/-! ### there and back -/
theorem insAt_mid (A B : List Str) (x : Str) : insAt (A ++ B) x (some A.length) = A ++ x :: B := by
  unfold insAt
  show (A ++ B).take A.length ++ [x] ++ (A ++ B).drop A.length = _
  rw [List.take_left' rfl, List.drop_left' rfl]
  simp
theorem drop_ins {x : Str} {l : List Str} (h : x ∉ l) (pl : Option Nat) : dropL x (insAt l x pl) = l := by
  have e : l.take (pl.getD l.length) ++ l.drop (pl.getD l.length) = l := List.take_append_drop _ _
  unfold insAt
  rw [dropL_app, dropL_app]
  have e1 : dropL x [x] = [] := by unfold dropL; simp
  have t1 : dropL x (l.take (pl.getD l.length)) = l.take (pl.getD l.length) := drop_other fun z => h (List.mem_of_mem_take z)
  have t2 : dropL x (l.drop (pl.getD l.length)) = l.drop (pl.getD l.length) := drop_other fun z => h (List.mem_of_mem_drop z)
  rw [e1, t1, t2, List.append_nil, e]
theorem not_dropL (x : Str) (l : List Str) : x ∉ dropL x l := fun z => (mem_dropL.mp z).2 rfl
theorem flat_drop (x : Str) : ∀ l : List Str, (l.flatMap fun z => if z = x then ([] : List Str) else [z]) = dropL x l
  | [] => rfl
  | y :: r => by
    have ih := flat_drop x r
    unfold dropL at ih ⊢
    rw [List.flatMap_cons, ih, List.filter_cons]
    by_cases e : y = x
    · rw [if_pos e, decide_eq_false (fun z => z e)]
      rfl
    · rw [if_neg e, decide_eq_true e]
      rfl
section
variable {t : Tr} {w d : Int} {nm : List Str} {ls : Str → List Str} {tf : Str → Int}
theorem View.leave (v : View t w d nm ls tf) {x : Str} (hx : x ∈ nm) :
    (Deed.leave x).POk t ∧ View ((Deed.leave x).resP t) w d (nm.filter fun y => decide (y ≠ x)) (fun y => (ls y).flatMap fun z => if z = x then ls x else [z]) tf ∧ InWalk ((Deed.leave x).resP t) := by
  have fit : (Deed.leave x).Fit (("" : Str) :: nmz t.ppl) (nmz t.ppl) (ownl t.ppl) := (v.en x).mpr hx
  obtain ⟨k, iw⟩ := Done.res v.ok fit trivial
  have mem : ∀ y, y ∈ (nmz t.ppl).filter (fun y => decide (y ≠ x)) ↔ y ∈ nm.filter fun y => decide (y ≠ x) := fun y => by
    rw [List.mem_filter, List.mem_filter, v.en]
  refine ⟨(res_of v.ok fit trivial).pok, ⟨k.ok, k.ew.trans v.ew, k.ed.trans v.ed, fun y => (k.en y).trans (mem y), fun y hy => ?_, fun y hy => (k.et y ((mem y).mpr hy)).trans (v.et y (List.mem_filter.mp hy).1)⟩, iw⟩
  refine (k.el y (hy.imp id (mem y).mpr)).trans ?_
  show (ownl t.ppl y).flatMap (fun z => if z = x then ownl t.ppl x else [z]) = _
  rw [v.el y (hy.imp id fun z => (List.mem_filter.mp z).1), v.el x (.inr hx)]
/-- x, whose it is, where it stands -/
structure Spot (t : Tr) (x c : Str) (A B : List Str) : Prop where
  xn : x ∈ nmz t.ppl
  ck : c = "" ∨ c ∈ nmz t.ppl
  eq : ownl t.ppl c = A ++ x :: B
  nA : x ∉ A
  nB : x ∉ B
  off : ∀ y, y ≠ c → x ∉ ownl t.ppl y
  nb : ∀ y, y = x ∨ y ∈ belowN (ownl t.ppl) 16 x → y ≠ c
theorem spot_of {x : Str} (ok : TrOk t) (hx : x ∈ nmz t.ppl) : ∃ c A B, Spot t x c A B := by
  have F := fo_of ok.ppl ok.len
  obtain ⟨p, hp, ep, pm0⟩ := named_some F hx
  have hxl : x ∈ ownl t.ppl p.2.1 := mem_ownl.mpr ⟨p.2.2, by rw [← ep]; exact pm0⟩
  have hc0 := ok.ppl.callers pm0
  have hc0' : p.2.1 = "" ∨ p.2.1 ∈ belowN (ownl t.ppl) 40 "" := hc0.imp id fun z => F.pm.mem_iff.mpr z
  obtain ⟨fx, lx, sx⟩ := F.wf.sub16 F.len (F.pm.mem_iff.mpr hx)
  have off : ∀ y, y ≠ p.2.1 → x ∉ ownl t.ppl y := fun y ny => own_off F hxl ny
  have lb := F.len
  obtain ⟨_, _, _, _, hin⟩ := moveOut (ls := ownl t.ppl) (g := fun y => dropL x (ownl t.ppl y)) (tf := talkF t.ppl) (k := 16) F.wf hc0' hxl (by omega) fx (fun y _ ny => drop_other (off y ny)) rfl
  obtain ⟨A, B, e, a, b⟩ := split_at hxl (F.sd.one _ (List.mem_cons.mpr hc0))
  exact ⟨p.2.1, A, B, hx, hc0, e, a, b, off, fun y hy => (hin y hy).2⟩
/-- moved away, then back -/
theorem away_back {x c c0 : Str} {A B : List Str} {pl : Option Nat} (ok : TrOk t) (S : Spot t x c0 A B) (hc : c = "" ∨ c ∈ nmz t.ppl) (ne : c ≠ x) (nb : c ∉ belowN (ownl t.ppl) 16 x) (hp : ∀ n, pl = some n → n ≤ (dropL x (ownl t.ppl c)).length) :
    (Deed.move x c pl).POk t ∧ TrOk ((Deed.move x c pl).resP t) ∧ belowN (ownl ((Deed.move x c pl).resP t).ppl) 16 x = belowN (ownl t.ppl) 16 x ∧ x ∈ nmz ((Deed.move x c pl).resP t).ppl ∧ (Deed.move x c0 (some A.length)).POk ((Deed.move x c pl).resP t) ∧
      (Deed.move x c0 (some A.length)).resP ((Deed.move x c pl).resP t) = ⟨t.wait, t.deep, walkP t.ppl⟩ := by
  have v := View.self ok
  obtain ⟨p1, v1, w1⟩ := v.move (x := x) (c := c) (pl := pl) S.xn hc ne nb hp
  have dAB : dropL x (ownl t.ppl c0) = A ++ B := by rw [S.eq, drop_at S.nA S.nB]
  have d0 : ∀ y, y ≠ c0 → dropL x (ownl t.ppl y) = ownl t.ppl y := fun y ny => drop_other (S.off y ny)
  have F := fo_of ok.ppl ok.len
  have cx : c ∉ x :: belowN (ownl t.ppl) 16 x := fun z => (List.mem_cons.mp z).elim ne nb
  have inb : ∀ y, y = x ∨ y ∈ belowN (ownl t.ppl) 16 x → y ∈ nmz t.ppl := fun y hy => hy.elim (fun e => by rw [e]; exact S.xn) fun e => v.below S.xn e
  have be : belowN (ownl ((Deed.move x c pl).resP t).ppl) 16 x = belowN (ownl t.ppl) 16 x := below_congr fun y hy => by
    rw [v1.el y (.inr (inb y hy))]
    have yc : y ≠ c := fun e => cx (by rw [← e]; exact List.mem_cons.mpr hy)
    rw [updF_ne yc]
    exact d0 y (S.nb y hy)
  have dd : ∀ y, dropL x (updF (fun y => dropL x (ownl t.ppl y)) c (insAt (dropL x (ownl t.ppl c)) x pl) y) = dropL x (ownl t.ppl y) := fun y => by
    by_cases e : y = c
    · rw [e, updF_same, drop_ins (not_dropL _ _)]
    · rw [updF_ne e]
      exact drop_other (not_dropL _ _)
  have c0x : c0 ≠ x := fun e => S.nb x (.inl rfl) e.symm
  obtain ⟨p2, v2, w2⟩ := v1.move (x := x) (c := c0) (pl := some A.length) S.xn S.ck c0x (by
    rw [be]
    exact fun z => S.nb c0 (.inr z) rfl) (fun n e => by
    cases e
    rw [dd, dAB, List.length_append]
    omega)
  obtain ⟨vW, iW⟩ := walk_view ok
  refine ⟨p1, v1.ok, be, (v1.en x).mpr S.xn, p2, View.same (v2.imp (fun _ => Iff.rfl) (fun y hy => ?_) fun _ _ => rfl) vW w2 iW⟩
  by_cases e : y = c0
  · rw [e, updF_same, dd, dAB, insAt_mid, S.eq]
  · rw [updF_ne e, dd, d0 y e]
/-- moved to where it stands, of a tree as it is walked -/
theorem still_move {x c0 : Str} {A B : List Str} (ok : TrOk t) (S : Spot t x c0 A B) :
    belowN (ownl (walkP t.ppl)) 16 x = belowN (ownl t.ppl) 16 x ∧ x ∈ nmz (walkP t.ppl) ∧ (Deed.move x c0 (some A.length)).POk ⟨t.wait, t.deep, walkP t.ppl⟩ ∧ (Deed.move x c0 (some A.length)).resP ⟨t.wait, t.deep, walkP t.ppl⟩ = ⟨t.wait, t.deep, walkP t.ppl⟩ := by
  have v := View.self ok
  obtain ⟨vW, iW⟩ := walk_view ok
  have dAB : dropL x (ownl t.ppl c0) = A ++ B := by rw [S.eq, drop_at S.nA S.nB]
  have inb : ∀ y, y = x ∨ y ∈ belowN (ownl t.ppl) 16 x → y ∈ nmz t.ppl := fun y hy => hy.elim (fun e => by rw [e]; exact S.xn) fun e => v.below S.xn e
  have be : belowN (ownl (walkP t.ppl)) 16 x = belowN (ownl t.ppl) 16 x := below_congr fun y hy => vW.el y (.inr (inb y hy))
  have c0x : c0 ≠ x := fun e => S.nb x (.inl rfl) e.symm
  obtain ⟨p2, v2, w2⟩ := vW.move (x := x) (c := c0) (pl := some A.length) S.xn S.ck c0x (by
    show c0 ∉ belowN (ownl (walkP t.ppl)) 16 x
    rw [be]
    exact fun z => S.nb c0 (.inr z) rfl) (fun n e => by
    cases e
    rw [dAB, List.length_append]
    omega)
  refine ⟨be, (vW.en x).mpr S.xn, p2, View.same (v2.imp (fun _ => Iff.rfl) (fun y hy => ?_) fun _ _ => rfl) vW w2 iW⟩
  by_cases e : y = c0
  · rw [e, updF_same, dAB, insAt_mid, S.eq]
  · rw [updF_ne e]
    exact drop_other (S.off y e)
/-- one joins, then leaves -/
theorem join_leave {x c : Str} {i : Int} {pl : Option Nat} (ok : TrOk t) (xo : nameOk x = true) (hx : x ∉ nmz t.ppl) (hc : c = "" ∨ c ∈ nmz t.ppl) (few : (nmz t.ppl).length < 16) (i1 : 1 ≤ i) (i2 : i ≤ 60) (hp : ∀ n, pl = some n → n ≤ (ownl t.ppl c).length) :
    (Deed.join x c i pl).POk t ∧ TrOk ((Deed.join x c i pl).resP t) ∧ ((Deed.join x c i pl).resP t).ppl.length = t.ppl.length + 1 ∧ (Deed.leave x).POk ((Deed.join x c i pl).resP t) ∧ (Deed.leave x).resP ((Deed.join x c i pl).resP t) = ⟨t.wait, t.deep, walkP t.ppl⟩ := by
  have v := View.self ok
  obtain ⟨p1, v1, w1⟩ := v.join xo hx hc few i1 i2 hp
  obtain ⟨p2, v2, w2⟩ := v1.leave (x := x) (List.mem_append_right _ (List.mem_singleton.mpr rfl))
  obtain ⟨vW, iW⟩ := walk_view ok
  have xc : x ≠ c := fun e => hc.elim (fun z => nameOk_ne xo (e.trans z)) fun z => hx (by rw [e]; exact z)
  have gx : updF (updF (ownl t.ppl) x []) c (insAt (ownl t.ppl c) x pl) x = [] := by rw [updF_ne xc, updF_same]
  have nx : ∀ y, x ∉ ownl t.ppl y := fun y z => hx (ownl_sub' z)
  have len : ((Deed.join x c i pl).resP t).ppl.length = t.ppl.length + 1 := by
    have nd : (nmz t.ppl ++ [x]).Nodup := List.nodup_append.mpr ⟨ok.ppl.nodup, by simp, fun a ha b hb e => hx (by rw [← List.mem_singleton.mp hb, ← e]; exact ha)⟩
    have q := ((List.perm_ext_iff_of_nodup v1.ok.ppl.nodup nd).mpr v1.en).length_eq
    rw [List.length_append, List.length_singleton] at q
    unfold nmz at q
    rw [List.length_map, List.length_map] at q
    exact q
  refine ⟨p1, v1.ok, len, p2, View.same (v2.imp (fun y => ?_) (fun y hy => ?_) fun y hy => ?_) vW w2 iW⟩
  · rw [List.mem_filter, List.mem_append, List.mem_singleton]
    constructor
    · rintro ⟨h | h, k⟩
      · exact h
      · exact absurd h (of_decide_eq_true k)
    · exact fun h => ⟨.inl h, decide_eq_true fun e => hx (by rw [← e]; exact h)⟩
  · rw [gx, flat_drop]
    by_cases e : y = c
    · rw [e, updF_same, drop_ins (nx c)]
    · rw [updF_ne e]
      by_cases e2 : y = x
      · rw [e2, updF_same]
        have h : ownl t.ppl x = [] := by
          refine ownl_no fun q hq z => ?_
          rcases ok.ppl.callers hq with h | h
          · exact nameOk_ne xo (z ▸ h)
          · exact hx (z ▸ h)
        rw [h]
        rfl
      · rw [updF_ne e2]
        exact drop_other (nx y)
  · exact updF_ne fun e => hx (by rw [← e]; exact hy)
end
end RD
set_option Elab.async false
set_option linter.all false
set_option maxRecDepth 100000
set_option maxHeartbeats 4000000
local macro_rules | `(tactic| walk_at "isT") => `(tactic| refine ⟨_, _, _, _, true, rfl, L2.ClsV.ty _, L2.TyX.base (by first | exact .int _ | exact .str _ | exact .bl _ | exact .non), L2.kit_ty (by decide +kernel), ?_⟩)
local macro_rules | `(tactic| walk_at "isF") => `(tactic| refine ⟨_, _, _, _, false, rfl, L2.ClsV.ty _, L2.TyX.base (by first | exact .int _ | exact .str _ | exact .bl _ | exact .non), L2.kit_ty (by decide +kernel), ?_⟩)
set_option maxHeartbeats 0
namespace RD
open PySem PySem.Spec PyProof.Rows L2
theorem names_tup {ns : List Str} (h : ∀ x ∈ ns, nameOk x = true) : SeqAt.shaped (.tuple (ns.map PyData.str)) = true ∧ PyData.eqv (.tuple (ns.map PyData.str)) (.tuple (ns.map PyData.str)) = true := by
  have l := lay_names h
  have c0 : PyData.canLay0 (.tuple (ns.map PyData.str)) = true := l.1
  refine ⟨?_, SeqAt.eqv_refl _ c0⟩
  show (PyData.canLayAll0 (ns.map PyData.str) && decide (PyData.depthAll (ns.map PyData.str) + 1 ≤ 64)) = true
  rw [l.1, l.2]
  rfl
theorem move_h {H : Hp} {u : V} {t : Tr} {x c : Str} {p : Pr} {pl : Option Nat} (m : MoveOk t x c p pl) (h : TAt H u ⟨t.wait, t.deep, moveP t.ppl x c p.2.2 pl⟩) : TAt H u ((Deed.move x c pl).resP t) := by
  show TAt H u ⟨t.wait, t.deep, moveP t.ppl x c (talkF t.ppl x) pl⟩
  unfold talkF
  rw [m.at_]
  exact h
section
variable {P : Program} {w : World} {K : PySem.W.Frag} {mg : Str → Option Value} {base : Heap}
def sp_l_back_right : Sp := fun vs H Q _ => ∃ (st : Addr) (v : V) (t : Tr) (N : Nat), vs = [.ref st, v] ∧ TAt H v t ∧ TrOk t ∧ StAt H st N ∧ N ≤ 100000000 ∧ ∀ H', Kb st H H' → StAt H' st (N + 100) → Q (.bl true) H'
theorem cal_l_back_right (T : Txt K mg) : Cal P w K mg base 22 "_law_back_right" sp_l_back_right [] := by
  refine T.d_l_back_right.cal sc_l_back_right (fun vs H Q E h => ?_) (fun f cdv A outer s H vs Q E hr h => ?_) (fun _ _ _ _ _ _ us hl => match us, hl with | [_, _], _ => rfl)
  · obtain ⟨st, v, t, N, rfl, _⟩ := h; rfl
  obtain ⟨st, v, t, N, rfl, ht, ok, S, hN, k⟩ := h
  have hu := hu_of hr
  have C_l_own := cal_l_own (P := P) (w := w) (base := base) T
  have C_in_walk := cal_in_walk (P := P) (w := w) (base := base) T
  have C_l_pick := cal_l_pick (P := P) (w := w) (base := base) T
  have C_l_caller := cal_l_caller (P := P) (w := w) (base := base) T
  have C_below := cal_below (P := P) (w := w) (base := base) T
  have C_moved := cal_moved (P := P) (w := w) (base := base) T
  have C_l_place := cal_l_place (P := P) (w := w) (base := base) T
  have C_l_fresh := cal_l_fresh (P := P) (w := w) (base := base) T
  have C_joined := cal_joined (P := P) (w := w) (base := base) T
  have C_left := cal_left (P := P) (w := w) (base := base) T
  refine ⟨_, (pss_cons (ps_par (i := 2) (j := 3) (by rfl) sc_l_back_right.nd rfl rfl (by decide) rfl rfl (pa_cons (pe_cl C_l_own hr (by omega) (by rfl) (pa_cons (pv 1) pa_nil)) (pa_cons (pe_cl C_in_walk hr (by omega) (by rfl) (pa_cons (pv 1) pa_nil)) pa_nil)) (by rfl))
   (pss_cons (ps_set (i := 4) sc_l_back_right.nd rfl (Or.inl rfl) (pe_callTy (call_list_dK rfl) (by rfl) T.b_list (by decide +kernel) (pa_cons (pe_dget hu (pv 2) pe_str (fun _ _ => rfl)) pa_nil)))
   (pss_cons (ps_if (pt_cmpR (op_eqD hr.units) (pv 4) (pe_lst pa_nil) (nomark _)) (pss_one (ps_ret pe_bl)) pss_nil)
   (pss_cons (ps_set (i := 5) sc_l_back_right.nd rfl (Or.inr rfl) (pe_cl C_l_pick hr (by omega) (by rfl) (pa_cons (pv 0) (pa_cons (pv 4) pa_nil))))
   (pss_cons (ps_set (i := 6) sc_l_back_right.nd rfl (Or.inl rfl) (pe_cl C_l_caller hr (by omega) (by rfl) (pa_cons (pv 2) (pa_cons (pv 5) pa_nil))))
   (pss_cons (ps_set (i := 7) sc_l_back_right.nd rfl (Or.inl rfl) (pe_bm PySem.F.plainAttrs_list PySem.F.slot_list_index PySem.F.type_list_index mt_index (pe_dget hu (pe_dget hu (pv 2) pe_str (fun _ _ => rfl)) (pv 6) (fun _ _ => rfl)) (pa_cons (pv 5) pa_nil)))
   (pss_cons (ps_set (i := 8) sc_l_back_right.nd rfl (Or.inr rfl) (pe_op op_cat (pe_lst (pa_cons (pv 5) pa_nil)) (pe_callTy call_list_of (by rfl) T.b_list (by decide +kernel) (pa_cons (pe_cl C_below hr (by omega) (by rfl) (pa_cons (pv 1) (pa_cons (pv 5) pa_nil))) pa_nil))))
   (pss_cons (ps_set (i := 9) sc_l_back_right.nd rfl (Or.inl rfl) (pe_cl C_l_pick hr (by omega) (by rfl) (pa_cons (pv 0) (pa_cons (pe_lc (own := [("_law_one", 13)]) (g := gName 13) (tt := _) rfl sc_l_back_right.nd (pi_list (pe_op op_cat (pe_lst (pa_cons pe_str pa_nil)) (pv 4))) (blkOk_by (N := N_l_back_right) (sc := defScope s_l_back_right) (by decide +kernel)) (fun _ _ _ _ _ => (pg_name (i := 13) sc_l_back_right.nd rfl (Or.inl rfl))) (fun _ _ _ _ _ => (pts_one (pt_cmpR (op_notIn_seqK (K := K) rfl) (pv 13) (pv 8) (by rfl)))) (fun _ _ _ _ _ => (pv 13))) pa_nil))))
   (pss_cons (ps_set (i := 10) sc_l_back_right.nd rfl (Or.inl rfl) (pe_callB call_len_seq (by rfl) T.b_len (by decide +kernel) (pa_cons (pe_lc (own := [("_law_one", 13)]) (g := gName 13) (tt := _) rfl sc_l_back_right.nd (pi_list (pe_dget hu (pe_dget hu (pv 2) pe_str (fun _ _ => rfl)) (pv 9) (fun _ _ => rfl))) (blkOk_by (N := N_l_back_right) (sc := defScope s_l_back_right) (by decide +kernel)) (fun _ _ _ _ _ => (pg_name (i := 13) sc_l_back_right.nd rfl (Or.inl rfl))) (fun _ _ _ _ _ => (pts_one (pt_cmpR op_ne (pv 13) (pv 5) (nomark _)))) (fun _ _ _ _ _ => (pv 13))) pa_nil)))
   (pss_cons (ps_set (i := 11) sc_l_back_right.nd rfl (Or.inl rfl) (pe_cl C_moved hr (by omega) (by rfl) (pa_cons (pv 1) (pa_cons (pv 5) (pa_cons (pv 9) (pa_cons (pe_cl C_l_place hr (by omega) (by rfl) (pa_cons (pv 0) (pa_cons (pv 10) pa_nil))) pa_nil))))))
   (pss_cons (ps_if (PW.pt (pw_or (pt_cmpR (op_neD hr.units) (pe_cl C_moved hr (by omega) (by rfl) (pa_cons (pv 11) (pa_cons (pv 5) (pa_cons (pv 6) (pa_cons (pv 7) pa_nil))))) (pv 3) (nomark _)) (pw_or1 (pt_cmpR (op_neD hr.units) (pe_cl C_below hr (by omega) (by rfl) (pa_cons (pv 11) (pa_cons (pv 5) pa_nil))) (pe_cl C_below hr (by omega) (by rfl) (pa_cons (pv 3) (pa_cons (pv 5) pa_nil))) (nomark _))))) (pss_one (ps_ret pe_bl)) pss_nil)
   (pss_cons (ps_if (pt_cmpR op_gt (pe_callB call_len_seq (by rfl) T.b_len (by decide +kernel) (pa_cons (pv 4) pa_nil)) pe_int (nomark _)) (pss_one (ps_ret pe_bl)) pss_nil)
   (pss_cons (ps_par (i := 12) (j := 9) (by rfl) sc_l_back_right.nd rfl rfl (by decide) rfl rfl (pa_cons (pe_cl C_l_fresh hr (by omega) (by rfl) (pa_cons (pv 0) (pa_cons (pv 2) pa_nil))) (pa_cons (pe_cl C_l_pick hr (by omega) (by rfl) (pa_cons (pv 0) (pa_cons (pe_op op_cat (pe_lst (pa_cons pe_str pa_nil)) (pv 4)) pa_nil))) pa_nil)) (by rfl))
   (pss_cons (ps_set (i := 11) sc_l_back_right.nd rfl (Or.inl rfl) (pe_cl C_joined hr (by omega) (by rfl) (pa_cons (pv 1) (pa_cons (pv 12) (pa_cons (pv 9) (pa_cons pe_int (pa_cons (pe_cl C_l_place hr (by omega) (by rfl) (pa_cons (pv 0) (pa_cons (pe_callB call_len_seq (by rfl) T.b_len (by decide +kernel) (pa_cons (pe_dget hu (pe_dget hu (pv 2) pe_str (fun _ _ => rfl)) (pv 9) (fun _ _ => rfl)) pa_nil)) pa_nil))) pa_nil)))))))
   (pss_one (ps_ret (pe_and (pe_cmpR (op_eqD hr.units) (pe_cl C_left hr (by omega) (by rfl) (pa_cons (pv 11) (pa_cons (pv 12) pa_nil))) (pv 3) (nomark _)) (pe_and (pe_cmpR op_eq (pe_callB call_len_seq (by rfl) T.b_len (by decide +kernel) (pa_cons (pe_ix ix_tup (pv 11) pe_int (fun _ _ => rfl)) pa_nil)) (pe_op op_add (pe_callB call_len_seq (by rfl) T.b_len (by decide +kernel) (pa_cons (pv 4) pa_nil)) pe_int) (nomark _)) (pe_one (pe_cmpR (op_eqD hr.units) (pe_cl C_moved hr (by omega) (by rfl) (pa_cons (pv 3) (pa_cons (pv 5) (pa_cons (pv 6) (pa_cons (pv 7) pa_nil))))) (pv 3) (nomark _))))))))))))))))))))), ?_⟩
  have F := fo_of ok.ppl ok.len
  have few := F.l16
  have nok : ∀ x ∈ nmz t.ppl, nameOk x = true := fun x hx => (name_facts ok.ppl F hx).1
  obtain ⟨vW, iW⟩ := walk_view ok
  obtain ⟨shW, eqW⟩ := tr_lay vW.ok
  refine ⟨_, rfl, v, t, st, rfl, ht, ok.ppl, ok.len, S.some, fun H1 o OW s1 => ?_⟩
  have ht1 := TAt.tk (Same.tk s1) ht
  refine ⟨_, rfl, v, t, rfl, ht1, Fo.good ok, fun H2 du s2 hdu => ⟨_, _, rfl, ?_⟩⟩
  have s12 := s1.trans s2
  obtain ⟨kvs, dl, dt, ad, X1⟩ := OW
  have X := X1.same s2
  refine ⟨_, rfl, _, _, rfl, dgetS X.ho X.et, dt, _, rfl, X.ht, fun l hl => ?_⟩
  have en : (mapD (nmz t.ppl) fun x => V.int (talkF t.ppl x)).map (fun kv => kV kv.1) = (nmz t.ppl).map V.str := by
    unfold mapD
    rw [List.map_map]
    rfl
  rw [en]
  have n3 : Same H2 (upd H2 l (.lst ((nmz t.ppl).map V.str))) := Same.upd hl
  have el : (upd H2 l (.lst ((nmz t.ppl).map V.str))) l = some (.lst ((nmz t.ppl).map V.str)) := upd_same
  have S3 := S.same (s12.trans n3)
  have k3 := Same.kb (s12.trans n3) (st := st)
  have hd3 := TAt.tk (Same.tk n3) hdu
  have ht3 := TAt.tk (Same.tk (s2.trans n3)) ht1
  have X3 := X.same n3
  generalize upd H2 l (.lst ((nmz t.ppl).map V.str)) = H3 at n3 el S3 k3 hd3 ht3 X3 ⊢
  have nls : l ≠ st := ne_st S3 el (by intro _ z; cases z)
  refine ⟨_, rfl, Nat.zero_le _, fun p hp => ?_⟩
  have n4 : Same H3 (upd H3 p (.lst [])) := Same.upd hp
  have lay := names_data nok
  refine ⟨_, _, .lst (SqL.of (n4 _ _ el)) (dpAll_names _), .lst (SqL.of upd_same) .nil, lay.1, by decide, ?_⟩
  rw [lay.2]
  have el4 := n4 _ _ el
  have S4 := S3.same n4
  have k4 := k3.trans (Same.kb n4)
  generalize upd H3 p (.lst []) = H4 at n4 el4 S4 k4 ⊢
  have llen : ((nmz t.ppl).map V.str).length = (nmz t.ppl).length := List.length_map _
  by_cases e0 : nmz t.ppl = []
  · rw [decide_eq_true e0]
    exact ⟨_, rfl, iteT (k _ k4 (S4.mono (by omega)))⟩
  rw [decide_eq_false e0]
  refine ⟨_, rfl, iteF ?_⟩
  have hpos : 1 ≤ (nmz t.ppl).length := List.length_pos_iff.mpr e0
  -- name
  refine ⟨_, rfl, _, rfl, st, l, _, _, rfl, S4, by omega, el4, by rw [llen]; exact hpos, by rw [llen]; omega, fun H5 v5 vm5 kb5 S5 => ?_⟩
  obtain ⟨x, xn, rfl⟩ := List.mem_map.mp vm5
  obtain ⟨c0, LA, LB, SP⟩ := spot_of ok xn
  have c0k : c0 ∈ ("" : Str) :: nmz t.ppl := List.mem_cons.mpr SP.ck
  have cx0 : x ∈ ownl t.ppl c0 := by rw [SP.eq]; simp
  have k5 := k4.trans kb5
  have X5 := X3.keep ((Same.kb n4).trans kb5)
  have el5 := kb5 _ _ nls el4
  -- above
  refine ⟨_, rfl, _, rfl, o, st, H, x, c0, _, _, _, _, _, _, rfl, ⟨_, _, _, _, X5⟩, c0k, cx0, fun y _ hy => ownl_un F.nd hy cx0, fun H6 s6 => ?_⟩
  have X6 := X5.same s6
  have hcl := X6.hx c0 c0k
  have ea : (ownl t.ppl c0).map V.str = (LA.map V.str) ++ V.str x :: LB.map V.str := by
    rw [SP.eq, List.map_append]
    rfl
  -- place
  refine ⟨_, rfl, _, _, rfl, dgetS X6.ho X6.el, _, rfl, _, _, rfl, dgetM X6.hl c0k, .inl ⟨rfl, _, SqL.of hcl⟩, _, rfl, _, _, .str x, LA.length, .str x, rfl, rfl, SqL.of hcl, rfl, flat_strs _, ?_, (by simp [eqV]), fun m z hm hz => ?_, ?_⟩
  · rw [List.getElem?_map, SP.eq, at_mid]
    rfl
  · rw [List.getElem?_map, SP.eq, List.getElem?_append_left hm] at hz
    obtain ⟨y, hy⟩ : ∃ y, LA[m]? = some y := ⟨LA[m], List.getElem?_eq_getElem hm⟩
    rw [hy] at hz
    cases hz
    have e : ¬ y = x := fun z => SP.nA (z ▸ List.mem_of_getElem? hy)
    simp [eqV, e]
  have k6 := k5.trans (Same.kb s6)
  have S6 := S5.same s6
  have el6 := s6 _ _ el5
  have hd6 : TAt H6 du (walkT t) := TAt.tk (S3.kb (((Same.kb n4).trans kb5).trans (Same.kb s6))) hd3
  -- lower
  refine ⟨_, rfl, by show 1 ≤ sizeLine; decide, fun p7 hp7 => ?_⟩
  have n7 : Same H6 (upd H6 p7 (.lst [V.str x])) := Same.upd hp7
  have e7 : (upd H6 p7 (.lst [V.str x])) p7 = some (.lst [V.str x]) := upd_same
  have k7 := k6.trans (Same.kb n7)
  generalize upd H6 p7 (.lst [V.str x]) = H7 at n7 e7 k7 ⊢
  refine ⟨_, rfl, _, rfl, v, t, x, rfl, TAt.tk (S.kb k7) ht, ok, xn, fun H8 q8 s8 hq8 => ?_⟩
  obtain ⟨fx, lx, sx⟩ := F.wf.sub16 F.len (F.pm.mem_iff.mpr xn)
  refine ⟨q8, _, rfl, .inr (SqT.of hq8), fun l9 hl9 => ?_⟩
  have n9 := s8.trans (Same.upd hl9 (o := .lst ((belowN (ownl t.ppl) 16 x).map V.str)))
  refine ⟨p7, l9, _, _, rfl, rfl, n9 _ _ e7, upd_same, Nat.le_of_lt (small1000 (by rw [List.length_map]; show 1 + _ ≤ 1000; omega)), fun p10 hp10 => ?_⟩
  have n10 := n9.trans (Same.upd hp10 (o := .lst ([V.str x] ++ (belowN (ownl t.ppl) 16 x).map V.str)))
  have e10 : (upd (upd H8 l9 (.lst ((belowN (ownl t.ppl) 16 x).map V.str))) p10 (.lst ([V.str x] ++ (belowN (ownl t.ppl) 16 x).map V.str))) p10 = some (.lst ((x :: belowN (ownl t.ppl) 16 x).map V.str)) := by
    rw [upd_same]
    rfl
  have s610 := n7.trans n10
  generalize upd (upd H8 l9 (.lst ((belowN (ownl t.ppl) 16 x).map V.str))) p10 (.lst ([V.str x] ++ (belowN (ownl t.ppl) 16 x).map V.str)) = H10 at n10 e10 s610 ⊢
  have k10 := k6.trans (Same.kb s610)
  have S10 := S6.same s610
  have el10 := s610 _ _ el6
  generalize hlow : (x :: belowN (ownl t.ppl) 16 x) = low at e10
  -- caller
  refine ⟨_, rfl, by show 1 ≤ sizeLine; decide, fun p2 hp2 => ?_⟩
  have m4 := Same.upd hp2 (o := .lst [V.str ""])
  refine ⟨_, rfl, p2, l, _, _, rfl, rfl, upd_same, m4 _ _ el10, Nat.le_of_lt (small1000 (by rw [llen]; show 1 + _ ≤ 1000; omega)), fun p3 hp3 => ?_⟩
  have m5 := m4.trans (Same.upd hp3 (o := .lst ([V.str ""] ++ (nmz t.ppl).map V.str)))
  have e11 : (upd (upd H10 p2 (.lst [V.str ""])) p3 (.lst ([V.str ""] ++ (nmz t.ppl).map V.str))) p3 = some (.lst ((("" : Str) :: nmz t.ppl).map V.str)) := by
    rw [upd_same]
    rfl
  have k11 := k10.trans (Same.kb m5)
  have S11 := S10.same m5
  have e10' := m5 _ _ e10
  have el11 := m5 _ _ el10
  generalize upd (upd H10 p2 (.lst [V.str ""])) p3 (.lst ([V.str ""] ++ (nmz t.ppl).map V.str)) = H11 at m5 e11 k11 S11 e10' el11 ⊢
  have lkeys : (("" : Str) :: nmz t.ppl).length ≤ 17 := by
    rw [List.length_cons]
    omega
  refine ⟨p3, rfl, ⟨_, SqL.of e11⟩, fun D2 hD2 => ?_⟩
  refine lc_rel (σ := [some (.ref st), some v, some (.ref o), some du, some (.ref l), some (.str x), some (.str c0), some (.int (LA.length : Nat)), some (.ref p10), none, none, none, none, none]) (xs := (("" : Str) :: nmz t.ppl).map V.str) (("" : Str) :: nmz t.ppl) (fun y => if y ∉ low then some y else none) (fun _ v n => v = .str n) (fun _ v n => v = .str n) walk_list (fun H' z => SqL.of (z _ _ e11)) hD2 (small1000 (by rw [List.length_map]; omega)) (Paired.ofMap _ _) (fun _ h => h) (fun _ h => h) ?_ ?_
  · rintro _ y G Qk Qn hy s12 rfl hk hno
    refine ⟨rfl, _, rfl, _, rfl, p10, _, rfl, .inl (SqL.of (s12 _ _ e10')), rfl, flat_strs _, ?_⟩
    show ∃ b, V.bl (!inV (V.str y) (low.map V.str)) = V.bl b ∧ _
    rw [inV_strs]
    by_cases e : y ∈ low
    · rw [decide_eq_true e]
      exact ⟨_, rfl, iteF (hno (if_neg fun z => z e) _ (Same.refl _))⟩
    · rw [decide_eq_false e]
      exact ⟨_, rfl, iteT ⟨_, rfl, hk _ _ _ (if_pos e) (Same.refl _) rfl⟩⟩
  · intro H12 zs s12 hz r2
    have ez := Paired.toMap r2
    have k12 := k11.trans (Same.kb s12)
    have S12 := S11.same s12
    have b_in : ("" : Str) ∉ low := by
      rw [← hlow]
      intro z
      rcases List.mem_cons.mp z with z | z
      · exact F.sd.nx (z ▸ xn)
      · exact F.sd.nx (F.pm.mem_iff.mp (sx _ z))
    have bm : ("" : Str) ∈ (("" : Str) :: nmz t.ppl).filterMap fun y => if y ∉ low then some y else none := List.mem_filterMap.mpr ⟨"", List.mem_cons_self .., if_pos b_in⟩
    have lz1 : 1 ≤ zs.length := by
      rw [ez, List.length_map]
      exact List.length_pos_of_mem bm
    have lz2 : zs.length ≤ 17 := by
      rw [ez, List.length_map]
      exact Nat.le_trans (List.length_filterMap_le _ _) lkeys
    refine ⟨st, D2, _, _, rfl, S12, by omega, hz, lz1, by omega, fun H13 v13 vm13 kb13 S13 => ?_⟩
    have k13 := k12.trans kb13
    obtain ⟨c, ck, cl, rfl⟩ : ∃ c, c ∈ ("" : Str) :: nmz t.ppl ∧ c ∉ low ∧ v13 = .str c := by
      rw [ez] at vm13
      obtain ⟨c, cm, rfl⟩ := List.mem_map.mp vm13
      obtain ⟨y, ym, e⟩ := List.mem_filterMap.mp cm
      by_cases h : y ∉ low
      · rw [if_pos h] at e
        cases e
        exact ⟨_, ym, h, rfl⟩
      · rw [if_neg h] at e
        cases e
    have S13' := S13
    have X13 := (X3.keep ((Same.kb n4).trans kb5)).keep (((Same.kb s6).trans (Same.kb s610)).trans (((Same.kb m5).trans (Same.kb s12)).trans kb13))
    have el13 : H13 l = some (.lst ((nmz t.ppl).map V.str)) := kb13 _ _ nls (s12 _ _ el11)
    have hd13 : TAt H13 du (walkT t) := TAt.tk (S6.kb ((Same.kb s610).trans (((Same.kb m5).trans (Same.kb s12)).trans kb13))) hd6
    have ckey := mem_keys ck
    have cne : c ≠ x := fun z => cl (by rw [← hlow, z]; exact List.mem_cons_self ..)
    have cnb : c ∉ belowN (ownl t.ppl) 16 x := fun z => cl (by rw [← hlow]; exact List.mem_cons_of_mem _ z)
    have hcl13 := X13.hx c ck
    have lcc := F.sd.len ck
    -- many
    refine ⟨_, rfl, _, _, rfl, dgetS X13.ho X13.el, _, rfl, _, _, rfl, dgetM X13.hl ck, _, rfl, ⟨_, SqL.of hcl13⟩, fun D3 hD3 => ?_⟩
    refine lc_rel (σ := [some (.ref st), some v, some (.ref o), some du, some (.ref l), some (.str x), some (.str c0), some (.int (LA.length : Nat)), some (.ref p10), some (.str c), none, none, none, none]) (xs := (ownl t.ppl c).map V.str) (ownl t.ppl c) (fun y => if y ≠ x then some y else none) (fun _ v n => v = .str n) (fun _ v n => v = .str n) walk_list (fun H' z => SqL.of (z _ _ hcl13)) hD3 (small1000 (by rw [List.length_map]; omega)) (Paired.ofMap _ _) (fun _ h => h) (fun _ h => h) ?_ ?_
    · rintro _ y G Qk Qn hy s14 rfl hk hno
      refine ⟨rfl, _, rfl, _, rfl, rfl, _, rfl, ?_⟩
      by_cases e : y = x
      · have e1 : decide (V.str y = V.str x) = true := decide_eq_true (congrArg V.str e)
        show if (!decide (V.str y = V.str x)) = true then _ else _
        rw [e1]
        exact iteF (hno (if_neg fun z => z e) _ (Same.refl _))
      · have e1 : decide (V.str y = V.str x) = false := decide_eq_false fun z => e (V.str.inj z)
        show if (!decide (V.str y = V.str x)) = true then _ else _
        rw [e1]
        exact iteT ⟨_, rfl, hk _ _ _ (if_pos e) (Same.refl _) rfl⟩
    · intro H14 ws s14 hw r3
      have lw : ws.length = (dropL x (ownl t.ppl c)).length := by rw [Paired.len r3, dropL_fm]
      have ldrop := dropL_len x (ownl t.ppl c)
      have k14 := k13.trans (Same.kb s14)
      have S14 := S13.same s14
      have X14 := X13.same s14
      have el14 := s14 _ _ el13
      have hd14 := TAt.tk (Same.tk s14) hd13
      refine ⟨_, _, rfl, .inl (SqL.of hw), ?_⟩
      -- moved
      refine ⟨_, rfl, _, rfl, _, rfl, _, rfl, _, rfl, st, _, _, rfl, S14, by omega, by omega, fun H15 pl hpl kb15 S15 => ?_⟩
      rw [lw] at hpl
      have k15 := k14.trans kb15
      have X15 := X14.keep kb15
      have el15 := kb15 _ _ nls el14
      have hd15 := TAt.tk (S14.kb kb15) hd14
      obtain ⟨pk1, ok1, be1, xn1, pk2, eq2⟩ := away_back (c := c) (pl := pl) ok SP ckey cne cnb hpl
      obtain ⟨q1, mo1⟩ := id pk1
      obtain ⟨q2, mo2⟩ := id pk2
      refine ⟨v, t, x, c, q1, pl, rfl, TAt.tk (S.kb k15) ht, Fo.good ok, mo1, fun H16 u1 s16 h16 => ?_⟩
      have h16 := move_h mo1 h16
      have hd16 := TAt.tk (Same.tk s16) hd15
      refine ⟨_, rfl, _, rfl, _, rfl, _, rfl, u1, _, x, c0, q2, some LA.length, rfl, h16, Fo.good ok1, mo2, fun H17 u2 s17 h17 => ?_⟩
      have h17 := move_h mo2 h17
      rw [eq2] at h17
      have hd17 := TAt.tk (Same.tk s17) hd16
      refine ⟨_, rfl, trD (walkT t), trD (walkT t), (dp_tree h17).2, (dp_tree hd17).2, shW, shW, _, rfl, ?_⟩
      have eqW' : PyData.eqv (trD (walkT t)) (trD (walkT t)) = true := eqW
      rw [eqW']
      refine iteF ?_
      obtain ⟨be2, xn2, pk3, eq3⟩ := still_move ok SP
      have okW : TrOk (walkT t) := vW.ok
      refine ⟨_, rfl, _, rfl, u1, _, x, rfl, TAt.tk (Same.tk s17) h16, ok1, xn1, fun H18 a18 s18 h18 => ?_⟩
      have hd18 := TAt.tk (Same.tk s18) hd17
      refine ⟨_, rfl, _, rfl, du, walkT t, x, rfl, hd18, okW, xn2, fun H19 a19 s19 h19 => ?_⟩
      rw [be1] at h18
      have h19 : H19 a19 = some (.tup ((belowN (ownl t.ppl) 16 x).map V.str)) := by rw [← be2]; exact h19
      obtain ⟨sh9, eq9⟩ := names_tup (ns := belowN (ownl t.ppl) 16 x) fun y hy => nok y (F.pm.mem_iff.mp (sx y hy))
      refine ⟨_, _, .tup (SqT.of (s19 _ _ h18)) (dpAll_names _), .tup (SqT.of h19) (dpAll_names _), sh9, sh9, _, rfl, ?_⟩
      rw [eq9]
      refine iteF ?_
      have s1519 := ((s16.trans s17).trans s18).trans s19
      have k19 := k15.trans (Same.kb s1519)
      have S19 := S15.same s1519
      have X19 := X15.same s1519
      have el19 := s1519 _ _ el15
      have hd19 := TAt.tk (Same.tk s19) hd18
      refine ⟨_, rfl, l, _, rfl, .inl (SqL.of el19), _, _, rfl, rfl, _, rfl, ?_⟩
      by_cases e15 : (15 : Int) < (((nmz t.ppl).map V.str).length : Nat)
      · rw [decide_eq_true e15]
        exact iteT (k _ k19 (S19.mono (by omega)))
      rw [decide_eq_false e15]
      refine iteF ?_
      rw [llen] at e15
      have j16 : (nmz t.ppl).length < 16 := by omega
      -- one more
      refine ⟨_, rfl, _, rfl, o, st, H, _, _, _, _, _, _, _, rfl, S19, by omega, ⟨_, _, _, _, X19⟩, few, fun H20 y yo yn kb20 S20 => ?_⟩
      have k20 := k19.trans kb20
      have el20 := kb20 _ _ nls el19
      refine ⟨_, rfl, by show 1 ≤ sizeLine; decide, fun p21 hp21 => ?_⟩
      have m21 := Same.upd hp21 (o := .lst [V.str ""])
      refine ⟨_, rfl, p21, l, _, _, rfl, rfl, upd_same, m21 _ _ el20, Nat.le_of_lt (small1000 (by rw [llen]; show 1 + _ ≤ 1000; omega)), fun p22 hp22 => ?_⟩
      have m22 := m21.trans (Same.upd hp22 (o := .lst ([V.str ""] ++ (nmz t.ppl).map V.str)))
      refine ⟨st, p22, _, _, rfl, S20.same m22, by omega, upd_same, by simp, by rw [List.length_append, llen]; show 1 + _ ≤ 1000; omega, fun H23 v23 vm23 kb23 S23 => ⟨_, _, rfl, ?_⟩⟩
      have k23 := (k20.trans (Same.kb m22)).trans kb23
      have X23 := (X19.keep kb20).keep ((Same.kb m22).trans kb23)
      have el23 := kb23 _ _ nls (m22 _ _ el20)
      have hd23 : TAt H23 du (walkT t) := TAt.tk (S19.kb (kb20.trans ((Same.kb m22).trans kb23))) hd19
      obtain ⟨cc, cck, rfl⟩ : ∃ c, c ∈ ("" : Str) :: nmz t.ppl ∧ v23 = .str c := by
        rcases List.mem_append.mp vm23 with z | z
        · exact ⟨"", List.mem_cons_self .., List.mem_singleton.mp z⟩
        · obtain ⟨c, cm, rfl⟩ := List.mem_map.mp z
          exact ⟨c, List.mem_cons_of_mem _ cm, rfl⟩
      have lc2 := F.sd.len cck
      have llc2 : ((ownl t.ppl cc).map V.str).length = (ownl t.ppl cc).length := List.length_map _
      refine ⟨_, rfl, _, rfl, _, rfl, _, rfl, _, rfl, _, _, rfl, dgetS X23.ho X23.el, _, rfl, _, _, rfl, dgetM X23.hl cck, _, _, rfl, .inl (SqL.of (X23.hx cc cck)), st, _, _, rfl, S23, by omega, by rw [llc2]; omega, fun H24 pl2 hpl2 kb24 S24 => ?_⟩
      rw [llc2] at hpl2
      have k24 := k23.trans kb24
      have el24 := kb24 _ _ nls el23
      have hd24 := TAt.tk (S23.kb kb24) hd23
      obtain ⟨jk, ok3, len3, lk, eq4⟩ := join_leave (c := cc) (i := 7) (pl := pl2) ok yo yn (mem_keys cck) j16 (by decide) (by decide) hpl2
      refine ⟨v, t, y, cc, 7, pl2, rfl, TAt.tk (S.kb k24) ht, Fo.good ok, jk, fun H25 u3 s25 h25 => ?_⟩
      have h25 : TAt H25 u3 ((Deed.join y cc 7 pl2).resP t) := h25
      have hd25 := TAt.tk (Same.tk s25) hd24
      obtain ⟨ln, q3, hq3⟩ := id lk
      -- the return
      refine ⟨_, rfl, _, rfl, u3, _, y, q3, rfl, h25, Fo.good ok3, ln, hq3, fun H26 u4 s26 h26 => ?_⟩
      have h26 : TAt H26 u4 ((Deed.leave y).resP ((Deed.join y cc 7 pl2).resP t)) := by
        show TAt H26 u4 ⟨_, _, leftP _ y (callF _ y)⟩
        unfold callF
        rw [hq3]
        exact h26
      rw [eq4] at h26
      have hd26 := TAt.tk (Same.tk s26) hd25
      refine ⟨_, rfl, trD (walkT t), trD (walkT t), (dp_tree h26).2, (dp_tree hd26).2, shW, shW, ?_⟩
      rw [eqW']
      obtain ⟨a3, b3, us3, rfl, ha3, hb3, rp3⟩ := TAt.tk (Same.tk s26) h25
      have lus3 := Paired.len rp3
      have el26 := (s25.trans s26) _ _ el24
      refine ⟨_, rfl, iteT ⟨_, rfl, _, _, _, _, rfl, rfl, SqT.of ha3, rfl, _, _, rfl, .inr (SqT.of hb3), _, rfl, l, _, rfl, .inl (SqL.of el26), _, _, rfl, rfl, rfl, ?_⟩⟩
      have lnm : (nmz t.ppl).length = t.ppl.length := by unfold nmz; rw [List.length_map]
      have ecmp : decide (V.int (us3.length : Nat) = V.int (((((nmz t.ppl).map V.str).length : Nat) : Int) + 1)) = true := decide_eq_true (by
        rw [llen, lus3, lnm]
        have q : ((Deed.join y cc 7 pl2).resP t).ppl.length = t.ppl.length + 1 := len3
        rw [q]
        rfl)
      show ∃ c, V.bl (decide (V.int (us3.length : Nat) = V.int (((((nmz t.ppl).map V.str).length : Nat) : Int) + 1))) = .bl c ∧ _
      rw [ecmp]
      obtain ⟨q5, mo5⟩ := id pk3
      refine ⟨_, rfl, iteT ?_⟩
      refine ⟨_, rfl, _, rfl, _, rfl, ?_⟩
      refine ⟨_, rfl, ?_⟩
      refine ⟨du, walkT t, x, c0, q5, some LA.length, rfl, ?_⟩
      refine ⟨hd26, Fo.good okW, mo5, fun H27 u5 s27 h27 => ?_⟩
      have h27 := move_h mo5 h27
      have h27 : TAt H27 u5 (walkT t) := by
        have e := eq3
        rw [e] at h27
        exact h27
      refine ⟨_, rfl, trD (walkT t), trD (walkT t), (dp_tree h27).2, (dp_tree (TAt.tk (Same.tk s27) hd26)).2, shW, shW, ?_⟩
      rw [eqW']
      have sF := (s25.trans s26).trans s27
      exact k _ (k24.trans (Same.kb sF)) ((S24.same sF).mono (by omega))
end
end RD
set_option Elab.async false
set_option linter.all false
set_option maxRecDepth 100000
set_option maxHeartbeats 4000000
local macro_rules | `(tactic| walk_at "isT") => `(tactic| refine ⟨_, _, _, _, true, rfl, L2.ClsV.ty _, L2.TyX.base (by first | exact .int _ | exact .str _ | exact .bl _ | exact .non), L2.kit_ty (by decide +kernel), ?_⟩)
local macro_rules | `(tactic| walk_at "isF") => `(tactic| refine ⟨_, _, _, _, false, rfl, L2.ClsV.ty _, L2.TyX.base (by first | exact .int _ | exact .str _ | exact .bl _ | exact .non), L2.kit_ty (by decide +kernel), ?_⟩)
namespace RD
open PySem PySem.Spec PyProof.Rows L2
theorem sql_same {K : PySem.W.Frag} {H H' : Hp} {a : Addr} {xs : List V} (s : Same H H') (h : SqL K H a xs) : SqL K H' a xs := h.imp (fun r => r.imp (s _ _) fun ⟨od, e⟩ => ⟨od, s _ _ e⟩) id
section
variable {P : Program} {w : World} {K : PySem.W.Frag} {mg : Str → Option Value} {base : Heap}
def sp_law (K : PySem.W.Frag) : Sp := fun vs H Q _ => ∃ (a : Addr) (ns : List Int), vs = [.ref a] ∧ SqL K H a (ns.map V.int) ∧ ns.length ≤ 63 ∧ ∀ H', Q (.bl true) H'
theorem cal_law (T : Txt K mg) : ∀ (f : Addr) (cdv : Value) (A : Around) (outer : List Env) (s : Shared) (H : Hp) (vs : List V) (Q : VK) (E : XK), A.guards = some [] → Room 23 (A.deeper (envOfC "law" (defScope s_law) s.heap.objs.size f cdv)) → sp_law K vs H Q E →
      ∃ t, PSs (cxOf CX0 P w K mg base N_law "law" (defScope s_law) f cdv A outer s H E).nox (defBody s_law) t ∧ t { nx := fun _ H' => Q .non H', rt := Q } (start N_law vs) H := by
  intro f cdv A outer s H vs Q E _ hr h
  obtain ⟨a, ns, rfl, ha, hn, k⟩ := h
  have hu := hu_of hr
  have C_l_draw := cal_l_draw (P := P) (w := w) (base := base) T
  have C_l_tree := cal_l_tree (P := P) (w := w) (base := base) T
  have C_l_other := cal_l_other (P := P) (w := w) (base := base) T
  have C_l_own := cal_l_own (P := P) (w := w) (base := base) T
  have C_l_told_tree := cal_l_told_tree (P := P) (w := w) (base := base) T
  have C_l_by_moves := cal_l_by_moves (P := P) (w := w) (base := base) T
  have C_l_by_leaving := cal_l_by_leaving (P := P) (w := w) (base := base) T
  have C_same_tree := cal_same_tree (P := P) (w := w) (base := base) T
  have C_l_back_right := cal_l_back_right (P := P) (w := w) (base := base) T
  refine ⟨_, (pss_cons (ps_for PassesOwn.never rfl (pi_enum (by rfl) T.b_enumerate (pa_cons (pe_op op_cat (pe_slice sl_list (pv 0) po_none (po_some pe_int)) (pe_lst (pa_cons (pe_callB (cr_sum rfl) (by rfl) T.b_sum (by decide +kernel) (pa_cons (pv 0) pa_nil)) pa_nil))) pa_nil)) (pg_tup (by rfl) (pgs_cons (pg_name (i := 1) sc_law.nd rfl (Or.inl rfl)) (pgs_cons (pg_name (i := 2) sc_law.nd rfl (Or.inl rfl)) pgs_nil))) (pss_cons (ps_set (i := 3) sc_law.nd rfl (Or.inl rfl) (pe_cl C_l_draw hr (by omega) (by rfl) (pa_cons (pv 2) (pa_cons (pv 1) pa_nil)))) (pss_cons (ps_set (i := 4) sc_law.nd rfl (Or.inl rfl) (pe_cl C_l_tree hr (by omega) (by rfl) (pa_cons (pv 3) (pa_cons pe_int pa_nil)))) (pss_cons (ps_set (i := 5) sc_law.nd rfl (Or.inl rfl) (pe_cl C_l_other hr (by omega) (by rfl) (pa_cons (pv 3) (pa_cons (pv 4) pa_nil)))) (pss_cons (ps_set (i := 6) sc_law.nd rfl (Or.inl rfl) (pe_cl C_l_told_tree hr (by omega) (by rfl) (pa_cons (pe_cl C_l_own hr (by omega) (by rfl) (pa_cons (pv 5) pa_nil)) pa_nil))) (pss_cons (ps_for PassesOwn.never rfl (pi_tup (pe_tup (pa_cons (pe_cl C_l_by_moves hr (by omega) (by rfl) (pa_cons (pv 3) (pa_cons (pv 4) (pa_cons (pv 5) pa_nil)))) (pa_cons (pe_cl C_l_by_leaving hr (by omega) (by rfl) (pa_cons (pv 3) (pa_cons (pv 4) (pa_cons (pv 5) pa_nil)))) pa_nil)))) (pg_name (i := 7) sc_law.nd rfl (Or.inl rfl)) (pss_one (ps_if (PW.pt (pw_or (pt_cmpR (op_neD hr.units) (pv 7) (pv 6) (nomark _)) (pw_or (pt_not (pt_val (pe_cl C_same_tree hr (by omega) (by rfl) (pa_cons (pv 7) (pa_cons (pv 5) pa_nil))))) (pw_or1 (pt_not (pt_val (pe_callB call_isi (by rfl) T.b_isinstance (by decide +kernel) (pa_cons (pv 7) (pa_cons (pe_bltn (v := .ty "tuple") (u := .type "tuple") (by rfl) T.b_tuple (by decide +kernel) (by rfl)) pa_nil))))))))) (pss_one (ps_ret pe_bl)) pss_nil))) (pss_one (ps_if (PW.pt (pw_or (pt_not (pt_val (pe_cl C_l_back_right hr (by omega) (by rfl) (pa_cons (pv 3) (pa_cons (pv 4) pa_nil))))) (pw_or1 (pt_not (pt_val (pe_cl C_l_back_right hr (by omega) (by rfl) (pa_cons (pv 3) (pa_cons (pv 5) pa_nil)))))))) (pss_one (ps_ret pe_bl)) pss_nil))))))))
   (pss_one (ps_ret pe_bl))), ?_⟩
  refine ⟨_, rfl, _, rfl, a, _, rfl, ha, fun p1 n1 => ?_⟩
  have s1 : Same H (upd H p1 (.lst (cutV (ns.map V.int) none (some 4)))) := Same.upd n1
  refine ⟨_, rfl, a, ns, rfl, sql_same s1 ha, by show 1 ≤ sizeLine; decide, fun p2 n2 => ?_⟩
  have n12 : p1 ≠ p2 := ne_of_none upd_same n2
  refine ⟨p1, p2, _, _, rfl, rfl, Eq.trans (upd_ne n12) upd_same, upd_same, ?_, fun p3 n3 => ?_⟩
  · have q := cutV_length (ns.map V.int) none (some 4)
    rw [List.length_map] at q
    refine Nat.le_of_lt (small1000 ?_)
    show _ + 1 ≤ 1000
    omega
  have e4 : cutV (ns.map V.int) none (some 4) ++ [V.int ns.sum] = (ns.take 4 ++ [ns.sum]).map V.int := by
    have e := cut_take (ns.map V.int) 4
    have e : cutV (ns.map V.int) none (some 4) = _ := e
    rw [e, List.map_append, List.map_take]
    rfl
  have hz : (upd (upd (upd H p1 (.lst (cutV (ns.map V.int) none (some 4)))) p2 (.lst [V.int ns.sum])) p3 (.lst (cutV (ns.map V.int) none (some 4) ++ [V.int ns.sum]))) p3 = some (.lst ((ns.take 4 ++ [ns.sum]).map V.int)) := by rw [upd_same, e4]
  have lzs : (ns.take 4 ++ [ns.sum]).length ≤ 5 := by
    rw [List.length_append, List.length_take, List.length_singleton]
    omega
  generalize ns.take 4 ++ [ns.sum] = zs at hz lzs
  generalize upd (upd (upd H p1 (.lst (cutV (ns.map V.int) none (some 4)))) p2 (.lst [V.int ns.sum])) p3 (.lst (cutV (ns.map V.int) none (some 4) ++ [V.int ns.sum])) = H3 at hz ⊢
  refine ⟨p3, _, rfl, SqL.of hz, ?_⟩
  refine for_it walk_enum (fun i σ G => ∃ v1 v2 v3 v4 v5 v6 v7 : Option V, σ = [some (.ref a), v1, v2, v3, v4, v5, v6, v7] ∧ G p3 = some (.lst (zs.map V.int)))
    ⟨none, none, none, none, none, none, none, rfl, hz⟩ (fun i σ G _ ⟨_, _, _, _, _, _, _, _, h⟩ => SqL.of h) ?_ ?_
  · rintro i y σ G G1 hi ⟨v1, v2, v3, v4, v5, v6, v7, rfl, hG⟩ ⟨q, x1, y1, rfl, nq, rfl, e1, e2⟩
    cases e1
    have e2 : (zs.map V.int)[i]? = some y1 := e2
    rw [List.getElem?_map] at e2
    cases ez : zs[i]? with
    | none =>
      rw [ez] at e2
      cases e2
    | some z =>
    rw [ez] at e2
    cases e2
    have i5 : i < 5 := by
      rw [List.length_map] at hi
      omega
    have m1 : Same G (upd G q (.tup [.int (i : Nat), V.int z])) := Same.upd nq
    refine ⟨_, _, rfl, SqT.of upd_same, rfl, _, _, rfl, _, _, rfl, rfl, ?_⟩
    have hG1 := m1 _ _ hG
    generalize upd G q (.tup [.int (i : Nat), V.int z]) = G1 at hG1
    refine ⟨_, rfl, _, rfl, z, (i : Int), rfl, by omega, by omega, fun G2 st s2 nst S2 => ?_⟩
    have hG2 := s2 _ _ hG1
    refine ⟨_, rfl, st, 16, _, rfl, Nat.le_refl _, S2, by decide, fun G3 v t ok tl ht k3 S3 => ?_⟩
    have nps : p3 ≠ st := fun e => by
      rw [e, nst] at hG1
      cases hG1
    have hG3 := k3 _ _ nps hG2
    refine ⟨_, rfl, _, rfl, st, v, t, _, rfl, ht, ok, S3, by decide, fun G4 u fr hfr okf ew ed pm k4 S4 => ?_⟩
    have hG4 := k4 _ _ nps hG3
    have ht4 := TAt.tk (S3.kb k4) ht
    have FF := fo_of okf.ppl okf.len
    have e16 := FF.wf.at16 FF.len
    have lbF : (belowN (ownl fr.ppl) 16 "").length ≤ 16 := by
      rw [e16.2]
      exact FF.len
    have mm : ∀ y ∈ belowN (ownl fr.ppl) 16 "", y ∈ nmz fr.ppl := fun y hy => FF.pm.mem_iff.mp (by rw [← e16.2]; exact hy)
    have rchF : Rch (("" : Str) :: nmz fr.ppl) (nmz fr.ppl) (ownl fr.ppl) 16 "" := rch_of e16.1 (fun y hy => List.mem_cons.mpr (hy.imp id (mm y))) mm
    refine ⟨_, rfl, u, fr, st, rfl, hfr, okf.ppl, okf.len, S4.some, fun G5 o OW s5 => ?_⟩
    refine ⟨o, st, G4, _, _, _, _, _, _, rfl, OW, rchF, by rw [walk_len]; omega, fun G6 du s6 hdu => ?_⟩
    rw [told_view okf] at hdu
    have hdu : TAt G6 du (walkT fr) := hdu
    have s56 := s5.trans s6
    have S6 := S4.same s56
    have hG6 := s56 _ _ hG4
    have ht6 := TAt.tk (Same.tk s56) ht4
    have hf6 := TAt.tk (Same.tk s56) hfr
    obtain ⟨vW, iW⟩ := walk_view okf
    obtain ⟨shW, eqW⟩ := tr_lay vW.ok
    have okW : TrOk (walkT fr) := vW.ok
    have eqW' : PyData.eqv (trD (walkT fr)) (trD (walkT fr)) = true := eqW
    have ww : walkT (walkT fr) = walkT fr := by
      show (⟨fr.wait, fr.deep, walkP (walkP fr.ppl)⟩ : Tr) = ⟨fr.wait, fr.deep, walkP fr.ppl⟩
      have q := InWalk.walkP okW iW
      have q : walkP (walkP fr.ppl) = walkP fr.ppl := q
      rw [q]
    -- both roads
    refine ⟨_, rfl, _, rfl, _, rfl, st, v, u, t, fr, _, rfl, ht6, hf6, ok, okf, ew.symm, ed.symm, pm, S6, by decide, fun G7 b1 hb1 k7 S7 => ?_⟩
    have ht7 := TAt.tk (S6.kb k7) ht6
    have hf7 := TAt.tk (S6.kb k7) hf6
    refine ⟨_, rfl, _, rfl, _, rfl, st, v, u, t, fr, _, rfl, ht7, hf7, ok, okf, ew.symm, ed.symm, pm, S7, by decide, fun G8 b2 hb2 k8 S8 => ?_⟩
    rw [← ew, ← ed] at hb1 hb2
    have hb1 : TAt G7 b1 (walkT fr) := hb1
    have hb2 : TAt G8 b2 (walkT fr) := hb2
    have hb1' := TAt.tk (S7.kb k8) hb1
    have hd8 := TAt.tk (S7.kb k8) (TAt.tk (S6.kb k7) hdu)
    have ht8 := TAt.tk (S7.kb k8) ht7
    have hf8 := TAt.tk (S7.kb k8) hf7
    have hG8 := k8 _ _ nps (k7 _ _ nps hG6)
    refine ⟨by show 2 ≤ sizeLine; decide, fun q9 hq9 => ?_⟩
    have m9 := Same.upd hq9 (o := .tup [b1, b2])
    refine ⟨q9, rfl, ⟨_, SqT.of upd_same⟩, ?_⟩
    have e9 : (upd G8 q9 (.tup [b1, b2])) q9 = some (.tup [b1, b2]) := upd_same
    generalize upd G8 q9 (.tup [b1, b2]) = G9 at m9 e9 ⊢
    refine for_it walk_tup (fun j σ G => ∃ v7 : Option V, σ = [some (.ref a), some (.int (i : Nat)), some (.int z), some (.ref st), some v, some u, some du, v7] ∧ Same G9 G) ⟨v7, rfl, Same.refl _⟩ (fun j σ G _ ⟨_, _, s⟩ => SqT.of (s _ _ e9)) ?_ ?_
    · rintro j y σ G G10 hj ⟨v7, rfl, s10⟩ ⟨rfl, hy⟩
      have hyw : TAt G10 y (walkT fr) := by
        match j, hj, hy with
        | 0, _, hy =>
          cases hy
          exact TAt.tk (Same.tk (m9.trans s10)) hb1'
        | 1, _, hy =>
          cases hy
          exact TAt.tk (Same.tk (m9.trans s10)) hb2
      have hd10 := TAt.tk (Same.tk (m9.trans s10)) hd8
      have hf10 := TAt.tk (Same.tk (m9.trans s10)) hf8
      refine ⟨_, rfl, _, rfl, trD (walkT fr), trD (walkT fr), (dp_tree hyw).2, (dp_tree hd10).2, shW, shW, _, rfl, ?_⟩
      rw [eqW']
      refine iteF ⟨_, rfl, _, rfl, y, u, walkT fr, fr, rfl, hyw, hf10, okW, okf, ww, fun G11 s11 => ⟨_, rfl, iteF ?_⟩⟩
      obtain ⟨ay, by_, uy, rfl, hay, _, _⟩ := TAt.tk (Same.tk s11) hyw
      refine ⟨_, rfl, _, _, _, _, true, rfl, .ty _, .base (.tup hay), kit_ty (by decide +kernel), _, rfl, iteF ?_⟩
      exact ⟨_, rfl, s10.trans s11⟩
    · rintro σ G ⟨v7, rfl, s10⟩
      have s8 := m9.trans s10
      have S10 := S8.same s8
      have ht10 := TAt.tk (Same.tk s8) ht8
      have hf10 := TAt.tk (Same.tk s8) hf8
      have hG10 := s8 _ _ hG8
      refine ⟨_, rfl, _, rfl, st, v, t, _, rfl, ht10, ok, S10, by decide, fun G11 k11 S11 => ⟨_, rfl, iteF ?_⟩⟩
      refine ⟨_, rfl, _, rfl, st, u, fr, _, rfl, TAt.tk (S10.kb k11) hf10, okf, S11, by decide, fun G12 k12 S12 => ⟨_, rfl, iteF ?_⟩⟩
      exact ⟨_, _, _, _, _, _, _, rfl, k12 _ _ nps (k11 _ _ nps hG10)⟩
  · rintro σ G ⟨v1, v2, v3, v4, v5, v6, v7, rfl, hG⟩
    exact k G
end
end RD
set_option Elab.async false
set_option linter.all false
set_option maxRecDepth 100000
set_option maxHeartbeats 4000000
local macro_rules | `(tactic| walk_at "isT") => `(tactic| refine ⟨_, _, _, _, true, rfl, L2.ClsV.ty _, L2.TyX.base (by first | exact .int _ | exact .str _ | exact .bl _ | exact .non), L2.kit_ty (by decide +kernel), ?_⟩)
local macro_rules | `(tactic| walk_at "isF") => `(tactic| refine ⟨_, _, _, _, false, rfl, L2.ClsV.ty _, L2.TyX.base (by first | exact .int _ | exact .str _ | exact .bl _ | exact .non), L2.kit_ty (by decide +kernel), ?_⟩)
namespace RD
open PySem PySem.Spec PyProof.Rows L2
/-! ### the head -/
section
variable {K : PySem.W.Frag} {mg : Str → Option Value} {h : Heap}
theorem gv_mk {x : Str} {v : V} {u : Value} (X : K.In h) (G : h.Ns mainGlobals mg) (a : PySem.W.nsIn K mainGlobals x = some (some u)) (r : RelV v u) : GV mg x v := ⟨u, PySem.W.mg_of X G a, r⟩
theorem dfn_mk {x : Str} {st : Stmt} {f : Addr} {oc kV doc pm cdv ct : Value} {od an : Option Addr} {osl : Array (Option Value)} (X : K.In h) (G : h.Ns mainGlobals mg) (a : PySem.W.nsIn K mainGlobals x = some (some (.ref f)))
    (l : K.lookup f = some ⟨oc, od, .func (PySem.W.fnOf x x (defArgs st) (defBody st) (defScope st) .none kV doc pm an cdv ct), osl⟩) (c : PySem.W.codeIn K cdv x = true) (k : PySem.W.keepIn K (.ref f) = true) : Dfn K mg x st :=
  ⟨f, _, fun_mk l c k, PySem.W.mg_of X G a⟩
theorem dfd_mk {x : Str} {st : Stmt} {f D : Addr} {oc kV doc pm cdv ct oc2 u : Value} {od an od2 : Option Addr} {osl osl2 : Array (Option Value)} {n : Nat} {v : V} (X : K.In h) (G : h.Ns mainGlobals mg) (a : PySem.W.nsIn K mainGlobals x = some (some (.ref f)))
    (l : K.lookup f = some ⟨oc, od, .func (PySem.W.fnOf x x (defArgs st) (defBody st) (defScope st) (.ref D) kV doc pm an cdv ct), osl⟩) (c : PySem.W.codeIn K cdv x = true) (k : PySem.W.keepIn K (.ref f) = true)
    (d : K.lookup D = some ⟨oc2, od2, .seq #[u] n, osl2⟩) (r : RelV v u) : DfnD K mg x st [v] :=
  ⟨f, _, ⟨⟨oc, od, _, kV, doc, pm, an, cdv, ct, osl, rfl, l, c, .inr ⟨by simp, D, _, [u], n, rfl, d, rfl, .cons r .nil⟩, .inl rfl⟩, k⟩, PySem.W.mg_of X G a⟩
theorem law_fn {P : Program} {w : World} (T : Txt K mg) {fa : Addr} (hfa : mg "law" = some (.ref fa)) :
    ∃ fd : FuncData, (∀ (s : Shared) (v : Value), BindsTo s fd ⟨[v], []⟩ [("_law_script", v)]) ∧ ∀ base : Heap, FnG P w K mg base 24 fa fd ["_law_script"] (sp_law K) := by
  obtain ⟨f, fd, F, hm⟩ := T.d_law.ex
  have e := hfa.symm.trans hm
  cases e
  refine ⟨fd, fun s v => ?_, fun base => fn_guarded F sc_law (fun vs H Q E q => by obtain ⟨a, ns, rfl, _⟩ := q; rfl) (cal_law T)⟩
  obtain ⟨oc, od, kV, doc, pm, an, cdv, ct, osl, rfl, _⟩ := F.ex
  exact .of_eq rfl
end
theorem walk_law {l : PySem.W.OpenLaw} {q : Program} {loose : List Str} {XP : (Str → Option Value) → Heap → Prop} {YP : World → Heap → Prop} {d : DefRec} {K : Params → PySem.W.Frag} (hn : l.most = some 63) (hdf : d.params.defaults = [])
    (hY : ∀ (w : World) (h : Heap), YP w h → (K w.params).In h) (hd : d.name = "law")
    (F : ∀ (w : World) (mg : Str → Option Value) (h : Heap), (K w.params).In h → h.Ns mainGlobals mg → Txt (K w.params) mg) :
    PySem.W.WalkO q loose XP YP l.row.toRowW d [] (fun f vs => PySem.call f vs) := by
  refine _root_.Att.attach_call hn hdf fun w s₀ s₁ mg mb fa o pm cd doc a vs ns G Y ho hdd hcd hmg hobj hints hlen hg => ?_
  have KX := hY w _ Y
  obtain ⟨fd, hb, hF⟩ := law_fn (P := l.prog) (w := w) (F w mg _ KX G.T.g) (by rw [← hd]; exact hmg)
  exact law_guarded KX G.T.g G.T.b G.T.builtins G.T.nolimit hg hobj hints (Nat.le_trans hlen (by decide)) ⟨rfl, by decide, by decide⟩ (fun base _ _ => hF base) hb fun H seq => ⟨a, ns, rfl, seq, hlen, fun _ => rfl⟩
end RD
set_option Elab.async false
set_option linter.all false
set_option maxRecDepth 100000
open PySem PySem.W PyProof.Rows
set_option maxRecDepth 100000 in
set_option maxHeartbeats 0 in
theorem PySem.Challenge.cw_ringdown_k59_whole_from_any_tree_to_any_holds : PySem.Challenge.rw_ringdown_k59_whole_from_any_tree_to_any.Holds := by
  w_on; o_law; k_head; (case hw => w_witness2)
  k_fill
  refine RD.walk_law (l := PySem.Challenge.rw_ringdown_k59_whole_from_any_tree_to_any) rfl rfl (fun w h Y => PySem.W.kIn_of Y) rfl ?F
  case F =>
    intro w mg h KX G
    constructor
    · refine' RD.gv_mk KX G ?a ?r
      (case a => k_is); (case r => first | exact ⟨_, rfl⟩ | exact rfl)
    · refine' RD.gv_mk KX G ?a ?r
      (case a => k_is); (case r => first | exact ⟨_, rfl⟩ | exact rfl)
    · refine' RD.gv_mk KX G ?a ?r
      (case a => k_is); (case r => first | exact ⟨_, rfl⟩ | exact rfl)
    · refine' RD.gv_mk KX G ?a ?r
      (case a => k_is); (case r => first | exact ⟨_, rfl⟩ | exact rfl)
    · refine' RD.gv_mk KX G ?a ?r
      (case a => k_is); (case r => first | exact ⟨_, rfl⟩ | exact rfl)
    · refine' RD.gv_mk KX G ?a ?r
      (case a => k_is); (case r => first | exact ⟨_, rfl⟩ | exact rfl)
    · refine' RD.gv_mk KX G ?a ?r
      (case a => k_is); (case r => first | exact ⟨_, rfl⟩ | exact rfl)
    · exact PySem.W.mg_none_of KX G (by k_is)
    · exact PySem.W.mg_none_of KX G (by k_is)
    · exact PySem.W.mg_none_of KX G (by k_is)
    · exact PySem.W.mg_none_of KX G (by k_is)
    · exact PySem.W.mg_none_of KX G (by k_is)
    · exact PySem.W.mg_none_of KX G (by k_is)
    · exact PySem.W.mg_none_of KX G (by k_is)
    · exact PySem.W.mg_none_of KX G (by k_is)
    · exact PySem.W.mg_none_of KX G (by k_is)
    · exact PySem.W.mg_none_of KX G (by k_is)
    · exact PySem.W.mg_none_of KX G (by k_is)
    · exact PySem.W.mg_none_of KX G (by k_is)
    · refine' RD.dfn_mk KX G ?a ?l ?c ?k
      (case a => k_is); (case l => k_is); (case c => k_is); (case k => k_is)
    · refine' RD.dfn_mk KX G ?a ?l ?c ?k
      (case a => k_is); (case l => k_is); (case c => k_is); (case k => k_is)
    · refine' RD.dfn_mk KX G ?a ?l ?c ?k
      (case a => k_is); (case l => k_is); (case c => k_is); (case k => k_is)
    · refine' RD.dfn_mk KX G ?a ?l ?c ?k
      (case a => k_is); (case l => k_is); (case c => k_is); (case k => k_is)
    · refine' RD.dfn_mk KX G ?a ?l ?c ?k
      (case a => k_is); (case l => k_is); (case c => k_is); (case k => k_is)
    · refine' RD.dfn_mk KX G ?a ?l ?c ?k
      (case a => k_is); (case l => k_is); (case c => k_is); (case k => k_is)
    · refine' RD.dfn_mk KX G ?a ?l ?c ?k
      (case a => k_is); (case l => k_is); (case c => k_is); (case k => k_is)
    · refine' RD.dfn_mk KX G ?a ?l ?c ?k
      (case a => k_is); (case l => k_is); (case c => k_is); (case k => k_is)
    · refine' RD.dfn_mk KX G ?a ?l ?c ?k
      (case a => k_is); (case l => k_is); (case c => k_is); (case k => k_is)
    · refine' RD.dfn_mk KX G ?a ?l ?c ?k
      (case a => k_is); (case l => k_is); (case c => k_is); (case k => k_is)
    · refine' RD.dfn_mk KX G ?a ?l ?c ?k
      (case a => k_is); (case l => k_is); (case c => k_is); (case k => k_is)
    · refine' RD.dfn_mk KX G ?a ?l ?c ?k
      (case a => k_is); (case l => k_is); (case c => k_is); (case k => k_is)
    · refine' RD.dfn_mk KX G ?a ?l ?c ?k
      (case a => k_is); (case l => k_is); (case c => k_is); (case k => k_is)
    · refine' RD.dfn_mk KX G ?a ?l ?c ?k
      (case a => k_is); (case l => k_is); (case c => k_is); (case k => k_is)
    · refine' RD.dfn_mk KX G ?a ?l ?c ?k
      (case a => k_is); (case l => k_is); (case c => k_is); (case k => k_is)
    · refine' RD.dfn_mk KX G ?a ?l ?c ?k
      (case a => k_is); (case l => k_is); (case c => k_is); (case k => k_is)
    · refine' RD.dfn_mk KX G ?a ?l ?c ?k
      (case a => k_is); (case l => k_is); (case c => k_is); (case k => k_is)
    · refine' RD.dfn_mk KX G ?a ?l ?c ?k
      (case a => k_is); (case l => k_is); (case c => k_is); (case k => k_is)
    · refine' RD.dfn_mk KX G ?a ?l ?c ?k
      (case a => k_is); (case l => k_is); (case c => k_is); (case k => k_is)
    · refine' RD.dfn_mk KX G ?a ?l ?c ?k
      (case a => k_is); (case l => k_is); (case c => k_is); (case k => k_is)
    · refine' RD.dfn_mk KX G ?a ?l ?c ?k
      (case a => k_is); (case l => k_is); (case c => k_is); (case k => k_is)
    · refine' RD.dfn_mk KX G ?a ?l ?c ?k
      (case a => k_is); (case l => k_is); (case c => k_is); (case k => k_is)
    · refine' RD.dfn_mk KX G ?a ?l ?c ?k
      (case a => k_is); (case l => k_is); (case c => k_is); (case k => k_is)
    · refine' RD.dfn_mk KX G ?a ?l ?c ?k
      (case a => k_is); (case l => k_is); (case c => k_is); (case k => k_is)
    · refine' RD.dfn_mk KX G ?a ?l ?c ?k
      (case a => k_is); (case l => k_is); (case c => k_is); (case k => k_is)
    · refine' RD.dfn_mk KX G ?a ?l ?c ?k
      (case a => k_is); (case l => k_is); (case c => k_is); (case k => k_is)
    · refine' RD.dfn_mk KX G ?a ?l ?c ?k
      (case a => k_is); (case l => k_is); (case c => k_is); (case k => k_is)
    · refine' RD.dfn_mk KX G ?a ?l ?c ?k
      (case a => k_is); (case l => k_is); (case c => k_is); (case k => k_is)
    · refine' RD.dfn_mk KX G ?a ?l ?c ?k
      (case a => k_is); (case l => k_is); (case c => k_is); (case k => k_is)
    · refine' RD.dfn_mk KX G ?a ?l ?c ?k
      (case a => k_is); (case l => k_is); (case c => k_is); (case k => k_is)
    · refine' RD.dfn_mk KX G ?a ?l ?c ?k
      (case a => k_is); (case l => k_is); (case c => k_is); (case k => k_is)
    · refine' RD.dfn_mk KX G ?a ?l ?c ?k
      (case a => k_is); (case l => k_is); (case c => k_is); (case k => k_is)
    · refine' RD.dfn_mk KX G ?a ?l ?c ?k
      (case a => k_is); (case l => k_is); (case c => k_is); (case k => k_is)
    · refine' RD.dfn_mk KX G ?a ?l ?c ?k
      (case a => k_is); (case l => k_is); (case c => k_is); (case k => k_is)
    · refine' RD.dfn_mk KX G ?a ?l ?c ?k
      (case a => k_is); (case l => k_is); (case c => k_is); (case k => k_is)
    · refine' RD.dfd_mk KX G ?a ?l ?c ?k ?d ?r
      (case a => k_is); (case l => k_is); (case c => k_is); (case k => k_is); (case d => k_is); (case r => first | exact rfl | exact ⟨_, rfl⟩)
    · refine' RD.dfd_mk KX G ?a ?l ?c ?k ?d ?r
      (case a => k_is); (case l => k_is); (case c => k_is); (case k => k_is); (case d => k_is); (case r => first | exact rfl | exact ⟨_, rfl⟩)
    · refine' RD.dfd_mk KX G ?a ?l ?c ?k ?d ?r
      (case a => k_is); (case l => k_is); (case c => k_is); (case k => k_is); (case d => k_is); (case r => first | exact rfl | exact ⟨_, rfl⟩)
    · refine' RD.dfd_mk KX G ?a ?l ?c ?k ?d ?r
      (case a => k_is); (case l => k_is); (case c => k_is); (case k => k_is); (case d => k_is); (case r => first | exact rfl | exact ⟨_, rfl⟩)
    · refine' RD.dfd_mk KX G ?a ?l ?c ?k ?d ?r
      (case a => k_is); (case l => k_is); (case c => k_is); (case k => k_is); (case d => k_is); (case r => first | exact rfl | exact ⟨_, rfl⟩)
#print axioms PySem.Challenge.cw_ringdown_k59_whole_from_any_tree_to_any_holds
