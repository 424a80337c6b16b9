import PyProof.Rows.All
import Wide.All
import OpenK.AllK
import Wide.FinOn
import KE.KStateDown
import KE.GoesEnum
import HandS.ForMost
import HandS.Defaults
import HandS.DictComp
import HandS.IsInst
import HandS.TupAny
import HandS.Wide
import HandS.Conv
import HandS.Flow
import HandS.Sort
import HandS.HeadHook1
import HandS.HeadHook2
import HandS.Walk
import HandS.Exc
import HandS.Property
import HandS.SlotsOwn
import HandS.SortRule
import HandS.SortOrd
import KE.KSortTup
import HandS.ExcInit
import HandS.ExcOwn
import HandS.Nested
import KE.KExcSuper
import HandS.TryOnly
import HandS.WordsExc
import HandS.ExcField
import HandS.ExcIs
import HandS.CallSlots
import HandS.Codes
import PySem.Challenge.RW_loopsheds_k07_whole_within
import OpenK.KEqL
import PyProof.Rows.StrMeet
import PyProof.Rows.TmSorted
import PyProof.P3Eq
import HandS.MakeKwOnly
import HandS.More
import HandS.ClsMeth
import HandS.Rev
import PyProof.MeetsIn
import PyProof.Rows.Range3
import HandS.HeadNt
import HandS.Head0
import HandS.Head1
import HandS.Head2
import HandS.HeadEnd
set_option Elab.async false
set_option linter.all false
set_option maxRecDepth 100000
set_option maxHeartbeats 0
/-! ### rules of our own -/
namespace Ls
open PySem PySem.Spec PyProof.Rows L2
/-! a def of the module, a class, as callers need them -/
structure Cal (P : Program) (w : World) (K : PySem.W.Frag) (mg : Str → Option Value) (base : Heap) (k : Nat) (x : Str) (sp : Sp) (dvs : List V) : Prop where
  ex : ∃ (f : Addr) (fd : FuncData) (ps : List Str) (ds : List Value), FnOk P w K mg base CX0 k f fd ps sp ∧ mg x = some (.ref f) ∧ PySem.W.keepIn K (.ref f) = true ∧ Binds K fd ps ds ∧ Vals dvs ds
structure Mak (P : Program) (w : World) (K : PySem.W.Frag) (mg : Str → Option Value) (base : Heap) (k : Nat) (x : Str) (C : Addr) (sp : Sp) (dvs : List V) : Prop where
  ex : ∃ (f : Addr) (fd : FuncData) (ps : List Str) (ds : List Value), Mk K C f ∧ FnOk P w K mg base CX0 k f fd ps sp ∧ mg x = some (.ref C) ∧ Binds K fd ps ds ∧ Vals dvs ds
section
variable {X : Cx} {e : Expr} {es : List Expr} {t : TA} {p pos : Pos} {x : Str} {k j : Nat} {sp : Sp} {dvs : List V} {C : Addr}
theorem pe_c (c : Cal X.prog X.w X.K X.mg X.base k x sp dvs) (hr : Room j X.A) (hk : k ≤ j) (hg : Gl X x) (ha : PA X (e :: es) t) (hdb : (x == ("__debug__" : Str)) = false := by decide)
    (he : starEach (e :: es) X.env = (false, eval e X.env) :: starEach es X.env := by rfl) (hpl : (backTo pos (starEach es X.env)).any (·.1) = false := by rfl) : PE X (.Call (.Name x p) (e :: es) [] pos) (tCall sp dvs E0 t) := by
  have ⟨f, fd, ps, ds, F, hm, kp, b, d⟩ := c.ex
  exact pe_call F (hr.mono hk) hg hm kp b d pass0 ha hdb he hpl
theorem pe_mk (c : Mak X.prog X.w X.K X.mg X.base k x C sp dvs) (hr : Room j X.A) (hk : k + 1 ≤ j) (hg : Gl X x) (ha : PA X (e :: es) t) (hdb : (x == ("__debug__" : Str)) = false := by decide)
    (he : starEach (e :: es) X.env = (false, eval e X.env) :: starEach es X.env := by rfl) (hpl : (backTo pos (starEach es X.env)).any (·.1) = false := by rfl) : PE X (.Call (.Name x p) (e :: es) [] pos) (tMake C sp dvs E0 t) := by
  have ⟨f, fd, ps, ds, M, F, hm, b, d⟩ := c.ex
  exact pe_make M F (hr.mono hk) hg hm b d pass0 ha hdb he hpl
/-- a module's constant -/
theorem pe_gi {i : Int} (hg : Gl X x) (h : ∃ t, X.mg x = some (.int i t)) (hdb : (x == ("__debug__" : Str)) = false := by decide) : PE X (.Name x pos) (tC (.int i)) := by
  have ⟨t, ht⟩ := h
  exact pe_glob (v := .int i) hg ht ⟨t, rfl⟩ hdb
end
/-! x = {k: v for ..} on one line, x a local -/
section
variable {X : Cx}
theorem ps_setDc {i : Nat} {y : Str} {py : Pos} {kx vx tg iter : Expr} {ifs : List Expr} {scope : Scope} {own : List (Str × Nat)} {pos spos : Pos} {wi : TI} {g : TG} {tt : TT} {tk tv : TE} (hc : X.calm = true) (hN : X.N.Nodup) (hy : X.N[i]? = some y) (hyl : X.env.scope.names.lookup y = some .local)
    (hsw : swapsWith (.DictComp kx vx [⟨tg, iter, ifs, 0⟩] scope pos) (some (.Name y py)) spos.line X.env = pure true) (hi : PI X tg iter wi) (ok : BlkOk X.N X.env.scope scope own)
    (hg : ∀ (s : Shared) (H : Hp) (C : Addr) (cl : List (Str × Addr)) (fp : List Addr), PG (X.blk s H scope (compEnvC scope cl C X.env) fp) tg g) (ht : ∀ (s : Shared) (H : Hp) (C : Addr) (cl : List (Str × Addr)) (fp : List Addr), PTs (X.blk s H scope (compEnvC scope cl C X.env) fp) ifs tt)
    (hk : ∀ (s : Shared) (H : Hp) (C : Addr) (cl : List (Str × Addr)) (fp : List Addr), PE (X.blk s H scope (compEnvC scope cl C X.env) fp) kx tk)
    (he : ∀ (s : Shared) (H : Hp) (C : Addr) (cl : List (Str × Addr)) (fp : List Addr), PE (X.blk s H scope (compEnvC scope cl C X.env) fp) vx tv) (hs : ∀ x, foldedSetIterable iter X.env x = pure x := by intro _; rfl) :
    PS X (.Assign [.Name y py] (.DictComp kx vx [⟨tg, iter, ifs, 0⟩] scope pos) spos) (tAsg (tDc wi g tt tk tv (own.map (·.2))) (gName i)) := by
  refine ⟨fun pins s0 σ0 H0 D I0 h0 => ?_⟩
  rw [exec_Assign_Name_used _ _ _ _ hsw]
  refine wpAny_bind (wpAny_standAt (wpAny_bind ?_))
  show wpAny _ X.A (do let _ ← comprehension (.DictComp kx vx [⟨tg, iter, ifs, 0⟩] scope pos) scope X.env (firstIterPos [⟨tg, iter, ifs, 0⟩] pos) newDict false (eval iter X.env) (some (assign (.Name y py) X.env))) _ _ s0
  have h1 : tDc wi g tt tk tv (own.map (·.2)) σ0 H0 (fun x H1 => gName i x σ0 H1 D.nx) := h0
  refine wpAny_bind (thn (dc_core (Qf := fun _ s' => SP X pins D .next s') hc hN I0 hi ok hg ht hk he hs h1 fun L C s1 m H1 I1 q1 n1 f1 => ?_) fun _ _ hq => wpAny_pure (wpAny_pure hq))
  show wpAny _ _ (assign (.Name y py) X.env (.ref L)) _ _ _
  refine wpAny_assign_Name (store_ok2 (v := V.ref L) I1 hN hy (.inl hyl) rfl (fun s2 I2 ⟨a, sb, ha⟩ => ?_) (.inr hyl))
  have ⟨g0, g1, g2, g3, g4, g5⟩ := f1
  have hCa : C ≠ a := ha.elim (fun z => by rw [z]; exact g1) fun z e => g4 y a z e.symm
  exact ⟨m, n1.sameBut sb hCa, fun h3 sb3 => ⟨_, H1, I2.turned (t' := s2.toks) (fun b o hb e => (sb3.2 b hb).trans e) g0 g1 g3 g4 g5, q1⟩⟩
theorem sw_trueD {kx vx : Expr} {gs : List Comprehension} {scope : Scope} {pos py : Pos} {y : Str} {l : Nat} {env : Env} (hk : env.scope.kind = .function) (hy : env.scope.names.lookup y = some .local) (hl : (py.line == pos.line) = true)
    (ha : (scope.names.any fun (n, k) => n == y && (k == .local || k == .cell)) = false) : swapsWith (.DictComp kx vx gs scope pos) (some (.Name y py)) l env = pure true := by
  have k1 : env.kindOf y = some .local := hy
  have k2 : env.blockKind = .function := by rw [Env.blockKind, hk]; rfl
  simp only [swapsWith, k2, k1, ha, Expr.pos, hl]
  rfl
end
/-! for i, x in enumerate(a tuple) -/
def IteT (K : PySem.W.Frag) (a : Addr) : It :=
  ⟨fun i H => ∃ (xs : List V) (x : V), SqT K H a xs ∧ xs[i]? = some x, fun i H v H' => ∃ T x, v = .ref T ∧ H T = none ∧ H' = upd H T (.tup [.int (i : Nat), x]) ∧ ∀ xs, SqT K H a xs → xs[i]? = some x, fun i H => ∃ xs : List V, SqT K H a xs ∧ xs.length ≤ i⟩
theorem meets_enum1 {v : Value} {o : Obj} {H : Heap → Prop} (B : Begins v o H) :
    Meets (Builtin.«enumerate.__new__» ⟨[.type "enumerate", v], []⟩) (fun _ R s => H s.heap ∧
      R (.ok (.ret (.ref (s.heap.push o).objs.size))) { s with heap := (s.heap.push o).push { cls := .type "enumerate", data := .fields #[.none, .bool false, .ref s.heap.objs.size, rawInt 0, .none, .none] } }) :=
  .of_wp fun prog w A R s h => by
    obtain ⟨hp, g, d, tk, os⟩ := s; have ⟨h1, h2⟩ := h
    have hsub := sub_enumerate
    have q1 : ∀ {A' : Around} {E : Value → Shared → Prop} {Q : Value → Shared → Prop}, Q (.ref hp.objs.size) ⟨hp.push o, g, d, tk, os⟩ → wpAny (model prog w) A' (pyIter v) Q E ⟨hp, g, d, tk, os⟩ :=
      fun q => B.iter prog w _ _ ⟨hp, g, d, tk, os⟩ _ h1 q
    wp_walk using q1
    refine wpAny_stack_any fun st => wpAny_pure ?_
    split
    · rename_i c _ _ _ _ _
      cases (c == Value.type "enumerate") <;> (wp_walk using q1; exact ⟨_, rfl, h2⟩)
    · wp_walk using q1
      exact ⟨_, rfl, h2⟩
theorem enum_begins1 {prog : Program} {w : World} {A : Around} {E : Value → Shared → Prop} {s : Shared} {v : Value} {o : Obj} {H : Heap → Prop} {Q : Value → Shared → Prop} (B : Begins v o H) (h1 : H s.heap)
    (h : ∀ h', IsEnum h' (s.heap.objs.size + 1) s.heap.objs.size 0 .none → h'.get? s.heap.objs.size = some o → h'.objs.size = s.heap.objs.size + 2 → (∀ b o, s.heap.get? b = some o → h'.get? b = some o) → Q (.ref (s.heap.objs.size + 1)) { s with heap := h' }) :
    wpAny (model prog w) A (call (.type "enumerate") [v]) Q E s := by
  refine callType_new F.called_enumerate (by decide) (F.typeCall_enumerate_1 _) (F.newCall_enumerate_1 _) (fun obj => F.args_object_init_2 obj _) F.entry_enumerate_new (meets_enum1 B) ⟨h1, ?_⟩
  have hz : (s.heap.push o).objs.size = s.heap.objs.size + 1 := Heap.size_push ..
  show _ ∧ _; rw [hz]
  have he : IsEnum ((s.heap.push o).push { cls := .type "enumerate", data := .fields #[.none, .bool false, .ref s.heap.objs.size, rawInt 0, .none, .none] }) (s.heap.objs.size + 1) s.heap.objs.size 0 .none := by
    have := Heap.get?_push_size (s.heap.push o) (o := { cls := .type "enumerate", data := .fields #[.none, .bool false, .ref s.heap.objs.size, rawInt 0, .none, .none] }) rfl
    rwa [hz] at this
  exact ⟨⟨_, he, rfl⟩, h _ he (Heap.get?_push_of_some _ (Heap.get?_push_size _ B.free)) (by rw [Heap.size_push, hz]) fun b o x => Heap.get?_push_of_some _ (Heap.get?_push_of_some _ x)⟩
theorem turn_enumT {P : Program} {w : World} {K : PySem.W.Frag} {elts : List Expr} {kk : Nat} {tpos : Pos} (a e it : Addr) :
    Turn P w K (.Tuple elts kk tpos) (IteT K a) [e, it] e (fun i h => (∃ old, IsEnum h e it ((i : Nat) : Int) old) ∧ h.IsTupleIter it a i ∧ e ≠ it ∧ a ≠ it ∧ a ≠ e) where
  mem := List.mem_cons_self
  obj := fun i h st b hb => by
    have ⟨⟨old, he⟩, ⟨o, ho, hc, hd⟩, _⟩ := st
    rcases (show b = e ∨ b = it by simpa using hb) with z | z <;> rw [z]
    · exact ⟨_, he, fun v q => nomatch q⟩
    · exact ⟨o, ho, fun v q => by rw [hd] at q; cases q⟩
  keep := fun i h h' st k => ⟨st.1.imp fun old he => k e (by simp) _ he, st.2.1.at fun o q => k it (by simp) o q, st.2.2⟩
  item := fun X hP hw hK hc i pins s σ H E I hf st hg => by
    subst hP hw hK
    have ⟨⟨old, he⟩, hit, hne, hai, hae⟩ := st
    have ⟨xs, x, hq, hx⟩ := hg
    have ⟨its, rv, p, hz⟩ := I.tuple hq
    have ⟨u, hu, ru⟩ := rv.get hx
    have hel : e < s.heap.objs.size := Heap.lt_size he
    have hil : it < s.heap.objs.size := hit.elim fun _ q => Heap.lt_size q.1
    have hlt : i < its.toArray.size := by rw [List.size_toArray]; exact (List.getElem?_eq_some_iff.mp hu).1
    have pt : s.heap.IsTuple a its.toArray := p
    refine wpAny_pyNext_enum_itemD (Draws.tuple (A := X.A.in1) (show X.A.in1.handled = none from I.ok.hd hc) it a hai its.toArray) he ⟨hit, pt⟩ hlt hne (by simp [hne, hae.symm]) fun x' h' tk hPx ho hst' hT hsz hk => ?_
    have ex : x' = u := by
      have z : its.toArray[i]? = some x' := hPx
      rw [List.getElem?_toArray, hu] at z
      exact (Option.some.inj z).symm
    subst ex
    refine ⟨_, rfl, wpAny_letOwnedTupleGo_enum (s := { s with heap := h', toks := tk + 1 }) ho fun h'' he' sb => ?_⟩
    have hT2 : h''.get? s.heap.objs.size = some { cls := .type "tuple", data := .seq #[.int i tk, x'] } := (sb.2 _ (Nat.ne_of_gt hel)).trans hT
    have new : ObjOk X.prog X.w (upd H s.heap.objs.size (.tup [.int (i : Nat), x])) h'' s.heap.objs.size (.tup [.int (i : Nat), x]) := ⟨(by decide : 2 ≤ sizeLine), [.int i tk, x'], .cons ⟨_, rfl⟩ (.cons ru .nil), ⟨_, hT2, rfl, _, rfl⟩⟩
    have lt' : ∀ b, b ∈ [e, it] → b < s.heap.objs.size := fun b hb => by
      rcases (show b = e ∨ b = it by simpa using hb) with z | z <;> rw [z] <;> assumption
    have I1 : Inv X pins σ (upd H s.heap.objs.size (.tup [.int (i : Nat), x])) { s with heap := h'', toks := tk + 1 } :=
      I.turnedNew (ch := [e, it]) (fun b ob hb q => (sb.2 b fun z => hb (by simp [z])).trans (hk b ob (fun z => hb (by simp [z])) (fun z => hb (by simp [z])) q)) hf (Nat.le_refl _) new
    refine ⟨.ref s.heap.objs.size, _, I1, rfl, ⟨_, x, rfl, I.hok.fresh (Nat.le_refl _), rfl, fun ys hy => by rw [I.tuple_inj hy hq]; exact hx⟩, ⟨⟨x', ?_⟩, hst'.1.at fun o q => (sb.2 it (Ne.symm hne)).trans q, hne, hai, hae⟩, fun b hb => ?_⟩
    · rw [show ((i + 1 : Nat) : Int) = (i : Int) + 1 by omega]; exact he'
    · rw [upd_ne (Nat.ne_of_lt (lt' b hb))]
      exact (hf b hb).1
  done := fun X hP hw hK hc i pins s σ H E I hf st hg => by
    subst hP hw hK
    have ⟨⟨old, he⟩, hit, hne, hai, hae⟩ := st
    have ⟨xs, hq, hx⟩ := hg
    have ⟨its, rv, p, hz⟩ := I.tuple hq
    have ⟨f0, f1, f2, f3, f4, f5⟩ := hf it (by simp)
    have hl := rv.length
    have pt : s.heap.IsTuple a its.toArray := p
    have D0 : Draws X.prog X.w X.A.in1 it [it, a] 0 (fun _ _ => False) (fun _ h => h.IsTupleIter it a i ∧ h.IsTuple a its.toArray) :=
      { live := fun _ _ st => st.1.imp fun _ q => q.1
        frame := fun _ _ _ st hk => ⟨st.1.at fun o e => hk it (by simp) o e, st.2.at fun o e => hk a (by simp) o e⟩
        item := fun j s Q E hj => absurd hj (Nat.not_lt_zero _)
        done := fun s Q E st hE => wpAny_nextOf_tuple_end (show X.A.in1.handled = none from I.ok.hd hc) st.1 st.2 (by simp; omega) hE }
    exact wpAny_pyNext_enum_endD D0 he ⟨hit, pt⟩ fun h' eb => ⟨rfl, I.turned (t' := s.toks) (fun b o hb q => eb b o hb q) f0 f1 f3 f4 f5⟩
  self := fun A i s Q E st h => st.1.elim fun _ he => wpAny_pyIter_enum he h
def iEnumT (K : PySem.W.Frag) (ta : TA) : TI := fun σ H R => ta σ H fun vs H1 => ∃ a xs, vs = [.ref a] ∧ SqT K H1 a xs ∧ R (IteT K a) H1
theorem pi_enumT {X : Cx} {e : Expr} {ta : TA} {p pos tpos : Pos} {elts : List Expr} {kk : Nat} (hg : Gl X "enumerate") (hm : X.mg "enumerate" = none) (ha : PA X [e] ta) (hs : starEach [e] X.env = [(false, eval e X.env)] := by rfl) :
    PI X (.Tuple elts kk tpos) (.Call (.Name "enumerate" p) [e] [] pos) (iEnumT X.K ta) := by
  refine ⟨fun pins s0 σ0 H0 R I0 h0 => ?_⟩
  refine Call_ (ld_blt I0 hg hm boot_enumerate (PyProof.Rows.callWith_type1 (thn (ha.run pos pins s0 σ0 H0 _ I0 h0) fun us s1 ⟨vs, H1, I1, r1, q1⟩ => ?_) hs rfl))
  have ⟨a, xs, ex, hq, q⟩ := q1
  subst ex
  cases r1 with
  | cons r rr =>
    cases rr; cases r
    have ⟨its, rv, p', hz⟩ := I1.tuple hq
    have pt : s1.heap.IsTuple a its.toArray := p'
    refine enum_begins1 (begins_tuple a its.toArray) pt fun h' he hit hsz hk => wpAny_pyIter_enum he ?_
    have I2 : Inv X pins σ0 H1 { s1 with heap := h' } := I1.kept (t' := s1.toks) hk
    have hal : a < s1.heap.objs.size := pt.elim fun _ q => Heap.lt_size q.1
    refine ⟨s1.heap.objs.size + 1, [s1.heap.objs.size + 1, s1.heap.objs.size], _, _, H1, rfl, I2, turn_enumT a (s1.heap.objs.size + 1) s1.heap.objs.size, ⟨⟨.none, he⟩, ⟨_, hit, rfl, rfl⟩, Nat.succ_ne_self _, Nat.ne_of_lt hal, Nat.ne_of_lt (Nat.lt_succ_of_lt hal)⟩, fun b hb => ?_, q⟩
    have hle : s1.heap.objs.size ≤ b := by
      rcases (show b = s1.heap.objs.size + 1 ∨ b = s1.heap.objs.size by simpa using hb) with z | z <;> rw [z]
      · exact Nat.le_add_right _ _
      · exact Nat.le_refl _
    exact I1.fpOk hle (I1.hok.fresh hle)
/-! the same rules with the written part by its name (their readings must not name a comprehension's own block) -/
section
variable {X : Cx} (K : PySem.W.Frag)
def rLenQ : List V → Hp → VK → Prop := fun xs H Q => ∃ p ys, xs = [.ref p] ∧ (SqL K H p ys ∨ SqT K H p ys) ∧ Q (.int ys.length) H
def rListQ : List V → Hp → VK → Prop := fun xs H Q => ∃ p ys, xs = [.ref p] ∧ (SqL K H p ys ∨ SqT K H p ys) ∧ ∀ l, H l = none → Q (.ref l) (upd H l (.lst ys))
def rTupQ : List V → Hp → VK → Prop := fun xs H Q => ∃ p ys, xs = [.ref p] ∧ (H p = some (.lst ys) ∨ H p = some (.tup ys)) ∧ ∀ H' l, Same H H' → (H l = none ∨ l = p) → H' l = some (.tup ys) → Q (.ref l) H'
theorem kLen (h : X.K = K := by rfl) : CallR X (.builtin "len") (rLenQ K) := by subst h; exact call_len_seq
theorem kList (h : X.K = K := by rfl) : CallR X (.type "list") (rListQ K) := by subst h; exact call_list_of
theorem kTuple : CallR X (.type "tuple") rTupQ := fun pins s σ H xs us Q I r ⟨p, ys, ex, hp, q⟩ =>
  call_tuple_of pins s σ H xs us Q I r ⟨p, ys, ex, hp.elim (fun h => .inl ⟨.inl (.inl h), fun l nl => q _ l (fun b x e => by rw [upd_ne (ne_of_none e nl)]; exact e) (.inl nl) upd_same⟩) fun h => .inr ⟨.inl (.inl h), q H p (Same.refl H) (.inr rfl) h⟩⟩
theorem kSum (hc : X.calm = true) (h : X.K = K := by rfl) : CallR X (.builtin "sum") (rSum K) := by subst h; exact cr_sum hc
theorem kAll (hc : X.calm = true) (h : X.K = K := by rfl) : CallR X (.builtin "all") (rAll K) := by subst h; exact cr_all hc
theorem kSortedS (h : X.K = K := by rfl) : CallR X (.builtin "sorted") (rSortedS K) := by subst h; exact cr_sortedS
theorem kIsi (h : X.K = K := by rfl) : CallR X (.builtin "isinstance") (rIsi K) := by subst h; exact call_isi
theorem kIsiT (h : X.K = K := by rfl) : CallR X (.builtin "isinstance") (rIsiT K) := by subst h; exact call_isiT
theorem kEqD (hu : X.A.units + 64 < cLine) (h : X.K = K := by rfl) : OpR X (compareOp .Eq) (rEqD K) := by subst h; exact op_eqD hu
theorem kNeD (hu : X.A.units + 64 < cLine) (h : X.K = K := by rfl) : OpR X (compareOp .NotEq) (rNeD K) := by subst h; exact op_neD hu
theorem kIn (h : X.K = K := by rfl) : OpR X (compareOp .In) (rIn K false) := by subst h; exact op_in_seq
theorem kNotIn (h : X.K = K := by rfl) : OpR X (compareOp .NotIn) (rIn K true) := by subst h; exact op_notIn_seq
/-- tuple + tuple, a part of a tuple, tuple(x): a tuple stands there, new or not -/
def rCatU : R2 := fun x y H Q => ∃ a b xs ys, x = .ref a ∧ y = .ref b ∧ H a = some (.tup xs) ∧ H b = some (.tup ys) ∧ xs.length + ys.length ≤ sizeLine ∧ ∀ H' p, Same H H' → (H p = none ∨ p = a ∨ p = b) → H' p = some (.tup (xs ++ ys)) → Q (.ref p) H'
theorem new_same {H : Hp} {p : Addr} {o : HO} (h : H p = none) : Same H (upd H p o) := fun b x e => by rw [upd_ne (ne_of_none e h)]; exact e
theorem kCatT : OpR X (binaryOp .Add) rCatU := fun pins s σ H x y v u Q I rx ry ⟨a, b, xs, ys, ex, ey, ha, hb, hl, q⟩ =>
  op_catA pins s σ H x y v u Q I rx ry ⟨a, b, xs, ys, ex, ey, .inl (.inl ha), .inl (.inl hb), hl, fun e => by subst e; exact q H b (Same.refl H) (.inr (.inr rfl)) hb, fun _ e => by subst e; exact q H a (Same.refl H) (.inr (.inl rfl)) (by rw [List.append_nil]; exact ha), fun _ _ p np => q _ p (new_same np) (.inl np) upd_same⟩
def rSlU : V → Option Int → Option Int → Hp → VK → Prop := fun x lo hi H Q => ∃ a xs, x = .ref a ∧ H a = some (.tup xs) ∧ ∀ H' p, Same H H' → (H p = none ∨ p = a) → H' p = some (.tup (cutV xs lo hi)) → Q (.ref p) H'
theorem kSlT : SlR X rSlU := fun pins s σ H x v vl vu lo hi sl Q I rx hs pl pu ⟨a, xs, ex, ha, q⟩ =>
  sl_tupA pins s σ H x v vl vu lo hi sl Q I rx hs pl pu ⟨a, xs, ex, .inl (.inl ha), fun ⟨e1, e2⟩ => q H a (Same.refl H) (.inr rfl) (by unfold cutV; rw [e1, e2, List.drop_zero, Nat.sub_zero, List.take_length]; exact ha), fun _ p np => q _ p (new_same np) (.inl np) upd_same⟩
theorem kIxL (h : X.K = K := by rfl) : IxR X (rIxL K) := by subst h; exact ix_list
theorem kIxT (h : X.K = K := by rfl) : IxR X (rIxT K) := by subst h; exact ix_tup
theorem kIxQ (h : X.K = K := by rfl) : IxR X (rIx K) := by subst h; exact ix_seq
theorem kSlL (h : X.K = K := by rfl) : SlR X (rSlL K) := by subst h; exact sl_list
theorem kpg_tup {es : List Expr} {k : Nat} {t : TGs} {n : Nat} {pos : Pos} (hc : X.calm = true) (h : PGs X es t) (hk : X.K = K := by rfl) (hn : (assignEach es X.env).length = n := by rfl) (hst : (assignEach es X.env).findIdx? (·.1) = none := by rfl) : PG X (.Tuple es k pos) (gTup K n t) := by
  subst hk; exact pg_tup hc h hn hst
theorem kpi_list {tg l : Expr} {tl : TE} (hl : PE X l tl) (h : X.K = K := by rfl) : PI X tg l (iList K tl) := by subst h; exact pi_list hl
theorem kpi_tup {tg l : Expr} {tl : TE} (hl : PE X l tl) (h : X.K = K := by rfl) : PI X tg l (iTup K tl) := by subst h; exact pi_tup hl
theorem kpi_zip {e e2 : Expr} {ta : TA} {p pos tpos : Pos} {elts : List Expr} {kk : Nat} (hg : Gl X "zip") (hm : X.mg "zip" = none) (ha : PA X [e, e2] ta) (h : X.K = K := by rfl)
    (hs : starEach [e, e2] X.env = (false, eval e X.env) :: starEach [e2] X.env := by rfl) (hpl : (backTo pos (starEach [e2] X.env)).any (·.1) = false := by rfl) : PI X (.Tuple elts kk tpos) (.Call (.Name "zip" p) [e, e2] [] pos) (iZip K ta) := by
  subst h; exact pi_zip hg hm ha hs hpl
theorem kpi_enum {e : Expr} {ta : TA} {p pos tpos : Pos} {elts : List Expr} {kk : Nat} (hg : Gl X "enumerate") (hm : X.mg "enumerate" = none) (ha : PA X [e] ta) (h : X.K = K := by rfl) (hs : starEach [e] X.env = [(false, eval e X.env)] := by rfl) :
    PI X (.Tuple elts kk tpos) (.Call (.Name "enumerate" p) [e] [] pos) (iEnum K ta) := by subst h; exact pi_enum hg hm ha hs
theorem kpi_enumT {e : Expr} {ta : TA} {p pos tpos : Pos} {elts : List Expr} {kk : Nat} (hg : Gl X "enumerate") (hm : X.mg "enumerate" = none) (ha : PA X [e] ta) (h : X.K = K := by rfl) (hs : starEach [e] X.env = [(false, eval e X.env)] := by rfl) :
    PI X (.Tuple elts kk tpos) (.Call (.Name "enumerate" p) [e] [] pos) (iEnumT K ta) := by subst h; exact pi_enumT hg hm ha hs
theorem kfld {e : Expr} {f : Str} {ta : TE} {pos : Pos} (he : PE X e ta) (hb : attributeBase e f X.env (eval e X.env) = eval e X.env := by rfl) (h : X.K = K := by rfl) : PE X (.Attribute e f pos) (tFld K ta f) := by subst h; exact pe_fld he hb
end
/-- a built-in class as a value -/
theorem pe_ty {X : Cx} {x : Str} {pos : Pos} (n : String) (hg : Gl X x) (hm : X.mg x = none) (hv : bootBuiltins x = some (.type n)) (hn : x ≠ "__name__" := by decide) (hd : (x == ("__debug__" : Str)) = false := by decide) : PE X (.Name x pos) (tC (.ty n)) :=
  pe_bltn (v := .ty n) hg hm hv rfl hn hd
end Ls

namespace Df
variable {α : Type} [DecidableEq α]
/-- a difference: left, right, limit -/
abbrev Row (α : Type) := α × α × Int
def Solves (S : List (Row α)) (p : α → Int) : Prop := ∀ e ∈ S, p e.1 - p e.2.1 ≤ e.2.2
def put {β : Type} (f : α → β) (a : α) (v : β) : α → β := fun x => if x = a then v else f x
theorem put_same {β : Type} {f : α → β} {a : α} {v : β} : put f a v a = v := if_pos rfl
theorem put_ne {β : Type} {f : α → β} {a x : α} {v : β} (h : x ≠ a) : put f a v x = f x := if_neg h
def ins (ks : List α) (a : α) : List α := if a ∈ ks then ks else ks ++ [a]
theorem mem_ins {ks : List α} {a x : α} : x ∈ ins ks a ↔ x ∈ ks ∨ x = a := by
  unfold ins
  split
  · rename_i h
    constructor
    · exact Or.inl
    · rintro (h' | rfl)
      · exact h'
      · exact h
  · simp
theorem nd_ins {ks : List α} {a : α} (h : ks.Nodup) : (ins ks a).Nodup := by
  unfold ins
  split
  · exact h
  · rename_i hn
    rw [List.nodup_append]
    refine ⟨h, by simp, fun x hx y hy => ?_⟩
    rw [List.mem_singleton.mp hy]
    exact fun e => hn (e ▸ hx)

/-- the state of the rounds, turn t, place p; w worth, ks and b the names and positions of before, τ the time of a name's last update -/
structure BF (S : List (Row α)) (w : α → Int) (ks : List α) (b : α → Nat) (τ : α → Nat) (t p : Nat) : Prop where
  nd : ks.Nodup
  mem : ∀ x, x ∈ ks ↔ 0 < τ x
  pre : ∀ x, x ∈ ks → ∃ e, S[b x]? = some e ∧ e.1 = x ∧ w e.2.1 + e.2.2 ≤ w x ∧ (τ e.2.1 < τ x ∨ w e.2.1 + e.2.2 < w x) ∧ τ x ≤ τ e.2.1 + S.length
  le : ∀ x, τ x ≤ t * S.length + p
  sat : ∀ (q : Nat) e, S[q]? = some e → w e.1 ≤ w e.2.1 + e.2.2 ∨ (q < p → t * S.length + q + 1 < τ e.2.1) ∧ (p ≤ q → t = 0 ∨ t * S.length + q + 1 < τ e.2.1 + S.length)

theorem BF.start (S : List (Row α)) (w : α → Int) (b : α → Nat) : BF S w [] b (fun _ => 0) 0 0 where
  nd := List.nodup_nil
  mem := fun x => by simp
  pre := fun x h => by simp at h
  le := fun x => Nat.zero_le _
  sat := fun q e h => .inr ⟨fun z => absurd z (Nat.not_lt_zero _), fun _ => .inl rfl⟩

theorem BF.turn {S : List (Row α)} {w : α → Int} {ks : List α} {b : α → Nat} {τ : α → Nat} {t : Nat} (h : BF S w ks b τ t S.length) : BF S w ks b τ (t + 1) 0 where
  nd := h.nd
  mem := h.mem
  pre := h.pre
  le := fun x => by
    have := h.le x
    rw [Nat.succ_mul]
    exact this
  sat := fun q e he => by
    rcases h.sat q e he with z | ⟨z, _⟩
    · exact .inl z
    · refine .inr ⟨fun k => absurd k (Nat.not_lt_zero _), fun _ => .inr ?_⟩
      have hq : q < S.length := (List.getElem?_eq_some_iff.mp he).1
      have := z hq
      rw [Nat.succ_mul]
      omega

theorem BF.keep {S : List (Row α)} {w : α → Int} {ks : List α} {b : α → Nat} {τ : α → Nat} {t p : Nat} {l r : α} {c : Int} (h : BF S w ks b τ t p) (he : S[p]? = some (l, r, c)) (hs : w l ≤ w r + c) : BF S w ks b τ t (p + 1) where
  nd := h.nd
  mem := h.mem
  pre := h.pre
  le := fun x => by have := h.le x; omega
  sat := fun q e hq => by
    by_cases hqp : q = p
    · subst hqp
      rw [he] at hq
      cases hq
      exact .inl hs
    · rcases h.sat q e hq with z | ⟨z1, z2⟩
      · exact .inl z
      · exact .inr ⟨fun k => z1 (by omega), fun k => z2 (by omega)⟩

theorem BF.step {S : List (Row α)} {w : α → Int} {ks : List α} {b : α → Nat} {τ : α → Nat} {t p : Nat} {l r : α} {c : Int} (h : BF S w ks b τ t p) (he : S[p]? = some (l, r, c)) (hne : ∀ e ∈ S, e.1 ≠ e.2.1) (hv : w r + c < w l) :
    BF S (put w l (w r + c)) (ins ks l) (put b l p) (put τ l (t * S.length + p + 1)) t (p + 1) := by
  have hp : p < S.length := (List.getElem?_eq_some_iff.mp he).1
  have hlr : r ≠ l := fun z => hne _ (List.mem_of_getElem? he) z.symm
  have hnew : t * S.length + p + 1 ≤ τ r + S.length := by
    rcases h.sat p _ he with z | ⟨_, z⟩
    · exact absurd z (by show ¬ w l ≤ w r + c; omega)
    · rcases z (Nat.le_refl _) with z | z
      · subst z; omega
      · have z : t * S.length + p + 1 < τ r + S.length := z
        omega
  refine ⟨nd_ins h.nd, fun x => ?_, fun x hx => ?_, fun x => ?_, fun q e hq => ?_⟩
  · rw [mem_ins]
    by_cases hx : x = l
    · subst hx
      rw [put_same]
      simp
    · rw [put_ne hx, h.mem x]
      simp [hx]
  · by_cases hxl : x = l
    · subst hxl
      refine ⟨(x, r, c), by rw [put_same]; exact he, rfl, ?_, .inl ?_, ?_⟩
      · show put w x (w r + c) r + c ≤ put w x (w r + c) x
        rw [put_same, put_ne hlr]
        exact Int.le_refl _
      · show put τ x _ r < put τ x _ x
        rw [put_same, put_ne hlr]
        have := h.le r
        omega
      · show put τ x _ x ≤ put τ x _ r + _
        rw [put_same, put_ne hlr]
        exact hnew
    · have hx' : x ∈ ks := (mem_ins.mp hx).resolve_right hxl
      obtain ⟨e, e1, e2, e3, e4, e5⟩ := h.pre x hx'
      refine ⟨e, by rw [put_ne hxl]; exact e1, e2, ?_⟩
      rw [put_ne hxl, put_ne hxl]
      by_cases hr : e.2.1 = l
      · rw [hr, put_same, put_same]
        rw [hr] at e3 e5
        have := h.le x
        refine ⟨by omega, .inr (by omega), ?_⟩
        have := h.le l
        omega
      · rw [put_ne hr, put_ne hr]
        exact ⟨e3, e4, e5⟩
  · by_cases hx : x = l
    · subst hx
      rw [put_same]
      omega
    · rw [put_ne hx]
      have := h.le x
      omega
  · by_cases hqp : q = p
    · subst hqp
      rw [he] at hq
      cases hq
      refine .inl ?_
      show put w l (w r + c) l ≤ put w l (w r + c) r + c
      rw [put_same, put_ne hlr]
      exact Int.le_refl _
    · by_cases hr : e.2.1 = l
      · right
        rw [hr, put_same]
        have hq' : q < S.length := (List.getElem?_eq_some_iff.mp hq).1
        exact ⟨fun k => by omega, fun k => .inr (by omega)⟩
      · rw [put_ne hr, put_ne hr]
        have hle : put w l (w r + c) e.1 ≤ w e.1 := by
          by_cases hl : e.1 = l
          · rw [hl, put_same]; omega
          · rw [put_ne hl]; exact Int.le_refl _
        rcases h.sat q e hq with z | ⟨z1, z2⟩
        · left
          exact Int.le_trans hle z
        · right
          exact ⟨fun k => z1 (by omega), fun k => z2 (by omega)⟩

/-! ### going back -/
def nx (S : List (Row α)) (b : α → Nat) (x : α) : α := match S[b x]? with
  | some e => e.2.1
  | none => x
def it (S : List (Row α)) (b : α → Nat) : Nat → α → α
  | 0, x => x
  | i + 1, x => nx S b (it S b i x)
theorem it_add (S : List (Row α)) (b : α → Nat) (i : Nat) (x : α) : ∀ j, it S b (i + j) x = it S b j (it S b i x)
  | 0 => rfl
  | j + 1 => by
    show nx S b (it S b (i + j) x) = nx S b (it S b j (it S b i x))
    rw [it_add S b i x j]
theorem it_succ (S : List (Row α)) (b : α → Nat) (i : Nat) (x : α) : it S b (i + 1) x = it S b i (nx S b x) := by
  rw [Nat.add_comm]
  exact it_add S b 1 x i
theorem BF.nx_of {S : List (Row α)} {w : α → Int} {ks : List α} {b : α → Nat} {τ : α → Nat} {t p : Nat} (h : BF S w ks b τ t p) {x : α} (hx : x ∈ ks) :
    ∃ c, S[b x]? = some (x, nx S b x, c) ∧ w (nx S b x) + c ≤ w x ∧ (τ (nx S b x) < τ x ∨ w (nx S b x) + c < w x) ∧ τ x ≤ τ (nx S b x) + S.length := by
  obtain ⟨⟨l, r, c⟩, e1, e2, e3, e4, e5⟩ := h.pre x hx
  have e2 : l = x := e2
  subst e2
  have en : nx S b l = r := by unfold nx; rw [e1]
  rw [en]
  exact ⟨c, e1, e3, e4, e5⟩

theorem nodup_le {l ks : List α} : l.Nodup → (∀ x ∈ l, x ∈ ks) → l.length ≤ ks.length := by
  induction l generalizing ks with
  | nil => intro _ _; exact Nat.zero_le _
  | cons a r ih =>
    intro h hs
    have ha : a ∈ ks := hs a List.mem_cons_self
    have hr := List.nodup_cons.mp h
    have := ih (ks := ks.erase a) hr.2 fun x hx => (List.mem_erase_of_ne (fun (e : x = a) => hr.1 (e ▸ hx))).mpr (hs x (List.mem_cons_of_mem _ hx))
    rw [List.length_erase_of_mem ha] at this
    have : 0 < ks.length := List.length_pos_of_mem ha
    simp only [List.length_cons]
    omega
theorem least {P : Nat → Prop} : ∀ n, P n → ∃ m, P m ∧ ∀ k, k < m → ¬ P k := by
  intro n
  induction n using Nat.strongRecOn with
  | ind n ih =>
    intro h
    by_cases hk : ∃ k, k < n ∧ P k
    · obtain ⟨k, h1, h2⟩ := hk
      exact ih k h1 h2
    · exact ⟨n, h, fun k h1 h2 => hk ⟨k, h1, h2⟩⟩
/-- two places of a long row of names out of few are alike -/
theorem pigeon {ks : List α} {f : Nat → α} {k : Nat} (hk : ks.length ≤ k) (h : ∀ i, i ≤ k → f i ∈ ks) : ∃ i j, i < j ∧ j ≤ k ∧ f i = f j := by
  refine Classical.byContradiction fun hn => ?_
  have hnd : ((List.range (k + 1)).map f).Nodup := by
    rw [List.nodup_iff_pairwise_ne, List.pairwise_map]
    refine List.Pairwise.imp_of_mem ?_ List.pairwise_lt_range
    intro a b ha hb hab e
    exact hn ⟨a, b, hab, by have := List.mem_range.mp hb; omega, e⟩
  have := nodup_le hnd (ks := ks) fun x hx => by
    obtain ⟨i, hi, rfl⟩ := List.mem_map.mp hx
    exact h i (by have := List.mem_range.mp hi; omega)
  simp only [List.length_map, List.length_range] at this
  omega

/-- the last name updated in round n leads back into before as often as one likes, and after ks.length + 1 steps it is on a ring -/
theorem BF.back {S : List (Row α)} {w : α → Int} {ks : List α} {b : α → Nat} {τ : α → Nat} {n p : Nat} {x : α} (h : BF S w ks b τ n p) (hn : ks.length ≤ n) (hx : n * S.length < τ x) : ∀ i, i ≤ ks.length → it S b i x ∈ ks := by
  have key : ∀ i, i ≤ ks.length → n * S.length < τ (it S b i x) + i * S.length := by
    intro i
    induction i with
    | zero => intro _; simpa [it] using hx
    | succ i ih =>
      intro hi
      have hi' := ih (by omega)
      have hm : i * S.length ≤ n * S.length := Nat.mul_le_mul_right _ (by omega)
      have hk : it S b i x ∈ ks := (h.mem _).mpr (by omega)
      obtain ⟨c, _, _, _, e⟩ := h.nx_of hk
      have e : τ (it S b i x) ≤ τ (it S b (i + 1) x) + S.length := e
      rw [Nat.succ_mul]
      omega
  intro i hi
  have := key i hi
  have hm : i * S.length ≤ n * S.length := Nat.mul_le_mul_right _ (by omega)
  exact (h.mem _).mpr (by omega)
theorem BF.ringed {S : List (Row α)} {w : α → Int} {ks : List α} {b : α → Nat} {τ : α → Nat} {n p : Nat} {x : α} (h : BF S w ks b τ n p) (hn : ks.length ≤ n) (hx : n * S.length < τ x) :
    ∃ d, 0 < d ∧ it S b d (it S b (ks.length + 1) x) = it S b (ks.length + 1) x ∧ (∀ i, it S b i (it S b (ks.length + 1) x) ∈ ks) ∧ ∀ j, 0 < j → j < d → it S b j (it S b (ks.length + 1) x) ≠ it S b (ks.length + 1) x := by
  have hb := h.back hn hx
  obtain ⟨i, j, hij, hj, e⟩ := pigeon (f := fun i => it S b i x) (Nat.le_refl _) hb
  have e : it S b i x = it S b j x := e
  -- the ring's names are in before
  have per : ∀ m, it S b (j - i) (it S b (i + m) x) = it S b (i + m) x := fun m => by
    rw [← it_add]
    have : i + m + (j - i) = j + m := by omega
    rw [this, it_add S b j x m, ← e, ← it_add]
  have all : ∀ m, it S b (i + m) x ∈ ks := by
    intro m
    induction m using Nat.strongRecOn with
    | ind m ih =>
      by_cases hm : i + m ≤ ks.length
      · exact hb _ hm
      · have h1 : j - i ≤ m := by omega
        have := per (m - (j - i))
        rw [← it_add] at this
        rw [show i + (m - (j - i)) + (j - i) = i + m by omega] at this
        rw [this]
        exact ih _ (by omega)
  have hy : it S b (ks.length + 1) x = it S b (i + (ks.length + 1 - i)) x := by rw [show i + (ks.length + 1 - i) = ks.length + 1 by omega]
  obtain ⟨d, ⟨hd, hdp⟩, hmin⟩ := least (P := fun d => 0 < d ∧ it S b d (it S b (ks.length + 1) x) = it S b (ks.length + 1) x) (j - i) ⟨by omega, by rw [hy]; exact per _⟩
  refine ⟨d, hd, hdp, fun m => ?_, fun m hm hmd z => hmin m hmd ⟨hm, z⟩⟩
  rw [hy, ← it_add, Nat.add_assoc]
  exact all _

/-! ### rings -/
section
variable [Inhabited α]
def at_ (S : List (Row α)) (q : Nat) : Row α := S.getD q (default, default, 0)
def lefts (S : List (Row α)) (f : List Nat) : List α := f.map fun q => (at_ S q).1
def rights (S : List (Row α)) (f : List Nat) : List α := f.map fun q => (at_ S q).2.1
def limits (S : List (Row α)) (f : List Nat) : List Int := f.map fun q => (at_ S q).2.2
structure IsRing (S : List (Row α)) (f : List Nat) : Prop where
  two : 2 ≤ f.length
  small : ∀ q ∈ f, q < S.length
  round : rights S f = (lefts S f).drop 1 ++ (lefts S f).take 1
  nd : (lefts S f).Nodup
  neg : (limits S f).sum < 0
omit [DecidableEq α] in
theorem at_of {S : List (Row α)} {q : Nat} {e : Row α} (h : S[q]? = some e) : at_ S q = e := by
  unfold at_
  rw [List.getD_eq_getElem?_getD, h]
  rfl
/-- what the walk round a ring finds -/
theorem BF.isRing {S : List (Row α)} {w : α → Int} {ks : List α} {b : α → Nat} {τ : α → Nat} {n p : Nat} {y : α} {d : Nat} (h : BF S w ks b τ n p) (hne : ∀ e ∈ S, e.1 ≠ e.2.1) (hd : 0 < d) (hp : it S b d y = y) (hin : ∀ i, it S b i y ∈ ks)
    (hmin : ∀ j, 0 < j → j < d → it S b j y ≠ y) : IsRing S ((List.range d).map fun i => b (it S b i y)) := by
  have hat : ∀ i, ∃ c, S[b (it S b i y)]? = some (it S b i y, it S b (i + 1) y, c) ∧ w (it S b (i + 1) y) + c ≤ w (it S b i y) ∧ (τ (it S b (i + 1) y) < τ (it S b i y) ∨ w (it S b (i + 1) y) + c < w (it S b i y)) := fun i => by
    obtain ⟨c, e1, e2, e3, _⟩ := h.nx_of (hin i)
    exact ⟨c, e1, e2, e3⟩
  have hl : lefts S ((List.range d).map fun i => b (it S b i y)) = (List.range d).map fun i => it S b i y := by
    unfold lefts
    rw [List.map_map]
    refine List.map_congr_left fun i _ => ?_
    obtain ⟨c, e, _⟩ := hat i
    show (at_ S (b (it S b i y))).1 = _
    rw [at_of e]
  have hr : rights S ((List.range d).map fun i => b (it S b i y)) = (List.range d).map fun i => it S b (i + 1) y := by
    unfold rights
    rw [List.map_map]
    refine List.map_congr_left fun i _ => ?_
    obtain ⟨c, e, _⟩ := hat i
    show (at_ S (b (it S b i y))).2.1 = _
    rw [at_of e]
  have hd2 : d ≠ 1 := fun z => by
    subst z
    obtain ⟨c, e, _⟩ := hat 0
    have := hne _ (List.mem_of_getElem? e)
    exact this hp.symm
  have inj : ∀ i j, i < j → j < d → it S b i y ≠ it S b j y := fun i j hij hj z => by
    refine hmin (i + (d - j)) (by omega) (by omega) ?_
    rw [it_add, z, ← it_add, show j + (d - j) = d by omega, hp]
  refine ⟨by simp; omega, fun q hq => ?_, ?_, ?_, ?_⟩
  · obtain ⟨i, _, rfl⟩ := List.mem_map.mp hq
    obtain ⟨c, e, _⟩ := hat i
    exact (List.getElem?_eq_some_iff.mp e).1
  · rw [hl, hr]
    apply List.ext_getElem?
    intro i
    by_cases hi : i + 1 < d
    · rw [List.getElem?_append_left (by simp; omega)]
      rw [List.getElem?_map, List.getElem?_drop, List.getElem?_map, List.getElem?_range (by omega), List.getElem?_range (by omega), Nat.add_comm 1 i]
      rfl
    · by_cases hi2 : i + 1 = d
      · rw [List.getElem?_append_right (by simp; omega)]
        simp only [List.getElem?_map, List.length_drop, List.length_map, List.length_range, List.getElem?_take]
        rw [List.getElem?_range (by omega), show i - (d - 1) = 0 by omega]
        rw [List.getElem?_range (by omega)]
        rw [if_pos (by omega)]
        show some (it S b (i + 1) y) = some (it S b 0 y)
        rw [hi2, hp]
        rfl
      · rw [List.getElem?_eq_none (by simp; omega), List.getElem?_eq_none (by simp; omega)]
  · rw [hl, List.nodup_iff_pairwise_ne, List.pairwise_map]
    refine List.Pairwise.imp_of_mem ?_ List.pairwise_lt_range
    intro i j hi hj hij
    exact inj i j hij (List.mem_range.mp hj)
  · -- the sum
    have hs : ∀ m, ((limits S ((List.range m).map fun i => b (it S b i y))).sum ≤ w y - w (it S b m y)) ∧ ((∃ k, k < m ∧ ¬ τ (it S b (k + 1) y) < τ (it S b k y)) → (limits S ((List.range m).map fun i => b (it S b i y))).sum < w y - w (it S b m y)) := by
      intro m
      induction m with
      | zero =>
        refine ⟨?_, fun ⟨k, hk, _⟩ => absurd hk (Nat.not_lt_zero _)⟩
        show (0 : Int) ≤ w y - w y
        omega
      | succ m ih =>
        obtain ⟨c, e1, e2, e3⟩ := hat m
        have el : (limits S ((List.range (m + 1)).map fun i => b (it S b i y))).sum = (limits S ((List.range m).map fun i => b (it S b i y))).sum + c := by
          unfold limits
          rw [List.range_succ, List.map_append, List.map_append, List.sum_append]
          congr 1
          show ((at_ S (b (it S b m y))).2.2 :: []).sum = c
          rw [at_of e1]
          simp
        rw [el]
        refine ⟨by omega, fun ⟨k, hk, hk2⟩ => ?_⟩
        by_cases hkm : k < m
        · have := ih.2 ⟨k, hkm, hk2⟩
          omega
        · have hkm : k = m := by omega
          subst hkm
          have := e3.resolve_left hk2
          omega
    have := (hs d).2 (by
      refine Classical.byContradiction fun hno => ?_
      have dec : ∀ m, m ≤ d → τ (it S b m y) + m ≤ τ y := by
        intro m
        induction m with
        | zero => intro _; exact Nat.le_refl _
        | succ m ih =>
          intro hm
          have h1 := ih (by omega)
          have h2 : τ (it S b (m + 1) y) < τ (it S b m y) := Classical.byContradiction fun z => hno ⟨m, by omega, z⟩
          omega
      have := dec d (Nat.le_refl _)
      rw [hp] at this
      omega)
    rw [hp] at this
    omega
omit [DecidableEq α] in
theorem sum_le {S : List (Row α)} {p : α → Int} (h : Solves S p) : ∀ f : List Nat, (∀ q ∈ f, q < S.length) → ((lefts S f).map p).sum - ((rights S f).map p).sum ≤ (limits S f).sum
  | [], _ => by show (0 : Int) - 0 ≤ 0; omega
  | q :: f, hq => by
    have ih := sum_le h f fun k hk => hq k (List.mem_cons_of_mem _ hk)
    have hlt := hq q List.mem_cons_self
    have e : S[q]? = some S[q] := List.getElem?_eq_getElem hlt
    have := h _ (List.mem_of_getElem? e)
    rw [← at_of e] at this
    simp only [lefts, rights, limits, List.map_cons, List.sum_cons] at ih ⊢
    omega
omit [DecidableEq α] in
/-- a system with a ring of negative sum has no solution -/
theorem IsRing.none {S : List (Row α)} {f : List Nat} (h : IsRing S f) (p : α → Int) : ¬ Solves S p := fun hs => by
  have h1 := sum_le hs f h.small
  have h2 := h.neg
  rw [h.round, List.map_append, List.sum_append] at h1
  have h3 : ((lefts S f).map p).sum = (((lefts S f).take 1).map p).sum + (((lefts S f).drop 1).map p).sum := by
    rw [← List.sum_append, ← List.map_append, List.take_append_drop]
  omega
end
def FARI : Int := 1000000000000000000000000000000
def HALFI : Int := 100000000000000000000000000000
theorem FARI_eq : FARI = 1000000000000000000000000000000 := rfl
theorem HALFI_eq : HALFI = 100000000000000000000000000000 := rfl

abbrev Tab (α : Type) := α → α → Int
def blankR : Tab α := fun u v => if u = v then 0 else FARI
def thru (R : Tab α) (l r : α) (c : Int) : Tab α := fun u v => if HALFI < R u l then R u v else if R u v ≤ R u l + (c + R r v) then R u v else R u l + (c + R r v)
def moreR (R : Tab α) (l r : α) (c : Int) : Option (Tab α) := if R l r ≤ c then some R else if R r l + c < 0 then none else some (thru R l r c)
def addedR : Tab α → List (Row α) → Option (Tab α)
  | R, [] => some R
  | R, e :: S => (moreR R e.1 e.2.1 e.2.2).bind fun R' => addedR R' S
/-- R is the tight table of S over ns; B bounds the finite limits -/
structure Ok (ns : List α) (B : Int) (S : List (Row α)) (R : Tab α) : Prop where
  diag : ∀ u ∈ ns, R u u = 0
  size : ∀ u ∈ ns, ∀ v ∈ ns, (-B ≤ R u v ∧ R u v ≤ B) ∨ FARI - B ≤ R u v
  tri : ∀ u ∈ ns, ∀ w ∈ ns, ∀ v ∈ ns, R u w ≤ HALFI → R w v ≤ HALFI → R u v ≤ R u w + R w v
  sound : ∀ p, Solves S p → ∀ u ∈ ns, ∀ v ∈ ns, R u v ≤ HALFI → p u - p v ≤ R u v
  compl : ∀ e ∈ S, R e.1 e.2.1 ≤ e.2.2
theorem Ok.blank (ns : List α) {B : Int} (h0 : 0 ≤ B) (hB : B ≤ 10 ^ 28) : Ok ns B [] (blankR : Tab α) where
  diag := fun u _ => if_pos rfl
  size := fun u _ v _ => by
    unfold blankR
    split
    · left; omega
    · right; omega
  tri := fun u _ w _ v _ h1 h2 => by
    unfold blankR at h1 h2 ⊢
    simp only [HALFI_eq, FARI_eq] at h1 h2 ⊢
    split at h1
    · rename_i e; subst e
      rw [if_pos rfl]; omega
    · omega
  sound := fun p _ u _ v _ h => by
    unfold blankR at h ⊢
    simp only [HALFI_eq, FARI_eq] at h ⊢
    split at h
    · rename_i e; subst e
      rw [if_pos rfl]; omega
    · omega
  compl := fun e he => by cases he
section
variable {ns : List α} {B : Int} {S : List (Row α)} {R : Tab α}
theorem Ok.fin (h : Ok ns B S R) (hB : B ≤ 10 ^ 28) {u v : α} (hu : u ∈ ns) (hv : v ∈ ns) (hf : R u v ≤ HALFI) : -B ≤ R u v ∧ R u v ≤ B := by
  rcases h.size u hu v hv with z | z
  · exact z
  · simp only [HALFI_eq, FARI_eq] at hf z
    omega
theorem Ok.inf (h : Ok ns B S R) (hB : B ≤ 10 ^ 28) {u v : α} (hu : u ∈ ns) (hv : v ∈ ns) (hf : HALFI < R u v) : FARI - B ≤ R u v := by
  rcases h.size u hu v hv with z | z
  · simp only [HALFI_eq, FARI_eq] at hf z
    omega
  · exact z
theorem Ok.wide (h : Ok ns B S R) {B' : Int} (hb : B ≤ B') : Ok ns B' S R :=
  { h with size := fun u hu v hv => by rcases h.size u hu v hv with z | z <;> omega }
theorem thru_le (l r : α) (c : Int) (u v : α) : thru R l r c u v ≤ R u v := by
  unfold thru
  split
  · exact Int.le_refl _
  · split
    · exact Int.le_refl _
    · omega
theorem thru_le2 {l r : α} {c : Int} {u v : α} (h : R u l ≤ HALFI) : thru R l r c u v ≤ R u l + (c + R r v) := by
  unfold thru
  rw [if_neg (by omega)]
  split
  · assumption
  · exact Int.le_refl _
theorem thru_cases (R : Tab α) (l r : α) (c : Int) (u v : α) : thru R l r c u v = R u v ∨ (R u l ≤ HALFI ∧ R u l + (c + R r v) < R u v ∧ thru R l r c u v = R u l + (c + R r v)) := by
  unfold thru
  split
  · exact .inl rfl
  · split
    · exact .inl rfl
    · exact .inr ⟨by omega, by omega, rfl⟩
theorem Ok.thru (h : Ok ns B S R) {l r : α} {c : Int} (hl : l ∈ ns) (hr : r ∈ ns) (hc : -B ≤ c ∧ c ≤ B) (hB : 3 * B ≤ 10 ^ 28) (hn : 0 ≤ R r l + c) : Ok ns (3 * B) (S ++ [(l, r, c)]) (thru R l r c) := by
  have hB1 : B ≤ 10 ^ 28 := by omega
  -- a finite new limit goes through finite ones
  have fin2 : ∀ u ∈ ns, ∀ v ∈ ns, R u l ≤ HALFI → R u l + (c + R r v) ≤ HALFI → R r v ≤ HALFI := fun u hu v hv h1 h2 => by
    by_cases hf : R r v ≤ HALFI
    · exact hf
    · have z1 := h.fin hB1 hu hl h1
      have z2 := h.inf hB1 hr hv (by omega)
      simp only [HALFI_eq, FARI_eq] at *
      omega
  have old : ∀ u ∈ ns, ∀ v ∈ ns, Df.thru R l r c u v ≤ HALFI → (Df.thru R l r c u v = R u v ∧ R u v ≤ HALFI) ∨ (R u l ≤ HALFI ∧ R r v ≤ HALFI ∧ Df.thru R l r c u v = R u l + (c + R r v)) := fun u hu v hv hf => by
    rcases thru_cases R l r c u v with e | ⟨e1, e2, e3⟩
    · exact .inl ⟨e, by omega⟩
    · exact .inr ⟨e1, fin2 u hu v hv e1 (by omega), e3⟩
  refine ⟨fun u hu => ?_, fun u hu v hv => ?_, fun u hu w hw v hv h1 h2 => ?_, fun p hp u hu v hv hf => ?_, fun e he => ?_⟩
  · rcases thru_cases R l r c u u with e | ⟨e1, e2, e3⟩
    · rw [e]; exact h.diag u hu
    · have hd := h.diag u hu
      have f2 := fin2 u hu u hu e1 (by simp only [HALFI_eq]; omega)
      have := h.tri r hr u hu l hl f2 e1
      omega
  · rcases thru_cases R l r c u v with e | ⟨e1, e2, e3⟩
    · rw [e]
      rcases h.size u hu v hv with z | z
      · left; omega
      · right; omega
    · rw [e3]
      have z1 := h.fin hB1 hu hl e1
      rcases h.size r hr v hv with z | z
      · left; omega
      · right; omega
  · rcases old u hu w hw h1 with ⟨e1, f1⟩ | ⟨a1, b1, e1⟩ <;> rcases old w hw v hv h2 with ⟨e2, f2⟩ | ⟨a2, b2, e2⟩
    · have := h.tri u hu w hw v hv f1 f2
      have := thru_le (R := R) l r c u v
      omega
    · have t := h.tri u hu w hw l hl f1 a2
      have z1 := h.fin hB1 hu hw f1
      have z2 := h.fin hB1 hw hl a2
      have hul : R u l ≤ HALFI := by simp only [HALFI_eq]; omega
      have := thru_le2 (R := R) (l := l) (r := r) (c := c) (u := u) (v := v) hul
      omega
    · have t := h.tri r hr w hw v hv b1 f2
      have := thru_le2 (R := R) (l := l) (r := r) (c := c) (u := u) (v := v) a1
      omega
    · have t := h.tri r hr w hw l hl b1 a2
      have := thru_le2 (R := R) (l := l) (r := r) (c := c) (u := u) (v := v) a1
      omega
  · have hp1 : Solves S p := fun e he => hp e (List.mem_append_left _ he)
    have hp2 : p l - p r ≤ c := hp (l, r, c) (by simp)
    rcases old u hu v hv hf with ⟨e1, f1⟩ | ⟨a1, b1, e1⟩
    · rw [e1]; exact h.sound p hp1 u hu v hv f1
    · have s1 := h.sound p hp1 u hu l hl a1
      have s2 := h.sound p hp1 r hr v hv b1
      omega
  · rcases List.mem_append.mp he with he | he
    · exact Int.le_trans (thru_le _ _ _ _ _) (h.compl e he)
    · rw [List.mem_singleton.mp he]
      show Df.thru R l r c l r ≤ c
      have d1 := h.diag l hl
      have d2 := h.diag r hr
      have := thru_le2 (R := R) (l := l) (r := r) (c := c) (u := l) (v := r) (by rw [d1]; decide)
      omega
theorem Ok.same (h : Ok ns B S R) {l r : α} {c : Int} (he : R l r ≤ c) : Ok ns B (S ++ [(l, r, c)]) R :=
  { h with
    sound := fun p hp => h.sound p fun e he => hp e (List.mem_append_left _ he)
    compl := fun e he' => by
      rcases List.mem_append.mp he' with k | k
      · exact h.compl e k
      · rw [List.mem_singleton.mp k]; exact he }
theorem Ok.more (h : Ok ns B S R) {l r : α} {c : Int} (hl : l ∈ ns) (hr : r ∈ ns) (hc : -B ≤ c ∧ c ≤ B) (hB : 3 * B ≤ 10 ^ 28) {R' : Tab α} (e : moreR R l r c = some R') : Ok ns (3 * B) (S ++ [(l, r, c)]) R' := by
  unfold moreR at e
  split at e
  · cases e
    rename_i he
    exact (h.same he).wide (by omega)
  · split at e
    · cases e
    · cases e
      exact h.thru hl hr hc hB (by omega)
theorem Ok.more_none (h : Ok ns B S R) {l r : α} {c : Int} (hl : l ∈ ns) (hr : r ∈ ns) (hc : -B ≤ c ∧ c ≤ B) (hB : 3 * B ≤ 10 ^ 28) (e : moreR R l r c = none) (p : α → Int) : ¬ Solves (S ++ [(l, r, c)]) p := fun hp => by
  unfold moreR at e
  split at e
  · cases e
  · split at e
    · rename_i h1 h2
      have hp1 : Solves S p := fun e he => hp e (List.mem_append_left _ he)
      have hp2 : p l - p r ≤ c := hp (l, r, c) (by simp)
      have := h.sound p hp1 r hr l hl (by simp only [HALFI_eq]; omega)
      omega
    · cases e
/-- all differences added, one behind another -/
theorem Ok.added : ∀ (T : List (Row α)) {S : List (Row α)} {R : Tab α} {B : Int}, Ok ns B S R → (∀ e ∈ T, e.1 ∈ ns ∧ e.2.1 ∈ ns ∧ -B ≤ e.2.2 ∧ e.2.2 ≤ B) → 0 ≤ B → 3 ^ T.length * B ≤ 10 ^ 28 →
    (∀ R', addedR R T = some R' → Ok ns (3 ^ T.length * B) (S ++ T) R') ∧ (addedR R T = none → ∀ p, ¬ Solves (S ++ T) p)
  | [], S, R, B, h, _, _, _ => by
    refine ⟨fun R' e => ?_, fun e => by cases e⟩
    cases e
    simpa using h
  | e :: T, S, R, B, h, hT, h0, hB => by
    obtain ⟨h1, h2, h3, h4⟩ := hT e List.mem_cons_self
    have e3 : (3 : Int) ^ (e :: T).length * B = 3 ^ T.length * (3 * B) := by
      rw [List.length_cons, Int.pow_succ, Int.mul_assoc]
    have e1 : (1 : Int) ≤ 3 ^ T.length := by have := Int.pow_pos (n := 3) (m := T.length) (by decide); omega
    have hB3 : 3 * B ≤ 10 ^ 28 := by
      rw [e3] at hB
      have := Int.mul_le_mul_of_nonneg_right e1 (show 0 ≤ 3 * B by omega)
      omega
    have hB3' : 3 ^ T.length * (3 * B) ≤ 10 ^ 28 := by rw [← e3]; exact hB
    have hS : S ++ e :: T = (S ++ [(e.1, e.2.1, e.2.2)]) ++ T := by simp
    cases hm : moreR R e.1 e.2.1 e.2.2 with
    | none =>
      refine ⟨fun R' k => ?_, fun _ p hp => ?_⟩
      · unfold addedR at k
        rw [hm] at k
        cases k
      · refine h.more_none h1 h2 ⟨h3, h4⟩ hB3 hm p fun d hd => hp d ?_
        rw [hS]
        exact List.mem_append_left _ hd
    | some R1 =>
      have ok1 := h.more h1 h2 ⟨h3, h4⟩ hB3 hm
      obtain ⟨k1, k2⟩ := Ok.added T ok1 (fun d hd => by
        obtain ⟨a, b, c, d'⟩ := hT d (List.mem_cons_of_mem _ hd)
        exact ⟨a, b, by omega, by omega⟩) (by omega) hB3'
      rw [hS, e3]
      have ea : addedR R (e :: T) = addedR R1 T := by
        show (moreR R e.1 e.2.1 e.2.2).bind _ = _
        rw [hm]
        rfl
      rw [ea]
      exact ⟨k1, k2⟩
end

/-! ### a point -/
def valOf (R : Tab α) (z k : α) : Int := if R z k ≤ HALFI then 0 - R z k else if R k z ≤ HALFI then R k z else 0
theorem valOf_le {ns : List α} {B : Int} {S : List (Row α)} {R : Tab α} (h : Ok ns B S R) (h0 : 0 ≤ B) (hB : B ≤ 10 ^ 28) {z k : α} (hz : z ∈ ns) (hk : k ∈ ns) : -B ≤ valOf R z k ∧ valOf R z k ≤ B := by
  unfold valOf
  split
  · have := h.fin hB hz hk (by assumption)
    omega
  · split
    · exact h.fin hB hk hz (by assumption)
    · omega
/-- a name is set to its value: never None -/
theorem Ok.setTo {ns : List α} {B : Int} {S : List (Row α)} {R : Tab α} (h : Ok ns B S R) (h0 : 0 ≤ B) (hB : 9 * B ≤ 10 ^ 28) {z k : α} (hz : z ∈ ns) (hk : k ∈ ns) :
    ∃ R1 R2, moreR R k z (valOf R z k) = some R1 ∧ moreR R1 z k (0 - valOf R z k) = some R2 ∧ Ok ns (9 * B) ((S ++ [(k, z, valOf R z k)]) ++ [(z, k, 0 - valOf R z k)]) R2 := by
  have hB1 : B ≤ 10 ^ 28 := by omega
  have hv := valOf_le h h0 hB1 hz hk
  have e1 : ∃ R1, moreR R k z (valOf R z k) = some R1 ∧ (R1 z k ≤ 0 - valOf R z k ∨ 0 ≤ R1 k z - valOf R z k) := by
    unfold moreR
    by_cases c1 : R k z ≤ valOf R z k
    · rw [if_pos c1]
      refine ⟨R, rfl, ?_⟩
      unfold valOf at c1 ⊢
      split
      · left; omega
      · rename_i g1
        rw [if_neg g1] at c1
        split
        · right; omega
        · rename_i g2
          rw [if_neg g2] at c1
          simp only [HALFI_eq] at g1 g2
          omega
    · rw [if_neg c1]
      have c2 : ¬ R z k + valOf R z k < 0 := by
        unfold valOf
        split
        · omega
        · rename_i g1
          split
          · rename_i g2
            exfalso
            apply c1
            unfold valOf
            rw [if_neg g1, if_pos g2]
            exact Int.le_refl _
          · simp only [HALFI_eq] at g1
            omega
      rw [if_neg c2]
      refine ⟨_, rfl, ?_⟩
      by_cases g1 : R z k ≤ HALFI
      · left
        have := thru_le (R := R) k z (valOf R z k) z k
        have ev : valOf R z k = 0 - R z k := by unfold valOf; rw [if_pos g1]
        omega
      · right
        have d1 := h.diag k hk
        have d2 := h.diag z hz
        unfold Df.thru
        rw [d1, d2, if_neg (by decide)]
        split
        · rename_i g2
          omega
        · omega
  obtain ⟨R1, m1, c⟩ := e1
  have ok1 := h.more hk hz hv (by omega) m1
  have e2 : ∃ R2, moreR R1 z k (0 - valOf R z k) = some R2 := by
    unfold moreR
    by_cases c1 : R1 z k ≤ 0 - valOf R z k
    · rw [if_pos c1]; exact ⟨_, rfl⟩
    · rw [if_neg c1, if_neg (by omega)]; exact ⟨_, rfl⟩
  obtain ⟨R2, m2⟩ := e2
  have ok2 := ok1.more hz hk (by omega) (by omega) m2
  refine ⟨R1, R2, m1, m2, ?_⟩
  rw [show 9 * B = 3 * (3 * B) by omega]
  exact ok2
/-- the values of all names but z, as the table holds them at the end, solve the system -/
theorem Ok.solves {ns : List α} {B : Int} {S T : List (Row α)} {R : Tab α} {x : α → Int} {z : α} (h : Ok ns B (S ++ T) R) (hB : B ≤ 10 ^ 28) (hz : z ∈ ns) (hS : ∀ e ∈ S, e.1 ∈ ns ∧ e.2.1 ∈ ns ∧ e.2.2 ≤ 10 ^ 28)
    (hx : ∀ k ∈ ns, k ≠ z → (k, z, x k) ∈ T ∧ (z, k, 0 - x k) ∈ T ∧ -B ≤ x k ∧ x k ≤ B) : Solves S fun a => if a = z then 0 else x a := by
  have key : ∀ k ∈ ns, k ≠ z → R k z = x k ∧ R z k = 0 - x k := fun k hk hkz => by
    obtain ⟨t1, t2, b1, b2⟩ := hx k hk hkz
    have c1 : R k z ≤ x k := h.compl _ (List.mem_append_right _ t1)
    have c2 : R z k ≤ 0 - x k := h.compl _ (List.mem_append_right _ t2)
    have f1 : R k z ≤ HALFI := by simp only [HALFI_eq]; omega
    have f2 : R z k ≤ HALFI := by simp only [HALFI_eq]; omega
    have t := h.tri k hk z hz k hk f1 f2
    rw [h.diag k hk] at t
    omega
  intro e he
  obtain ⟨l, r, c⟩ := e
  obtain ⟨hl, hr, hc⟩ := hS _ he
  have hl : l ∈ ns := hl
  have hr : r ∈ ns := hr
  have hc : c ≤ 10 ^ 28 := hc
  have hlr : R l r ≤ c := h.compl _ (List.mem_append_left _ he)
  have flr : R l r ≤ HALFI := by simp only [HALFI_eq]; omega
  show (if l = z then 0 else x l) - (if r = z then 0 else x r) ≤ c
  by_cases el : l = z
  · rw [if_pos el]
    by_cases er : r = z
    · rw [if_pos er]
      rw [el, er, h.diag z hz] at hlr
      omega
    · rw [if_neg er]
      have := (key r hr er).2
      rw [el] at hlr
      omega
  · rw [if_neg el]
    obtain ⟨_, _, b1, b2⟩ := hx l hl el
    by_cases er : r = z
    · rw [if_pos er]
      have := (key l hl el).1
      rw [er] at hlr
      omega
    · rw [if_neg er]
      obtain ⟨_, _, b3, b4⟩ := hx r hr er
      have k1 := (key l hl el).1
      have k2 := (key r hr er).1
      have t := h.tri l hl r hr z hz flr (by simp only [HALFI_eq]; omega)
      omega

/-! ### one after another -/
theorem addedR_append (A B : List (Row α)) : ∀ R : Tab α, addedR R (A ++ B) = (addedR R A).bind fun R' => addedR R' B := by
  induction A with
  | nil => intro R; rfl
  | cons e A ih =>
    intro R
    show (moreR R e.1 e.2.1 e.2.2).bind _ = ((moreR R e.1 e.2.1 e.2.2).bind _).bind _
    cases moreR R e.1 e.2.1 e.2.2 with
    | none => rfl
    | some R1 => exact ih R1
theorem addedR_one (R : Tab α) (e : Row α) : addedR R [e] = moreR R e.1 e.2.1 e.2.2 := by
  show (moreR R e.1 e.2.1 e.2.2).bind _ = _
  cases moreR R e.1 e.2.1 e.2.2 <;> rfl
def setR (R : Tab α) (z k : α) (x : Int) : Option (Tab α) := (moreR R k z x).bind fun R1 => moreR R1 z k (0 - x)
def pts (z : α) : Tab α → (α → Int) → List α → Option (Tab α × (α → Int))
  | R, x, [] => some (R, x)
  | R, x, k :: ks => (setR R z k (valOf R z k)).bind fun R' => pts z R' (put x k (valOf R z k)) ks
theorem pts_append (z : α) (A B : List α) : ∀ (R : Tab α) (x : α → Int), pts z R x (A ++ B) = (pts z R x A).bind fun p => pts z p.1 p.2 B := by
  induction A with
  | nil => intro R x; rfl
  | cons k A ih =>
    intro R x
    show (setR R z k (valOf R z k)).bind _ = ((setR R z k (valOf R z k)).bind _).bind _
    cases setR R z k (valOf R z k) with
    | none => rfl
    | some R1 => exact ih R1 _
theorem Ok.pts {ns : List α} {z : α} (hz : z ∈ ns) : ∀ (ks : List α) {S : List (Row α)} {R : Tab α} {B : Int} (x : α → Int), Ok ns B S R → ks.Nodup → (∀ k ∈ ks, k ∈ ns) → 0 ≤ B → 9 ^ ks.length * B ≤ 10 ^ 28 →
    ∃ R' x' T, Df.pts z R x ks = some (R', x') ∧ Ok ns (9 ^ ks.length * B) (S ++ T) R' ∧ (∀ k, k ∉ ks → x' k = x k) ∧ ∀ k ∈ ks, (k, z, x' k) ∈ T ∧ (z, k, 0 - x' k) ∈ T ∧ -(9 ^ ks.length * B) ≤ x' k ∧ x' k ≤ 9 ^ ks.length * B
  | [], S, R, B, x, h, _, _, _, _ => ⟨R, x, [], rfl, by simpa using h, fun _ _ => rfl, fun k hk => by cases hk⟩
  | k :: ks, S, R, B, x, h, hnd, hin, h0, hB => by
    have e9 : (9 : Int) ^ (k :: ks).length * B = 9 ^ ks.length * (9 * B) := by rw [List.length_cons, Int.pow_succ, Int.mul_assoc]
    have e1 : (1 : Int) ≤ 9 ^ ks.length := by have := Int.pow_pos (n := 9) (m := ks.length) (by decide); omega
    rw [e9] at hB ⊢
    have hB9 : 9 * B ≤ 9 ^ ks.length * (9 * B) := by
      have := Int.mul_le_mul_of_nonneg_right e1 (show 0 ≤ 9 * B by omega)
      omega
    have hk := hin k List.mem_cons_self
    obtain ⟨R1, R2, m1, m2, ok2⟩ := h.setTo h0 (by omega) hz hk
    have hv := valOf_le h h0 (by omega) hz hk
    have hnd' := List.nodup_cons.mp hnd
    obtain ⟨R', x', T, p1, p2, p3, p4⟩ := Ok.pts hz ks (put x k (valOf R z k)) ok2 hnd'.2 (fun j hj => hin j (List.mem_cons_of_mem _ hj)) (by omega) hB
    have hxk : x' k = valOf R z k := by rw [p3 k hnd'.1, put_same]
    refine ⟨R', x', (k, z, valOf R z k) :: (z, k, 0 - valOf R z k) :: T, ?_, ?_, fun j hj => ?_, fun j hj => ?_⟩
    · show (setR R z k (valOf R z k)).bind _ = _
      unfold setR
      rw [m1]
      show (moreR R1 z k (0 - valOf R z k)).bind _ = _
      rw [m2]
      exact p1
    · have : S ++ (k, z, valOf R z k) :: (z, k, 0 - valOf R z k) :: T = S ++ [(k, z, valOf R z k)] ++ [(z, k, 0 - valOf R z k)] ++ T := by simp
      rw [this]
      exact p2
    · rw [p3 j fun z => hj (List.mem_cons_of_mem _ z), put_ne fun (e : j = k) => hj (by rw [e]; exact List.mem_cons_self)]
    · rcases List.mem_cons.mp hj with rfl | hj
      · rw [hxk]
        exact ⟨List.mem_cons_self, List.mem_cons_of_mem _ List.mem_cons_self, by omega, by omega⟩
      · obtain ⟨q1, q2, q3, q4⟩ := p4 j hj
        exact ⟨List.mem_cons_of_mem _ (List.mem_cons_of_mem _ q1), List.mem_cons_of_mem _ (List.mem_cons_of_mem _ q2), q3, q4⟩
/-- a system whose table comes out has a solution, the point of the table -/
theorem Ok.point {ns : List α} {z : α} {ks : List α} {S : List (Row α)} {R : Tab α} {B : Int} (x : α → Int) (h : Ok ns B S R) (hns : ns = z :: ks) (hnd : ns.Nodup) (h0 : 0 ≤ B) (hB : 9 ^ ks.length * B ≤ 10 ^ 28) (hS : ∀ e ∈ S, e.1 ∈ ns ∧ e.2.1 ∈ ns ∧ e.2.2 ≤ 10 ^ 28) :
    ∃ R' x', Df.pts z R x ks = some (R', x') ∧ Solves S fun a => if a = z then 0 else x' a := by
  subst hns
  have hnd' := List.nodup_cons.mp hnd
  obtain ⟨R', x', T, p1, p2, _, p4⟩ := Ok.pts (ns := z :: ks) List.mem_cons_self ks x h hnd'.2 (fun k hk => List.mem_cons_of_mem _ hk) h0 hB
  refine ⟨R', x', p1, p2.solves hB List.mem_cons_self hS fun k hk hkz => ?_⟩
  rcases List.mem_cons.mp hk with rfl | hk
  · exact absurd rfl hkz
  · exact p4 k hk
end Df

/-! ### heaps, walks, texts: what does not hang on a program -/
namespace Ls
open PySem PySem.Spec PyProof.Rows L2
theorem same_upd {H : Hp} {p : Addr} {o : HO} (h : H p = none) : Same H (upd H p o) := fun b x e => by rw [upd_ne (ne_of_none e h)]; exact e
theorem same_mut {H H' : Hp} {p : Addr} {o : HO} (s : Same H H') (h : H p = none) : Same H (upd H' p o) := fun b x e => by rw [upd_ne (ne_of_none e h)]; exact s b x e
theorem sq {K : PySem.W.Frag} {H : Hp} {a : Addr} {xs : List V} (h : H a = some (.lst xs)) : SqL K H a xs := .inl (.inl h)
theorem sqt {K : PySem.W.Frag} {H : Hp} {a : Addr} {xs : List V} (h : H a = some (.tup xs)) : SqT K H a xs := .inl (.inl h)
theorem szl {n : Nat} (h : n ≤ 1000000) : n ≤ sizeLine := Nat.le_trans h (by decide)
theorem szlt {n : Nat} (h : n < 1000000) : n < sizeLine := Nat.lt_of_lt_of_le h (by decide)
theorem fresh_ne {H : Hp} {p q : Addr} {o : HO} (h : H p = some o) (n : H q = none) : p ≠ q := ne_of_none h n
section
variable {K : PySem.W.Frag} {a : Addr} {xs : List V}
theorem walk_enumT : Walk (IteT K a) xs.length (fun H => SqT K H a xs) (YPair (fun i => some (.int (i : Nat))) (fun i => xs[i]?)) :=
  ⟨fun i _ hi q => ⟨xs, xs[i], q, List.getElem?_eq_getElem hi⟩, fun _ q => ⟨xs, q, Nat.le_refl _⟩, fun i H v H' _ q y => have ⟨T, x, h1, h2, h3, h4⟩ := y; ⟨T, .int (i : Nat), x, h1, h2, h3, rfl, h4 xs q⟩⟩
end
section
variable {J : It} {n : Nat} {G : Hp → Prop} {Y : Nat → Hp → V → Hp → Prop}
/-- a dict comprehension over a walk -/
theorem dc_it (w : Walk J n G Y) {g : TG} {tt : TT} {tk tv : TE} {vs : List Nat} {σ : L2.St} {H1 : Hp} {D : Addr} {Qd : Hp → Prop} (Pv : Nat → Hp → Prop) (h0 : Pv 0 (upd H1 D (.dK []))) (hG : ∀ i H, i ≤ n → Pv i H → G H)
    (hs : ∀ i x H H', i < n → Pv i H → Y i H x H' → g x (wipe σ vs) H' fun σ2 H2 => wipe σ2 vs = wipe σ vs ∧ tt σ2 H2 fun b H3 =>
      if b = true then tk σ2 H3 fun y H4 => tv σ2 H4 fun z H5 => ∃ kvs k, y = kV k ∧ H5 D = some (.dK kvs) ∧ kvs.length < sizeLine ∧ Pv (i + 1) (upd H5 D (.dK (putK kvs k z))) else Pv (i + 1) H3) (hd : ∀ H, Pv n H → Qd H) :
    ∃ W : Nat → Nat → Hp → Prop, (∃ m, W 0 m (upd H1 D (.dK []))) ∧ ∀ i m H, W i m H →
      (J.stop i H ∧ Qd H) ∨ (J.go i H ∧ ∃ Nx : Hp → Prop, (∀ H', Nx H' → ∃ m', m' < m ∧ W (i + 1) m' H') ∧ ∀ x H', J.yld i H x H' → g x (wipe σ vs) H' fun σ2 H2 => wipe σ2 vs = wipe σ vs ∧ tt σ2 H2 fun b H3 =>
        if b = true then tk σ2 H3 fun y H4 => tv σ2 H4 fun z H5 => ∃ kvs k, y = kV k ∧ H5 D = some (.dK kvs) ∧ kvs.length < sizeLine ∧ Nx (upd H5 D (.dK (putK kvs k z))) else Nx H3) :=
  ⟨fun i m H => m = n - i ∧ i ≤ n ∧ Pv i H, ⟨n, (Nat.sub_zero n).symm, Nat.zero_le _, h0⟩, fun i m H ⟨e, hi, p⟩ => by
    have q := hG i H hi p
    rcases Nat.lt_or_ge i n with hlt | hge
    · exact .inr ⟨w.goes i H hlt q, Pv (i + 1), fun H' p' => ⟨n - (i + 1), by omega, rfl, hlt, p'⟩, fun x H' y => hs i x H H' hlt p (w.yields i H x H' hlt q y)⟩
    · have e : i = n := Nat.le_antisymm hi hge
      subst e
      exact .inl ⟨w.stops H q, hd H p⟩⟩
end
/-! rows paired -/
theorem pget {α β : Type} {F : α → β → Prop} : ∀ {xs : List α} {ys : List β} {i : Nat} {y : β}, Paired F xs ys → ys[i]? = some y → ∃ x, xs[i]? = some x ∧ F x y
  | _, _, _, _, .nil, e => by simp at e
  | _, _, 0, _, .cons r _, e => by
    have e : _ = _ := Option.some.inj e
    exact ⟨_, rfl, e ▸ r⟩
  | _, _, i + 1, y, .cons _ t, e => pget (i := i) t e
theorem pmono {α β : Type} {F F' : α → β → Prop} (h : ∀ x y, F x y → F' x y) : ∀ {xs : List α} {ys : List β}, Paired F xs ys → Paired F' xs ys
  | _, _, .nil => .nil
  | _, _, .cons r t => .cons (h _ _ r) (pmono h t)
theorem plen {α β : Type} {F : α → β → Prop} : ∀ {xs : List α} {ys : List β}, Paired F xs ys → xs.length = ys.length
  | _, _, .nil => rfl
  | _, _, .cons _ t => congrArg Nat.succ (plen t)
theorem pmap {α β γ : Type} {F : α → β → Prop} (g : γ → β) : ∀ {xs : List α} {zs : List γ}, Paired F xs (zs.map g) → Paired (fun x z => F x (g z)) xs zs
  | _, [], .nil => .nil
  | _, _ :: _, .cons r t => .cons r (pmap g t)
/-! dicts of names -/
/-- the dict with the keys ks, in order, n standing for v n -/
def tabV (ks : List Str) (v : Str → V) : List (Key × V) := ks.map fun n => (Sum.inr n, v n)
theorem tabV_len (ks : List Str) (v : Str → V) : (tabV ks v).length = ks.length := List.length_map _
theorem tabV_keys (ks : List Str) (v : Str → V) : (tabV ks v).map (fun kv => kV kv.1) = ks.map V.str := by
  unfold tabV; rw [List.map_map]; rfl
theorem valV_tab : ∀ (ks : List Str) (v : Str → V) (n : Str), valV (tabV ks v) (Sum.inr n : Key) = if n ∈ ks then some (v n) else none
  | [], v, n => by simp [tabV, valV]
  | k :: ks, v, n => by
    show valV ((Sum.inr k, v k) :: tabV ks v) (Sum.inr n : Key) = _
    by_cases h : k = n
    · subst h
      rw [valV_pos (p := ((Sum.inr k : Key), v k)) rfl, if_pos List.mem_cons_self]
    · rw [valV_neg (p := ((Sum.inr k : Key), v k)) (fun e => h (Sum.inr.inj e)), valV_tab ks v n]
      simp [Ne.symm h]
theorem valV_tab_in {ks : List Str} {v : Str → V} {n : Str} (h : n ∈ ks) : valV (tabV ks v) (Sum.inr n : Key) = some (v n) := by rw [valV_tab, if_pos h]
theorem valV_tab_no {ks : List Str} {v : Str → V} {n : Str} (h : n ∉ ks) : valV (tabV ks v) (Sum.inr n : Key) = none := by rw [valV_tab, if_neg h]
theorem tabV_congr {ks : List Str} {v v' : Str → V} (h : ∀ n ∈ ks, v n = v' n) : tabV ks v = tabV ks v' := List.map_congr_left fun n hn => by rw [h n hn]
theorem putK_tab (ks : List Str) (v : Str → V) (n : Str) (x : V) : putK (tabV ks v) (Sum.inr n : Key) x = tabV (Df.ins ks n) (Df.put v n x) := by
  unfold Df.ins
  by_cases h : n ∈ ks
  · rw [if_pos h]
    have hany : ((tabV ks v).any fun kv => decide (kv.1 = (Sum.inr n : Key))) = true := by rw [valV_any, valV_tab_in h]; rfl
    unfold putK
    rw [if_pos hany]
    unfold tabV
    rw [List.map_map]
    refine List.map_congr_left fun m _ => ?_
    by_cases e : m = n
    · subst e
      simp [Df.put]
    · have e2 : ¬ ((Sum.inr m : Key) = Sum.inr n) := fun z => e (Sum.inr.inj z)
      simp [Df.put, e]
  · rw [if_neg h, putK_new x (valV_tab_no h)]
    have e : tabV (ks ++ [n]) (Df.put v n x) = tabV ks (Df.put v n x) ++ [(Sum.inr n, x)] := by
      unfold tabV
      rw [List.map_append]
      simp [Df.put]
    rw [e]
    congr 1
    exact tabV_congr fun m hm => by rw [Df.put_ne]; exact fun z => h (z ▸ hm)
theorem ins_len (ks : List Str) (n : Str) : (Df.ins ks n).length ≤ ks.length + 1 := by
  unfold Df.ins
  split <;> simp
end Ls

/-! ### own operators of a class with a dict: x in o -/
namespace Ls
open PySem PySem.Spec PyProof.Rows L2
section
open PySem.W
variable {prog : Program} {w : World} {A : Around} {E : Value → Shared → Prop} {s : Shared} {K : Frag} {c C f : Addr} {oc : Obj} {od : Option Obj} {x : Value}
theorem contains_own {Q : Bool → Shared → Prop} (X : K.In s.heap) (I : InstAt s.heap c oc C od) (hs : findIn K (.ref C) "__contains__" = some (some (.ref f))) (hf : typeIn K (.ref f) = some (.type "function"))
    (h : wpAny (model prog w) A (call (.ref f) [.ref c, x]) (fun r s1 => ∃ b, r = Value.bool b ∧ Q b s1) E s) : wpAny (model prog w) A (contains (.ref c) x) Q E s := by
  unfold contains
  refine wpAny_holding ?_
  show wpAny _ _ (specialOf (.ref c) "__contains__" >>= _) _ _ _
  refine wpAny_bind (wpAny_bind (I.type.here ((looks_findIn X hs).here ?_)))
  refine KFB.if_not rfl ?_
  show wpAny _ _ (callSpecialUnlessNone? (.ref c) "__contains__" [x] _ >>= _) _ _ _
  refine wpAny_bind ?_
  unfold callSpecialUnlessNone?
  refine wpAny_bind (wpAny_bind (I.type.here ((looks_findIn X hs).here ?_)))
  refine wpAny_holding (wpAny_bind ((bind_fn X _ hf).here ?_))
  refine KFB.if_not rfl ?_
  refine wpAny_bind (wpAny_mono h (fun r s1 hr => ?_) fun _ _ z => z)
  obtain ⟨b, rfl, q⟩ := hr
  exact wpAny_pure (wpAny_truthy_bool q)
end
section
variable {X : Cx} {CX : CXT} {k : Nat} {g C : Addr} {fd : FuncData} {ps : List Str} {sp : Sp} {E : XK}
/-- x in o, o of the class at C, whose __contains__ keeps sp -/
def rInOwn (C : Addr) (sp : Sp) (E : XK) : R2 := fun x y H Q => ∃ a dx fs, y = .ref a ∧ H a = some (.ins C dx fs) ∧ sp [.ref a, x] H (fun v H1 => ∃ b, v = .bl b ∧ Q (.bl b) H1) E
theorem op_inOwn (hm : Meth X.K C "__contains__" g) (F : FnOk X.prog X.w X.K X.mg X.base CX k g fd ps sp) (hr : Room k X.A) (hb : Binds X.K fd ps []) (hx : Passes CX X E) : OpR X (compareOp .In) (rInOwn C sp E) := by
  intro pins s σ H x y v u Q I rx ry h
  obtain ⟨a, dx, fs, rfl, ea, q⟩ := h
  obtain rfl : u = Value.ref a := ry
  obtain ⟨mA, O, _, _, _, _⟩ := ins_get I.hok ea
  obtain ⟨od, J, _⟩ := O.look
  show wpAny _ _ (contains (.ref a) v >>= fun b => pure (Value.bool b)) _ _ _
  refine wpAny_bind (contains_own I.kIn J hm.at_ (beq_iff_eq.mp hm.fn) (wpAny_mono (run_fn (us := [.ref a, v]) (vs := [.ref a, x]) F hr hb .nil hx I (.cons rfl (.cons rx .nil)) q) (fun r s1 z => ?_) fun _ _ z => z))
  obtain ⟨z', H', I', rz, b, rfl, qz⟩ := z
  obtain rfl : r = Value.bool b := rz
  exact ⟨b, rfl, wpAny_pure ⟨.bl b, H', I', rfl, qz⟩⟩
/-- x not in o -/
def rNiOwn (C : Addr) (sp : Sp) (E : XK) : R2 := fun x y H Q => ∃ a dx fs, y = .ref a ∧ H a = some (.ins C dx fs) ∧ sp [.ref a, x] H (fun v H1 => ∃ b, v = .bl b ∧ Q (.bl (!b)) H1) E
theorem op_niOwn (hm : Meth X.K C "__contains__" g) (F : FnOk X.prog X.w X.K X.mg X.base CX k g fd ps sp) (hr : Room k X.A) (hb : Binds X.K fd ps []) (hx : Passes CX X E) : OpR X (compareOp .NotIn) (rNiOwn C sp E) := by
  intro pins s σ H x y v u Q I rx ry h
  obtain ⟨a, dx, fs, rfl, ea, q⟩ := h
  obtain rfl : u = Value.ref a := ry
  obtain ⟨mA, O, _, _, _, _⟩ := ins_get I.hok ea
  obtain ⟨od, J, _⟩ := O.look
  show wpAny _ _ (contains (.ref a) v >>= fun b => pure (Value.bool (!b))) _ _ _
  refine wpAny_bind (contains_own I.kIn J hm.at_ (beq_iff_eq.mp hm.fn) (wpAny_mono (run_fn (us := [.ref a, v]) (vs := [.ref a, x]) F hr hb .nil hx I (.cons rfl (.cons rx .nil)) q) (fun r s1 z => ?_) fun _ _ z => z))
  obtain ⟨z', H', I', rz, b, rfl, qz⟩ := z
  obtain rfl : r = Value.bool b := rz
  exact ⟨b, rfl, wpAny_pure ⟨.bl (!b), H', I', rfl, qz⟩⟩
end
section
variable {X : Cx}
theorem kAny (K : PySem.W.Frag) (hc : X.calm = true) (h : X.K = K := by rfl) : CallR X (.builtin "any") (rAny K) := by subst h; exact cr_any hc
theorem kMax (K : PySem.W.Frag) (hc : X.calm = true) (h : X.K = K := by rfl) : CallR X (.builtin "max") (rMax K) := by subst h; exact cr_max hc
theorem kMin (K : PySem.W.Frag) (hc : X.calm = true) (h : X.K = K := by rfl) : CallR X (.builtin "min") (rMin K) := by subst h; exact cr_min hc
end
end Ls

/-! ### walks: how great a limit can be; what is implied -/
namespace Df
variable {α : Type} [DecidableEq α]
/-- a walk from u to v whose limits add up to c, all names but the last in V -/
inductive Wk (S : List (Row α)) (V : List α) : α → α → Int → Prop where
  | refl {u : α} (h : u ∈ V) : Wk S V u u 0
  | step {u x v : α} {c W : Int} (he : (u, x, c) ∈ S) (hu : u ∈ V) (t : Wk S V x v W) : Wk S V u v (c + W)
theorem Wk.start {S : List (Row α)} {V : List α} {u v : α} {W : Int} (h : Wk S V u v W) : u ∈ V := by
  cases h with
  | refl h => exact h
  | step _ h _ => exact h
theorem Wk.mono {S T : List (Row α)} {V : List α} (hS : ∀ e ∈ S, e ∈ T) {u v : α} {W : Int} (h : Wk S V u v W) : Wk T V u v W := by
  induction h with
  | refl h => exact .refl h
  | step he hu _ ih => exact .step (hS _ he) hu ih
theorem Wk.app {S : List (Row α)} {V : List α} {u x v : α} {W1 W2 : Int} (h : Wk S V u x W1) (g : Wk S V x v W2) : Wk S V u v (W1 + W2) := by
  induction h with
  | refl h => rw [Int.zero_add]; exact g
  | step he hu _ ih => rw [Int.add_assoc]; exact .step he hu (ih g)
theorem Wk.point {S : List (Row α)} {V : List α} {p : α → Int} (hp : Solves S p) {u v : α} {W : Int} (h : Wk S V u v W) : p u - p v ≤ W := by
  induction h with
  | refl h => omega
  | @step u x v c W he hu _ ih =>
    have h1 : p u - p x ≤ c := hp _ he
    omega
/-- where the walk leaves u for the last time -/
theorem Wk.last {S : List (Row α)} {V : List α} {u : α} (huV : u ∈ V) {x v : α} {W : Int} (h : Wk S V x v W) (huv : u ≠ v) :
    Wk S (V.filter (· ≠ u)) x v W ∨ ∃ w c W1 W2, (u, w, c) ∈ S ∧ Wk S (V.filter (· ≠ u)) w v W2 ∧ Wk S V x u W1 ∧ W = W1 + (c + W2) := by
  induction h with
  | refl h => exact .inl (.refl (List.mem_filter.mpr ⟨h, by simpa using huv.symm⟩))
  | @step x w v c W he hx t ih =>
    rcases ih huv with l | ⟨w', c', W1, W2, h1, h2, h3, h4⟩
    · by_cases hxu : x = u
      · subst hxu
        exact .inr ⟨w, c, 0, W, he, l, .refl hx, by omega⟩
      · exact .inl (.step he (List.mem_filter.mpr ⟨hx, by simpa using hxu⟩) l)
    · exact .inr ⟨w', c', c + W1, W2, h1, h2, .step he hx h3, by omega⟩
theorem filter_len {V : List α} {u : α} (h : u ∈ V) : (V.filter (· ≠ u)).length < V.length := by
  induction V with
  | nil => cases h
  | cons a V ih =>
    by_cases ha : a = u
    · subst ha
      rw [List.filter_cons_of_neg (by simp)]
      have := List.length_filter_le (fun x => decide (x ≠ a)) V
      simp only [List.length_cons]
      omega
    · rw [List.filter_cons_of_pos (by simpa using ha)]
      have := ih ((List.mem_cons.mp h).resolve_left fun z => ha z.symm)
      simp only [List.length_cons]
      omega
/-- a short way round: no greater, of bounded size, and the tight limit is no greater -/
theorem Ok.short {ns : List α} {B L : Int} {S : List (Row α)} {R : Tab α} (h : Ok ns B S R) {p : α → Int} (hp : Solves S p) (hS : ∀ e ∈ S, e.1 ∈ ns ∧ e.2.1 ∈ ns ∧ -L ≤ e.2.2 ∧ e.2.2 ≤ L) (h0 : 0 ≤ L) :
    ∀ (n : Nat) (V : List α), V.length ≤ n + 1 → (n + 1 : Int) * L ≤ 10 ^ 28 → (∀ x ∈ V, x ∈ ns) → ∀ {u v : α} {W : Int}, v ∈ ns → Wk S V u v W → ∃ W', W' ≤ W ∧ -((n : Int) * L) ≤ W' ∧ W' ≤ (n : Int) * L ∧ R u v ≤ W' := by
  intro n
  induction n with
  | zero =>
    intro V hV hL hVn u v W hv hw
    by_cases huv : u = v
    · subst huv
      have := hw.point hp
      have := h.diag u hv
      exact ⟨0, by omega, by omega, by omega, by omega⟩
    · rcases hw.last hw.start huv with l | ⟨w, c, W1, W2, _, l, _, _⟩
      · have := l.start
        simp at this
      · have h1 := filter_len hw.start
        have h2 := l.start
        cases hf : V.filter (· ≠ u) with
        | nil => rw [hf] at h2; cases h2
        | cons a t =>
          rw [hf] at h1
          simp only [List.length_cons] at h1
          omega
  | succ n ih =>
    intro V hV hL hVn u v W hv hw
    have hnL : ((n + 1 : Nat) : Int) * L = (n : Int) * L + L := by
      rw [show ((n + 1 : Nat) : Int) = (n : Int) + 1 by omega, Int.add_mul, Int.one_mul]
    have hnL2 : (((n + 1 : Nat) : Int) + 1) * L = (n : Int) * L + L + L := by
      rw [Int.add_mul, Int.one_mul, hnL]
    have hnL3 : ((n : Int) + 1) * L = (n : Int) * L + L := by rw [Int.add_mul, Int.one_mul]
    have hn0 : 0 ≤ (n : Int) * L := Int.mul_nonneg (by omega) h0
    rw [hnL2] at hL
    rw [hnL]
    have huV := hw.start
    by_cases huv : u = v
    · subst huv
      have := hw.point hp
      have := h.diag u hv
      exact ⟨0, by omega, by omega, by omega, by omega⟩
    · rcases hw.last huV huv with l | ⟨w, c, W1, W2, he, l, l1, eW⟩
      · have := l.start
        simp at this
      · have h1 := filter_len huV
        obtain ⟨W', k1, k2, k3, k4⟩ := ih (V.filter (· ≠ u)) (by omega) (by rw [hnL3]; omega) (fun x hx => hVn x (List.mem_filter.mp hx).1) hv l
        obtain ⟨e1, e2, e3, e4⟩ := hS _ he
        have hc : R u w ≤ c := h.compl _ he
        have p1 := l1.point hp
        have e3 : -L ≤ c := e3
        have e4 : c ≤ L := e4
        have t := h.tri u (hVn u huV) w e2 v hv (by simp only [HALFI_eq]; omega) (by simp only [HALFI_eq]; omega)
        exact ⟨c + W', by omega, by omega, by omega, by omega⟩
/-- finite limits are walks -/
def Walks (ns : List α) (S : List (Row α)) (R : Tab α) : Prop := ∀ u ∈ ns, ∀ v ∈ ns, R u v ≤ HALFI → Wk S ns u v (R u v)
theorem Walks.blank (ns : List α) : Walks ns [] (blankR : Tab α) := fun u hu v hv h => by
  unfold blankR at h ⊢
  split at h
  · rename_i e
    subst e
    rw [if_pos rfl]
    exact .refl hu
  · simp only [HALFI_eq, FARI_eq] at h
    omega
theorem Walks.more {ns : List α} {B : Int} {S : List (Row α)} {R : Tab α} (hw : Walks ns S R) (h : Ok ns B S R) {l r : α} {c : Int} (hl : l ∈ ns) (hr : r ∈ ns) (hc : -B ≤ c ∧ c ≤ B) (hB : 3 * B ≤ 10 ^ 28) {R' : Tab α} (e : moreR R l r c = some R') : Walks ns (S ++ [(l, r, c)]) R' := by
  have mono : ∀ {u v W}, Wk S ns u v W → Wk (S ++ [(l, r, c)]) ns u v W := fun g => g.mono fun e he => List.mem_append_left _ he
  unfold moreR at e
  split at e
  · cases e
    exact fun u hu v hv hf => mono (hw u hu v hv hf)
  · split at e
    · cases e
    · cases e
      intro u hu v hv hf
      rcases thru_cases R l r c u v with e | ⟨e1, e2, e3⟩
      · rw [e] at hf ⊢
        exact mono (hw u hu v hv hf)
      · rw [e3] at hf ⊢
        have b1 := h.fin (by omega) hu hl e1
        have hf2 : R r v ≤ HALFI := by
          by_cases hx : R r v ≤ HALFI
          · exact hx
          · have := h.inf (by omega) hr hv (by omega)
            simp only [HALFI_eq, FARI_eq] at hf this
            omega
        exact (mono (hw u hu l hl e1)).app (.step (by simp) hl (mono (hw r hr v hv hf2)))
theorem Walks.added {ns : List α} : ∀ (T : List (Row α)) {S : List (Row α)} {R : Tab α} {B : Int}, Walks ns S R → Ok ns B S R → (∀ e ∈ T, e.1 ∈ ns ∧ e.2.1 ∈ ns ∧ -B ≤ e.2.2 ∧ e.2.2 ≤ B) → 0 ≤ B → 3 ^ T.length * B ≤ 10 ^ 28 →
    ∀ R', addedR R T = some R' → Walks ns (S ++ T) R'
  | [], S, R, B, hw, h, _, _, _ => fun R' e => by
    cases e
    simpa using hw
  | e :: T, S, R, B, hw, h, hT, h0, hB => by
    obtain ⟨h1, h2, h3, h4⟩ := hT e List.mem_cons_self
    have e3 : (3 : Int) ^ (e :: T).length * B = 3 ^ T.length * (3 * B) := by
      rw [List.length_cons, Int.pow_succ, Int.mul_assoc]
    have e1 : (1 : Int) ≤ 3 ^ T.length := by have := Int.pow_pos (n := 3) (m := T.length) (by decide); omega
    have hB3 : 3 * B ≤ 10 ^ 28 := by
      rw [e3] at hB
      have := Int.mul_le_mul_of_nonneg_right e1 (show 0 ≤ 3 * B by omega)
      omega
    intro R' k
    cases hm : moreR R e.1 e.2.1 e.2.2 with
    | none =>
      unfold addedR at k
      rw [hm] at k
      cases k
    | some R1 =>
      have ea : addedR R (e :: T) = addedR R1 T := by
        show (moreR R e.1 e.2.1 e.2.2).bind _ = _
        rw [hm]
        rfl
      rw [ea] at k
      have hS : S ++ e :: T = (S ++ [(e.1, e.2.1, e.2.2)]) ++ T := by simp
      rw [hS]
      exact Walks.added T (hw.more h h1 h2 ⟨h3, h4⟩ hB3 hm) (h.more h1 h2 ⟨h3, h4⟩ hB3 hm) (fun d hd => by
        obtain ⟨a, b, c, d'⟩ := hT d (List.mem_cons_of_mem _ hd)
        exact ⟨a, b, by omega, by omega⟩) (by omega) (by rw [← e3]; exact hB) R' k
/-! ### a system's table as a whole -/
section
variable {ns : List α} {S : List (Row α)} {L : Int}
/-- the system S over ns, its limits at most L, small enough for the tables -/
structure Fit (ns : List α) (S : List (Row α)) (L : Int) : Prop where
  nn : 0 ≤ L
  ins : ∀ e ∈ S, e.1 ∈ ns ∧ e.2.1 ∈ ns ∧ -L ≤ e.2.2 ∧ e.2.2 ≤ L
  small : 9 ^ ns.length * (3 ^ S.length * L) ≤ 10 ^ 28
theorem pow9 (n : Nat) : (1 : Int) ≤ 9 ^ n := by have := Int.pow_pos (n := 9) (m := n) (by decide); omega
theorem pow3 (n : Nat) : (1 : Int) ≤ 3 ^ n := by have := Int.pow_pos (n := 3) (m := n) (by decide); omega
theorem Fit.le3 (h : Fit ns S L) : 3 ^ S.length * L ≤ 10 ^ 28 ∧ 0 ≤ 3 ^ S.length * L ∧ L ≤ 3 ^ S.length * L := by
  have h1 := Int.mul_le_mul_of_nonneg_right (pow3 S.length) h.nn
  have h2 := Int.mul_le_mul_of_nonneg_right (pow9 ns.length) (show 0 ≤ 3 ^ S.length * L by have := h.nn; omega)
  have := h.small
  have := h.nn
  omega
theorem Fit.some (h : Fit ns S L) {R : Tab α} (e : addedR blankR S = some R) : Ok ns (3 ^ S.length * L) S R ∧ Walks ns S R := by
  have h1 := h.le3
  have ok := Ok.blank ns h.nn (by omega)
  refine ⟨?_, ?_⟩
  · simpa using (Ok.added S ok h.ins h.nn h1.1).1 R e
  · simpa using Walks.added S (Walks.blank ns) ok h.ins h.nn h1.1 R e
theorem Fit.none (h : Fit ns S L) (e : addedR blankR S = none) (p : α → Int) : ¬ Solves S p := by
  have h1 := h.le3
  simpa using (Ok.added S (Ok.blank ns h.nn (by omega)) h.ins h.nn h1.1).2 e p
def pt0 (z : α) (x : α → Int) : α → Int := fun a => if a = z then 0 else x a
theorem Fit.point {z : α} {ks : List α} (h : Fit (z :: ks) S L) (hnd : (z :: ks).Nodup) {R : Tab α} (e : addedR blankR S = Option.some R) (x : α → Int) : ∃ R' x', pts z R x ks = Option.some (R', x') ∧ Solves S (pt0 z x') := by
  have h1 := h.le3
  have h2 := h.small
  refine (h.some e).1.point x rfl hnd h1.2.1 ?_ fun e he => ⟨(h.ins e he).1, (h.ins e he).2.1, by have := (h.ins e he).2.2.2; omega⟩
  have e9 : (9 : Int) ^ (z :: ks).length * (3 ^ S.length * L) = 9 * (9 ^ ks.length * (3 ^ S.length * L)) := by
    rw [List.length_cons, Int.pow_succ, Int.mul_comm (9 ^ ks.length) 9, Int.mul_assoc]
  rw [e9] at h2
  have h3 := Int.mul_le_mul_of_nonneg_right (pow9 ks.length) h1.2.1
  omega
theorem Fit.solvable (h : Fit ns S L) {z : α} {ks : List α} (hns : ns = z :: ks) (hnd : ns.Nodup) {R : Tab α} (e : addedR blankR S = Option.some R) : ∃ p, Solves S p := by
  subst hns
  obtain ⟨_, x', _, hs⟩ := h.point hnd e fun _ => 0
  exact ⟨_, hs⟩
/-- a finite limit is at most as great as a walk through all names -/
theorem Fit.bound (h : Fit ns S L) {R : Tab α} (e : addedR blankR S = Option.some R) {p : α → Int} (hp : Solves S p) {u v : α} (hu : u ∈ ns) (hv : v ∈ ns) (hf : R u v ≤ HALFI) (hL : (ns.length : Int) * L ≤ 10 ^ 28) :
    -((ns.length : Int) * L) ≤ R u v ∧ R u v ≤ (ns.length : Int) * L := by
  obtain ⟨ok, wk⟩ := h.some e
  have hw := wk u hu v hv hf
  cases hn : ns.length with
  | zero => rw [List.length_eq_zero_iff.mp hn] at hu; cases hu
  | succ n =>
    rw [hn] at hL
    have e1 : ((n + 1 : Nat) : Int) * L = (n : Int) * L + L := by rw [show ((n + 1 : Nat) : Int) = (n : Int) + 1 by omega, Int.add_mul, Int.one_mul]
    have h0 := h.nn
    obtain ⟨W', k1, k2, k3, k4⟩ := ok.short hp h.ins h.nn n ns (by omega) (by rw [show ((n : Int) + 1) = ((n + 1 : Nat) : Int) by omega]; exact hL) (fun x hx => hx) hv hw
    rw [e1]
    omega
/-- what `implied` answers -/
def implB (S : List (Row α)) (l r : α) (c : Int) : Bool := match addedR blankR S with
  | Option.none => true
  | Option.some R => decide (R l r ≤ c)
/-- implied: the denial has no solution -/
theorem Fit.implied (h : Fit ns S L) {l r : α} {c : Int} (hl : l ∈ ns) (hr : r ∈ ns) (hc : c ≤ 10 ^ 28) (hi : implB S l r c = true) (p : α → Int) : ¬ Solves (S ++ [(r, l, 0 - c - 1)]) p := fun hp => by
  have hS : Solves S p := fun e he => hp e (List.mem_append_left _ he)
  unfold implB at hi
  cases e : addedR blankR S with
  | none => exact h.none e p hS
  | some R =>
    rw [e] at hi
    have hi : R l r ≤ c := of_decide_eq_true hi
    have h1 := (h.some e).1.sound p hS l hl r hr (by simp only [HALFI_eq]; omega)
    have h2 := hp (r, l, 0 - c - 1) (by simp)
    have h2 : p r - p l ≤ 0 - c - 1 := h2
    omega
/-- not implied: the denial's table comes out -/
theorem denied {S : List (Row α)} {l r : α} {c : Int} (hi : implB S l r c = false) : ∃ R, addedR blankR (S ++ [(r, l, 0 - c - 1)]) = Option.some R := by
  unfold implB at hi
  cases e : addedR blankR S with
  | none => rw [e] at hi; cases hi
  | some R =>
    rw [e] at hi
    have hi : ¬ R l r ≤ c := of_decide_eq_false hi
    rw [addedR_append, e]
    show ∃ R', addedR R [(r, l, 0 - c - 1)] = Option.some R'
    rw [addedR_one]
    unfold moreR
    split
    · exact ⟨_, rfl⟩
    · rw [if_neg (show ¬ R l r + (0 - c - 1) < 0 by omega)]
      exact ⟨_, rfl⟩
/-- a system implies its own -/
theorem Fit.own (h : Fit ns S L) {e : Row α} (he : e ∈ S) : implB S e.1 e.2.1 e.2.2 = true := by
  unfold implB
  cases ea : addedR blankR S with
  | none => rfl
  | some R => exact decide_eq_true ((h.some ea).1.compl e he)
end
end Df

namespace Df
variable {α : Type} [DecidableEq α]
/-! ### tables as sets of points -/
/-- the points of a table -/
def InT (ns : List α) (R : Tab α) (p : α → Int) : Prop := ∀ u ∈ ns, ∀ v ∈ ns, R u v ≤ HALFI → p u - p v ≤ R u v
def KK : Int := 300000000000000000
def LL : Int := 30000000000000000
/-- a closed table that came about by few steps from rows with small limits -/
structure Gd (ns : List α) (k : Nat) (S : List (Row α)) (R : Tab α) : Prop where
  ok : Ok ns (((k + 1 : Nat) : Int) * KK) S R
  wk : Walks ns S R
  rows : ∀ e ∈ S, e.1 ∈ ns ∧ e.2.1 ∈ ns ∧ -LL ≤ e.2.2 ∧ e.2.2 ≤ LL
/-- the names: z first, all different, at most four -/
structure Nm (ns : List α) : Prop where
  nd : ns.Nodup
  le : ns.length ≤ 4
  ne : ns ≠ []
theorem kk_le {k : Nat} (h : k ≤ 1000) : ((k + 1 : Nat) : Int) * KK ≤ 1001 * KK := Int.mul_le_mul_of_nonneg_right (by omega) (by decide)
theorem kk_succ (k : Nat) : ((k + 1 + 1 : Nat) : Int) * KK = ((k + 1 : Nat) : Int) * KK + KK := by
  rw [show ((k + 1 + 1 : Nat) : Int) = ((k + 1 : Nat) : Int) + 1 by omega, Int.add_mul, Int.one_mul]
theorem kk_pos (k : Nat) : KK ≤ ((k + 1 : Nat) : Int) * KK := by
  have := Int.mul_le_mul_of_nonneg_right (show (1 : Int) ≤ ((k + 1 : Nat) : Int) by omega) (show (0 : Int) ≤ KK by decide)
  omega
theorem KK_eq : KK = 300000000000000000 := rfl
theorem LL_eq : LL = 30000000000000000 := rfl
section
variable {ns : List α} {k : Nat} {S : List (Row α)} {R : Tab α}
theorem Gd.small (h : Gd ns k S R) (hk : k ≤ 1000) : ((k + 1 : Nat) : Int) * KK ≤ 10 ^ 28 := by
  have := kk_le hk
  rw [KK_eq] at this ⊢
  omega
theorem Gd.mono (h : Gd ns k S R) {j : Nat} (hj : k ≤ j) : Gd ns j S R := ⟨h.ok.wide (Int.mul_le_mul_of_nonneg_right (by omega) (by decide)), h.wk, h.rows⟩
theorem Gd.iff_ (h : Gd ns k S R) (p : α → Int) : InT ns R p ↔ Solves S p := by
  constructor
  · intro hp e he
    obtain ⟨h1, h2, h3, h4⟩ := h.rows e he
    have h5 := h.ok.compl e he
    have := hp e.1 h1 e.2.1 h2 (by rw [LL_eq] at h4; simp only [HALFI_eq]; omega)
    omega
  · exact fun hp u hu v hv hf => h.ok.sound p hp u hu v hv hf
theorem Gd.solvable (h : Gd ns k S R) (hn : Nm ns) (hk : k ≤ 1000) : ∃ p, Solves S p := by
  obtain ⟨hnd, hle, hne⟩ := hn
  obtain ⟨z, ks, rfl⟩ : ∃ z ks, ns = z :: ks := by
    cases ns with
    | nil => exact absurd rfl hne
    | cons z ks => exact ⟨z, ks, rfl⟩
  have h1 := kk_le hk
  have h0 := kk_pos k
  rw [KK_eq] at h1 h0
  have hb : (9 : Int) ^ ks.length ≤ 9 ^ 3 := by
    rw [List.length_cons] at hle
    rcases (show ks.length = 0 ∨ ks.length = 1 ∨ ks.length = 2 ∨ ks.length = 3 by omega) with e | e | e | e <;> rw [e] <;> decide
  obtain ⟨_, x', _, hs⟩ := h.ok.point (fun _ => 0) rfl hnd (by rw [KK_eq]; omega) (by
    have h2 := Int.mul_le_mul_of_nonneg_right hb (show 0 ≤ ((k + 1 : Nat) : Int) * KK by rw [KK_eq]; omega)
    rw [KK_eq] at h2 ⊢
    omega) fun e he => ⟨(h.rows e he).1, (h.rows e he).2.1, by have := (h.rows e he).2.2.2; rw [LL_eq] at this; omega⟩
  exact ⟨_, hs⟩
theorem Gd.point (h : Gd ns k S R) (hn : Nm ns) (hk : k ≤ 1000) : ∃ p, InT ns R p := by
  obtain ⟨p, hp⟩ := h.solvable hn hk
  exact ⟨p, (h.iff_ p).mpr hp⟩
/-- a finite limit is small -/
theorem Gd.fin (h : Gd ns k S R) (hn : Nm ns) (hk : k ≤ 1000) {u v : α} (hu : u ∈ ns) (hv : v ∈ ns) (hf : R u v ≤ HALFI) : -120000000000000000 ≤ R u v ∧ R u v ≤ 120000000000000000 := by
  obtain ⟨p, hp⟩ := h.solvable hn hk
  have hw := h.wk u hu v hv hf
  have hle := hn.le
  obtain ⟨W', k1, k2, k3, k4⟩ := h.ok.short hp h.rows (by decide) 3 ns (by omega) (by decide) (fun x hx => hx) hv hw
  rw [LL_eq] at k2 k3
  have := h.ok.sound p hp u hu v hv hf
  have := hw.point hp
  have k2 : -(90000000000000000) ≤ W' := by omega
  have k3 : W' ≤ 90000000000000000 := by omega
  -- R u v is the weight of a walk, and no walk is below it
  omega
theorem Gd.size (h : Gd ns k S R) (hn : Nm ns) (hk : k ≤ 1000) {u v : α} (hu : u ∈ ns) (hv : v ∈ ns) : (-120000000000000000 ≤ R u v ∧ R u v ≤ 120000000000000000) ∨ FARI - ((k + 1 : Nat) : Int) * KK ≤ R u v := by
  by_cases hf : R u v ≤ HALFI
  · exact .inl (h.fin hn hk hu hv hf)
  · exact .inr (h.ok.inf (h.small hk) hu hv (by omega))
theorem Gd.more (h : Gd ns k S R) (hn : Nm ns) (hk : k + 1 ≤ 1000) {l r : α} {c : Int} (hl : l ∈ ns) (hr : r ∈ ns) (hc : -LL ≤ c ∧ c ≤ LL) {R' : Tab α} (e : moreR R l r c = some R') : Gd ns (k + 1) (S ++ [(l, r, c)]) R' := by
  have b1 := kk_le (k := k) (by omega)
  have b0 := kk_pos k
  have hcB : -(((k + 1 : Nat) : Int) * KK) ≤ c ∧ c ≤ ((k + 1 : Nat) : Int) * KK := by rw [LL_eq] at hc; rw [KK_eq] at b0 ⊢; omega
  have hB3 : 3 * (((k + 1 : Nat) : Int) * KK) ≤ 10 ^ 28 := by rw [KK_eq] at b1 ⊢; omega
  have h3 := h.ok.more hl hr hcB hB3 e
  refine ⟨⟨h3.diag, fun u hu v hv => ?_, h3.tri, h3.sound, h3.compl⟩, h.wk.more h.ok hl hr hcB hB3 e, fun d hd => ?_⟩
  · have old : (-(((k + 1 + 1 : Nat) : Int) * KK) ≤ R u v ∧ R u v ≤ ((k + 1 + 1 : Nat) : Int) * KK) ∨ FARI - ((k + 1 + 1 : Nat) : Int) * KK ≤ R u v := by
      rw [kk_succ]
      rcases h.ok.size u hu v hv with z | z
      · left; rw [KK_eq] at z ⊢; omega
      · right; rw [KK_eq] at z ⊢; omega
    unfold moreR at e
    split at e
    · cases e; exact old
    · split at e
      · cases e
      · cases e
        rcases thru_cases R l r c u v with e | ⟨e1, e2, e3⟩
        · rw [e]; exact old
        · rw [e3, kk_succ]
          have z1 := h.fin hn (by omega) hu hl e1
          rw [LL_eq] at hc
          rcases h.size hn (by omega) hr hv with z | z
          · left; rw [KK_eq] at b0 ⊢; omega
          · right; rw [KK_eq] at b0 z ⊢; omega
  · rcases List.mem_append.mp hd with hd | hd
    · exact h.rows d hd
    · rw [List.mem_singleton.mp hd]
      exact ⟨hl, hr, hc⟩
theorem Gd.more_none (h : Gd ns k S R) (hk : k ≤ 1000) {l r : α} {c : Int} (hl : l ∈ ns) (hr : r ∈ ns) (hc : -LL ≤ c ∧ c ≤ LL) (e : moreR R l r c = none) (p : α → Int) (hp : InT ns R p) : ¬ p l - p r ≤ c := fun hx => by
  have b1 := kk_le hk
  have b0 := kk_pos k
  have hcB : -(((k + 1 : Nat) : Int) * KK) ≤ c ∧ c ≤ ((k + 1 : Nat) : Int) * KK := by rw [LL_eq] at hc; rw [KK_eq] at b0 ⊢; omega
  have hB3 : 3 * (((k + 1 : Nat) : Int) * KK) ≤ 10 ^ 28 := by rw [KK_eq] at b1 ⊢; omega
  refine h.ok.more_none hl hr hcB hB3 e p fun d hd => ?_
  rcases List.mem_append.mp hd with hd | hd
  · exact (h.iff_ p).mp hp d hd
  · rw [List.mem_singleton.mp hd]; exact hx
theorem Gd.more_in (h : Gd ns k S R) (hn : Nm ns) (hk : k + 1 ≤ 1000) {l r : α} {c : Int} (hl : l ∈ ns) (hr : r ∈ ns) (hc : -LL ≤ c ∧ c ≤ LL) {R' : Tab α} (e : moreR R l r c = some R') (p : α → Int) : InT ns R' p ↔ InT ns R p ∧ p l - p r ≤ c := by
  rw [(h.more hn hk hl hr hc e).iff_, h.iff_]
  constructor
  · exact fun hp => ⟨fun d hd => hp d (List.mem_append_left _ hd), hp (l, r, c) (by simp)⟩
  · rintro ⟨h1, h2⟩ d hd
    rcases List.mem_append.mp hd with hd | hd
    · exact h1 d hd
    · rw [List.mem_singleton.mp hd]; exact h2
/-- a drawn system's table -/
theorem Gd.start {n : Nat} {L0 : Int} (h : Fit ns S L0) (hL : L0 ≤ LL) (e : addedR blankR S = some R) (hs : 3 ^ S.length * L0 ≤ ((n + 1 : Nat) : Int) * KK) : Gd ns n S R := by
  obtain ⟨ok, wk⟩ := h.some e
  exact ⟨ok.wide hs, wk, fun e he => ⟨(h.ins e he).1, (h.ins e he).2.1, by have := (h.ins e he).2.2.1; omega, by have := (h.ins e he).2.2.2; omega⟩⟩
end
end Df

namespace Df
variable {α : Type} [DecidableEq α]
def GdR (ns : List α) (k : Nat) (R : Tab α) : Prop := ∃ S, Gd ns k S R
theorem GdR.mono {ns : List α} {k j : Nat} {R : Tab α} (h : GdR ns k R) (hj : k ≤ j) : GdR ns j R := h.imp fun _ q => q.mono hj
/-- rows of names whose limits and denials are small -/
def Sy (ns : List α) (S : List (Row α)) : Prop := ∀ e ∈ S, e.1 ∈ ns ∧ e.2.1 ∈ ns ∧ -(LL - 1) ≤ e.2.2 ∧ e.2.2 ≤ LL - 1
theorem Sy.tail {ns : List α} {e : Row α} {S : List (Row α)} (h : Sy ns (e :: S)) : Sy ns S := fun d hd => h d (List.mem_cons_of_mem _ hd)
/-! ### a table without the solutions of a system -/
def outR (R : Tab α) : List (Row α) → List (Tab α)
  | [] => []
  | e :: S => if R e.1 e.2.1 ≤ e.2.2 then outR R S else (moreR R e.2.1 e.1 (0 - e.2.2 - 1)).toList ++ (match moreR R e.1 e.2.1 e.2.2 with
    | none => []
    | some R' => outR R' S)
theorem outR_cons (R : Tab α) (e : Row α) (S : List (Row α)) : outR R (e :: S) = if R e.1 e.2.1 ≤ e.2.2 then outR R S else (moreR R e.2.1 e.1 (0 - e.2.2 - 1)).toList ++ (moreR R e.1 e.2.1 e.2.2).elim [] fun R' => outR R' S := by
  rw [outR]
  cases moreR R e.1 e.2.1 e.2.2 <;> rfl
theorem outR_len : ∀ (S : List (Row α)) (R : Tab α), (outR R S).length ≤ S.length
  | [], R => Nat.le_refl _
  | e :: S, R => by
    rw [outR_cons, List.length_cons]
    split
    · have := outR_len S R
      omega
    · rw [List.length_append]
      have h1 : (moreR R e.2.1 e.1 (0 - e.2.2 - 1)).toList.length ≤ 1 := by cases moreR R e.2.1 e.1 (0 - e.2.2 - 1) <;> simp
      have h2 : ((moreR R e.1 e.2.1 e.2.2).elim [] fun R' => outR R' S).length ≤ S.length := by
        cases moreR R e.1 e.2.1 e.2.2 with
        | none => exact Nat.zero_le _
        | some R' => exact outR_len S R'
      omega
theorem solves_cons {e : Row α} {S : List (Row α)} {p : α → Int} : Solves (e :: S) p ↔ p e.1 - p e.2.1 ≤ e.2.2 ∧ Solves S p :=
  ⟨fun h => ⟨h e List.mem_cons_self, fun d hd => h d (List.mem_cons_of_mem _ hd)⟩, fun ⟨h1, h2⟩ d hd => by
    rcases List.mem_cons.mp hd with rfl | hd
    · exact h1
    · exact h2 d hd⟩
theorem outR_spec {ns : List α} (hn : Nm ns) : ∀ (S : List (Row α)) {R : Tab α} {k : Nat}, GdR ns k R → Sy ns S → k + S.length ≤ 1000 →
    (∀ T ∈ outR R S, GdR ns (k + S.length) T) ∧ (∀ p, (∃ T ∈ outR R S, InT ns T p) ↔ InT ns R p ∧ ¬ Solves S p) ∧ (outR R S).length ≤ S.length
  | [], R, k, _, _, _ => ⟨fun T hT => (by cases hT), fun p => ⟨fun ⟨T, hT, _⟩ => (by cases hT), fun ⟨_, h⟩ => absurd (fun e he => by cases he) h⟩, Nat.le_refl _⟩
  | e :: S, R, k, hR, hS, hk => by
    rw [List.length_cons] at hk ⊢
    obtain ⟨h1, h2, h3, h4⟩ := hS e List.mem_cons_self
    obtain ⟨S0, g⟩ := hR
    unfold outR
    by_cases c1 : R e.1 e.2.1 ≤ e.2.2
    · rw [if_pos c1]
      obtain ⟨i1, i2, i3⟩ := outR_spec hn S ⟨S0, g⟩ hS.tail (by omega)
      refine ⟨fun T hT => (i1 T hT).mono (by omega), fun p => ?_, by omega⟩
      rw [i2 p, solves_cons]
      refine ⟨fun ⟨a, b⟩ => ⟨a, fun z => b z.2⟩, fun ⟨a, b⟩ => ⟨a, fun z => b ⟨?_, z⟩⟩⟩
      have := a e.1 h1 e.2.1 h2 (by rw [LL_eq] at h4; simp only [HALFI_eq]; omega)
      omega
    · rw [if_neg c1]
      have hcd : -LL ≤ 0 - e.2.2 - 1 ∧ 0 - e.2.2 - 1 ≤ LL := by omega
      have hc : -LL ≤ e.2.2 ∧ e.2.2 ≤ LL := by omega
      -- the denial
      have den : (∀ T ∈ (moreR R e.2.1 e.1 (0 - e.2.2 - 1)).toList, GdR ns (k + (S.length + 1)) T) ∧ (∀ p, (∃ T ∈ (moreR R e.2.1 e.1 (0 - e.2.2 - 1)).toList, InT ns T p) ↔ InT ns R p ∧ ¬ p e.1 - p e.2.1 ≤ e.2.2) ∧ (moreR R e.2.1 e.1 (0 - e.2.2 - 1)).toList.length ≤ 1 := by
        cases hm : moreR R e.2.1 e.1 (0 - e.2.2 - 1) with
        | none =>
          refine ⟨fun T hT => (by cases hT), fun p => ⟨fun ⟨T, hT, _⟩ => (by cases hT), fun ⟨a, b⟩ => ?_⟩, Nat.zero_le _⟩
          exact absurd (show p e.2.1 - p e.1 ≤ 0 - e.2.2 - 1 by omega) (g.more_none (by omega) h2 h1 hcd hm p a)
        | some T =>
          refine ⟨fun T' hT' => ?_, fun p => ?_, Nat.le_refl _⟩
          · have e' : T' = T := List.mem_singleton.mp hT'
            rw [e']
            exact ⟨_, (g.more hn (by omega) h2 h1 hcd hm).mono (by omega)⟩
          · have hi := g.more_in hn (by omega) h2 h1 hcd hm p
            constructor
            · rintro ⟨T', hT', q⟩
              have e' : T' = T := List.mem_singleton.mp hT'
              rw [e'] at q
              obtain ⟨a, b⟩ := hi.mp q
              exact ⟨a, by omega⟩
            · rintro ⟨a, b⟩
              exact ⟨T, List.mem_singleton.mpr rfl, hi.mpr ⟨a, by omega⟩⟩
      obtain ⟨d1, d2, d3⟩ := den
      -- the rest
      have rst : ∃ X, (match moreR R e.1 e.2.1 e.2.2 with | none => [] | some R' => outR R' S) = X ∧ (∀ T ∈ X, GdR ns (k + (S.length + 1)) T) ∧ (∀ p, (∃ T ∈ X, InT ns T p) ↔ InT ns R p ∧ p e.1 - p e.2.1 ≤ e.2.2 ∧ ¬ Solves S p) ∧ X.length ≤ S.length := by
        cases hm : moreR R e.1 e.2.1 e.2.2 with
        | none =>
          refine ⟨_, rfl, fun T hT => (by cases hT), fun p => ⟨fun ⟨T, hT, _⟩ => (by cases hT), fun ⟨a, b, _⟩ => ?_⟩, Nat.zero_le _⟩
          exact absurd b (g.more_none (by omega) h1 h2 hc hm p a)
        | some R' =>
          obtain ⟨i1, i2, i3⟩ := outR_spec hn S ⟨_, g.more hn (by omega) h1 h2 hc hm⟩ hS.tail (by omega)
          refine ⟨_, rfl, fun T hT => (i1 T hT).mono (by omega), fun p => ?_, i3⟩
          rw [i2 p, g.more_in hn (by omega) h1 h2 hc hm p, and_assoc]
      obtain ⟨X, eX, r1, r2, r3⟩ := rst
      rw [eX]
      refine ⟨fun T hT => ?_, fun p => ?_, by rw [List.length_append]; omega⟩
      · rcases List.mem_append.mp hT with hT | hT
        · exact d1 T hT
        · exact r1 T hT
      · rw [solves_cons]
        constructor
        · rintro ⟨T, hT, q⟩
          rcases List.mem_append.mp hT with hT | hT
          · obtain ⟨a, b⟩ := (d2 p).mp ⟨T, hT, q⟩
            exact ⟨a, fun z => b z.1⟩
          · obtain ⟨a, b, c⟩ := (r2 p).mp ⟨T, hT, q⟩
            exact ⟨a, fun z => c z.2⟩
        · rintro ⟨a, b⟩
          by_cases c : p e.1 - p e.2.1 ≤ e.2.2
          · obtain ⟨T, hT, q⟩ := (r2 p).mpr ⟨a, c, fun z => b ⟨c, z⟩⟩
            exact ⟨T, List.mem_append_right _ hT, q⟩
          · obtain ⟨T, hT, q⟩ := (d2 p).mpr ⟨a, c⟩
            exact ⟨T, List.mem_append_left _ hT, q⟩
/-! ### a lean system of a table -/
structure LeanOf (ns : List α) (R : Tab α) (S : List (Row α)) : Prop where
  sub : ∀ e ∈ S, e.1 ∈ ns ∧ e.2.1 ∈ ns ∧ e.1 ≠ e.2.1 ∧ e.2.2 = R e.1 e.2.1 ∧ R e.1 e.2.1 ≤ HALFI
  imp : ∀ p, Solves S p → InT ns R p
  len : S.length ≤ ns.length * ns.length
theorem LeanOf.iff_ {ns : List α} {R : Tab α} {S : List (Row α)} (h : LeanOf ns R S) (p : α → Int) : Solves S p ↔ InT ns R p :=
  ⟨h.imp p, fun hp e he => by
    obtain ⟨h1, h2, _, h3, h4⟩ := h.sub e he
    have := hp _ h1 _ h2 h4
    omega⟩
/-- lean_of under way: done are the pairs looked at, P the dropped ones -/
structure LeanI (ns : List α) (R : Tab α) (done : List (α × α)) (P : α → α → Prop) (S : List (Row α)) : Prop where
  sub : ∀ e ∈ S, e.1 ∈ ns ∧ e.2.1 ∈ ns ∧ e.1 ≠ e.2.1 ∧ e.2.2 = R e.1 e.2.1 ∧ R e.1 e.2.1 ≤ HALFI
  all : ∀ u v, (u, v) ∈ done → u ≠ v → R u v ≤ HALFI → ¬ P u v → (u, v, R u v) ∈ S
  imp : ∀ p : α → Int, (∀ u ∈ ns, ∀ v ∈ ns, u ≠ v → R u v ≤ HALFI → ¬ P u v → p u - p v ≤ R u v) → ∀ u ∈ ns, ∀ v ∈ ns, u ≠ v → R u v ≤ HALFI → p u - p v ≤ R u v
  len : S.length ≤ done.length
section
variable {ns : List α} {R : Tab α} {done : List (α × α)} {P : α → α → Prop} {S : List (Row α)}
theorem LeanI.start : LeanI ns R [] (fun _ _ => False) [] := ⟨fun e he => (by cases he), fun u v h => (by cases h), fun p h u hu v hv ne hf => h u hu v hv ne hf (fun z => z), Nat.le_refl _⟩
theorem LeanI.skip (h : LeanI ns R done P S) {u v : α} (c : u = v ∨ ¬ R u v ≤ HALFI) : LeanI ns R (done ++ [(u, v)]) P S := ⟨h.sub, fun x y hx ne hf hp => by
  rcases List.mem_append.mp hx with hx | hx
  · exact h.all x y hx ne hf hp
  · cases List.mem_singleton.mp hx
    rcases c with c | c
    · exact absurd c ne
    · exact absurd hf c, h.imp, by have := h.len; rw [List.length_append]; omega⟩
theorem LeanI.keep (h : LeanI ns R done P S) {u v : α} (hu : u ∈ ns) (hv : v ∈ ns) (ne : u ≠ v) (hf : R u v ≤ HALFI) : LeanI ns R (done ++ [(u, v)]) P (S ++ [(u, v, R u v)]) := ⟨fun e he => by
  rcases List.mem_append.mp he with he | he
  · exact h.sub e he
  · rw [List.mem_singleton.mp he]
    exact ⟨hu, hv, ne, rfl, hf⟩, fun x y hx ne hf hp => by
  rcases List.mem_append.mp hx with hx | hx
  · exact List.mem_append_left _ (h.all x y hx ne hf hp)
  · cases List.mem_singleton.mp hx
    exact List.mem_append_right _ (List.mem_singleton.mpr rfl), h.imp, by have := h.len; rw [List.length_append, List.length_append]; simp; omega⟩
theorem LeanI.drop (h : LeanI ns R done P S) {u v w : α} (hw : w ∈ ns) (hu : u ∈ ns) (hv : v ∈ ns) (n1 : w ≠ u) (n2 : w ≠ v) (p1 : ¬ P u w) (p2 : ¬ P w v) (f1 : R u w ≤ HALFI) (f2 : R w v ≤ HALFI) (hs : R u w + R w v ≤ R u v) :
    LeanI ns R (done ++ [(u, v)]) (fun x y => (x = u ∧ y = v) ∨ P x y) S := ⟨h.sub, fun x y hx ne hf hp => by
  rcases List.mem_append.mp hx with hx | hx
  · exact h.all x y hx ne hf fun z => hp (.inr z)
  · cases List.mem_singleton.mp hx
    exact absurd (.inl ⟨rfl, rfl⟩) hp, fun p hp => by
  refine h.imp p fun x hx y hy ne hf hxy => ?_
  by_cases c : x = u ∧ y = v
  · obtain ⟨rfl, rfl⟩ := c
    have a := hp x hx w hw (fun z => n1 z.symm) f1 (fun z => z.elim (fun z => n2 z.2) p1)
    have b := hp w hw y hy n2 f2 (fun z => z.elim (fun z => n1 z.1) p2)
    omega
  · exact hp x hx y hy ne hf (fun z => z.elim c hxy), by have := h.len; rw [List.length_append]; omega⟩
theorem LeanI.done_ (h : LeanI ns R done P S) (hd : ∀ u ∈ ns, ∀ v ∈ ns, (u, v) ∈ done) (hl : done.length ≤ ns.length * ns.length) (h0 : ∀ u ∈ ns, R u u = 0) : LeanOf ns R S := ⟨h.sub, fun p hp u hu v hv hf => by
  by_cases c : u = v
  · subst c
    rw [h0 u hu]
    omega
  · exact h.imp p (fun x hx y hy ne hf hxy => hp _ (h.all x y (hd x hx y hy) ne hf hxy)) u hu v hv c hf, Nat.le_trans h.len hl⟩
end
/-! ### tables without the solutions of others -/
def withR (Rs : List (Tab α)) (S : List (Row α)) : List (Tab α) := Rs.flatMap fun R => outR R S
theorem withR_len {S : List (Row α)} : ∀ (Rs : List (Tab α)), (withR Rs S).length ≤ Rs.length * S.length
  | [] => Nat.zero_le _
  | R :: Rs => by
    have h1 := outR_len S R
    have h2 := withR_len (S := S) Rs
    unfold withR at h2 ⊢
    rw [List.flatMap_cons, List.length_append, List.length_cons, Nat.succ_mul]
    omega
inductive LeftR (ns : List α) : List (Tab α) → List (Tab α) → List (Tab α) → Prop where
  | nil {Rs : List (Tab α)} : LeftR ns Rs [] Rs
  | cons {Rs Os Ts : List (Tab α)} {O : Tab α} {S : List (Row α)} : LeanOf ns O S → LeftR ns (withR Rs S) Os Ts → LeftR ns Rs (O :: Os) Ts
/-- the finite limits of a table are very small -/
def Tiny (ns : List α) (R : Tab α) : Prop := ∀ u ∈ ns, ∀ v ∈ ns, R u v ≤ HALFI → -(LL - 1) ≤ R u v ∧ R u v ≤ LL - 1
theorem LeanOf.sy {ns : List α} {R : Tab α} {S : List (Row α)} (h : LeanOf ns R S) (t : Tiny ns R) : Sy ns S := fun e he => by
  obtain ⟨h1, h2, _, h3, h4⟩ := h.sub e he
  have := t _ h1 _ h2 h4
  exact ⟨h1, h2, by omega, by omega⟩
theorem withR_spec {ns : List α} (hn : Nm ns) {S : List (Row α)} (hS : Sy ns S) {k : Nat} (hk : k + S.length ≤ 1000) : ∀ {Rs : List (Tab α)}, (∀ R ∈ Rs, GdR ns k R) →
    (∀ T ∈ withR Rs S, GdR ns (k + S.length) T) ∧ (∀ p, (∃ T ∈ withR Rs S, InT ns T p) ↔ (∃ R ∈ Rs, InT ns R p) ∧ ¬ Solves S p) ∧ (withR Rs S).length ≤ Rs.length * S.length := fun {Rs} hR => by
  refine ⟨fun T hT => ?_, fun p => ?_, ?_⟩
  · obtain ⟨R, hRm, hT⟩ := List.mem_flatMap.mp hT
    exact (outR_spec hn S (hR R hRm) hS hk).1 T hT
  · constructor
    · rintro ⟨T, hT, q⟩
      obtain ⟨R, hRm, hT⟩ := List.mem_flatMap.mp hT
      obtain ⟨a, b⟩ := ((outR_spec hn S (hR R hRm) hS hk).2.1 p).mp ⟨T, hT, q⟩
      exact ⟨⟨R, hRm, a⟩, b⟩
    · rintro ⟨⟨R, hRm, a⟩, b⟩
      obtain ⟨T, hT, q⟩ := ((outR_spec hn S (hR R hRm) hS hk).2.1 p).mpr ⟨a, b⟩
      exact ⟨T, List.mem_flatMap.mpr ⟨R, hRm, hT⟩, q⟩
  · induction Rs with
    | nil => exact Nat.zero_le _
    | cons R Rs ih =>
      have h1 := (outR_spec hn S (hR R List.mem_cons_self) hS hk).2.2
      have h2 := ih fun R hR' => hR R (List.mem_cons_of_mem _ hR')
      unfold withR at h2 ⊢
      rw [List.flatMap_cons, List.length_append, List.length_cons, Nat.succ_mul]
      omega
theorem LeftR.spec {ns : List α} (hn : Nm ns) {Rs Os Ts : List (Tab α)} (h : LeftR ns Rs Os Ts) : ∀ {k : Nat}, (∀ R ∈ Rs, GdR ns k R) → (∀ O ∈ Os, Tiny ns O) → k + 16 * Os.length ≤ 1000 →
    (∀ T ∈ Ts, GdR ns (k + 16 * Os.length) T) ∧ (∀ p, (∃ T ∈ Ts, InT ns T p) ↔ (∃ R ∈ Rs, InT ns R p) ∧ ¬ ∃ O ∈ Os, InT ns O p) ∧ Ts.length ≤ Rs.length * 16 ^ Os.length := by
  induction h with
  | nil => exact fun {k} hR _ _ => ⟨hR, fun p => ⟨fun q => ⟨q, fun ⟨O, hO, _⟩ => (by cases hO)⟩, fun q => q.1⟩, by simp⟩
  | @cons Rs Os Ts O S hO hL ih =>
    intro k hR hT hk
    rw [List.length_cons] at hk ⊢
    have hlen : S.length ≤ 16 := by
      have h1 := hO.len
      have h2 : ns.length * ns.length ≤ 4 * 4 := Nat.mul_le_mul hn.le hn.le
      omega
    obtain ⟨w1, w2, w3⟩ := withR_spec hn (hO.sy (hT O List.mem_cons_self)) (k := k) (by omega) hR
    obtain ⟨i1, i2, i3⟩ := ih (k := k + S.length) w1 (fun O' hO' => hT O' (List.mem_cons_of_mem _ hO')) (by omega)
    refine ⟨fun T hT' => (i1 T hT').mono (by omega), fun p => ?_, ?_⟩
    · rw [i2 p, w2 p, hO.iff_]
      constructor
      · rintro ⟨⟨a, b⟩, c⟩
        refine ⟨a, ?_⟩
        rintro ⟨O', hO', q⟩
        rcases List.mem_cons.mp hO' with rfl | hO'
        · exact b q
        · exact c ⟨O', hO', q⟩
      · rintro ⟨a, b⟩
        exact ⟨⟨a, fun q => b ⟨O, List.mem_cons_self, q⟩⟩, fun ⟨O', hO', q⟩ => b ⟨O', List.mem_cons_of_mem _ hO', q⟩⟩
    · have h1 : (withR Rs S).length ≤ Rs.length * 16 := Nat.le_trans w3 (Nat.mul_le_mul_left _ hlen)
      have h2 : (withR Rs S).length * 16 ^ Os.length ≤ Rs.length * 16 * 16 ^ Os.length := Nat.mul_le_mul_right _ h1
      rw [Nat.pow_succ, Nat.mul_comm (16 ^ Os.length) 16, ← Nat.mul_assoc]
      omega
theorem LeftR.len {ns : List α} (hn : ns.length ≤ 4) {Rs Os Ts : List (Tab α)} (h : LeftR ns Rs Os Ts) : Ts.length ≤ Rs.length * 16 ^ Os.length := by
  induction h with
  | nil => simp
  | @cons Rs Os Ts O S hO hL ih =>
    have hlen : S.length ≤ 16 := by
      have h1 := hO.len
      have h2 : ns.length * ns.length ≤ 4 * 4 := Nat.mul_le_mul hn hn
      omega
    have h1 : (withR Rs S).length ≤ Rs.length * 16 := Nat.le_trans (withR_len Rs) (Nat.mul_le_mul_left _ hlen)
    have h2 : (withR Rs S).length * 16 ^ Os.length ≤ Rs.length * 16 * 16 ^ Os.length := Nat.mul_le_mul_right _ h1
    rw [List.length_cons, Nat.pow_succ, Nat.mul_comm (16 ^ Os.length) 16, ← Nat.mul_assoc]
    omega
theorem LeftR.len4 {ns : List α} (hn : ns.length ≤ 4) {Rs Os Ts : List (Tab α)} (h : LeftR ns Rs Os Ts) (h1 : Rs.length ≤ 4) (h2 : Os.length ≤ 4) : Ts.length ≤ 300000 := by
  have a := h.len hn
  have b : (16 : Nat) ^ Os.length ≤ 16 ^ 4 := Nat.pow_le_pow_right (by decide) h2
  have c : Rs.length * 16 ^ Os.length ≤ 4 * 16 ^ 4 := Nat.mul_le_mul h1 b
  have d : (16 : Nat) ^ 4 = 65536 := rfl
  omega
theorem LeftR.snoc {ns : List α} {Rs Os Ts : List (Tab α)} (h : LeftR ns Rs Os Ts) {O : Tab α} {S : List (Row α)} (hO : LeanOf ns O S) : LeftR ns Rs (Os ++ [O]) (withR Ts S) := by
  induction h with
  | nil => exact .cons hO .nil
  | cons hO' _ ih => exact .cons hO' ih
end Df

namespace Df
variable {α : Type} [DecidableEq α]
/-! ### tables inside of others -/
def insB (ns : List α) (R T : Tab α) : Bool := ns.all fun u => ns.all fun v => decide (R u v ≤ T u v) || decide (HALFI ≤ T u v)
theorem insB_iff {ns : List α} {R T : Tab α} : insB ns R T = true ↔ ∀ u ∈ ns, ∀ v ∈ ns, R u v ≤ T u v ∨ HALFI ≤ T u v := by
  unfold insB
  simp only [List.all_eq_true, Bool.or_eq_true, decide_eq_true_eq]
theorem insB_refl {ns : List α} (R : Tab α) : insB ns R R = true := insB_iff.mpr fun u _ v _ => .inl (Int.le_refl _)
theorem GdR.gap {ns : List α} (hn : Nm ns) {k : Nat} (hk : k ≤ 1000) {R : Tab α} (h : GdR ns k R) {u v : α} (hu : u ∈ ns) (hv : v ∈ ns) (hf : R u v ≤ HALFI) : R u v < HALFI := by
  obtain ⟨S, g⟩ := h
  have := g.fin hn hk hu hv hf
  simp only [HALFI_eq]
  omega
theorem insB_trans {ns : List α} (hn : Nm ns) {k : Nat} (hk : k ≤ 1000) {R T U : Tab α} (hT : GdR ns k T) (hU : GdR ns k U) (h1 : insB ns R T = true) (h2 : insB ns T U = true) : insB ns R U = true := insB_iff.mpr fun u hu v hv => by
  rcases insB_iff.mp h2 u hu v hv with a | a
  · by_cases c : HALFI ≤ U u v
    · exact .inr c
    · rcases insB_iff.mp h1 u hu v hv with b | b
      · exact .inl (by omega)
      · omega
  · exact .inr a
theorem insB_in {ns : List α} (hn : Nm ns) {k : Nat} (hk : k ≤ 1000) {R T : Tab α} (hT : GdR ns k T) (h : insB ns R T = true) {p : α → Int} (hp : InT ns R p) : InT ns T p := fun u hu v hv hf => by
  have := hT.gap hn hk hu hv hf
  rcases insB_iff.mp h u hu v hv with a | a
  · have := hp u hu v hv (by omega)
    omega
  · omega
def tab0 : Tab α := fun _ _ => 0
def atR (Rs : List (Tab α)) (i : Nat) : Tab α := Rs.getD i tab0
def covK (ns : List α) (Rs : List (Tab α)) (i k : Nat) : Bool := decide (k ≠ i) && (insB ns (atR Rs i) (atR Rs k) && (decide (k < i) || !insB ns (atR Rs k) (atR Rs i)))
def covB (ns : List α) (Rs : List (Tab α)) (i : Nat) : Bool := (List.range Rs.length).any fun k => covK ns Rs i k
def absR (ns : List α) (Rs : List (Tab α)) : List (Tab α) := ((List.range Rs.length).filter fun i => !covB ns Rs i).map (atR Rs)
theorem atR_mem {Rs : List (Tab α)} {i : Nat} (h : i < Rs.length) : atR Rs i ∈ Rs := by
  unfold atR
  rw [List.getD_eq_getElem?_getD, List.getElem?_eq_getElem h]
  exact List.getElem_mem h
theorem atR_get {Rs : List (Tab α)} {i : Nat} (h : i < Rs.length) : atR Rs i = Rs[i] := by
  unfold atR
  rw [List.getD_eq_getElem?_getD, List.getElem?_eq_getElem h]
  rfl
theorem filter_le {β : Type} {p q : β → Bool} : ∀ {l : List β}, (∀ x ∈ l, p x = true → q x = true) → (l.filter p).length ≤ (l.filter q).length
  | [], _ => Nat.le_refl _
  | z :: l, h => by
    have ih := filter_le (l := l) fun w hw => h w (List.mem_cons_of_mem _ hw)
    rw [List.filter_cons, List.filter_cons]
    have hz := h z List.mem_cons_self
    cases hpz : p z with
    | false =>
      rw [if_neg (by simp)]
      split
      · rw [List.length_cons]; omega
      · exact ih
    | true =>
      rw [if_pos rfl, if_pos (hz hpz), List.length_cons, List.length_cons]
      omega
theorem filter_lt {β : Type} {p q : β → Bool} : ∀ {l : List β}, (∀ x ∈ l, p x = true → q x = true) → ∀ {y : β}, y ∈ l → q y = true → p y = false → (l.filter p).length < (l.filter q).length
  | x :: l, h, y, hy, hq, hp => by
    have hle := filter_le (l := l) fun w hw => h w (List.mem_cons_of_mem _ hw)
    rw [List.filter_cons, List.filter_cons]
    rcases List.mem_cons.mp hy with rfl | hy
    · rw [hp, hq, if_neg (by simp), if_pos rfl, List.length_cons]
      omega
    · have := filter_lt (fun w hw => h w (List.mem_cons_of_mem _ hw)) hy hq hp
      cases hpx : p x with
      | false =>
        rw [if_neg (by simp)]
        split
        · rw [List.length_cons]; omega
        · exact this
      | true =>
        rw [if_pos rfl, if_pos (h x List.mem_cons_self hpx), List.length_cons, List.length_cons]
        omega
/-- the tables in which the one at i lies -/
def ups (ns : List α) (Rs : List (Tab α)) (i : Nat) : Nat := ((List.range Rs.length).filter fun k => insB ns (atR Rs i) (atR Rs k)).length
theorem covered {ns : List α} (hn : Nm ns) {k0 : Nat} (hk0 : k0 ≤ 1000) {Rs : List (Tab α)} (hR : ∀ R ∈ Rs, GdR ns k0 R) : ∀ (m : Nat) (i : Nat), i < Rs.length → ups ns Rs i * Rs.length + i ≤ m → ∃ k, k < Rs.length ∧ covB ns Rs k = false ∧ insB ns (atR Rs i) (atR Rs k) = true := by
  intro m
  induction m with
  | zero =>
    intro i hi hm
    exfalso
    have : 0 < ups ns Rs i := by
      unfold ups
      exact List.length_pos_of_mem (List.mem_filter.mpr ⟨List.mem_range.mpr hi, insB_refl _⟩)
    have := Nat.mul_pos this (show 0 < Rs.length by omega)
    omega
  | succ m ih =>
    intro i hi hm
    cases hc : covB ns Rs i with
    | false => exact ⟨i, hi, hc, insB_refl _⟩
    | true =>
      unfold covB at hc
      obtain ⟨k, hk, hck⟩ := List.any_eq_true.mp hc
      have hk := List.mem_range.mp hk
      unfold covK at hck
      rw [Bool.and_eq_true, Bool.and_eq_true, Bool.or_eq_true, decide_eq_true_iff, decide_eq_true_iff] at hck
      obtain ⟨hne, hin, hor⟩ := hck
      have up : ∀ x ∈ List.range Rs.length, insB ns (atR Rs k) (atR Rs x) = true → insB ns (atR Rs i) (atR Rs x) = true := fun x hx hkx => insB_trans hn hk0 (hR _ (atR_mem hk)) (hR _ (atR_mem (List.mem_range.mp hx))) hin hkx
      have less : ups ns Rs k * Rs.length + k ≤ m := by
        cases hki : insB ns (atR Rs k) (atR Rs i) with
        | true =>
          rcases hor with hor | hor
          · have h1 : ups ns Rs k ≤ ups ns Rs i := filter_le up
            have := Nat.mul_le_mul_right Rs.length h1
            omega
          · rw [hki] at hor; cases hor
        | false =>
          have h1 : ups ns Rs k < ups ns Rs i := filter_lt up (List.mem_range.mpr hi) (insB_refl _) hki
          have := Nat.mul_le_mul_right Rs.length (show ups ns Rs k + 1 ≤ ups ns Rs i by omega)
          rw [Nat.succ_mul] at this
          omega
      obtain ⟨j, h1, h2, h3⟩ := ih k hk less
      exact ⟨j, h1, h2, insB_trans hn hk0 (hR _ (atR_mem hk)) (hR _ (atR_mem h1)) hin h3⟩
theorem absR_sub {ns : List α} {Rs : List (Tab α)} {T : Tab α} (h : T ∈ absR ns Rs) : T ∈ Rs := by
  unfold absR at h
  obtain ⟨i, hi, rfl⟩ := List.mem_map.mp h
  exact atR_mem (List.mem_range.mp (List.mem_filter.mp hi).1)
theorem absR_in {ns : List α} (hn : Nm ns) {k : Nat} (hk : k ≤ 1000) {Rs : List (Tab α)} (hR : ∀ R ∈ Rs, GdR ns k R) (p : α → Int) : (∃ T ∈ absR ns Rs, InT ns T p) ↔ ∃ R ∈ Rs, InT ns R p := by
  constructor
  · rintro ⟨T, hT, q⟩
    exact ⟨T, absR_sub hT, q⟩
  · rintro ⟨R, hRm, q⟩
    obtain ⟨i, hi, e⟩ := List.getElem_of_mem hRm
    obtain ⟨j, h1, h2, h3⟩ := covered hn hk hR _ i hi (Nat.le_refl _)
    refine ⟨atR Rs j, ?_, insB_in hn hk (hR _ (atR_mem h1)) h3 (by rw [atR_get hi, e]; exact q)⟩
    unfold absR
    exact List.mem_map.mpr ⟨j, List.mem_filter.mpr ⟨List.mem_range.mpr h1, by rw [h2]; rfl⟩, rfl⟩
theorem absR_nil {ns : List α} (hn : Nm ns) {k : Nat} (hk : k ≤ 1000) {Rs : List (Tab α)} (hR : ∀ R ∈ Rs, GdR ns k R) : absR ns Rs = [] ↔ Rs = [] := by
  constructor
  · intro h
    cases Rs with
    | nil => rfl
    | cons R Rs =>
      obtain ⟨j, h1, h2, _⟩ := covered hn hk hR _ 0 (by rw [List.length_cons]; omega) (Nat.le_refl _)
      have : atR (R :: Rs) j ∈ absR ns (R :: Rs) := by
        unfold absR
        exact List.mem_map.mpr ⟨j, List.mem_filter.mpr ⟨List.mem_range.mpr h1, by rw [h2]; rfl⟩, rfl⟩
      rw [h] at this
      cases this
  · rintro rfl
    rfl
theorem absR_len {ns : List α} {Rs : List (Tab α)} : (absR ns Rs).length ≤ Rs.length := by
  unfold absR
  rw [List.length_map]
  have := List.length_filter_le (fun i => !covB ns Rs i) (List.range Rs.length)
  rw [List.length_range] at this
  exact this
/-! ### fewer names -/
theorem between : ∀ (A B : List Int), (∀ a ∈ A, ∀ b ∈ B, a ≤ b) → ∃ x, (∀ a ∈ A, a ≤ x) ∧ ∀ b ∈ B, x ≤ b := by
  have hi : ∀ (A : List Int), ∃ x, ∀ a ∈ A, a ≤ x := fun A => by
    induction A with
    | nil => exact ⟨0, fun a ha => by cases ha⟩
    | cons a A ih =>
      obtain ⟨x, hx⟩ := ih
      refine ⟨max a x, fun b hb => ?_⟩
      rcases List.mem_cons.mp hb with rfl | hb
      · exact Int.le_max_left _ _
      · exact Int.le_trans (hx b hb) (Int.le_max_right _ _)
  intro A B h
  induction B with
  | nil =>
    obtain ⟨x, hx⟩ := hi A
    exact ⟨x, hx, fun b hb => by cases hb⟩
  | cons b B ih =>
    obtain ⟨x, h1, h2⟩ := ih fun a ha c hc => h a ha c (List.mem_cons_of_mem _ hc)
    refine ⟨min b x, fun a ha => ?_, fun c hc => ?_⟩
    · have := h1 a ha
      have := h a ha b List.mem_cons_self
      omega
    · rcases List.mem_cons.mp hc with rfl | hc
      · exact Int.min_le_left _ _
      · exact Int.le_trans (Int.min_le_right _ _) (h2 c hc)
/-- the finite limits of a table as rows -/
def rowsR (ns : List α) (R : Tab α) : List (Row α) := ns.flatMap fun u => (ns.filter fun v => decide (R u v ≤ HALFI)).map fun v => (u, v, R u v)
theorem mem_rowsR {ns : List α} {R : Tab α} {u v : α} {c : Int} : (u, v, c) ∈ rowsR ns R ↔ u ∈ ns ∧ v ∈ ns ∧ R u v ≤ HALFI ∧ c = R u v := by
  unfold rowsR
  rw [List.mem_flatMap]
  constructor
  · rintro ⟨x, hx, h⟩
    obtain ⟨y, hy, e⟩ := List.mem_map.mp h
    obtain ⟨h1, h2⟩ := List.mem_filter.mp hy
    cases e
    exact ⟨hx, h1, of_decide_eq_true h2, rfl⟩
  · rintro ⟨h1, h2, h3, rfl⟩
    exact ⟨u, h1, List.mem_map.mpr ⟨v, List.mem_filter.mpr ⟨h2, decide_eq_true h3⟩, rfl⟩⟩
theorem kept_gd {ns ms : List α} {k : Nat} {R : Tab α} (h : GdR ns k R) (t : Tiny ns R) (hs : ∀ u ∈ ms, u ∈ ns) : GdR ms k R := by
  obtain ⟨S, g⟩ := h
  refine ⟨rowsR ms R, ⟨fun u hu => g.ok.diag u (hs u hu), fun u hu v hv => g.ok.size u (hs u hu) v (hs v hv), fun u hu w hw v hv => g.ok.tri u (hs u hu) w (hs w hw) v (hs v hv), fun p hp u hu v hv hf => hp _ (mem_rowsR.mpr ⟨hu, hv, hf, rfl⟩), ?_⟩, fun u hu v hv hf => ?_, ?_⟩
  · rintro ⟨u, v, c⟩ he
    obtain ⟨_, _, _, rfl⟩ := mem_rowsR.mp he
    exact Int.le_refl _
  · have := Wk.step (mem_rowsR.mpr ⟨hu, hv, hf, rfl⟩) hu (Wk.refl (S := rowsR ms R) hv)
    rwa [Int.add_zero] at this
  · rintro ⟨u, v, c⟩ he
    obtain ⟨h1, h2, h3, rfl⟩ := mem_rowsR.mp he
    have := t u (hs u h1) v (hs v h2) h3
    exact ⟨h1, h2, by show -LL ≤ R u v; omega, by show R u v ≤ LL; omega⟩
theorem kept_in {ns ms : List α} {k : Nat} (hk : k ≤ 1000) {R : Tab α} (h : GdR ns k R) {d : α} (hd : d ∈ ns) (hdm : d ∉ ms) (hs : ∀ u, u ∈ ns ↔ u ∈ ms ∨ u = d) (p : α → Int) : InT ms R p ↔ ∃ x, InT ns R (put p d x) := by
  obtain ⟨S, g⟩ := h
  have nd : ∀ u ∈ ms, u ≠ d := fun u hu z => hdm (z ▸ hu)
  constructor
  · intro hp
    obtain ⟨x, h1, h2⟩ := between ((ms.filter fun u => decide (R u d ≤ HALFI)).map fun u => p u - R u d) ((ms.filter fun u => decide (R d u ≤ HALFI)).map fun u => p u + R d u) fun a ha b hb => by
      obtain ⟨u, hu, rfl⟩ := List.mem_map.mp ha
      obtain ⟨v, hv, rfl⟩ := List.mem_map.mp hb
      obtain ⟨u1, u2⟩ := List.mem_filter.mp hu
      obtain ⟨v1, v2⟩ := List.mem_filter.mp hv
      have u2 := of_decide_eq_true u2
      have v2 := of_decide_eq_true v2
      have hun := (hs u).mpr (.inl u1)
      have hvn := (hs v).mpr (.inl v1)
      have t := g.ok.tri u hun d hd v hvn u2 v2
      have a1 := g.ok.fin (g.small hk) hun hd u2
      have a2 := g.ok.fin (g.small hk) hd hvn v2
      have a3 := kk_le hk
      have hf : R u v ≤ HALFI := by
        rw [KK_eq] at a1 a2 a3
        simp only [HALFI_eq]
        omega
      have := hp u u1 v v1 hf
      omega
    refine ⟨x, fun u hu v hv hf => ?_⟩
    by_cases cu : u = d
    · by_cases cv : v = d
      · rw [cu, cv]
        have := g.ok.diag d hd
        omega
      · have hvm := ((hs v).mp hv).resolve_right cv
        subst cu
        rw [put_same, put_ne cv]
        have := h2 _ (List.mem_map.mpr ⟨v, List.mem_filter.mpr ⟨hvm, decide_eq_true hf⟩, rfl⟩)
        omega
    · have hum := ((hs u).mp hu).resolve_right cu
      by_cases cv : v = d
      · subst cv
        rw [put_same, put_ne cu]
        have := h1 _ (List.mem_map.mpr ⟨u, List.mem_filter.mpr ⟨hum, decide_eq_true hf⟩, rfl⟩)
        omega
      · rw [put_ne cu, put_ne cv]
        exact hp u hum v (((hs v).mp hv).resolve_right cv) hf
  · rintro ⟨x, hp⟩ u hu v hv hf
    have := hp u ((hs u).mpr (.inl hu)) v ((hs v).mpr (.inl hv)) hf
    rwa [put_ne (nd u hu), put_ne (nd v hv)] at this
end Df

namespace Df
variable {α : Type} [DecidableEq α]
/-! ### systems without the solutions of others, by systems -/
def Sv (S : List (Row α)) : Prop := ∃ p, Solves S p
noncomputable instance svDec (S : List (Row α)) : Decidable (Sv S) := Classical.propDecidable _
def partsS : List (Row α) → List (Row α) → List (List (Row α))
  | _, [] => []
  | told, e :: O => (told ++ [(e.2.1, e.1, 0 - e.2.2 - 1)]) :: partsS (told ++ [e]) O
noncomputable def lackS (left : List (List (Row α))) (O : List (Row α)) : List (List (Row α)) := left.flatMap fun s => (partsS s O).filter fun S => decide (Sv S)
noncomputable def lackL (left : List (List (Row α))) (Os : List (List (Row α))) : List (List (Row α)) := Os.foldl lackS left
theorem solves_snoc {S : List (Row α)} {e : Row α} {p : α → Int} : Solves (S ++ [e]) p ↔ Solves S p ∧ p e.1 - p e.2.1 ≤ e.2.2 :=
  ⟨fun h => ⟨fun d hd => h d (List.mem_append_left _ hd), h e (by simp)⟩, fun ⟨h1, h2⟩ d hd => by
    rcases List.mem_append.mp hd with hd | hd
    · exact h1 d hd
    · rw [List.mem_singleton.mp hd]; exact h2⟩
theorem partsS_in : ∀ (O told : List (Row α)) (p : α → Int), (∃ S ∈ partsS told O, Solves S p) ↔ Solves told p ∧ ¬ Solves O p
  | [], told, p => ⟨fun ⟨S, hS, _⟩ => (by cases hS), fun ⟨_, h⟩ => absurd (fun e he => by cases he) h⟩
  | e :: O, told, p => by
    unfold partsS
    rw [solves_cons]
    constructor
    · rintro ⟨S, hS, q⟩
      rcases List.mem_cons.mp hS with rfl | hS
      · obtain ⟨a, b⟩ := solves_snoc.mp q
        have b : p e.2.1 - p e.1 ≤ 0 - e.2.2 - 1 := b
        exact ⟨a, fun z => by have := z.1; omega⟩
      · obtain ⟨a, b⟩ := (partsS_in O (told ++ [e]) p).mp ⟨S, hS, q⟩
        exact ⟨(solves_snoc.mp a).1, fun z => b z.2⟩
    · rintro ⟨a, b⟩
      by_cases c : p e.1 - p e.2.1 ≤ e.2.2
      · obtain ⟨S, hS, q⟩ := (partsS_in O (told ++ [e]) p).mpr ⟨solves_snoc.mpr ⟨a, c⟩, fun z => b ⟨c, z⟩⟩
        exact ⟨S, List.mem_cons_of_mem _ hS, q⟩
      · exact ⟨_, List.mem_cons_self, solves_snoc.mpr ⟨a, by show p e.2.1 - p e.1 ≤ 0 - e.2.2 - 1; omega⟩⟩
theorem partsS_len : ∀ (O told : List (Row α)), (partsS told O).length = O.length ∧ ∀ S ∈ partsS told O, S.length ≤ told.length + O.length
  | [], told => ⟨rfl, fun S hS => by cases hS⟩
  | e :: O, told => by
    unfold partsS
    obtain ⟨h1, h2⟩ := partsS_len O (told ++ [e])
    refine ⟨by rw [List.length_cons, List.length_cons, h1], fun S hS => ?_⟩
    rw [List.length_cons]
    rcases List.mem_cons.mp hS with rfl | hS
    · rw [List.length_append, List.length_singleton]; omega
    · have := h2 S hS
      rw [List.length_append, List.length_singleton] at this
      omega
theorem partsS_ends {E : Row α → Prop} (hE : ∀ l r c d, E (l, r, c) → E (r, l, d)) : ∀ (O told : List (Row α)), (∀ e ∈ O, E e) → (∀ e ∈ told, E e) → ∀ S ∈ partsS told O, ∀ e ∈ S, E e
  | [], told, _, _ => fun S hS => by cases hS
  | o :: O, told, hO, ht => fun S hS e he => by
    unfold partsS at hS
    have ho := hO o List.mem_cons_self
    rcases List.mem_cons.mp hS with rfl | hS
    · rcases List.mem_append.mp he with he | he
      · exact ht e he
      · rw [List.mem_singleton.mp he]
        exact hE _ _ _ _ ho
    · refine partsS_ends hE O (told ++ [o]) (fun e he => hO e (List.mem_cons_of_mem _ he)) (fun e he => ?_) S hS e he
      rcases List.mem_append.mp he with he | he
      · exact ht e he
      · rw [List.mem_singleton.mp he]
        exact ho
theorem lackS_in {left : List (List (Row α))} {O : List (Row α)} (p : α → Int) : (∃ S ∈ lackS left O, Solves S p) ↔ (∃ S ∈ left, Solves S p) ∧ ¬ Solves O p := by
  unfold lackS
  constructor
  · rintro ⟨S, hS, q⟩
    obtain ⟨s, hs, hS⟩ := List.mem_flatMap.mp hS
    obtain ⟨a, b⟩ := (partsS_in O s p).mp ⟨S, (List.mem_filter.mp hS).1, q⟩
    exact ⟨⟨s, hs, a⟩, b⟩
  · rintro ⟨⟨s, hs, a⟩, b⟩
    obtain ⟨S, hS, q⟩ := (partsS_in O s p).mpr ⟨a, b⟩
    exact ⟨S, List.mem_flatMap.mpr ⟨s, hs, List.mem_filter.mpr ⟨hS, decide_eq_true ⟨p, q⟩⟩⟩, q⟩
theorem lackS_sv {left : List (List (Row α))} {O : List (Row α)} : ∀ S ∈ lackS left O, Sv S := fun S hS => by
  unfold lackS at hS
  obtain ⟨s, _, hS⟩ := List.mem_flatMap.mp hS
  exact of_decide_eq_true (List.mem_filter.mp hS).2
theorem lackL_in {Os : List (List (Row α))} (p : α → Int) : ∀ {left : List (List (Row α))}, (∃ S ∈ lackL left Os, Solves S p) ↔ (∃ S ∈ left, Solves S p) ∧ ¬ ∃ O ∈ Os, Solves O p := by
  induction Os with
  | nil => exact fun {left} => ⟨fun q => ⟨q, fun ⟨O, hO, _⟩ => by cases hO⟩, fun q => q.1⟩
  | cons O Os ih =>
    intro left
    show (∃ S ∈ lackL (lackS left O) Os, Solves S p) ↔ _
    rw [ih, lackS_in]
    constructor
    · rintro ⟨⟨a, b⟩, c⟩
      refine ⟨a, ?_⟩
      rintro ⟨O', hO', q⟩
      rcases List.mem_cons.mp hO' with rfl | hO'
      · exact b q
      · exact c ⟨O', hO', q⟩
    · rintro ⟨a, b⟩
      exact ⟨⟨a, fun q => b ⟨O, List.mem_cons_self, q⟩⟩, fun ⟨O', hO', q⟩ => b ⟨O', List.mem_cons_of_mem _ hO', q⟩⟩
theorem lackL_sv {Os : List (List (Row α))} : ∀ {left : List (List (Row α))}, (∀ S ∈ left, Sv S) → ∀ S ∈ lackL left Os, Sv S := by
  induction Os with
  | nil => exact fun {left} h => h
  | cons O Os ih => exact fun {left} _ => ih (left := lackS left O) lackS_sv
theorem lackL_snoc {left Os : List (List (Row α))} {O : List (Row α)} : lackL left (Os ++ [O]) = lackS (lackL left Os) O := by
  unfold lackL
  rw [List.foldl_append]
  rfl
theorem lackL_nil {left Os : List (List (Row α))} (h : ∀ S ∈ left, Sv S) : lackL left Os = [] ↔ ∀ p, (∃ S ∈ left, Solves S p) → ∃ O ∈ Os, Solves O p := by
  constructor
  · intro e p hp
    refine Classical.byContradiction fun hn => ?_
    obtain ⟨S, hS, _⟩ := (lackL_in p).mpr ⟨hp, hn⟩
    rw [e] at hS
    cases hS
  · intro hp
    cases e : lackL left Os with
    | nil => rfl
    | cons S r =>
      exfalso
      have hS : S ∈ lackL left Os := by rw [e]; exact List.mem_cons_self
      obtain ⟨p, q⟩ := lackL_sv h S hS
      obtain ⟨a, b⟩ := (lackL_in p).mp ⟨S, hS, q⟩
      exact b (hp p a)
/-- sizes: at most m rows in each of the others -/
theorem lackS_size {left : List (List (Row α))} {O : List (Row α)} {m b : Nat} (hO : O.length ≤ m) (hl : ∀ S ∈ left, S.length ≤ b) : (lackS left O).length ≤ left.length * m ∧ ∀ S ∈ lackS left O, S.length ≤ b + m := by
  refine ⟨?_, fun S hS => ?_⟩
  · unfold lackS
    induction left with
    | nil => exact Nat.zero_le _
    | cons s left ih =>
      have ih := ih fun S hS => hl S (List.mem_cons_of_mem _ hS)
      rw [List.flatMap_cons, List.length_append, List.length_cons, Nat.succ_mul]
      have h1 := List.length_filter_le (fun S => decide (Sv S)) (partsS s O)
      rw [(partsS_len O s).1] at h1
      omega
  · unfold lackS at hS
    obtain ⟨s, hs, hS⟩ := List.mem_flatMap.mp hS
    have h1 := (partsS_len O s).2 S (List.mem_filter.mp hS).1
    have := hl s hs
    omega
theorem lackS_ends {E : Row α → Prop} (hE : ∀ l r c d, E (l, r, c) → E (r, l, d)) {left : List (List (Row α))} {O : List (Row α)} (hO : ∀ e ∈ O, E e) (hl : ∀ S ∈ left, ∀ e ∈ S, E e) : ∀ S ∈ lackS left O, ∀ e ∈ S, E e := fun S hS => by
  unfold lackS at hS
  obtain ⟨s, hs, hS⟩ := List.mem_flatMap.mp hS
  exact partsS_ends hE O s hO (hl s hs) S (List.mem_filter.mp hS).1
theorem partsS_at : ∀ (O told : List (Row α)) {m : Nat} (h : m < O.length), (partsS told O).take (m + 1) = (partsS told O).take m ++ [told ++ O.take m ++ [(O[m].2.1, O[m].1, 0 - O[m].2.2 - 1)]]
  | e :: O, told, 0, _ => by
    unfold partsS
    simp
  | e :: O, told, m + 1, h => by
    unfold partsS
    have := partsS_at O (told ++ [e]) (m := m) (by simp only [List.length_cons] at h; omega)
    rw [List.take_succ_cons, List.take_succ_cons, this, List.take_succ_cons, List.getElem_cons_succ]
    simp
theorem lackS_step {Ls : List (List (Row α))} {O : List (Row α)} {j : Nat} (h : j < Ls.length) : lackS (Ls.take (j + 1)) O = lackS (Ls.take j) O ++ (partsS Ls[j] O).filter fun S => decide (Sv S) := by
  unfold lackS
  rw [List.take_add_one, List.getElem?_eq_getElem h, List.flatMap_append]
  simp
/-! ### a value that completes a point -/
def lowsS (d : α) (w : α → Int) (S : List (Row α)) : List Int := (S.filter fun e => decide (e.2.1 = d)).map fun e => w e.1 - e.2.2
def highsS (d : α) (w : α → Int) (S : List (Row α)) : List Int := (S.filter fun e => decide (e.1 = d)).map fun e => w e.2.1 + e.2.2
def restS (d : α) (S : List (Row α)) : List (Row α) := S.filter fun e => decide (e.1 ≠ d) && decide (e.2.1 ≠ d)
theorem can_iff {d : α} {w : α → Int} {S : List (Row α)} (hne : ∀ e ∈ S, e.1 ≠ e.2.1) : (∃ x, Solves S (put w d x)) ↔ Solves (restS d S) w ∧ ∀ a ∈ lowsS d w S, ∀ b ∈ highsS d w S, a ≤ b := by
  constructor
  · rintro ⟨x, hx⟩
    refine ⟨fun e he => ?_, fun a ha b hb => ?_⟩
    · obtain ⟨h1, h2⟩ := List.mem_filter.mp he
      rw [Bool.and_eq_true, decide_eq_true_iff, decide_eq_true_iff] at h2
      have := hx e h1
      rwa [put_ne h2.1, put_ne h2.2] at this
    · obtain ⟨e, he, rfl⟩ := List.mem_map.mp ha
      obtain ⟨g, hg, rfl⟩ := List.mem_map.mp hb
      obtain ⟨e1, e2⟩ := List.mem_filter.mp he
      obtain ⟨g1, g2⟩ := List.mem_filter.mp hg
      have e2 : e.2.1 = d := of_decide_eq_true e2
      have g2 : g.1 = d := of_decide_eq_true g2
      have he' := hx e e1
      have hg' := hx g g1
      rw [e2, put_same, put_ne (fun z => hne e e1 (z.trans e2.symm))] at he'
      rw [g2, put_same, put_ne (fun z => hne g g1 (g2.trans z.symm))] at hg'
      omega
  · rintro ⟨h1, h2⟩
    obtain ⟨x, hl, hh⟩ := between _ _ h2
    refine ⟨x, fun e he => ?_⟩
    by_cases c1 : e.1 = d
    · have c2 : e.2.1 ≠ d := fun z => hne e he (c1.trans z.symm)
      rw [c1, put_same, put_ne c2]
      have := hh _ (List.mem_map.mpr ⟨e, List.mem_filter.mpr ⟨he, decide_eq_true c1⟩, rfl⟩)
      omega
    · by_cases c2 : e.2.1 = d
      · rw [c2, put_same, put_ne c1]
        have := hl _ (List.mem_map.mpr ⟨e, List.mem_filter.mpr ⟨he, decide_eq_true c2⟩, rfl⟩)
        omega
      · rw [put_ne c1, put_ne c2]
        exact h1 e (List.mem_filter.mpr ⟨he, by rw [Bool.and_eq_true, decide_eq_true_iff, decide_eq_true_iff]; exact ⟨c1, c2⟩⟩)
end Df

/-! LsSort3: sorted(l), l a list of tuples of three ints of either sign; l == [], whatever l holds. -/
namespace Ls3
open PySem PyProof.Rows Srt SrtO
abbrev I3 := Int × Int × Int
def bel (p q : I3) : Prop := p.1 < q.1 ∨ (p.1 = q.1 ∧ (p.2.1 < q.2.1 ∨ (p.2.1 = q.2.1 ∧ p.2.2 < q.2.2)))
instance (p q : I3) : Decidable (bel p q) := by unfold bel; infer_instance
def lt3 (p q : I3) : Bool := decide (bel p q)
theorem swo3 {α : Type} (k : α → I3) : Swo fun v u => lt3 (k v) (k u) where
  asym := fun x y h => by
    have a : bel (k x) (k y) := of_decide_eq_true h
    refine decide_eq_false fun b => ?_
    unfold bel at a b
    omega
  tr := fun x y z g h => by
    have a : ¬ bel (k y) (k x) := of_decide_eq_false g
    have b : ¬ bel (k z) (k y) := of_decide_eq_false h
    refine decide_eq_false fun c => ?_
    unfold bel at a b c
    omega
/-- a tuple of these three -/
def Trip (h : Heap) (v : Value) (p : I3) : Prop := ∃ (a : Addr) (ob : Obj) (t1 t2 t3 : Tok) (m : Nat), v = .ref a ∧ h.get? a = some ob ∧ ob.cls = .type "tuple" ∧ ob.data = .seq #[.int p.1 t1, .int p.2.1 t2, .int p.2.2 t3] m
section
variable {prog : Program} {w : World} {A : Around} {E : Value → Shared → Prop} {s : Shared}
/-- two rows of ints, place by place -/
def row (l : List (Int × Tok × Int × Tok)) : List (Value × Value) := l.map fun e => (.int e.1 e.2.1, .int e.2.2.1 e.2.2.2)
def lexR : List (Int × Tok × Int × Tok) → Bool
  | [] => false
  | e :: r => if e.1 = e.2.2.1 then lexR r else decide (e.1 < e.2.2.1)
theorem rowLex {b : Bool} {Q : Bool → Shared → Prop} : ∀ (l : List (Int × Tok × Int × Tok)) (i : Nat), Q (lexR l) s → PySem.W.KatLex prog w A b false Q (row l) i s
  | [], i, h => PySem.W.kat_nil h
  | (x, t, y, u) :: r, i, h => by
    show PySem.W.KatLex prog w A b false Q ((Value.int x t, Value.int y u) :: row r) i s
    refine PySem.W.kat_cons (SeqAt.EqAt.int_int x t y u prog w _ _ (PySem.W.kat_go (fun e => ?_) fun e => ?_))
    · have z : x = y := by simpa using e
      have e2 : lexR ((x, t, y, u) :: r) = lexR r := if_pos z
      rw [e2] at h
      exact PySem.W.kat_yes (rowLex r (i + 1) h)
    · have z : ¬ x = y := by simpa using e
      have e2 : lexR ((x, t, y, u) :: r) = decide (x < y) := if_neg z
      rw [e2] at h
      exact PySem.W.kat_no (TS.oneLt_ints _ h)
theorem lexR3 (p q : I3) (t1 t2 t3 u1 u2 u3 : Tok) : lexR [(p.1, t1, q.1, u1), (p.2.1, t2, q.2.1, u2), (p.2.2, t3, q.2.2, u3)] = lt3 p q := by
  have e : lexR [(p.1, t1, q.1, u1), (p.2.1, t2, q.2.1, u2), (p.2.2, t3, q.2.2, u3)] = (if p.1 = q.1 then (if p.2.1 = q.2.1 then (if p.2.2 = q.2.2 then false else decide (p.2.2 < q.2.2)) else decide (p.2.1 < q.2.1)) else decide (p.1 < q.1)) := rfl
  rw [e]
  unfold lt3 bel
  split
  · split
    · split
      · refine (decide_eq_false ?_).symm; omega
      · refine decide_eq_decide.mpr ?_; omega
    · refine decide_eq_decide.mpr ?_; omega
  · refine decide_eq_decide.mpr ?_; omega
theorem trip_cmp {vs : List Value} {k : Value → I3} (hk : ∀ v ∈ vs, Trip s.heap v (k v)) : Cmp prog w A s (tuples' true) (fun e => e.1 ∈ vs) (lt2 fun v u => lt3 (k v) (k u)) := fun e f me mf => by
  obtain ⟨a, oa, t1, t2, t3, na, ea, ga, _, da⟩ := hk _ me
  obtain ⟨b, ob, u1, u2, u3, nb, eb, gb, _, db⟩ := hk _ mf
  show wpAny (model prog w) A (keyLt' (tuples' true) e.1 f.1) (fun r s' => s' = s ∧ r = lt3 (k e.1) (k f.1)) (fun _ _ => False) s
  rw [← lexR3 (k e.1) (k f.1) t1 t2 t3 u1 u2 u3]
  generalize k e.1 = p at da ⊢
  generalize k f.1 = q at db ⊢
  rw [ea, eb]
  exact PySem.W.kat_lt ga da gb db (rowLex (b := true) [(p.1, t1, q.1, u1), (p.2.1, t2, q.2.1, u2), (p.2.2, t3, q.2.2, u3)] 0 ⟨rfl, rfl⟩)
theorem trip_firsts {h : Heap} {k : Value → I3} : ∀ l : List Value, (∀ v ∈ l, Trip h v (k v)) → ∃ fs, PySem.W.KatTups h l fs ∧ fs.length = l.length ∧ ∀ f ∈ fs, ∃ (n : Int) (t : Tok), f = Value.int n t
  | [], _ => ⟨[], .nil, rfl, fun f hf => nomatch hf⟩
  | v :: l, hk => by
    obtain ⟨fs, h1, h2, h3⟩ := trip_firsts l fun u hu => hk u (List.mem_cons_of_mem _ hu)
    obtain ⟨a, oa, t1, t2, t3, na, ea, ga, ca, da⟩ := hk v (List.mem_cons_self ..)
    rw [ea]
    refine ⟨.int (k v).1 t1 :: fs, PySem.W.KatTups.cons ga ca da rfl h1, by rw [List.length_cons, List.length_cons, h2], fun f hf => ?_⟩
    rcases List.mem_cons.mp hf with e | hf
    · exact ⟨_, _, e⟩
    · exact h3 f hf
theorem trip_sortable {a : Addr} {vs : List Value} {k : Value → I3} (h0 : 0 < vs.length) (hk : ∀ v ∈ vs, Trip s.heap v (k v)) (ha : ∀ o, s.heap.get? a = some o → o.cls ≠ .type "tuple") : SortableO prog w A s a vs fun v u => lt3 (k v) (k u) := fun g keep => by
  have hg : ∀ v ∈ vs, Trip g v (k v) := fun v hv => by
    obtain ⟨b, ob, t1, t2, t3, nb, eb, gb, cb, db⟩ := hk v hv
    exact ⟨b, ob, t1, t2, t3, nb, eb, keep b ob (fun z => ha ob (z ▸ gb) cb) gb, cb, db⟩
  obtain ⟨fs, h1, h2, h3⟩ := trip_firsts vs hg
  refine ⟨tuples' true, fun Q F hq => PySem.W.kat_kind (T := .type "int") h1 (by omega) (fun f hf => ?_) rfl ?_, trip_cmp hg⟩
  · obtain ⟨n, t, rfl⟩ := h3 f hf
    exact PySem.W.Looks.of_pure rfl
  · rw [show ((Value.type "int") != Value.type "tuple") = true by decide +kernel]
    exact hq
end
end Ls3
namespace Ls
open PySem PySem.Spec PyProof.Rows L2 Ls3
def rSorted3 (K : PySem.W.Frag) : List V → Hp → VK → Prop := fun vs H Q => ∃ (a : Addr) (xs : List V) (k : V → I3), vs = [V.ref a] ∧ SqL K H a xs ∧ (∀ x ∈ xs, ∃ t, x = V.ref t ∧ H t = some (.tup [.int (k x).1, .int (k x).2.1, .int (k x).2.2])) ∧
  ∀ ys p, ys.Perm xs → ys.Pairwise (fun x y => (k x).1 ≤ (k y).1) → H p = none → Q (.ref p) (upd H p (.lst ys))
section
variable {X : Cx} {K : PySem.W.Frag}
theorem kSorted3 (h : X.K = K := by rfl) : CallR X (.builtin "sorted") (rSorted3 K) := by
  subst h
  intro pins s σ H vs us Q I rr hq
  obtain ⟨a, xs, k, rfl, hxs, htr, fin⟩ := hq
  obtain ⟨its, rv, lst, lz⟩ := I.list hxs
  obtain ⟨u, rfl, ru⟩ := vals1 rr
  cases (show u = Value.ref a from ru)
  have hrefs := refs_back rv fun x hx => (htr x hx).imp fun _ q => q.1
  have hz : its.length ≤ sizeLine := by rw [← rv.length]; exact lz
  have hTrip : ∀ v ∈ its, Trip s.heap v (k (backV v)) := fun v hv => by
    obtain ⟨t, rfl⟩ := hrefs.2 v hv
    obtain ⟨t', et, gt⟩ := htr (V.ref t) (by rw [hrefs.1]; exact List.mem_map.mpr ⟨_, hv, rfl⟩)
    cases et
    show Trip s.heap (Value.ref t) (k (V.ref t))
    obtain ⟨_, items, ri, ob, ho, hc, m, hd⟩ := I.hok _ _ gt
    cases ri with | cons r1 ri => cases ri with | cons r2 ri => cases ri with | cons r3 ri =>
    cases ri
    obtain ⟨t1, rfl⟩ := r1
    obtain ⟨t2, rfl⟩ := r2
    obtain ⟨t3, rfl⟩ := r3
    exact ⟨t, ob, t1, t2, t3, m, rfl, ho, hc, hd⟩
  refine SrtO.sorted_ord (swo3 fun v => k (backV v)) lst.isList hz (fun l2 g b gb kp => trip_sortable (s := { s with heap := g }) (by omega) (fun v hv => ?_) fun o e c => ?_) fun out hs hb => ?_
  · obtain ⟨b1, ob, t1, t2, t3, nb, eb, g1, cb, db⟩ := hTrip v hv
    exact ⟨b1, ob, t1, t2, t3, nb, eb, (kp b1 ob g1).2, cb, db⟩
  · have e' : some o = some (seqObj "list" its.toArray 0) := e.symm.trans gb
    cases e'
    exact absurd (Value.type.inj c) (by decide)
  · have hout : ∀ u ∈ out, ∃ b, u = Value.ref b := fun u hu => hrefs.2 u (hb.perm.mem_iff.mp hu)
    have hperm : (out.map backV).Perm xs := by rw [hrefs.1]; exact hb.perm.map backV
    obtain ⟨m, hm⟩ := sortedAll_at s.heap its out.toArray
    refine ⟨.ref (s.heap.objs.size + 1), upd H (s.heap.objs.size + 1) (.lst (out.map backV)), I.laid (t' := s.toks) (fun _ _ e => sortedAll_old e) (Nat.le_succ _) ⟨by rw [hperm.length_eq]; exact lz, out, m, vals_back hout, hm⟩, rfl, fin _ _ hperm ?_ (I.hok.fresh (Nat.le_succ _))⟩
    rw [List.pairwise_map]
    refine List.Pairwise.imp (fun {u v} huv => ?_) hs
    have huv : ¬ bel (k (backV v)) (k (backV u)) := of_decide_eq_false huv
    unfold bel at huv
    omega
/-- l == [] -/
def rEqN (K : PySem.W.Frag) : R2 := fun x y H Q => ∃ a b xs, x = .ref a ∧ y = .ref b ∧ SqL K H a xs ∧ SqL K H b [] ∧ Q (.bl xs.isEmpty) H
theorem kEqN (hu : X.A.units < cLine) (h : X.K = K := by rfl) : OpR X (compareOp .Eq) (rEqN K) := by
  subst h
  intro pins s σ H x y v u Q I rx ry hq
  obtain ⟨a, b, xs, rfl, rfl, ha, hb, q⟩ := hq
  cases rx
  cases ry
  obtain ⟨i1, r1, l1, _⟩ := I.list ha
  obtain ⟨i2, r2, l2, _⟩ := I.list hb
  cases r2
  cases r1 with
  | nil =>
    refine SeqAt.eq_listAt (e := fun _ => true) l1.isList l2.isList rfl hu (fun j h1 => ?_) ⟨V.bl true, H, I, rfl, q⟩
    simp at h1
  | cons rr rs => exact SeqAt.eq_list_lengthsAt l1.isList l2.isList (by simp) hu ⟨V.bl false, H, I, rfl, q⟩
end
end Ls

/-! ### an own exception's __init__ that begins by super().__init__(text) -/
namespace Ls
open PySem PySem.Spec PyProof.Rows L2 NdefX
/-- what the written part and the program tell of the class at C and of its __init__ at f -/
structure SupC (P : Program) (K : PySem.W.Frag) (C f cc : Addr) (F : NF) (fd : FuncData) : Prop where
  oex : OexC K C
  ini : PySem.W.findIn K (.ref C) "__init__" = some (some (.ref f))
  typ : PySem.W.typeIn K (.ref f) = some (.type "function")
  fn : ∃ (oc : Value) (od : Option Addr) (doc pm ctv : Value) (osl : Array (Option Value)), fd = F.fd doc pm ctv ∧ K.lookup f = some ⟨oc, od, .func (F.fd doc pm ctv), osl⟩
  cod : PySem.W.codeIn K (.ref F.c) F.qual = true
  cl : F.cl = [(("__class__" : Str), cc)]
  cell : ∃ cl cld csl, K.lookup cc = some ⟨cl, cld, .cell (some (.ref C)), csl⟩
  file : ∃ ccl cdd vs ccs file tf, K.lookup F.c = some ⟨ccl, cdd, .fields vs, ccs⟩ ∧ vs[2]? = some (.str file tf) ∧ ((P.main.file : Str) == file) = true
  sup : PySem.W.nsIn K mainGlobals "super" = some none
  top : (P.main.scope.names.lookup ("super" : Str)).isSome = false
  opq : PySem.W.nsIn K cStatics "thirdparty.any" = some none
  mth : PySem.W.ks_superIn K C C "__init__" = some (some (.builtin "ValueError.__init__"))
  sve : PySem.W.subIn K (.ref C) (.type "ValueError") = some true
  mro : PySem.W.mroIn K C (.ref C) = some true
section
variable {M : Model} {prog : Program} {w : World} {A : Around} {E : Value → Shared → Prop} {h : Heap} {g : Array GenState} {d : Drawn} {t : Nat} {os : OsState}
open PySem.W in
/-- the wrapper, called -/
theorem call_mw {u x C t0 : Addr} {rest : List Value} {Q : Value → Shared → Prop} {nm q : Str} {N : Addr} {bs bm : List Value} {hdct : Bool} {sn : List Str} {sub : List Value} {ab : Bool} {col : Option Bool} {dd : Option Addr} {k0 k1 k2 k3 k5 : Option Value}
    (hC : h.get? C = some (excClassObj nm q C N bs bm hdct sn sub ab col dd k0 k1 k2 k3 k5 "ValueError.__new__")) (he : h.get? x = some ({ cls := .ref C, dict := none, data := .fields #[.ref t0, .none, .none, .none, .bool false, .none] } : Obj))
    (hu : h.get? u = some (kxs_mw "ValueError.__init__" x)) (hz : rest.length ≤ sizeLine)
    (hq : ∀ h' t1, (∀ b o, b ≠ x → h.get? b = some o → h'.get? b = some o) → h'.get? x = some ({ cls := .ref C, dict := none, data := .fields #[.ref t1, .none, .none, .none, .bool false, .none] } : Obj) → Q .none ⟨h', g, d, t, os⟩) :
    wpAny (model prog w) A (call (.ref u) rest) Q E ⟨h, g, d, t, os⟩ := by
  refine wpAny_call (codeAny_of_tree ?_)
  show wpAny _ A.in1 (callAny (.ref u) ⟨rest, []⟩) _ _ _
  simp only [callAny]
  refine wpAny_bind (wpAny_load hu ?_)
  simp only [kxs_mw, show (Value.type "method-wrapper" == Value.type "method" || Value.type "method-wrapper" == Value.type "builtin_function_or_method" || Value.type "method-wrapper" == Value.type "method-wrapper") = true by decide, if_true]
  refine KFB.if_so (by decide) ?_
  refine wpAny_bind (check_bound_init F.excBase_ValueError.toExcCallFacts hC he rfl ?_)
  refine wpAny_bind (wpAny_pure (wpAny_pure ?_))
  refine ⟨plainId_quiet F.excBase_ValueError.init.plain _, codeAny_builtin F.excBase_ValueError.initEntry ?_⟩
  exact exc_init_tree (cls := .ref C) (t0 := t0) (dv := none) (c2 := .none) (c3 := .none) (b4 := .bool false) he hz fun h' k e' t' => hq h' _ k e'
end
section
variable {CX : CXT} {P : Program} {w : World} {K : PySem.W.Frag} {mg : Str → Option Value} {base : Heap} {N ps : List Str} {F : NF} {C f cc : Addr} {fd : FuncData} {k : Nat} {sp : Sp}
theorem SupC.cells (U : SupC P K C f cc F fd) {A : Around} {outer : List Env} {s : Shared} {H : Hp} (e0 : Env0 P w K mg base A outer s H) : CellsAt F.cl ["__class__"] [some (.ref C)] s.heap H := by
  obtain ⟨cl, cld, csl, hc⟩ := U.cell
  have hb := e0.bs _ _ (e0.mod.kin _ _ hc)
  have one : ∀ y c, F.cl.lookup y = some c → y = "__class__" ∧ c = cc := fun y c e => by
    rw [U.cl] at e
    by_cases h : y = ("__class__" : Str)
    · subst h
      exact ⟨rfl, by simpa using e.symm⟩
    · have hb : (y == ("__class__" : Str)) = false := by simpa using h
      simp [List.lookup, hb] at e
  refine ⟨rfl, fun y c e => ?_, fun x y c e1 e2 => (one x c e1).1.trans (one y c e2).1.symm, fun i y hi => ?_⟩
  · rw [(one y c e).2]
    exact ⟨hb.2, _, _, hb.1, rfl⟩
  · cases i with
    | zero =>
      cases hi
      exact ⟨cc, by rw [U.cl]; simp, fun v hv => by cases hv; exact ⟨.ref C, rfl, _, hb.1, rfl⟩⟩
    | succ i => cases i <;> cases hi
/-- THE RULE: such an __init__, by what stands behind super().__init__(text) -/
theorem fn_sup (U : SupC P K C f cc F fd) {p0 p1 p2 p3 p4 p5 : Pos} {txt : Str} {kd : Nat} {rest : List Stmt}
    (hbd : F.body = .Expr (.Call (.Attribute (.Call (.Name "super" p0) [] [] p1) "__init__" p2) [.Constant (.str txt) kd p5] [] p3) p4 :: rest) (S : NScope N ("self" :: ps) ["__class__"] F.scope)
    {ar : Arg} (har : (F.params.posonlyargs ++ F.params.args).head? = some ar) (har1 : ar.arg = "self") (hks : F.scope.names.lookup ("super" : Str) = some .globalImplicit)
    (hcall : ∀ L, ∃ pl, eval (.Call (.Attribute (.Call (.Name "super" p0) [] [] p1) "__init__" p2) [.Constant (.str txt) kd p5] [] p3) (envF F f L) = (do
      let ov ← attributeBase (.Call (.Name "super" p0) [] [] p1) "__init__" (envF F f L) (eval (.Call (.Name "super" p0) [] [] p1) (envF F f L))
      standAt p2.atName
      let (fx, first) ← holding [ov] (getMethod ov "__init__" pl)
      callWith p3 fx first (backTo p3 (starEach [.Constant (.str txt) kd p5] (envF F f L))) []))
    (hint : ∀ L, interactive (envF F f L) = false) (hsw : ∀ L, swapsWith (.Call (.Attribute (.Call (.Name "super" p0) [] [] p1) "__init__" p2) [.Constant (.str txt) kd p5] [] p3) none p4.line (envF F f L) = pure false)
    (len : ∀ vs H Q E, sp vs H Q E → vs.length = ps.length + 1) (obj : ∀ vs H Q E, sp vs H Q E → ∃ a vs', vs = .ref a :: vs' ∧ H a = some (exo a C none))
    (hbody : ∀ (A : Around) (outer : List Env) (s : Shared) (H : Hp) (vs : List V) (Q : VK) (E : XK), Room k (A.deeper (envF F f s.heap.objs.size)) → sp vs H Q E →
      ∃ t, PSs (ncx CX P w K mg base N F f A outer s H E) rest t ∧ t { nx := fun _ H' => Q .non H', rt := Q } (startF N vs [some (.ref C)]) H) :
    FnOk P w K mg base CX (k + 1) f fd ("self" :: ps) sp := by
  refine ⟨len, fun A outer s H args us vs Q E hr e0 hb r hsp => ?_⟩
  have hl := len _ _ _ _ hsp
  have KX : K.In s.heap := e0.mod.kin.keeps fun b o e => (e0.bs b o e).1
  have lim : s.heap.NoLimit := e0.mod.nolimit.keeps fun b o e => (e0.bs b o e).1
  obtain ⟨oc, od, doc, pm, ctv, osl, rfl, lk⟩ := U.fn
  refine codeAny_call_function hr.depth (KX _ _ lk) rfl S.co S.gen rfl (PySem.W.codeRec_of KX U.cod) (hb _ _ _ _ ?_)
  refine wpAny_newFunctionEnv S.nocell (fun ⟨n, _⟩ hy => S.par n (List.of_mem_zip hy).1) (fun h₁ hns hsb => ⟨lim.fresh _ hsb, ?_⟩) S.kind
  show codeAny _ _ (.func F.body (envF F f s.heap.objs.size)) _ _
  have kp : ∀ b o, s.heap.get? b = some o → h₁.get? b = some o := fun b o e => hsb.extBut b o (Nat.ne_of_lt (Heap.lt_size e)) (Heap.get?_push_of_some _ e)
  obtain ⟨t, ht, hq⟩ := hbody A outer s H vs Q E (hr.deeper _) hsp
  obtain ⟨a, vs', rfl, ha⟩ := obj _ _ _ _ hsp
  have I : L2.Inv (ncx CX P w K mg base N F f A outer s H E) [] (startF N (.ref a :: vs') [some (.ref C)]) H { s with heap := h₁, toks := s.toks + ((("self" : Str) :: ps).zip us).length } := inv_startN S hr.hd e0 hl r (U.cells e0) hns kp
  refine ks_codeAny_funcAt ?_
  rw [hbd]
  obtain ⟨hp, gg, dd, tt, oo⟩ := s
  have I : L2.Inv (ncx CX P w K mg base N F f A outer ⟨hp, gg, dd, tt, oo⟩ H E) [] (startF N (.ref a :: vs') [some (.ref C)]) H ⟨h₁, gg, dd, tt + ((("self" : Str) :: ps).zip us).length, oo⟩ := I
  have X := I.kIn
  have KXh : K.In h₁ := X
  obtain ⟨nm, q0, NN, bs, bm, sn, sub, ab, col, dd', k0, k1, k2, k3, k5, hCls, hbm⟩ := U.oex.cls
  obtain ⟨clc, cld, csl, hcell⟩ := U.cell
  obtain ⟨ccl, cdd, vs2, ccs, file, tf, hcode, hvs, hfile⟩ := U.file
  have hka : F.scope.names.lookup ("self" : Str) = some .local := S.par _ List.mem_cons_self
  have hkc : F.scope.names.lookup ("__class__" : Str) = some .free := S.frk _ List.mem_cons_self
  obtain ⟨mb, hb1, hb2⟩ := e0.mod.blt
  obtain ⟨m, hnsL, hlook⟩ := I.loc
  have hself : m "self" = some (.ref a) := by
    obtain ⟨u, ru, hu⟩ := hlook 0 "self" (.ref a) (by
      have := S.pre
      cases N with
      | nil => simp at this
      | cons x N => simp at this; exact congrArg some this.1) rfl (.inl hka)
    obtain rfl : u = Value.ref a := ru
    rcases hu with ⟨_, h2⟩ | ⟨h2, _⟩
    · exact h2
    · have e : (envF F f hp.objs.size).kindOf ("self" : Str) = some .local := hka
      rcases h2 with h2 | h2
      · exact absurd (e.symm.trans h2) (by decide)
      · exact absurd (e.symm.trans h2) (by decide)
  obtain ⟨pl, hcall⟩ := hcall hp.objs.size
  have ha1 := exo_at I.hok ha
  obtain ⟨t1, hx⟩ := ha1
  refine ks_wpAt_execs_cons (ks_wpAt_Expr_any (ks_wpAt_MethodCall (he := hcall) ?_) (hint _) (hsw _))
  refine ks_wpAt_super_base (f := f) (cc := F.c) hks hkc rfl rfl (KXh _ _ lk) rfl har rfl (KXh _ _ hcode) rfl hvs hfile U.top ?_
  rw [har1]
  refine PySem.W.ks_loadName_global S.kind hks (Calls.loadGlobal_builtin (e0.mod.glob.keeps fun b o e => kp b o (e0.bs b o e).1) (PySem.W.mg_none_of (h := base) e0.mod.kin e0.mod.glob U.sup) (hb1.keeps fun b o e => kp b o (e0.bs b o e).1) ((hb2 _ (by decide)).trans (show bootBuiltins "super" = some (.type "super") by decide +kernel)) ⟨rfl, ?_⟩)
  refine wpAny_loadName_free (c := cc) S.kind hkc (by show F.cl.lookup ("__class__" : Str) = some cc; rw [U.cl]; rfl) ⟨_, KXh _ _ hcell, rfl⟩ ?_
  refine wpAny_loadName_local S.kind hka hnsL hself ?_
  have hD := KXh _ _ hCls
  refine ks_wpAny_isType_cls hD rfl ⟨rfl, ?_⟩
  refine ks_wpAny_call_super hD rfl hx rfl (fun c z => by cases z) (PySem.W.looks_mroIn KXh U.mro) (fun h2 e2 k2 => ?_)
  have I2 := I.kept (t' := tt + ((("self" : Str) :: ps).zip us).length) (h' := h2) k2
  have hx2 := k2 _ _ hx
  have IA : PySem.W.InstAt h2 a ({ cls := .ref C, dict := none, data := .fields #[.ref t1, .none, .none, .none, .bool false, .none] } : Obj) C none := ⟨hx2, rfl, rfl, trivial⟩
  have hI : PySem.W.Looks (model P w) h2 (isInstance (.ref a) (.type "ValueError")) true := IA.type.andThen (PySem.W.looks_subIn I2.kIn U.sve)
  have hm := U.mth
  cases hc : PySem.W.clsIn K C with
  | none => unfold PySem.W.ks_superIn at hm; rw [hc] at hm; cases hm
  | some cd =>
    unfold PySem.W.ks_superIn at hm
    rw [hc] at hm
    refine PySem.W.kxs_getMethod PySem.W.kxs_ValueError e2 (PySem.W.looks_opaque I2.kIn U.opq) (l₀ := cd.mro) (fun A Q E s k q => wpAny_bind ((PySem.W.looks_clsIn I2.kIn hc) A _ E s k (wpAny_pure q))) rfl I2.kIn hm hI (PySem.W.ks_ne I2.kIn IA hc) rfl ?_
    have hu : (h2.push (PySem.W.kxs_mw "ValueError.__init__" a)).get? h2.objs.size = some (PySem.W.kxs_mw "ValueError.__init__" a) := Heap.get?_push_at rfl rfl
    have I3 := I2.kept (t' := tt + ((("self" : Str) :: ps).zip us).length + 1) (h' := h2.push (PySem.W.kxs_mw "ValueError.__init__" a)) fun b o e => Heap.get?_push_of_some _ e
    have I3p := I3.pins_of (pins' := [(h2.objs.size, PySem.W.kxs_mw "ValueError.__init__" a)]) fun p hp => by
      rw [List.mem_singleton.mp hp]
      exact ⟨hu, I2.hok.fresh (Nat.le_refl _), Nat.ne_of_gt I2.lt, I2.nofs (Nat.le_refl _), fun v z => by cases z⟩
    have PAx : PA (ncx CX P w K mg base N F f A outer ⟨hp, gg, dd, tt, oo⟩ H E) [.Constant (.str txt) kd p5] (tCons (tC (.str txt)) tNil) := pa_cons pe_str pa_nil
    refine PySem.W.kxs_callWith (i := "ValueError.__init__") (u := h2.objs.size) (x := a) rfl (Calls.evalArgs_plain (thn (PAx.run p3 _ _ _ H (fun vs H1 => vs = [.str txt] ∧ H1 = H) I3p ⟨rfl, rfl⟩) fun us2 s4 ⟨vs4, H4, I4, r4, ev, eH⟩ => ?_))
    subst ev eH
    have hu4 := (I4.pin _ (List.mem_append_right _ (List.mem_singleton.mpr rfl))).1
    refine ⟨hu4, ?_⟩
    obtain ⟨t4, hx4⟩ := exo_at I4.hok ha
    have hz : us2.length ≤ sizeLine := by
      have := Paired.length r4
      rw [← this]
      show 1 ≤ sizeLine
      decide
    obtain ⟨hp4, g4, d4, tk4, o4⟩ := s4
    refine call_mw (I4.kIn _ _ hCls) hx4 hu4 hz fun h5 t5 k5 hx5 => ?_
    have J := I4.write (t' := tk4) (h' := h5) (x := a) (e := a) (o := exo a C none) (by rw [ha]; exact True.intro) (.inl rfl) k5 ⟨_, hx5⟩ (exo_ok hx5)
    have eu : upd H4 a (exo a C none) = H4 := by
      funext b
      by_cases hb : b = a
      · rw [hb, upd_same, ha]
      · rw [upd_ne hb]
    rw [eu] at J
    have J5 := J.pins_of (pins' := []) fun p hp => by cases hp
    refine wpAt_of_wpAny (wpAny_mono (ht.run [] _ _ _ _ J5 hq) (fun fl s' hs => ?_) fun e s' hs => hs)
    cases fl with
    | ret u =>
      obtain ⟨v, σ', H', J, rv, q⟩ := hs
      exact ⟨v, H', J.os, J.bare, J.base, J.hok, rv, q⟩
    | next =>
      obtain ⟨σ', H', J, q⟩ := hs
      exact ⟨V.non, H', J.os, J.bare, J.base, J.hok, rfl, q⟩
    | brk =>
      obtain ⟨_, _, _, q⟩ := hs
      exact False.elim q
    | cont =>
      obtain ⟨_, _, _, q⟩ := hs
      exact False.elim q
end
end Ls

/-! ### defs that may raise, as callers need them; an own error without a text -/
namespace Ls
open PySem PySem.Spec PyProof.Rows L2
structure CalX (P : Program) (w : World) (K : PySem.W.Frag) (mg : Str → Option Value) (base : Heap) (k : Nat) (x : Str) (sp : Sp) (dvs : List V) : Prop where
  ex : ∃ (f : Addr) (fd : FuncData) (ps : List Str) (ds : List Value), FnOk P w K mg base (L2.CX P w) k f fd ps sp ∧ mg x = some (.ref f) ∧ PySem.W.keepIn K (.ref f) = true ∧ Binds K fd ps ds ∧ Vals dvs ds
section
variable {X : Cx} {W : WX} {E : XK} {e : Expr} {es : List Expr} {t : TA} {p pos : Pos} {x : Str} {k j : Nat} {sp : Sp} {dvs : List V} {C : Addr}
theorem pe_cx (c : CalX X.prog X.w X.K X.mg X.base k x sp dvs) (tk : Takes X W) (hE : ∀ cls d σ H, E cls d H → W cls d σ H) (hr : Room j X.A) (hk : k ≤ j) (hg : Gl X x) (ha : PA X (e :: es) t) (hdb : (x == ("__debug__" : Str)) = false := by decide)
    (he : starEach (e :: es) X.env = (false, eval e X.env) :: starEach es X.env := by rfl) (hpl : (backTo pos (starEach es X.env)).any (·.1) = false := by rfl) : PE X (.Call (.Name x p) (e :: es) [] pos) (tCall sp dvs E t) := by
  have ⟨f, fd, ps, ds, F, hm, kp, b, d⟩ := c.ex
  exact pe_call F (hr.mono hk) hg hm kp b d (passes_call tk hE) ha hdb he hpl
variable {bmB : List Value} {B newId initId : String}
theorem pmk_own0 (F : ExcBaseFacts B newId initId bmB) (q : PySem.W.excIn X.K C bmB newId = true) (gC : X.mg x = some (.ref C)) (kC : PySem.W.keepIn X.K (.ref C) = true) (r : Raises X (.ref C)) (hg : Gl X x) (hdb : (x == ("__debug__" : Str)) = false := by decide) :
    PMk X (.Call (.Name x p) [] [] pos) (fun _ H Q => Q (.ref C) none H) := by
  intro pins s σ H Q I h
  refine wpAny_Call_Name_kw (ld_glob I hg gC ?_ hdb)
  refine PySem.W.callWith_K0 I.kIn kC ?_
  have ⟨bm, N, nm, qn, bs, hdct, sn, sub, ab, col, dd, k0, k1, k2, k3, k5, mN, hC, hN, hni, T⟩ := exc_obj I.kIn q
  refine wpAny_call_exc_subT F T hC hN hni (fun h' e hm => ?_) (Nat.zero_le _)
  exact mk_of I hm r h (I.hok.gone hm.new)
end
/-! a local name that holds one of two defs that may raise, called within a try -/
structure CalAX (P : Program) (w : World) (K : PySem.W.Frag) (mg : Str → Option Value) (base : Heap) (k : Nat) (f : Addr) (sp : Sp) : Prop where
  ex : ∃ (fd : FuncData) (ps : List Str), FnOk P w K mg base (L2.CX P w) k f fd ps sp ∧ PySem.W.keepIn K (.ref f) = true ∧ Binds K fd ps []
def tCallW (i : Nat) (f1 f2 : Addr) (sp1 sp2 : Sp) (W : WX) (t : TA) : TE := fun σ H Q => (σ[i]? = some (some (.ref f1)) ∧ t σ H fun vs H1 => sp1 vs H1 Q (WE W σ)) ∨ (σ[i]? = some (some (.ref f2)) ∧ t σ H fun vs H1 => sp2 vs H1 Q (WE W σ))
section
variable {X : Cx} {W : WX} {e : Expr} {es : List Expr} {t : TA} {p pos : Pos} {x : Str} {j : Nat}
theorem pe_cxv {i k1 k2 : Nat} {f1 f2 : Addr} {sp1 sp2 : Sp} (c1 : CalAX X.prog X.w X.K X.mg X.base k1 f1 sp1) (c2 : CalAX X.prog X.w X.K X.mg X.base k2 f2 sp2) (tk : Takes X W) (hr : Room j X.A) (l1 : k1 ≤ j) (l2 : k2 ≤ j) (hN : X.N[i]? = some x) (hv : Vis X.env.scope x) (ha : PA X (e :: es) t)
    (hd : (x == ("__debug__" : Str)) = false := by decide) (hcd : (x == ("__classdict__" : Str)) = false := by decide) (he : starEach (e :: es) X.env = (false, eval e X.env) :: starEach es X.env := by rfl) (hpl : (backTo pos (starEach es X.env)).any (·.1) = false := by rfl) :
    PE X (.Call (.Name x p) (e :: es) [] pos) (tCallW i f1 f2 sp1 sp2 W t) := by
  refine ⟨fun pins s σ H Q I h => ?_⟩
  have run : ∀ {k : Nat} {f : Addr} {sp : Sp}, CalAX X.prog X.w X.K X.mg X.base k f sp → k ≤ j → σ[i]? = some (some (.ref f)) → (t σ H fun vs H1 => sp vs H1 Q (WE W σ)) → wpAny (model X.prog X.w) X.A (eval (.Call (.Name x p) (e :: es) [] pos) X.env) (EP X pins σ Q) X.xe s := fun {k f sp} c hk hs ht => by
    have ⟨fd, ps, F, kp, b⟩ := c.ex
    refine wpAny_Call_Name_kw (thn ((pe_var (pos := p) hN hv hd hcd).run pins s σ H (fun v H1 => v = .ref f ∧ H1 = H) I ⟨.ref f, hs, rfl, rfl⟩) fun u s1 ⟨v, H1, I1, r1, ev, eH⟩ => ?_)
    subst ev eH
    cases r1
    exact PySem.W.callWith_K (h₀ := X.base) I.ok.mod.kin kp (thn (ha.run pos pins s1 σ _ _ I1 ht) fun us s2 ⟨vs, H2, I2, r, q⟩ => ⟨I2.kIn, run_fnS (E := WE W) F (hr.mono hk) b (passAt tk σ) I2 r q⟩) he hpl
  rcases h with ⟨h1, h2⟩ | ⟨h1, h2⟩
  · exact run c1 l1 h1 h2
  · exact run c2 l2 h1 h2
end
end Ls

namespace Ls
open PySem PySem.Spec PyProof.Rows L2 NdefX
/-! ### promises put together -/
section
variable {CX : CXT} {P : Program} {w : World} {K : PySem.W.Frag} {mg : Str → Option Value} {base : Heap} {k j : Nat} {f : Addr} {fd : FuncData} {ps : List Str} {sp sp1 sp2 : Sp} {X : Cx}
theorem fn_lift0 (F : FnOk P w K mg base CX0 k f fd ps sp) : FnOk P w K mg base CX k f fd ps sp := ⟨F.len, fun A outer s H args us vs Q E hr e0 hb r h => codeAny_mono (F.run A outer s H args us vs Q E hr e0 hb r h) fun x s' q => by
  cases x with
  | ok u =>
    cases u with
    | ret v => exact q
    | _ => exact False.elim q
  | error e => exact False.elim q⟩
theorem fn_or (F : FnOk P w K mg base CX k f fd ps sp1) (G : FnOk P w K mg base CX k f fd ps sp2) : FnOk P w K mg base CX k f fd ps (fun vs H Q E => sp1 vs H Q E ∨ sp2 vs H Q E) :=
  ⟨fun vs H Q E h => h.elim (F.len _ _ _ _) (G.len _ _ _ _), fun A outer s H args us vs Q E hr e0 hb r h => h.elim (F.run A outer s H args us vs Q E hr e0 hb r) (G.run A outer s H args us vs Q E hr e0 hb r)⟩
def spNo : Sp := fun _ _ _ _ => False
theorem fn_no : FnOk P w K mg base CX k f fd ps spNo := ⟨fun _ _ _ _ h => h.elim, fun _ _ _ _ _ _ _ _ _ _ _ _ _ h => h.elim⟩
theorem pss_no {st : List Stmt} : PSs X st (fun _ _ _ => False) := ⟨fun _ _ _ _ _ _ h => h.elim⟩
theorem pi_or {tg it : Expr} {w1 w2 : TI} (h1 : PI X tg it w1) (h2 : PI X tg it w2) : PI X tg it (fun σ H R => w1 σ H R ∨ w2 σ H R) :=
  ⟨fun pins s σ H R I h => h.elim (h1.run pins s σ H R I) (h2.run pins s σ H R I)⟩
end
section
variable {X : Cx} {W : WX} {e : Expr} {es : List Expr} {t : TA} {p pos : Pos} {x : Str} {k j : Nat} {sp : Sp} {dvs : List V}
/-- a call within a try: what the suites take stands at the caller's slots -/
theorem pe_cxS (c : CalX X.prog X.w X.K X.mg X.base k x sp dvs) (tk : Takes X W) (hr : Room j X.A) (hk : k ≤ j) (hg : Gl X x) (ha : PA X (e :: es) t) (hdb : (x == ("__debug__" : Str)) = false := by decide)
    (he : starEach (e :: es) X.env = (false, eval e X.env) :: starEach es X.env := by rfl) (hpl : (backTo pos (starEach es X.env)).any (·.1) = false := by rfl) : PE X (.Call (.Name x p) (e :: es) [] pos) (tCallSD sp dvs (WE W) t) := by
  have ⟨f, fd, ps, ds, F, hm, kp, b, d⟩ := c.ex
  exact pe_callSD F (hr.mono hk) hg hm kp b d (fun σ => passAt tk σ) ha hdb he hpl
end
/-! ### raise C(e), C's __init__: super().__init__(text); self.f = e -/
def spExc1 (C : Addr) (f : Str) : Sp := fun vs H Q _ => ∃ a v, vs = [.ref a, v] ∧ H a = some (exo a C none) ∧ ∀ dx, H dx = none → dx ≠ a → Q .non (upd (upd H dx (exd dx [(f, v)])) a (exo a C (some dx)))
structure ExcS (P : Program) (w : World) (K : PySem.W.Frag) (mg : Str → Option Value) (base : Heap) (x : Str) (C : Addr) (f : Str) : Prop where
  oex : OexC K C
  no : PySem.W.findIn K (.ref C) f = some none
  xf : XfC K C
  gC : mg x = some (.ref C)
  ex : ∃ (fI : Addr) (fd : FuncData) (ps : List Str), PySem.W.findIn K (.ref C) "__init__" = some (some (.ref fI)) ∧ PySem.W.typeIn K (.ref fI) = some (.type "function") ∧ FnOk P w K mg base CX0 1 fI fd ps (spExc1 C f) ∧ Binds K fd ps []
def tMk1 (C : Addr) (f : Str) (te : TE) : L2.St → Hp → XK → Prop := tMkO C (spExc1 C f) [] (tCons te tNil)
/-- how its reading is answered -/
theorem mk1 {C : Addr} {f : Str} {v : V} {H1 : Hp} {Q : XK} (h : ∀ d H2, Same H1 H2 → H1 d = none → H2 d = some (.xd [(f, v)]) → Q (.ref C) (some d) H2) :
    [v].length ≤ 1000 ∧ ∀ a, H1 a = none → spExc1 C f (.ref a :: ([v] ++ [])) (upd H1 a (exo a C none)) (fun u H2 => u = .non ∧ ∃ (d : Addr) (fs : List (Str × V)), H2 a = some (exo a C (some d)) ∧ H2 d = some (exd d fs) ∧ H1 d = none ∧ Q (.ref C) (some d) (upd (del H2 a) d (.xd fs))) (fun _ _ _ => False) := by
  refine ⟨by show 1 ≤ 1000; decide, fun a ha => ⟨a, v, rfl, upd_same, fun dx hn hne => ⟨rfl, dx, [(f, v)], upd_same, ?_, ?_, ?_⟩⟩⟩
  · rw [upd_ne hne, upd_same]
  · rw [upd_ne hne] at hn; exact hn
  · have hn' : H1 dx = none := by rw [upd_ne hne] at hn; exact hn
    refine h dx _ (fun b o e => ?_) hn' upd_same
    have n1 : b ≠ a := ne_of_none e ha
    have n2 : b ≠ dx := ne_of_none e hn'
    rw [upd_ne n2, del_ne n1, upd_ne n1, upd_ne n2, upd_ne n1]
    exact e
section
variable {X : Cx} {x f : Str} {C : Addr} {j : Nat} {e : Expr} {te : TE} {p pos : Pos}
theorem pmk_sup (U : ExcS X.prog X.w X.K X.mg X.base x C f) (hr : Room j X.A) (hj : 2 ≤ j) (hg : Gl X x) (he : PE X e te) (hdb : (x == ("__debug__" : Str)) = false := by decide)
    (hs : starEach [e] X.env = (false, eval e X.env) :: starEach [] X.env := by rfl) : PMk X (.Call (.Name x p) [e] [] pos) (tMk1 C f te) := by
  obtain ⟨fI, fd, ps, h1, h2, F1, hb⟩ := U.ex
  exact pmk_oex (dvs := []) (ds := []) (e := e) (es := []) (p := p) (pos := pos) U.oex h1 h2 F1 (hr.mono hj) hb .nil pass0 hg U.gC (pa_cons he pa_nil hs) hdb hs rfl
end
/-! ### isinstance of a caught error that has its dict -/
section
open PySem.W
variable {prog : Program} {w : World} {A : Around} {E : Value → Shared → Prop} {s : Shared} {K : Frag} {x D : Addr} {ox : Obj}
theorem kin_classX {od : Option Obj} {Q : Option Value → Shared → Prop} (T : ExcC K D) (X : K.In s.heap) (I : InstAt s.heap x ox D od) (h : Q (some (.ref D)) { s with toks := s.toks + 1 }) : wpAny (model prog w) A (getAttr? (.ref x) "__class__") Q E s := by
  have hc : (clsIn K D).isSome = true := by obtain ⟨cd, hc, _⟩ := any_some T.hd; rw [hc]; rfl
  have hf : findObj K D od "__class__" = some (.bind (.builtin "getset_descriptor.__get__") (.builtin "object.__class__")) := by
    cases od with
    | none => exact findObj_dataN hc T.ha T.hn T.ht
    | some od => exact findObj_data hc T.ha T.hn T.ht
  obtain ⟨hp, g, d, t, os⟩ := s
  have L0 := I.type (M := model prog w); have L1 := looks_findIn (M := model prog w) X T.hg; have L2 := looks_findIn (M := model prog w) X T.hk; have L3 := looks_find (M := model prog w) X I hf
  have sub : Looks (model prog w) hp (isInstance (.ref x) (.type "BaseException")) true := L0.andThen (looks_subIn X T.hs)
  have z2 : (Value.builtin "BaseException.__getattribute__" == Value.builtin "object.__getattribute__") = false := by decide +kernel
  have z1 : (onTheHeap (Value.ref D) && Value.builtin "BaseException.__getattribute__" == Value.builtin "object.__getattribute__") = false := by rw [z2]; rfl
  unfold getAttr? getAttrBy? getAttrBy
  refine wpAny_bind (wpAny_mkText (wpAny_bind (wpAny_attempt (wpAny_holding (wpAny_bind (L0.at (wpAny_bind (L1.at ?_)))))))); show wpAny _ _ (if (onTheHeap (Value.ref D) && Value.builtin "BaseException.__getattribute__" == Value.builtin "object.__getattribute__") = true then _ else _) _ _ _
  rw [z1, if_neg Bool.false_ne_true]; unfold getAttrByItsOwn hookBefore; refine wpAny_bind ?_
  rw [if_pos (show onTheHeap (Value.ref D) = true from rfl)]; refine L2.at ?_; refine wpAny_bind (wpAny_attempt (wpAny_holding ?_)); unfold callGetattribute
  rw [show (false && onTheHeap (Value.builtin "BaseException.__getattribute__")) = false from rfl, if_neg Bool.false_ne_true]; unfold boundAndCalled
  rw [PySem.F.excAttr_ValueError.ga.bind (.ref x)]; refine wpAny_bind (wpAny_pure ?_); show wpAny _ _ (call (.builtin "BaseException.__getattribute__") [.ref x, .str "__class__" t]) _ _ _
  refine wpAny_call (codeAny_call_builtin PySem.F.excAttr_ValueError.ga.plain PySem.F.entry_bexc_ga ?_); refine @check_slot (model prog w) _ _ ⟨hp, g, d, t + 1, os⟩ "BaseException.__getattribute__" "BaseException" "__getattribute__" (.ref x) [.str "__class__" t] [] _ (by decide +kernel) (by decide +kernel) sub (PySem.F.args_bexc_ga (.ref x) (.str "__class__" t)) ?_
  unfold Builtin.«object.__getattribute__»; refine wpAny_bind (wpAny_of_eq (a := ((Value.ref x : Value), [Value.str "__class__" t])) (by first | rfl | (simp only [slotArgs]; rfl)) ?_); refine wpAny_bind (wpAny_pure (wpAny_bind (L0.at (wpAny_bind (L3.at ?_)))))
  show wpAny _ _ (holding [Value.builtin "object.__class__"] (call (.builtin "getset_descriptor.__get__") [.builtin "object.__class__", .ref x, .ref D]) >>= ret) _ _ _
  refine wpAny_bind (wpAny_holding (wpAny_call (class_get (s := ⟨hp, g, d, t + 1, os⟩) (ox := ox) (od := od) X I T.hm ?_))); refine wpAny_pure ?_; show wpAny _ _ (handedOut (.ref D)) _ _ _
  rw [handedOut_of (v := .ref D) rfl]
  first
    | exact wpAny_pure (wpAny_pure h)
    | exact wpAny_pure h
    | exact wpAny_pure (wpAny_bind (wpAny_pure (wpAny_pure h)))
theorem kitx_excX {od : Option Obj} (T : ExcC K D) : KitX K (.ref x) (.ref D) (fun h => InstAt h x ox D od) where
  ty := fun _ _ _ I => I.type
  it := fun _ _ X _ => by
    obtain ⟨cdD, e, _⟩ := any_some T.hd; unfold clsIn at e
    split at e
    · next c' d' cd' sl' ho => intro A' Q' E' s' k q; unfold isType loadHead; exact wpAny_bind (wpAny_loadPart (k _ _ (X _ _ ho)) (wpAny_pure q))
    · cases e
  ne := (handS_kitx_exc (x := x) (ox := ox) T.hg T.hk T.hs T.hd T.ha T.hn T.ht T.hm).ne
  ca := fun X I k => kin_classX T X I k
end
/-- isinstance(e, c), e the exception of the suite, its dict at d -/
def rIsD (K : PySem.W.Frag) (cls : Value) (a : Addr) (d : Option Addr) : List V → Hp → VK → Prop := fun xs H Q => ∃ (c : V) (cv : Value) (b : Bool) (D dd : Addr) (fs : List (Str × V)), xs = [.ref a, c] ∧ cls = .ref D ∧ ExcC K D ∧ d = some dd ∧ H dd = some (.xd fs) ∧ (∀ u, RelV c u → u = cv) ∧ PySem.W.kitOne K (.ref D) cv = some b ∧ Q (.bl b) H
theorem call_isD {X : Cx} {a : Addr} {oe : Obj} {cls : Value} {d : Option Addr} {pn : List (Addr × Obj)} (hz : Zc cls d oe) (hf : ∃ vs, oe.data = .fields vs) : CallR (X.suite a ((a, oe) :: pn)) (.builtin "isinstance") (rIsD X.K cls a d) := by
  intro pins s σ H xs us Q I r h
  obtain ⟨c, cv, b, D, dd, fs, rfl, rfl, C, rfl, hdd, hcv, e, q⟩ := h
  cases r with
  | cons rx rr =>
    cases rr with
    | cons rt rr =>
      cases rr
      cases rx
      have ec := hcv _ rt
      subst ec
      obtain ⟨hget, _⟩ := I.pin (a, oe) (List.mem_append.mpr (.inl List.mem_cons_self))
      obtain ⟨vs, hv⟩ := hf
      have hx : ObjOk X.prog X.w H s.heap dd (.xd fs) := I.hok dd _ hdd
      obtain ⟨mA, hns, hr⟩ := hx
      obtain ⟨od, ho, hl⟩ := lookIn_ns hns
      have J : PySem.W.InstAt s.heap a oe D (some od) := ⟨hget, hz.1, by unfold PySem.W.notCls; rw [hv] <;> rfl, by rw [hz.2]; exact ho⟩
      exact PySem.W.kia_one (kitx_excX C) I.kIn J e (fun z => nomatch z) fun tk => ⟨.bl b, H, I.kept (t' := tk) fun _ _ z => z, rfl, q⟩
end Ls

/-! ### the head's facts of own exceptions with an __init__ -/
namespace Ls
open PySem PySem.Spec PyProof.Rows L2 NdefX He
def oexB (K : PySem.W.Frag) (C : Addr) : Bool := (match K.lookup C with
  | some ⟨.type t, _, .cls cd, sl⟩ => (t == "type") && (match cd.mro, sl.toList with
    | .ref C' :: bm, [_, _, _, _, some (.builtin n), _] => C' == C && (n == "ValueError.__new__" && (!cd.hasDel && (cd.hasDict && PySem.HandSPX.refsVE bm)))
    | _, _ => false)
  | _ => false) && (eqO (PySem.W.findIn K (.ref C) "__setattr__") (some (some (.builtin "object.__setattr__"))) && (decide (PySem.W.subIn K (.ref C) (.type "BaseException") = some true) && (decide (PySem.W.typeIn K (.ref C) = some (.type "type")) && PySem.W.keepIn K (.ref C))))
theorem oexB_ok {K : PySem.W.Frag} {C : Addr} (h : oexB K C = true) : OexC K C := by
  obtain ⟨h1, h2⟩ := ba h
  obtain ⟨h3, h4⟩ := ba h2
  obtain ⟨h5, h6⟩ := ba h4
  obtain ⟨h7, h8⟩ := ba h6
  refine ⟨?_, eqO_ok h3, of_decide_eq_true h5, of_decide_eq_true h7, h8⟩
  split at h1
  · rename_i t dd cd sl ho
    obtain ⟨ht, h1⟩ := ba h1
    split at h1
    · rename_i C' bm k0 k1 k2 k3 n k5 hm hs
      obtain ⟨e1, h1⟩ := ba h1
      obtain ⟨e2, h1⟩ := ba h1
      obtain ⟨e3, h1⟩ := ba h1
      obtain ⟨e4, e5⟩ := ba h1
      have e1 := eq_of_beq e1
      have e2 := eq_of_beq e2
      have ht := eq_of_beq ht
      have e3' : cd.hasDel = false := by simpa using e3
      clear e3
      have e3 := e3'
      clear e3'
      obtain ⟨nm, bs, mro, ns, qn, hd, sn, sub, ab, col, del⟩ := cd
      dsimp only at hm e3 e4
      subst hm e3 e4 e1 e2 ht
      have hsl : sl = #[k0, k1, k2, k3, some (.builtin "ValueError.__new__"), k5] := by
        obtain ⟨l⟩ := sl
        simp only at hs
        rw [hs]
      subst hsl
      exact ⟨nm, qn, ns, bs, bm, sn, sub, ab, col, dd, k0, k1, k2, k3, k5, ho, e5⟩
    · cases h1
  · cases h1
def excB (K : PySem.W.Frag) (D : Addr) : Bool := eqO (PySem.W.findIn K (.ref D) "__getattribute__") (some (some (.builtin "BaseException.__getattribute__"))) && (eqO (PySem.W.findIn K (.ref D) "__getattr__") (some none) && (decide (PySem.W.subIn K (.ref D) (.type "BaseException") = some true) &&
  (PySem.W.hasDictIn K D && (eqO (PySem.W.findIn K (.ref D) "__class__") (some (some (.builtin "object.__class__"))) && (eqO (PySem.W.specialIn K (.builtin "object.__class__") "__get__") (some (some (.builtin "getset_descriptor.__get__"))) &&
  (decide (PySem.W.takesIn K (.builtin "object.__class__") = some true) && decide (PySem.W.mroIn K D (.type "object") = some true)))))))
theorem excB_ok {K : PySem.W.Frag} {D : Addr} (h : excB K D = true) : ExcC K D := by
  obtain ⟨h1, h⟩ := ba h
  obtain ⟨h2, h⟩ := ba h
  obtain ⟨h3, h⟩ := ba h
  obtain ⟨h4, h⟩ := ba h
  obtain ⟨h5, h⟩ := ba h
  obtain ⟨h6, h⟩ := ba h
  obtain ⟨h7, h8⟩ := ba h
  exact ⟨eqO_ok h1, eqO_ok h2, of_decide_eq_true h3, h4, eqO_ok h5, eqO_ok h6, of_decide_eq_true h7, of_decide_eq_true h8⟩
theorem ExcC.xf {K : PySem.W.Frag} {D : Addr} (h : ExcC K D) : XfC K D := ⟨h.hg, h.hk, h.hs, h.hd⟩
/-! the __init__ -/
abbrev FnS : Type := Option (Str × Str × Arguments × FuncBody × Scope × Addr × List Str × Addr)
def fIn (K : PySem.W.Frag) (x : Str) : Addr := ma K (ga K x) "__init__"
def fnS (K : PySem.W.Frag) (x : Str) : FnS := match K.lookup (fIn K x) with
  | some ⟨_, _, .func fd, _⟩ => some (fd.name, fd.qualname, fd.params, fd.body, fd.scope, fd.globals, fd.closure.map (·.1), fd.builtins)
  | _ => none
structure SupD where
  cls : Str
  qual : Str
  params : Arguments
  body : List Stmt
  scope : Scope
def SupD.val (d : SupD) : FnS := some ("__init__", d.qual, d.params, .stmts d.body, d.scope, mainGlobals, ["__class__"], builtinsNs)
def ccOf (fd : FuncData) : Addr := match fd.closure with
  | [(_, c)] => c
  | _ => 0
def codOf (fd : FuncData) : Addr := match fd.code with
  | .ref c => c
  | _ => 0
def NF.ofD (d : SupD) (fd : FuncData) : NF := ⟨"__init__", d.qual, d.params, d.body, d.scope, [(("__class__" : Str), ccOf fd)], codOf fd⟩
def fileB (K : PySem.W.Frag) (c : Addr) (fl : Str) : Bool := match K.lookup c with
  | some ⟨_, _, .fields vs, _⟩ => (match (vs[2]? : Option Value) with
    | some (Value.str f _) => f == fl
    | _ => false)
  | _ => false
def cellB (K : PySem.W.Frag) (c C : Addr) : Bool := match K.lookup c with
  | some ⟨_, _, .cell (some (.ref D)), _⟩ => D == C
  | _ => false
def noneB (v : Value) : Bool := match v with
  | .none => true
  | _ => false
def refB (v : Value) : Bool := match v with
  | .ref _ => true
  | _ => false
def SupD.ok (K : PySem.W.Frag) (fl : Str) (d : SupD) : Bool := oexB K (ga K d.cls) && (eqO (PySem.W.findIn K (.ref (ga K d.cls)) "__init__") (some (some (.ref (fIn K d.cls)))) && (decide (PySem.W.typeIn K (.ref (fIn K d.cls)) = some (.type "function")) && ((match K.lookup (fIn K d.cls) with
  | some ⟨_, _, .func fd, _⟩ => noneB fd.defaults && (noneB fd.kwdefaults && (fd.annotations.isNone && (refB fd.code && (PySem.W.codeIn K fd.code d.qual && (cellB K (ccOf fd) (ga K d.cls) && fileB K (codOf fd) fl)))))
  | _ => false) && (eqO (PySem.W.nsIn K mainGlobals "super") (some none) && (eqO (PySem.W.nsIn K cStatics "thirdparty.any") (some none) && (eqO (PySem.W.ks_superIn K (ga K d.cls) (ga K d.cls) "__init__") (some (some (.builtin "ValueError.__init__"))) &&
  (decide (PySem.W.subIn K (.ref (ga K d.cls)) (.type "ValueError") = some true) && decide (PySem.W.mroIn K (ga K d.cls) (.ref (ga K d.cls)) = some true))))))))
theorem SupD.supC {P : Program} {K : PySem.W.Frag} {fl : Str} {d : SupD} (e : fnS K d.cls = d.val) (c : d.ok K fl = true) (hf : ((P.main.file : Str) == fl) = true) (ht : (P.main.scope.names.lookup ("super" : Str)).isSome = false) :
    ∃ (fd : FuncData) (cc cf : Addr), SupC P K (ga K d.cls) (fIn K d.cls) cc ⟨"__init__", d.qual, d.params, d.body, d.scope, [(("__class__" : Str), cc)], cf⟩ fd := by
  obtain ⟨c1, c⟩ := ba c
  obtain ⟨c2, c⟩ := ba c
  obtain ⟨c3, c⟩ := ba c
  obtain ⟨c4, c⟩ := ba c
  obtain ⟨c5, c⟩ := ba c
  obtain ⟨c6, c⟩ := ba c
  obtain ⟨c7, c⟩ := ba c
  obtain ⟨c8, c9⟩ := ba c
  unfold fnS at e
  cases q : K.lookup (fIn K d.cls) with
  | none => rw [q] at c4; cases c4
  | some o =>
    obtain ⟨oc, od, dt, osl⟩ := o
    rw [q] at c4 e
    cases dt with
    | func fd =>
      obtain ⟨n1, n2, n3, n4, n5, n6, n7, n8, n9, n10, n11, n12, n13, n14, n15⟩ := fd
      have e2 : (some (n1, n2, n3, n4, n5, n6, n7.map (·.1), n15) : FnS) = some (("__init__" : Str), d.qual, d.params, FuncBody.stmts d.body, d.scope, mainGlobals, ([("__class__" : Str)] : List Str), builtinsNs) := e
      simp only [Option.some.injEq, Prod.mk.injEq] at e2
      obtain ⟨h1, h2, h3, h4, h5, h6, h7, h8⟩ := e2
      subst h1 h2 h3 h4 h5 h6 h8
      have c4 : (noneB n8 && (noneB n9 && (n12.isNone && (refB n13 && (PySem.W.codeIn K n13 d.qual && (cellB K (ccOf ⟨"__init__", d.qual, d.params, .stmts d.body, d.scope, mainGlobals, n7, n8, n9, n10, n11, n12, n13, n14, builtinsNs⟩) (ga K d.cls) && fileB K (codOf ⟨"__init__", d.qual, d.params, .stmts d.body, d.scope, mainGlobals, n7, n8, n9, n10, n11, n12, n13, n14, builtinsNs⟩) fl)))))) = true := c4
      obtain ⟨g1, c4⟩ := ba c4
      obtain ⟨g2, c4⟩ := ba c4
      obtain ⟨g3, c4⟩ := ba c4
      obtain ⟨g4, c4⟩ := ba c4
      obtain ⟨g5, c4⟩ := ba c4
      obtain ⟨g6, g7⟩ := ba c4
      have z8 : n8 = .none := by cases n8 <;> first | rfl | cases g1
      have z9 : n9 = .none := by cases n9 <;> first | rfl | cases g2
      have z12 : n12 = none := by cases n12 <;> first | rfl | cases g3
      subst z8 z9 z12
      cases n13 with
      | ref cf =>
        cases n7 with
        | nil => cases h7
        | cons p r =>
          cases r with
          | cons _ _ => exact absurd (congrArg List.length h7) (by simp)
          | nil =>
            obtain ⟨pn, cc⟩ := p
            simp only [List.map_cons, List.map_nil, List.cons.injEq, and_true] at h7
            subst h7
            have g6 : cellB K cc (ga K d.cls) = true := g6
            have g7 : fileB K cf fl = true := g7
            refine ⟨_, cc, cf, oexB_ok c1, eqO_ok c2, of_decide_eq_true c3, ⟨oc, od, n10, n11, n14, osl, rfl, q⟩, g5, rfl, ?_, ?_, eqO_ok c5, ht, eqO_ok c6, eqO_ok c7, of_decide_eq_true c8, of_decide_eq_true c9⟩
            · unfold cellB at g6
              split at g6
              · rename_i cl cld D csl hl
                exact ⟨cl, cld, csl, by rw [hl, eq_of_beq g6]⟩
              · cases g6
            · unfold fileB at g7
              split at g7
              · rename_i cl cld vs csl hl
                split at g7
                · rename_i f tf hv
                  exact ⟨cl, cld, vs, csl, f, tf, hl, hv, by rw [eq_of_beq g7]; exact hf⟩
                · cases g7
              · cases g7
      | _ => cases g4
    | _ => cases c4
/-! the hook -/
inductive Fx where
  | exc (x : Str)
  | isi (x y : Str) (b : Bool)
  | isb (x : Str) (t : String) (b : Bool)
def Fx.ok (K : PySem.W.Frag) : Fx → Bool
  | .exc x => excB K (ga K x)
  | .isi x y b => decide (PySem.W.kitOne K (.ref (ga K x)) (.ref (ga K y)) = some b)
  | .isb x t b => decide (PySem.W.kitOne K (.ref (ga K x)) (.type t) = some b)
structure Hd where
  fa : List Fa
  fn : List DefD
  fx : List Fx
  su : List SupD
  file : Str
abbrev AlS : Type := AlD × Bool × List FnS
def obsS (d : Hd) (K : PySem.W.Frag) : AlS := (obsD d.fa d.fn K, (d.fx.all fun f => f.ok K) && (d.su.all fun u => u.ok K d.file), d.su.map fun u => fnS K u.cls)
def valS (d : Hd) : AlS := (valD d.fn, true, d.su.map SupD.val)
def asS (g : Addr → Option Obj) (n : Nat) : List Addr := asD g n ++ [cStatics]
def obsSG (n : Nat) (d : Hd) (g : Addr → Option Obj) : AlS := obsS d (frG g (asS g n))
def SaysS (d : Hd) (K : PySem.W.Frag) : Prop := obsS d K = valS d
def hookS (n : Nat) (d : Hd) : PySem.W.Hook where
  α := AlS
  obs := fun s => obsSG n d s.heap.get?
  val := fun _ => valS d
  says := fun _ h => ∃ K : PySem.W.Frag, K.In h ∧ SaysS d K
  of := fun _ _ e => ⟨_, frG_in, e⟩
  keeps := fun _ _ _ ⟨K, hK, c⟩ k => ⟨K, hK.keeps k, c⟩
theorem obsSG_eq {n : Nat} {d : Hd} {g : Addr → Option Obj} {s : Shared} (h : ∀ a, g a = s.heap.get? a) : obsSG n d g = (hookS n d).obs s := by
  rw [show g = s.heap.get? from funext h]; rfl
section
variable {d : Hd} {K : PySem.W.Frag}
theorem SaysS.d_ (c : SaysS d K) : SaysD d.fa d.fn K := congrArg (fun z : AlS => z.1) c
theorem SaysS.x (c : SaysS d K) (i : Nat) {f : Fx} (h : d.fx[i]? = some f := by rfl) : f.ok K = true :=
  List.all_eq_true.mp (ba (show ((d.fx.all fun f => f.ok K) && (d.su.all fun u => u.ok K d.file)) = true from congrArg (fun z : AlS => z.2.1) c)).1 f (List.mem_of_getElem? h)
theorem SaysS.u (c : SaysS d K) (i : Nat) {u : SupD} {P : Program} (hf : ((P.main.file : Str) == d.file) = true) (ht : (P.main.scope.names.lookup ("super" : Str)).isSome = false) (h : d.su[i]? = some u := by rfl) :
    ∃ (fd : FuncData) (cc cf : Addr), SupC P K (ga K u.cls) (fIn K u.cls) cc ⟨"__init__", u.qual, u.params, u.body, u.scope, [(("__class__" : Str), cc)], cf⟩ fd := by
  have c2 := List.all_eq_true.mp (ba (show ((d.fx.all fun f => f.ok K) && (d.su.all fun u => u.ok K d.file)) = true from congrArg (fun z : AlS => z.2.1) c)).2 u (List.mem_of_getElem? h)
  have e : d.su.map (fun u => fnS K u.cls) = d.su.map SupD.val := congrArg (fun z : AlS => z.2.2) c
  have e2 : (d.su.map fun u => fnS K u.cls)[i]? = (d.su.map SupD.val)[i]? := by rw [e]
  rw [List.getElem?_map, List.getElem?_map, h] at e2
  exact SupD.supC (Option.some.inj e2) c2 hf ht
end
end Ls

namespace Ls
open PySem PySem.Spec PyProof.Rows L2 NdefX
section
variable {P : Program} {w : World} {K : PySem.W.Frag} {mg : Str → Option Value} {base : Heap} {F : NF} {C f cc : Addr} {fd : FuncData}
/-- super().__init__(text); self.fld = arg -/
theorem ok_exc1 (U : SupC P K C f cc F fd) {p0 p1 p2 p3 p4 p5 q0 q1 q2 q3 : Pos} {txt fld arg : Str} {kd : Nat}
    (hbd : F.body = [.Expr (.Call (.Attribute (.Call (.Name "super" p0) [] [] p1) "__init__" p2) [.Constant (.str txt) kd p5] [] p3) p4, .Assign [.Attribute (.Name "self" q0) fld q1] (.Name arg q2) q3])
    (S : NScope ["self", arg, "__class__"] ["self", arg] ["__class__"] F.scope)
    {ar : Arg} (har : (F.params.posonlyargs ++ F.params.args).head? = some ar) (har1 : ar.arg = "self") (hks : F.scope.names.lookup ("super" : Str) = some .globalImplicit)
    (hcall : ∀ L, ∃ pl, eval (.Call (.Attribute (.Call (.Name "super" p0) [] [] p1) "__init__" p2) [.Constant (.str txt) kd p5] [] p3) (envF F f L) = (do
      let ov ← attributeBase (.Call (.Name "super" p0) [] [] p1) "__init__" (envF F f L) (eval (.Call (.Name "super" p0) [] [] p1) (envF F f L))
      standAt p2.atName
      let (fx, first) ← holding [ov] (getMethod ov "__init__" pl)
      callWith p3 fx first (backTo p3 (starEach [.Constant (.str txt) kd p5] (envF F f L))) []))
    (hint : ∀ L, interactive (envF F f L) = false) (hsw : ∀ L, swapsWith (.Call (.Attribute (.Call (.Name "super" p0) [] [] p1) "__init__" p2) [.Constant (.str txt) kd p5] [] p3) none p4.line (envF F f L) = pure false)
    (hsw2 : ∀ L, swapsWith (.Name arg q2) (some (.Attribute (.Name "self" q0) fld q1)) q3.line (envF F f L) = pure false)
    (hd1 : (arg == ("__debug__" : Str)) = false) (hd2 : (arg == ("__classdict__" : Str)) = false) (no : PySem.W.findIn K (.ref C) fld = some none) : FnOk P w K mg base CX0 1 f fd ["self", arg] (spExc1 C fld) := by
  refine fn_sup (k := 0) (ps := [arg]) (N := ["self", arg, "__class__"]) U hbd S har har1 hks hcall hint hsw (fun vs H Q E h => ?_) (fun vs H Q E h => ?_) (fun A outer s H vs Q E hr h => ?_)
  · obtain ⟨a, v, rfl, _⟩ := h
    rfl
  · obtain ⟨a, v, rfl, ha, _⟩ := h
    exact ⟨a, _, rfl, ha⟩
  · obtain ⟨a, v, rfl, ha, hk⟩ := h
    refine ⟨tOst K fld (tVar 0) (tVar 1), pss_one (ps_ost (pe_var (i := 0) rfl (.inl (S.par _ (by simp))) (by decide) (by decide)) (pe_var (i := 1) rfl (.inl (S.par _ (by simp))) hd1 hd2) (hsw2 _)), ?_⟩
    exact ⟨v, rfl, .ref a, rfl, a, C, rfl, U.oex, no, .inl ⟨ha, fun dx hn hne => hk dx hn hne⟩⟩
end
end Ls
namespace Ls
open PySem PySem.Spec PyProof.Rows L2
/-! enumerate(x), x a local that holds a list or a tuple -/
def iEnumV (K : PySem.W.Frag) (i : Nat) : TI := fun σ H R => ∃ a xs J, σ[i]? = some (some (.ref a)) ∧ ((SqL K H a xs ∧ J = Ite K a) ∨ (SqT K H a xs ∧ J = IteT K a)) ∧ R J H
theorem kpi_enumV {X : Cx} {K : PySem.W.Frag} {i : Nat} {x : Str} {p pos p2 tpos : Pos} {elts : List Expr} {kk : Nat} (hg : Gl X "enumerate") (hm : X.mg "enumerate" = none) (ha : PE X (.Name x p2) (tVar i)) (h : X.K = K := by rfl)
    (hs : starEach [.Name x p2] X.env = [(false, eval (.Name x p2) X.env)] := by rfl) : PI X (.Tuple elts kk tpos) (.Call (.Name "enumerate" p) [.Name x p2] [] pos) (iEnumV K i) := by
  subst h
  refine ⟨fun pins s σ H R I q => ?_⟩
  obtain ⟨a, xs, J, hσ, hj, r⟩ := q
  rcases hj with ⟨hx, rfl⟩ | ⟨hx, rfl⟩
  · exact (pi_enum hg hm (pa_cons ha pa_nil hs) hs).run pins s σ H R I ⟨.ref a, hσ, a, xs, rfl, hx, r⟩
  · exact (pi_enumT hg hm (pa_cons ha pa_nil hs) hs).run pins s σ H R I ⟨.ref a, hσ, a, xs, rfl, hx, r⟩
/-- the walk of either -/
theorem enumV {K : PySem.W.Frag} {H : Hp} {a : Addr} {xs : List V} (h : H a = some (.tup xs) ∨ H a = some (.lst xs)) :
    ∃ (J : It) (Gd : Hp → Prop), (∀ H', Same H H' → (SqL K H' a xs ∧ J = Ite K a) ∨ (SqT K H' a xs ∧ J = IteT K a)) ∧ Walk J xs.length Gd (YPair (fun i => some (.int (i : Nat))) (fun i => xs[i]?)) ∧ ∀ H', Same H H' → Gd H' :=
  h.elim (fun h => ⟨_, _, fun H' s => .inr ⟨sqt (s _ _ h), rfl⟩, walk_enumT, fun H' s => sqt (s _ _ h)⟩) fun h => ⟨_, _, fun H' s => .inl ⟨sq (s _ _ h), rfl⟩, walk_enum, fun H' s => sq (s _ _ h)⟩
end Ls
namespace Ls
open PySem PySem.Spec PyProof.Rows L2
theorem pe_c0 {X : Cx} {x : Str} {k j : Nat} {sp : Sp} {dvs : List V} {p pos : Pos} (c : Cal X.prog X.w X.K X.mg X.base k x sp dvs) (hr : Room j X.A) (hk : k ≤ j) (hg : Gl X x) (hdb : (x == ("__debug__" : Str)) = false := by decide) : PE X (.Call (.Name x p) [] [] pos) (tCall sp dvs E0 tNil) := by
  have ⟨f, fd, ps, ds, F, hm, kp, b, d⟩ := c.ex
  exact pe_call0 F (hr.mono hk) hg hm kp b d pass0 hdb
end Ls
namespace Ls
open PySem PySem.Spec PyProof.Rows L2
/-! a for whose body's reading hangs on its ends (a try within): kept whole -/
def ForOk (J : It) (g : TG) (tb : TS) (D : Ends) (σ : L2.St) (H1 : Hp) : Prop := tFor (fun _ _ R => R J H1) g tb D σ H1
theorem tFor_ok {wi : TI} {g : TG} {tb : TS} {D : Ends} {σ : L2.St} {H : Hp} (h : wi σ H fun J H1 => ForOk J g tb D σ H1) : tFor wi g tb D σ H := h
theorem for_ok {J : It} {n : Nat} {G : Hp → Prop} {Y : Nat → Hp → V → Hp → Prop} (w : Walk J n G Y) {g : TG} {tb : TS} {D : Ends} {σ : L2.St} {H : Hp} (Pv : Nat → L2.St → Hp → Prop) (h0 : Pv 0 σ H) (hG : ∀ i σ H, i ≤ n → Pv i σ H → G H)
    (hs : ∀ i x σ H H', i < n → Pv i σ H → Y i H x H' → g x σ H' fun σ2 H2 => tb { D with nx := Pv (i + 1), ct := Pv (i + 1), bk := D.nx } σ2 H2) (hd : ∀ σ H, Pv n σ H → D.nx σ H) : ForOk J g tb D σ H :=
  for_it w Pv h0 hG hs hd
end Ls

namespace K1
open PySem PySem.Spec PyProof.Rows L2 Ls
/-! ### the text by places -/
def top (i : Nat) : Stmt := PySem.Challenge.pw_loopsheds_k07_whole_within.main.body.getD i (.Pass ⟨0, 0, 0, 0⟩)
abbrev s_u_wall : Stmt := top 0
abbrev s_Table___init__ : Stmt := inClass (top 4) 0
abbrev s_blank : Stmt := top 5
abbrev s_u_through : Stmt := top 6
abbrev s_closed : Stmt := top 7
abbrev s_more : Stmt := top 8
abbrev s_added : Stmt := top 9
abbrev s_table_of : Stmt := top 10
abbrev s_both : Stmt := top 11
abbrev s_kept : Stmt := top 12
abbrev s_wider : Stmt := top 13
abbrev s_upper : Stmt := top 14
abbrev s_holds : Stmt := top 15
abbrev s_lean_of : Stmt := top 16
abbrev s_at_point : Stmt := top 17
abbrev s_set_to : Stmt := top 18
abbrev s_point_of : Stmt := top 19
abbrev s_BadName___init__ : Stmt := inClass (top 22) 0
abbrev s_BadDifference___init__ : Stmt := inClass (top 23) 0
abbrev s_Unlike___init__ : Stmt := inClass (top 24) 0
abbrev s_is_name : Stmt := top 27
abbrev s_checked_names : Stmt := top 28
abbrev s_is_limit : Stmt := top 29
abbrev s_u_is_end : Stmt := top 30
abbrev s_checked_system : Stmt := top 31
abbrev s_u_inside : Stmt := top 33
abbrev s_absorbed : Stmt := top 34
abbrev s_outside : Stmt := top 35
abbrev s_without : Stmt := top 36
abbrev s_left_of : Stmt := top 37
abbrev s_joined : Stmt := top 38
abbrev s_Region___init__ : Stmt := inClass (top 39) 0
abbrev s_Region_whole : Stmt := inClass (top 39) 1
abbrev s_Region_nothing : Stmt := inClass (top 39) 2
abbrev s_Region_pieces : Stmt := inClass (top 39) 3
abbrev s_Region___and__ : Stmt := inClass (top 39) 4
abbrev s_Region___or__ : Stmt := inClass (top 39) 5
abbrev s_Region___sub__ : Stmt := inClass (top 39) 6
abbrev s_Region___invert__ : Stmt := inClass (top 39) 7
abbrev s_Region___contains__ : Stmt := inClass (top 39) 8
abbrev s_Region___bool__ : Stmt := inClass (top 39) 9
abbrev s_Region_within : Stmt := inClass (top 39) 10
abbrev s_Region_same : Stmt := inClass (top 39) 11
abbrev s_Region_apart : Stmt := inClass (top 39) 12
abbrev s_Region_shadow : Stmt := inClass (top 39) 13
abbrev s_Region_over : Stmt := inClass (top 39) 14
abbrev s_Region_renamed : Stmt := inClass (top 39) 15
abbrev s_Region_fixed : Stmt := inClass (top 39) 16
abbrev s_Region_point : Stmt := inClass (top 39) 17
abbrev s_Region_first_point : Stmt := inClass (top 39) 18
abbrev s_Region_hull : Stmt := inClass (top 39) 19
abbrev s_Region_spread : Stmt := inClass (top 39) 20
abbrev s_fit : Stmt := top 40
abbrev s_u_law_draw : Stmt := top 42
abbrev s_u_law_pool : Stmt := top 43
abbrev s_u_law_system : Stmt := top 44
abbrev s_u_law_table : Stmt := top 45
abbrev s_u_law_worth : Stmt := top 46
abbrev s_u_law_solves : Stmt := top 47
abbrev s_u_law_parts : Stmt := top 48
abbrev s_u_law_point : Stmt := top 49
abbrev s_u_law_inside : Stmt := top 50
abbrev s_u_law_lack : Stmt := top 51
abbrev s_u_law_can : Stmt := top 52
abbrev s_law : Stmt := top 53
/-- what the module holds: built-in names free, constants -/
structure Facts (mg : Str → Option Value) : Prop where
  len_ : mg "len" = none
  range_ : mg "range" = none
  zip_ : mg "zip" = none
  enumerate_ : mg "enumerate" = none
  isinstance_ : mg "isinstance" = none
  tuple_ : mg "tuple" = none
  list_ : mg "list" = none
  int_ : mg "int" = none
  bool_ : mg "bool" = none
  str_ : mg "str" = none
  any_ : mg "any" = none
  max_ : mg "max" = none
  min_ : mg "min" = none
  ValueError_ : mg "ValueError" = none
  FAR : ∃ t, mg "FAR" = some (.int 1000000000000000000000000000000 t)
  HALF : ∃ t, mg "HALF" = some (.int 100000000000000000000000000000 t)
  MOST : ∃ t, mg "MOST" = some (.int 1000000000000000000 t)
abbrev FnP (K : PySem.W.Frag) (x : Str) (st : Stmt) (dvs : List V) (f : Addr) (fd : FuncData) : Prop := FunD K x x (defArgs st) (defBody st) (defScope st) dvs [] f fd
/-! ### the class Table -/
theorem nr : (("names" : Str) == "rows") = false := by decide +kernel
theorem rn : (("rows" : Str) == "names") = false := by decide +kernel
theorem ns_ : (("names" : Str) == "spots") = false := by decide +kernel
theorem sn : (("spots" : Str) == "names") = false := by decide +kernel
theorem rs_ : (("rows" : Str) == "spots") = false := by decide +kernel
theorem sr : (("spots" : Str) == "rows") = false := by decide +kernel
def flds (an ar asp : Addr) : List (Str × V) := [(("names" : Str), V.ref an), (("rows" : Str), V.ref ar), (("spots" : Str), V.ref asp)]
theorem flds_names (an ar asp : Addr) : (flds an ar asp).lookup ("names" : Str) = some (V.ref an) := by simp [flds, List.lookup_cons]
theorem flds_rows (an ar asp : Addr) : (flds an ar asp).lookup ("rows" : Str) = some (V.ref ar) := by simp [flds, List.lookup_cons, rn]
theorem flds_spots (an ar asp : Addr) : (flds an ar asp).lookup ("spots" : Str) = some (V.ref asp) := by simp [flds, List.lookup_cons, sn, sr]
theorem flds_put (an ar asp : Addr) : putF "spots" (.ref asp) (putF "rows" (.ref ar) (putF "names" (.ref an) [])) = flds an ar asp := by
  have h1 : ¬ (("names" : Str) = "rows") := by decide +kernel
  have h2 : ¬ (("names" : Str) = "spots") := by decide +kernel
  have h3 : ¬ (("rows" : Str) = "spots") := by decide +kernel
  simp [putF, flds, h1, h2, h3]
/-- what the walk asks of the class -/
structure TCls (K : PySem.W.Frag) (C : Addr) : Prop where
  cl : Cls K C
  nN : NoAttr K C "names"
  nR : NoAttr K C "rows"
  nS : NoAttr K C "spots"
/-- names to places -/
def spD (ns : List Str) : List (Key × V) := ns.zipIdx.foldl (fun kv p => putK kv (Sum.inr p.1 : Key) (V.int (p.2 : Int))) []
def spTable (C : Addr) : Sp := fun vs H Q _ => ∃ (p dx an ar : Addr) (ns : List Str) (sv : V), vs = [.ref p, .ref an, .ref ar, sv] ∧ H p = some (.ins C dx []) ∧ H an = some (.tup (ns.map V.str)) ∧ ns.length ≤ 1000 ∧
  ((sv = .non ∧ ∀ d H', H d = none → H' d = some (.dK (spD ns)) → H' p = some (.ins C dx (flds an ar d)) → (∀ b o, H b = some o → b ≠ p → H' b = some o) → Q .non H') ∨
   ∃ d, sv = .ref d ∧ ∀ H', H' p = some (.ins C dx (flds an ar d)) → (∀ b o, H b = some o → b ≠ p → H' b = some o) → Q .non H')
theorem zipIdx_take {α : Type} (xs : List α) (i : Nat) (x : α) (h : xs[i]? = some x) : (xs.take (i + 1)).zipIdx = (xs.take i).zipIdx ++ [(x, i)] := by
  have hi := (List.getElem?_eq_some_iff.mp h).1
  rw [List.take_add_one, h, List.zipIdx_append]
  simp [Nat.min_eq_left (Nat.le_of_lt hi)]
theorem spD_snoc (ns : List Str) (x : Str) : spD (ns ++ [x]) = putK (spD ns) (Sum.inr x : Key) (V.int ((ns.length : Nat) : Int)) := by
  unfold spD
  rw [List.zipIdx_append, List.foldl_append]
  simp
theorem spD_take (ns : List Str) (i : Nat) (h : i < ns.length) : spD (ns.take (i + 1)) = putK (spD (ns.take i)) (Sum.inr ns[i] : Key) (V.int (i : Int)) := by
  have e : ns.take (i + 1) = ns.take i ++ [ns[i]] := by rw [List.take_add_one, List.getElem?_eq_getElem h]; rfl
  rw [e, spD_snoc, List.length_take, Nat.min_eq_left (Nat.le_of_lt h)]
theorem spD_len (ns : List Str) : ∀ i, i ≤ ns.length → (spD (ns.take i)).length ≤ i
  | 0, _ => by simp [spD]
  | i + 1, h => by
    rw [spD_take ns i h]
    have h1 := spD_len ns i (by omega)
    have h2 := length_putK (spD (ns.take i)) (Sum.inr ns[i] : Key) (V.int (i : Int))
    omega
/-- the last place of a name is what the dict tells -/
theorem spD_at (ns : List Str) : ∀ k, k ≤ ns.length → ∀ (i : Nat) (u : Str), i < k → ns[i]? = some u → (∀ j, i < j → j < k → ns[j]? ≠ some u) → valV (spD (ns.take k)) (Sum.inr u : Key) = some (V.int (i : Int))
  | 0, _, i, u, h, _, _ => by omega
  | k + 1, hk, i, u, h, hi, hl => by
    rw [spD_take ns k hk, valV_put]
    by_cases e : i = k
    · subst e
      have eu : ns[i] = u := by rw [List.getElem?_eq_getElem hk] at hi; exact Option.some.inj hi
      rw [eu, if_pos rfl]
    · have hne : ¬ (Sum.inr u : Key) = Sum.inr ns[k] := fun z => hl k (by omega) (by omega) (by rw [List.getElem?_eq_getElem hk]; exact congrArg some (Sum.inr.inj z).symm)
      rw [if_neg hne]
      exact spD_at ns k (by omega) i u (by omega) hi fun j h1 h2 => hl j h1 (by omega)
section
variable {P : Program} {w : World} {K : PySem.W.Frag} {mg : Str → Option Value} {base : Heap} {f C : Addr} {fd : FuncData} {k : Nat}
theorem sc_Table___init__ : FnScope ["self", "names", "rows", "spots", "spot", "name"] ["self", "names", "rows", "spots"] (defScope s_Table___init__) := ⟨rfl, rfl, rfl, by decide +kernel, rfl, by decide +kernel, by decide +kernel⟩
theorem ok_init (F : FunD K "__init__" "Table.__init__" (defArgs s_Table___init__) (defBody s_Table___init__) (defScope s_Table___init__) [.non] [] f fd) (G : Facts mg) (T : TCls K C) : FnOk P w K mg base CX0 1 f fd ["self", "names", "rows", "spots"] (spTable C) := by
  refine F.ok sc_Table___init__ (fun vs H Q E h => ?_) (fun cdv A outer s H vs Q E hr h => ?_)
  · obtain ⟨p, dx, an, ar, ns, sv, rfl, _⟩ := h
    rfl
  · obtain ⟨p, dx, an, ar, ns, sv, rfl, hp, han, hlen, hk⟩ := h
    have hu := hu_of hr
    refine ⟨_, PSs.nox (pss_cons (ps_fld (pv 0) (pv 1) rfl)
      (pss_cons (ps_fld (pv 0) (pv 2) rfl)
      (pss_one (ps_fld (pv 0) (pe_ifExp (pt_cmpR op_isN (pv 3) pe_non (nomark _)) (pe_dc (own := [("spot", 4), ("name", 5)]) (g := gTup K 2 (gCons (gName 4) (gCons (gName 5) (gNil)))) (tt := tYes) rfl sc_Table___init__.nd  (kpi_enumT K (by rfl) G.enumerate_ (pa_cons (pv 1) pa_nil)) (blkOk_by (by kernel_rfl)) (fun _ _ _ _ _ => (kpg_tup K rfl (pgs_cons (pg_name (i := 4) sc_Table___init__.nd rfl (by first | exact .inl rfl | exact .inr rfl)) (pgs_cons (pg_name (i := 5) sc_Table___init__.nd rfl (by first | exact .inl rfl | exact .inr rfl)) pgs_nil)))) (fun _ _ _ _ _ => pts_nil) (fun _ _ _ _ _ => (pv 5)) (fun _ _ _ _ _ => (pv 4))) (pv 3)) rfl)))), ?_⟩
    have pan : an ≠ p := ne_of han hp (by intro z; cases z)
    -- self.names = names; self.rows = rows
    refine ⟨_, rfl, _, rfl, p, C, dx, [], rfl, hp, T.cl, T.nN, (by show 0 < 1000; decide), ?_⟩
    refine ⟨_, rfl, _, rfl, p, C, dx, _, rfl, upd_same, T.cl, T.nR, (by show 1 < 1000; decide), ?_⟩
    -- spots is None
    refine ⟨_, rfl, rfl, _, rfl, ?_⟩
    rcases hk with ⟨rfl, hk⟩ | ⟨d, rfl, hk⟩
    · refine iteT ?_
      -- {name: spot for spot, name in enumerate(names)}
      have pH : ∀ o, (upd (upd H p (.ins C dx (putF "names" (.ref an) []))) p o) an = some (.tup (ns.map V.str)) := fun o => by rw [upd_ne pan, upd_ne pan]; exact han
      refine ⟨_, rfl, an, ns.map V.str, rfl, sqt (pH _), fun D hD => ?_⟩
      have hDp : p ≠ D := ne_of_none upd_same hD
      have hD0 : H D = none := by
        rw [upd_ne hDp.symm, upd_ne hDp.symm] at hD
        exact hD
      generalize hB : upd (upd H p (.ins C dx (putF "names" (.ref an) []))) p (.ins C dx (putF "rows" (.ref ar) (putF "names" (.ref an) []))) = B at hD pH ⊢
      have hBp : B p = some (.ins C dx (putF "rows" (.ref ar) (putF "names" (.ref an) []))) := by rw [← hB]; exact upd_same
      have hBo : ∀ b o, H b = some o → b ≠ p → B b = some o := fun b o e hb => by rw [← hB, upd_ne hb, upd_ne hb]; exact e
      have hBan := hBo an _ han pan
      refine dc_it (walk_enumT (K := K) (a := an) (xs := ns.map V.str)) (fun i H' => Same B H' ∧ H' D = some (.dK (spD (ns.take i)))) ⟨same_upd hD, upd_same⟩ (fun i H' _ ⟨s1, _⟩ => sqt (s1 _ _ hBan)) ?_ ?_
      · rintro i x H1 H' hi ⟨s1, d1⟩ ⟨T', x1, x2, rfl, nT, rfl, e1, e2⟩
        cases e1
        have hil : i < ns.length := by simpa using hi
        have e2 : x2 = V.str ns[i] := by
          have e2 : (ns.map V.str)[i]? = some x2 := e2
          rw [List.getElem?_map, List.getElem?_eq_getElem hil] at e2
          exact (Option.some.inj e2).symm
        subst e2
        have nTD : D ≠ T' := ne_of_none d1 nT
        refine ⟨T', _, rfl, sqt upd_same, rfl, _, _, rfl, _, _, rfl, rfl, rfl, _, rfl, _, rfl, spD (ns.take i), Sum.inr ns[i], rfl, by rw [upd_ne nTD]; exact d1, ?_, same_mut (s1.trans (same_upd nT)) hD, ?_⟩
        · have := spD_len ns i (by omega)
          exact szlt (by omega)
        · rw [upd_same, spD_take ns i hil]
      · rintro H' ⟨s1, d1⟩
        rw [List.length_map, List.take_length] at d1
        have h1p := s1 _ _ hBp
        have nDp : D ≠ p := hDp.symm
        refine ⟨_, rfl, p, C, dx, _, rfl, h1p, T.cl, T.nS, (by show 2 < 1000; decide), ?_⟩
        refine hk D _ hD0 (by rw [upd_ne nDp]; exact d1) (by rw [upd_same, flds_put]) fun b o e hb => ?_
        rw [upd_ne hb]
        exact s1 _ _ (hBo b o e hb)
    · refine iteF ?_
      refine ⟨_, rfl, _, rfl, p, C, dx, _, rfl, upd_same, T.cl, T.nS, (by show 2 < 1000; decide), ?_⟩
      refine hk _ (by rw [upd_same, flds_put]) fun b o e hb => ?_
      rw [upd_ne hb, upd_ne hb, upd_ne hb]
      exact e
end
end K1

namespace K1
open PySem PySem.Spec PyProof.Rows L2 Ls
/-! ### tables -/
def rowV (ns : List Str) (R : Df.Tab Str) (u : Str) : List V := ns.map fun v => V.int (R u v)
/-- N: the addresses that a table may use -/
def RowIs (N : Addr → Prop) (H : Hp) (ns : List Str) (R : Df.Tab Str) : V → Str → Prop := fun v u => ∃ r, v = V.ref r ∧ N r ∧ H r = some (.lst (rowV ns R u))
theorem RowIs.keep {N : Addr → Prop} {H H' : Hp} (s : ∀ a o, N a → H a = some o → H' a = some o) {ns : List Str} {R : Df.Tab Str} {v : V} {u : Str} (h : RowIs N H ns R v u) : RowIs N H' ns R v u := h.imp fun _ q => ⟨q.1, q.2.1, s _ _ q.2.1 q.2.2⟩
theorem RowIs.mono {N : Addr → Prop} {H H' : Hp} (s : Same H H') {ns : List Str} {R : Df.Tab Str} {v : V} {u : Str} (h : RowIs N H ns R v u) : RowIs N H' ns R v u := h.keep fun a o _ => s a o
/-- the names as they are shown, beside the labels ns: alike, but that a name told twice has the empty label at its first place -/
structure Lab (ns shown : List Str) : Prop where
  nd : ns.Nodup
  len : shown.length = ns.length
  at_ : ∀ (i : Nat) u, ns[i]? = some u → u ≠ "" → shown[i]? = some u ∧ ∀ j, i < j → shown[j]? ≠ some u
  same : ("" : Str) ∉ ns → shown = ns
theorem Lab.of {ns : List Str} (h : ns.Nodup) : Lab ns ns := ⟨h, rfl, fun i u hi _ => ⟨hi, fun j hj e => by
  obtain ⟨h1, e1⟩ := List.getElem?_eq_some_iff.mp hi
  obtain ⟨h2, e2⟩ := List.getElem?_eq_some_iff.mp e
  have := (List.getElem_inj h).mp (e1.trans e2.symm)
  omega⟩, fun _ => rfl⟩
def Spots (ns : List Str) (sp : List (Key × V)) : Prop := ∀ (i : Nat) u, ns[i]? = some u → u ≠ "" → valV sp (Sum.inr u : Key) = some (V.int (i : Int))
theorem Lab.spots {ns shown : List Str} (h : Lab ns shown) : Spots ns (spD shown) := fun i u hi hu => by
  obtain ⟨h1, h2⟩ := h.at_ i u hi hu
  have := spD_at shown shown.length (Nat.le_refl _) i u (List.getElem?_eq_some_iff.mp h1).1 h1 fun j h3 _ => h2 j h3
  rwa [List.take_length] at this
structure TabAt (N : Addr → Prop) (C : Addr) (H : Hp) (t : Addr) (ns : List Str) (R : Df.Tab Str) : Prop where
  ex : ∃ (dx an ar asp : Addr) (rs : List V) (shown : List Str) (sp : List (Key × V)), (N t ∧ N an ∧ N ar ∧ N asp) ∧ H t = some (.ins C dx (flds an ar asp)) ∧ H an = some (.tup (shown.map V.str)) ∧ H ar = some (.lst rs) ∧ Paired (RowIs N H ns R) rs ns ∧ H asp = some (.dK sp) ∧ Spots ns sp ∧ shown.length = ns.length ∧ (("" : Str) ∉ ns → shown = ns)
theorem TabAt.keep {N : Addr → Prop} {C : Addr} {H H' : Hp} {t : Addr} {ns : List Str} {R : Df.Tab Str} (s : ∀ a o, N a → H a = some o → H' a = some o) (h : TabAt N C H t ns R) : TabAt N C H' t ns R := by
  have ⟨dx, an, ar, asp, rs, shown, sp, hN, h1, h2, h3, h4, h5, h6⟩ := h.ex
  exact ⟨dx, an, ar, asp, rs, shown, sp, hN, s _ _ hN.1 h1, s _ _ hN.2.1 h2, s _ _ hN.2.2.1 h3, pmono (fun _ _ q => q.keep s) h4, s _ _ hN.2.2.2 h5, h6⟩
theorem TabAt.mono {N : Addr → Prop} {C : Addr} {H H' : Hp} {t : Addr} {ns : List Str} {R : Df.Tab Str} (s : Same H H') (h : TabAt N C H t ns R) : TabAt N C H' t ns R := h.keep fun a o _ => s a o
theorem ix_of {ns : List Str} {u : Str} (h : u ∈ ns) : ∃ i, ns[i]? = some u ∧ i < ns.length := by
  obtain ⟨i, hi, e⟩ := List.mem_iff_getElem.mp h
  exact ⟨i, by rw [List.getElem?_eq_getElem hi, e], hi⟩
def spBlank (C : Addr) : Sp := fun vs H Q _ => ∃ (N : Addr → Prop) (a : Addr) (nms ns : List Str), vs = [.ref a] ∧ (∀ p, H p = none → N p) ∧ (H a = some (.lst (nms.map V.str)) ∨ (H a = some (.tup (nms.map V.str)) ∧ N a)) ∧ Lab ns (("0" : Str) :: nms) ∧ nms.length ≤ 900 ∧
  ∀ H' t, Same H H' → TabAt N C H' t ns Df.blankR → Q (.ref t) H'
section
variable {P : Program} {w : World} {K : PySem.W.Frag} {mg : Str → Option Value} {base : Heap} {f C : Addr} {fd : FuncData} {k : Nat}
theorem sc_blank : FnScope ["names", "told", "many", "v", "u"] ["names"] (defScope s_blank) := ⟨rfl, rfl, rfl, by decide +kernel, rfl, by decide +kernel, by decide +kernel⟩
theorem ok_blank (F : FnP K "blank" s_blank [] f fd) (G : Facts mg) (M_Table : Mak P w K mg base 1 "Table" C (spTable C) [.non]) : FnOk P w K mg base CX0 3 f fd ["names"] (spBlank C) := by
  refine F.ok sc_blank (fun vs H Q E h => ?_) (fun cdv A outer s H vs Q E hr h => ?_)
  · obtain ⟨N, a, nms, ns, rfl, _⟩ := h
    rfl
  · obtain ⟨N, a, nms, ns, rfl, hN, ha, lab, hlen, hk⟩ := h
    have hnd := lab.nd
    have hu := hu_of hr
    refine ⟨_, PSs.nox (pss_cons (ps_set (i := 1) sc_blank.nd rfl (.inl rfl) (pe_op kCatT (pe_tup (pa_cons pe_str pa_nil)) (pe_callTy kTuple (by rfl) G.tuple_ (by decide +kernel) (pa_cons (pv 0) pa_nil))))
      (pss_cons (ps_set (i := 2) sc_blank.nd rfl (.inr rfl) (pe_callB (kLen K) (by rfl) G.len_ PySem.boot_len (pa_cons (pv 1) pa_nil)))
      (pss_one (ps_ret (pe_mk M_Table hr (by decide) (by rfl) (pa_cons (pv 1) (pa_cons (pe_lc (own := [("u", 4)]) (g := gName 4) (tt := tYes) rfl sc_blank.nd  (pi_range1 (by rfl) G.range_ (pa_cons (pv 2) pa_nil)) (blkOk_by (by kernel_rfl)) (fun _ _ _ _ _ => (pg_name (i := 4) sc_blank.nd rfl (by first | exact .inl rfl | exact .inr rfl))) (fun _ _ _ _ _ => pts_nil) (fun _ _ _ _ _ => (pe_lc (own := [("v", 3)]) (g := gName 3) (tt := tYes) rfl sc_blank.nd  (pi_range1 (by rfl) G.range_ (pa_cons (pv 2) pa_nil)) (blkOk_by (by kernel_rfl)) (fun _ _ _ _ _ => (pg_name (i := 3) sc_blank.nd rfl (by first | exact .inl rfl | exact .inr rfl))) (fun _ _ _ _ _ => pts_nil) (fun _ _ _ _ _ => (pe_ifExp (pt_cmpR op_eq (pv 4) (pv 3) (nomark _)) pe_int (pe_gi (by rfl) G.FAR)))))) pa_nil))))))), ?_⟩
    -- told = ("0",) + tuple(names)
    refine ⟨by show 1 ≤ sizeLine; decide, fun p np => ?_⟩
    have s1 := same_upd (o := .tup [.str "0"]) np
    refine ⟨_, rfl, a, nms.map V.str, rfl, ha.elim (fun h => .inl (s1 _ _ h)) (fun h => .inr (s1 _ _ h.1)), fun H2 q s2 nq hq => ?_⟩
    refine ⟨p, q, [.str "0"], nms.map V.str, rfl, rfl, s2 _ _ upd_same, hq, szl (by simp; omega), fun H3 an s3 nan han => ?_⟩
    have s13 : Same H H3 := s1.trans (s2.trans s3)
    have Nan : N an := by
      have nap : ∀ b o, H b = some o → (upd H p (.tup [.str "0"])) b = some o := s1
      have Nq : N q := nq.elim (fun e => hN _ (s1.free e)) fun e => by
        rw [e]
        rcases ha with h | h
        · have := s2 _ _ (s1 _ _ h)
          rw [← e, hq] at this
          cases this
        · exact h.2
      rcases nan with e | e | e
      · exact hN _ ((s1.trans s2).free e)
      · rw [e]; exact hN _ np
      · rw [e]; exact Nq
    have han : H3 an = some (.tup ((("0" : Str) :: nms).map V.str)) := han
    have hl : ns.length ≤ 901 := by rw [← lab.len]; simp; omega
    -- many = len(told)
    refine ⟨_, rfl, an, _, rfl, .inr (sqt han), ?_⟩
    rw [List.length_map, lab.len]
    -- the rows
    refine ⟨_, rfl, _, rfl, (ns.length : Int), rfl, by omega, by omega, fun D hD => ?_⟩
    refine lc_it (walk_range (lo := 0) (n := ((ns.length : Int)).toNat)) (fun i H' => ∃ rs, Same H3 H' ∧ H' D = some (.lst rs) ∧ Paired (fun v u => v ≠ V.ref D ∧ RowIs N H' ns Df.blankR v u) rs (ns.take i)) ⟨[], same_upd hD, upd_same, .nil⟩ (fun _ _ _ _ => True.intro) ?_ ?_
    · rintro i x H4 H' hi ⟨rs, s4, hd, hp⟩ ⟨rfl, rfl⟩
      have hil : i < ns.length := by omega
      refine ⟨rfl, ?_⟩
      refine ⟨_, rfl, (ns.length : Int), rfl, by omega, by omega, fun D2 hD2 => ?_⟩
      have nDD : D ≠ D2 := ne_of_none hd hD2
      refine lc_it (walk_range (lo := 0) (n := ((ns.length : Int)).toNat)) (fun k H'' => Same H' H'' ∧ H'' D2 = some (.lst ((ns.take k).map fun v => V.int (Df.blankR ns[i] v)))) ⟨same_upd hD2, upd_same⟩ (fun _ _ _ _ => True.intro) ?_ ?_
      · rintro k x H5 H'' hk2 ⟨s5, hd2⟩ ⟨rfl, rfl⟩
        have hkl : k < ns.length := by omega
        have hlen2 : ((ns.take k).map fun v => V.int (Df.blankR ns[i] v)).length < sizeLine := by
          rw [List.length_map, List.length_take]
          exact szlt (by omega)
        have htk : (ns.take (k + 1)).map (fun v => V.int (Df.blankR ns[i] v)) = (ns.take k).map (fun v => V.int (Df.blankR ns[i] v)) ++ [V.int (Df.blankR ns[i] ns[k])] := by
          rw [List.take_add_one, List.getElem?_eq_getElem hkl, List.map_append]
          rfl
        refine ⟨rfl, _, rfl, _, rfl, rfl, _, rfl, ?_⟩
        by_cases hik : i = k
        · subst hik
          rw [decide_eq_true rfl]
          refine iteT ⟨_, hd2, hlen2, same_mut s5 hD2, ?_⟩
          rw [upd_same, htk]
          have e : Df.blankR ns[i] ns[i] = 0 := if_pos rfl
          rw [e]
        · have hne : ¬ V.int ((0 : Int) + (i : Int)) = V.int ((0 : Int) + (k : Int)) := fun z => hik (by injection z with z; omega)
          rw [decide_eq_false hne]
          refine iteF ⟨_, hd2, hlen2, same_mut s5 hD2, ?_⟩
          rw [upd_same, htk]
          have e : Df.blankR ns[i] ns[k] = Df.FARI := if_neg fun z => hik ((List.getElem_inj hnd).mp z)
          rw [e]
          rfl
      · rintro H5 ⟨s5, hd2⟩
        refine ⟨rs, s5 _ _ hd, ?_, rs ++ [.ref D2], same_mut (s4.trans s5) hD, upd_same, ?_⟩
        · rw [plen hp, List.length_take]
          exact szlt (by omega)
        · rw [List.take_add_one, List.getElem?_eq_getElem hil]
          have sm : ∀ v u, (v ≠ V.ref D ∧ RowIs N H' ns Df.blankR v u) → v ≠ V.ref D ∧ RowIs N (upd H5 D (.lst (rs ++ [.ref D2]))) ns Df.blankR v u := fun v u ⟨e0, r, e1, eN, e2⟩ =>
            ⟨e0, r, e1, eN, by rw [upd_ne (fun z => e0 (by rw [e1, z]))]; exact s5 _ _ e2⟩
          refine (pmono sm hp).snoc ⟨fun z => nDD (by injection z with z; exact z.symm), D2, rfl, hN _ ((s13.trans s4).free hD2), ?_⟩
          rw [upd_ne nDD.symm, hd2]
          rw [Int.toNat_natCast, List.take_length]
          rfl
    · rintro H4 ⟨rs, s4, hd, hp⟩
      rw [Int.toNat_natCast, List.take_length] at hp
      intro x dx nx ndx nex
      have s5 : Same H4 (upd (upd H4 dx (.own x)) x (.ins C dx [])) := fun b o e => by rw [upd_ne (ne_of_none e nx), upd_ne (ne_of_none e ndx)]; exact e
      refine ⟨x, dx, an, D, ("0" : Str) :: nms, .non, rfl, upd_same, s5 _ _ (s4 _ _ han), by rw [lab.len]; omega, .inl ⟨rfl, fun d H' nd hd' hx ho => ⟨rfl, ?_⟩⟩⟩
      have s6 : Same H4 H' := fun b o e => ho b o (s5 b o e) (ne_of_none e nx)
      exact hk H' x (s13.trans (s4.trans s6)) ⟨dx, an, D, d, rs, ("0" : Str) :: nms, _, ⟨hN _ ((s13.trans s4).free nx), Nan, hN _ (s13.free hD), hN _ (((s13.trans s4).trans s5).free nd)⟩, hx, s6 _ _ (s4 _ _ han), s6 _ _ hd, pmono (fun _ _ q => RowIs.mono s6 q.2) hp, hd', lab.spots, lab.len, lab.same⟩
end
end K1

namespace K1
open PySem PySem.Spec PyProof.Rows L2 Ls
theorem dget {H : Hp} {a : Addr} {kvs : List (Key × V)} {n : Str} {v : V} (h : H a = some (.dK kvs)) (e : valV kvs (Sum.inr n : Key) = some v) : DGet H a (.str n) (some v) := by
  have := DGet.k (k := Sum.inr n) h
  rw [e] at this
  exact this
theorem row_at {ns : List Str} {R : Df.Tab Str} {u v : Str} {j : Nat} (h : ns[j]? = some v) : (rowV ns R u)[j]? = some (V.int (R u v)) := by
  unfold rowV
  rw [List.getElem?_map, h]
  rfl
theorem rowV_len (ns : List Str) (R : Df.Tab Str) (u : Str) : (rowV ns R u).length = ns.length := List.length_map _
def spMore (C : Addr) : Sp := fun vs H Q _ => ∃ (N : Addr → Prop) (t : Addr) (l r : Str) (c : Int) (ns : List Str) (R : Df.Tab Str), vs = [.ref t, .str l, .str r, .int c] ∧ (∀ p, H p = none → N p) ∧ TabAt N C H t ns R ∧ l ∈ ns ∧ r ∈ ns ∧ l ≠ "" ∧ r ≠ "" ∧ ns.Nodup ∧ ns.length ≤ 1000 ∧
  (∀ R', Df.moreR R l r c = some R' → ∀ H' t', Same H H' → TabAt N C H' t' ns R' → Q (.ref t') H') ∧ (Df.moreR R l r c = none → Q .non H)
section
variable {P : Program} {w : World} {K : PySem.W.Frag} {mg : Str → Option Value} {base : Heap} {f C : Addr} {fd : FuncData} {k : Nat}
theorem sc_more : FnScope ["table", "left", "right", "limit", "i", "j", "rows", "ending", "c", "b", "row"] ["table", "left", "right", "limit"] (defScope s_more) := ⟨rfl, rfl, rfl, by decide +kernel, rfl, by decide +kernel, by decide +kernel⟩
theorem ok_more (F : FnP K "more" s_more [] f fd) (G : Facts mg) (T : TCls K C) (M_Table : Mak P w K mg base 1 "Table" C (spTable C) []) : FnOk P w K mg base CX0 3 f fd ["table", "left", "right", "limit"] (spMore C) := by
  refine F.ok sc_more (fun vs H Q E h => ?_) (fun cdv A outer s H vs Q E hr h => ?_)
  · obtain ⟨N, t, l, r, c, ns, R, rfl, _⟩ := h
    rfl
  · obtain ⟨N, t, l, r, c, ns, R, rfl, hN, ⟨dx, an, ar, asp, rs, shown, sp, hNs, ht, han, har, hrs, hsp, hspo, hsl, hss⟩, hl, hr', hl0, hr0, hnd, hlen, hk, hkn⟩ := h
    have hu := hu_of hr
    obtain ⟨i, hi, hil⟩ := ix_of hl
    obtain ⟨j, hj, hjl⟩ := ix_of hr'
    obtain ⟨vi, hvi, ri, rfl, _, hri⟩ := pget hrs hi
    obtain ⟨vj, hvj, rj, rfl, _, hrj⟩ := pget hrs hj
    refine ⟨_, PSs.nox (pss_cons (ps_set (i := 4) sc_more.nd rfl (.inr rfl) (pe_dget hu (kfld K (pv 0)) (pv 1) (fun _ _ => rfl)))
      (pss_cons (ps_set (i := 5) sc_more.nd rfl (.inl rfl) (pe_dget hu (kfld K (pv 0)) (pv 2) (fun _ _ => rfl)))
      (pss_cons (ps_set (i := 6) sc_more.nd rfl (.inl rfl) (kfld K (pv 0)))
      (pss_cons (ps_if (pt_cmpR op_le (pe_ix (kIxL K) (pe_ix (kIxL K) (pv 6) (pv 4) (fun _ _ => rfl)) (pv 5) (fun _ _ => rfl)) (pv 3) (nomark _)) (pss_one (ps_ret (pv 0))) pss_nil)
      (pss_cons (ps_if (pt_cmpR op_lt (pe_op op_add (pe_ix (kIxL K) (pe_ix (kIxL K) (pv 6) (pv 5) (fun _ _ => rfl)) (pv 4) (fun _ _ => rfl)) (pv 3)) pe_int (nomark _)) (pss_one (ps_ret pe_non)) pss_nil)
      (pss_cons (ps_set (i := 7) sc_more.nd rfl (.inr rfl) (pe_lc (own := [("c", 8)]) (g := gName 8) (tt := tYes) rfl sc_more.nd  (kpi_list K (pe_ix (kIxL K) (pv 6) (pv 5) (fun _ _ => rfl))) (blkOk_by (by kernel_rfl)) (fun _ _ _ _ _ => (pg_name (i := 8) sc_more.nd rfl (by first | exact .inl rfl | exact .inr rfl))) (fun _ _ _ _ _ => pts_nil) (fun _ _ _ _ _ => (pe_op op_add (pv 3) (pv 8)))))
      (pss_one (ps_ret (pe_mk M_Table hr (by decide) (by rfl) (pa_cons (kfld K (pv 0)) (pa_cons (pe_lc (own := [("row", 10)]) (g := gName 10) (tt := tYes) rfl sc_more.nd  (kpi_list K (pv 6)) (blkOk_by (by kernel_rfl)) (fun _ _ _ _ _ => (pg_name (i := 10) sc_more.nd rfl (by first | exact .inl rfl | exact .inr rfl))) (fun _ _ _ _ _ => pts_nil) (fun _ _ _ _ _ => (pe_ifExp (pt_cmpR op_gt (pe_ix (kIxL K) (pv 10) (pv 4) (fun _ _ => rfl)) (pe_gi (by rfl) G.HALF) (nomark _)) (pv 10) (pe_lc (own := [("b", 9), ("c", 8)]) (g := gTup K 2 (gCons (gName 9) (gCons (gName 8) (gNil)))) (tt := tYes) rfl sc_more.nd  (kpi_zip K (by rfl) G.zip_ (pa_cons (pv 10) (pa_cons (pv 7) pa_nil))) (blkOk_by (by kernel_rfl)) (fun _ _ _ _ _ => (kpg_tup K rfl (pgs_cons (pg_name (i := 9) sc_more.nd rfl (by first | exact .inl rfl | exact .inr rfl)) (pgs_cons (pg_name (i := 8) sc_more.nd rfl (by first | exact .inl rfl | exact .inr rfl)) pgs_nil)))) (fun _ _ _ _ _ => pts_nil) (fun _ _ _ _ _ => (pe_ifExp (pt_cmpR op_le (pv 9) (pe_op op_add (pe_ix (kIxL K) (pv 10) (pv 4) (fun _ _ => rfl)) (pv 8)) (nomark _)) (pv 9) (pe_op op_add (pe_ix (kIxL K) (pv 10) (pv 4) (fun _ _ => rfl)) (pv 8)))))))) (pa_cons (kfld K (pv 0)) pa_nil)))))))))))), ?_⟩
    -- i, j, rows
    refine ⟨_, rfl, t, C, dx, _, _, rfl, ht, T.cl, T.nS, flds_spots _ _ _, _, rfl, asp, _, rfl, dget hsp (hspo _ _ hi hl0), ?_⟩
    refine ⟨_, rfl, t, C, dx, _, _, rfl, ht, T.cl, T.nS, flds_spots _ _ _, _, rfl, asp, _, rfl, dget hsp (hspo _ _ hj hr0), ?_⟩
    refine ⟨_, rfl, t, C, dx, _, _, rfl, ht, T.cl, T.nR, flds_rows _ _ _, ?_⟩
    -- rows[i][j] <= limit
    refine ⟨_, rfl, _, rfl, ar, rs, _, _, rfl, rfl, sq har, atI_nat hvi, _, rfl, ri, _, _, _, rfl, rfl, sq hri, atI_nat (row_at hj), _, rfl, _, _, rfl, rfl, _, rfl, ?_⟩
    by_cases h1 : R l r ≤ c
    · rw [decide_eq_true h1]
      refine iteT ⟨_, rfl, ?_⟩
      exact hk R (by unfold Df.moreR; rw [if_pos h1]) H t (Same.refl H) ⟨dx, an, ar, asp, rs, shown, sp, hNs, ht, han, har, hrs, hsp, hspo, hsl, hss⟩
    rw [decide_eq_false h1]
    refine iteF ?_
    -- rows[j][i] + limit < 0
    refine ⟨_, rfl, _, rfl, ar, rs, _, _, rfl, rfl, sq har, atI_nat hvj, _, rfl, rj, _, _, _, rfl, rfl, sq hrj, atI_nat (row_at hi), _, rfl, _, _, rfl, rfl, _, _, rfl, rfl, _, rfl, ?_⟩
    by_cases h2 : R r l + c < 0
    · rw [decide_eq_true h2]
      refine iteT ?_
      exact hkn (by unfold Df.moreR; rw [if_neg h1, if_pos h2])
    rw [decide_eq_false h2]
    refine iteF ?_
    have hm : Df.moreR R l r c = some (Df.thru R l r c) := by unfold Df.moreR; rw [if_neg h1, if_neg h2]
    -- ending
    refine ⟨_, rfl, _, rfl, ar, rs, _, _, rfl, rfl, sq har, atI_nat hvj, rj, rfl, ⟨_, sq hrj⟩, fun D0 hD0 => ?_⟩
    refine lc_it (walk_list (K := K) (a := rj) (xs := rowV ns R r)) (fun m H' => Same H H' ∧ H' D0 = some (.lst ((ns.take m).map fun v => V.int (c + R r v)))) ⟨same_upd hD0, upd_same⟩ (fun m H' _ ⟨s1, _⟩ => sq (s1 _ _ hrj)) ?_ ?_
    · rintro m x H1 H' hmi ⟨s1, d1⟩ ⟨rfl, ex⟩
      rw [rowV_len] at hmi
      rw [row_at (List.getElem?_eq_getElem hmi)] at ex
      cases ex
      refine ⟨rfl, _, rfl, _, rfl, _, _, rfl, rfl, _, d1, ?_, same_mut s1 hD0, ?_⟩
      · rw [List.length_map, List.length_take]
        exact szlt (by omega)
      · rw [upd_same, List.take_add_one, List.getElem?_eq_getElem hmi, List.map_append]
        rfl
    rintro H1 ⟨s1, d1⟩
    rw [rowV_len, List.take_length] at d1
    have hend : ∀ (m : Nat) v, ns[m]? = some v → (ns.map fun v => V.int (c + R r v))[m]? = some (V.int (c + R r v)) := fun m v e => by rw [List.getElem?_map, e]; rfl
    -- the new rows
    refine ⟨_, rfl, t, C, dx, _, _, rfl, s1 _ _ ht, T.cl, T.nN, flds_names _ _ _, ?_⟩
    refine ⟨_, rfl, ar, rfl, ⟨_, sq (s1 _ _ har)⟩, fun D hD => ?_⟩
    refine lc_it (walk_list (K := K) (a := ar) (xs := rs)) (fun m H' => ∃ out, Same H1 H' ∧ H' D = some (.lst out) ∧ Paired (fun v u => v ≠ V.ref D ∧ RowIs N H' ns (Df.thru R l r c) v u) out (ns.take m)) ⟨[], same_upd hD, upd_same, .nil⟩ (fun m H' _ ⟨_, s2, _⟩ => sq (s2 _ _ (s1 _ _ har))) ?_ ?_
    · rintro m x H2 H' hmi ⟨out, s2, d2, hp⟩ ⟨rfl, ex⟩
      rw [plen hrs] at hmi
      obtain ⟨vm, hvm, rm, rfl, hNrm, hrm⟩ := pget hrs (List.getElem?_eq_getElem hmi)
      rw [hvm] at ex
      cases ex
      have hrm2 := s2 _ _ (s1 _ _ hrm)
      have rmD : rm ≠ D := ne_of_none (s1 _ _ hrm) hD
      have hout : out.length < sizeLine := by
        rw [plen hp, List.length_take]
        exact szlt (by omega)
      have fin : ∀ H3 q, Same H' H3 → q ≠ D → N q → H3 q = some (.lst (rowV ns (Df.thru R l r c) ns[m])) → ∃ acc, H3 D = some (.lst acc) ∧ acc.length < sizeLine ∧ ∃ out, Same H1 (upd H3 D (.lst (acc ++ [V.ref q]))) ∧ (upd H3 D (.lst (acc ++ [V.ref q]))) D = some (.lst out) ∧
          Paired (fun v u => v ≠ V.ref D ∧ RowIs N (upd H3 D (.lst (acc ++ [V.ref q]))) ns (Df.thru R l r c) v u) out (ns.take (m + 1)) := fun H3 q s3 nq Nq hq => by
        refine ⟨out, s3 _ _ d2, hout, out ++ [.ref q], same_mut (s2.trans s3) hD, upd_same, ?_⟩
        rw [List.take_add_one, List.getElem?_eq_getElem hmi]
        have sm : ∀ v u, (v ≠ V.ref D ∧ RowIs N H' ns (Df.thru R l r c) v u) → v ≠ V.ref D ∧ RowIs N (upd H3 D (.lst (out ++ [.ref q]))) ns (Df.thru R l r c) v u := fun v u ⟨e0, r', e1, eN, e2⟩ =>
          ⟨e0, r', e1, eN, by rw [upd_ne (fun z => e0 (by rw [e1, z]))]; exact s3 _ _ e2⟩
        exact (pmono sm hp).snoc ⟨fun z => nq (by injection z), q, rfl, Nq, by rw [upd_ne nq]; exact hq⟩
      refine ⟨rfl, _, rfl, _, rfl, rm, _, _, _, rfl, rfl, sq hrm2, atI_nat (row_at hi), _, _, rfl, rfl, _, rfl, ?_⟩
      by_cases hinf : Df.HALFI < R ns[m] l
      · rw [show decide ((100000000000000000000000000000 : Int) < R ns[m] l) = true from decide_eq_true hinf]
        refine iteT ⟨_, rfl, ?_⟩
        refine fin _ rm (Same.refl _) rmD hNrm ?_
        rw [hrm2]
        congr 2
        exact List.map_congr_left fun v _ => by unfold Df.thru; rw [if_pos hinf]
      · rw [show decide ((100000000000000000000000000000 : Int) < R ns[m] l) = false from decide_eq_false hinf]
        refine iteF ?_
        -- the inner row
        have hd1 := s2 _ _ d1
        refine ⟨_, rfl, _, rfl, rm, D0, _, _, rfl, sq hrm2, sq hd1, fun D2 hD2 => ?_⟩
        have nDD : D ≠ D2 := ne_of_none d2 hD2
        refine lc_it (walk_zip (K := K) (a := rm) (b := D0) (xs := rowV ns R ns[m]) (ys := ns.map fun v => V.int (c + R r v)) (n := ns.length) (by rw [rowV_len, List.length_map, Nat.min_self]))
          (fun n H4 => Same H' H4 ∧ H4 D2 = some (.lst ((ns.take n).map fun v => V.int (Df.thru R l r c ns[m] v)))) ⟨same_upd hD2, upd_same⟩ (fun n H4 _ ⟨s4, _⟩ => ⟨sq (s4 _ _ hrm2), sq (s4 _ _ hd1)⟩) ?_ ?_
        · rintro n x H4 H'' hni ⟨s4, d4⟩ ⟨T', x1, x2, rfl, nT, rfl, e1, e2⟩
          have hn := List.getElem?_eq_getElem hni
          have e1 : (rowV ns R ns[m])[n]? = some x1 := e1
          have e2 : (ns.map fun v => V.int (c + R r v))[n]? = some x2 := e2
          rw [row_at hn] at e1
          rw [hend n _ hn] at e2
          cases e1; cases e2
          have nTD : D2 ≠ T' := ne_of_none d4 nT
          have s5 : Same H' (upd H4 T' (.tup [V.int (R ns[m] ns[n]), V.int (c + R r ns[n])])) := s4.trans (same_upd nT)
          have hlen2 : ((ns.take n).map fun v => V.int (Df.thru R l r c ns[m] v)).length < sizeLine := by
            rw [List.length_map, List.length_take]
            exact szlt (by omega)
          have htk : (ns.take (n + 1)).map (fun v => V.int (Df.thru R l r c ns[m] v)) = (ns.take n).map (fun v => V.int (Df.thru R l r c ns[m] v)) ++ [V.int (Df.thru R l r c ns[m] ns[n])] := by
            rw [List.take_add_one, hn, List.map_append]
            rfl
          refine ⟨T', _, rfl, sqt upd_same, rfl, _, _, rfl, _, _, rfl, rfl, rfl, ?_⟩
          refine ⟨_, rfl, _, rfl, _, rfl, rm, _, _, _, rfl, rfl, sq (s5 _ _ hrm2), atI_nat (row_at hi), _, rfl, _, _, rfl, rfl, _, _, rfl, rfl, _, rfl, ?_⟩
          by_cases hle : R ns[m] ns[n] ≤ R ns[m] l + (c + R r ns[n])
          · rw [decide_eq_true hle]
            refine iteT ⟨_, rfl, _, by rw [upd_ne nTD]; exact d4, hlen2, same_mut s5 hD2, ?_⟩
            rw [upd_same, htk]
            have e : Df.thru R l r c ns[m] ns[n] = R ns[m] ns[n] := by unfold Df.thru; rw [if_neg hinf, if_pos hle]
            rw [e]
          · rw [decide_eq_false hle]
            refine iteF ⟨_, rfl, _, rfl, rm, _, _, _, rfl, rfl, sq (s5 _ _ hrm2), atI_nat (row_at hi), _, rfl, _, _, rfl, rfl, _, by rw [upd_ne nTD]; exact d4, hlen2, same_mut s5 hD2, ?_⟩
            rw [upd_same, htk]
            have e : Df.thru R l r c ns[m] ns[n] = R ns[m] l + (c + R r ns[n]) := by unfold Df.thru; rw [if_neg hinf, if_neg hle]
            rw [e]
        · rintro H4 ⟨s4, d4⟩
          rw [List.take_length] at d4
          exact fin H4 D2 s4 nDD.symm (hN _ ((s1.trans s2).free hD2)) d4
    · rintro H2 ⟨out, s2, d2, hp⟩
      rw [plen hrs, List.take_length] at hp
      have s12 := s1.trans s2
      refine ⟨_, rfl, t, C, dx, _, _, rfl, s12 _ _ ht, T.cl, T.nS, flds_spots _ _ _, ?_⟩
      intro x dx' nx ndx nex
      have s5 : Same H2 (upd (upd H2 dx' (.own x)) x (.ins C dx' [])) := fun b o e => by rw [upd_ne (ne_of_none e nx), upd_ne (ne_of_none e ndx)]; exact e
      refine ⟨x, dx', an, D, shown, .ref asp, rfl, upd_same, s5 _ _ (s12 _ _ han), by omega, .inr ⟨asp, rfl, fun H' hx ho => ⟨rfl, ?_⟩⟩⟩
      have s6 : Same H2 H' := fun b o e => ho b o (s5 b o e) (ne_of_none e nx)
      exact hk _ hm H' x (s12.trans s6) ⟨dx', an, D, asp, out, shown, sp, ⟨hN _ (s12.free nx), hNs.2.1, hN _ (s1.free hD), hNs.2.2.2⟩, hx, s6 _ _ (s12 _ _ han), s6 _ _ d2, pmono (fun _ _ q => RowIs.mono s6 q.2) hp, s6 _ _ (s12 _ _ hsp), hspo, hsl, hss⟩
end
end K1

namespace K1
open PySem PySem.Spec PyProof.Rows L2 Ls
/-! ### systems on the heap -/
abbrev Df3 := Df.Row Str
def rowT (e : Df3) : List V := [.str e.1, .str e.2.1, .int e.2.2]
def RowT (H : Hp) : V → Df3 → Prop := fun v e => ∃ r, v = V.ref r ∧ H r = some (.tup (rowT e))
def SysAt (H : Hp) (a : Addr) (S : List Df3) : Prop := ∃ vs, H a = some (.lst vs) ∧ Paired (RowT H) vs S
theorem SysAt.mono {H H' : Hp} (s : Same H H') {a : Addr} {S : List Df3} (h : SysAt H a S) : SysAt H' a S :=
  have ⟨vs, h1, h2⟩ := h; ⟨vs, s _ _ h1, pmono (fun _ _ q => q.imp fun _ q => ⟨q.1, s _ _ q.2⟩) h2⟩
theorem addedR_stop {A B : List Df3} {R : Df.Tab Str} (h : Df.addedR R A = none) : Df.addedR R (A ++ B) = none := by rw [Df.addedR_append, h]; rfl
theorem take_snoc {α : Type} {S : List α} {i : Nat} (h : i < S.length) : S.take (i + 1) = S.take i ++ [S[i]] := by
  rw [List.take_add_one, List.getElem?_eq_getElem h]; rfl
def spAdded (C : Addr) : Sp := fun vs H Q _ => ∃ (N : Addr → Prop) (t a : Addr) (ns : List Str) (R : Df.Tab Str) (S : List Df3), vs = [.ref t, .ref a] ∧ (∀ p, H p = none → N p) ∧ TabAt N C H t ns R ∧ SysAt H a S ∧ (∀ e ∈ S, e.1 ∈ ns ∧ e.2.1 ∈ ns) ∧ (∀ e ∈ S, e.1 ≠ "" ∧ e.2.1 ≠ "") ∧ ns.Nodup ∧ ns.length ≤ 1000 ∧
  (∀ R', Df.addedR R S = some R' → ∀ H' t', Same H H' → TabAt N C H' t' ns R' → Q (.ref t') H') ∧ (Df.addedR R S = none → ∀ H', Same H H' → Q .non H')
def spTableOf (C : Addr) : Sp := fun vs H Q _ => ∃ (N : Addr → Prop) (b a : Addr) (nms ns : List Str) (S : List Df3), vs = [.ref b, .ref a] ∧ (∀ p, H p = none → N p) ∧ (H b = some (.lst (nms.map V.str)) ∨ (H b = some (.tup (nms.map V.str)) ∧ N b)) ∧ Lab ns (("0" : Str) :: nms) ∧ nms.length ≤ 900 ∧ SysAt H a S ∧ (∀ e ∈ S, e.1 ∈ ns ∧ e.2.1 ∈ ns) ∧ (∀ e ∈ S, e.1 ≠ "" ∧ e.2.1 ≠ "") ∧
  (∀ R', Df.addedR Df.blankR S = some R' → ∀ H' t', Same H H' → TabAt N C H' t' ns R' → Q (.ref t') H') ∧ (Df.addedR Df.blankR S = none → ∀ H', Same H H' → Q .non H')
def spUpper (C : Addr) : Sp := fun vs H Q _ => ∃ (N : Addr → Prop) (t : Addr) (l r : Str) (ns : List Str) (R : Df.Tab Str), vs = [.ref t, .str l, .str r] ∧ TabAt N C H t ns R ∧ l ∈ ns ∧ r ∈ ns ∧ l ≠ "" ∧ r ≠ "" ∧ ns.Nodup ∧ Q (if Df.HALFI < R l r then .non else .int (R l r)) H
def spSetTo (C : Addr) : Sp := fun vs H Q _ => ∃ (N : Addr → Prop) (t : Addr) (n : Str) (x : Int) (ns : List Str) (R : Df.Tab Str), vs = [.ref t, .str n, .int x] ∧ (∀ p, H p = none → N p) ∧ TabAt N C H t ns R ∧ n ∈ ns ∧ ("0" : Str) ∈ ns ∧ n ≠ "" ∧ ns.Nodup ∧ ns.length ≤ 1000 ∧
  (∀ R', Df.setR R "0" n x = some R' → ∀ H' t', Same H H' → TabAt N C H' t' ns R' → Q (.ref t') H') ∧ (Df.setR R "0" n x = none → ∀ H', Same H H' → Q .non H')
section
variable {P : Program} {w : World} {K : PySem.W.Frag} {mg : Str → Option Value} {base : Heap} {f C : Addr} {fd : FuncData} {k : Nat}
theorem sc_added : FnScope ["table", "system", "left", "right", "limit"] ["table", "system"] (defScope s_added) := ⟨rfl, rfl, rfl, by decide +kernel, rfl, by decide +kernel, by decide +kernel⟩
theorem ok_added (F : FnP K "added" s_added [] f fd) (G : Facts mg) (C_more : Cal P w K mg base 3 "more" (spMore C) []) : FnOk P w K mg base CX0 4 f fd ["table", "system"] (spAdded C) := by
  refine F.ok sc_added (fun vs H Q E h => ?_) (fun cdv A outer s H vs Q E hr h => ?_)
  · obtain ⟨N, t, a, ns, R, S, rfl, _⟩ := h
    rfl
  · obtain ⟨N, t, a, ns, R, S, rfl, hN, ht, ⟨vs, ha, hvs⟩, hin, hne, hnd, hlen, hk, hkn⟩ := h
    have hu := hu_of hr
    refine ⟨_, PSs.nox (pss_cons (ps_for PassesOwn.never rfl (kpi_list K (pv 1)) (kpg_tup K rfl (pgs_cons (pg_name (i := 2) sc_added.nd rfl (by first | exact .inl rfl | exact .inr rfl)) (pgs_cons (pg_name (i := 3) sc_added.nd rfl (by first | exact .inl rfl | exact .inr rfl)) (pgs_cons (pg_name (i := 4) sc_added.nd rfl (by first | exact .inl rfl | exact .inr rfl)) pgs_nil))))
        (pss_cons (ps_if (pt_cmpR op_isN (pv 0) pe_non (nomark _)) (pss_one (ps_ret pe_non)) pss_nil)
        (pss_one (ps_set (i := 0) sc_added.nd rfl (.inl rfl) (pe_c C_more hr (by decide) (by rfl) (pa_cons (pv 0) (pa_cons (pv 2) (pa_cons (pv 3) (pa_cons (pv 4) pa_nil)))))))))
      (pss_one (ps_ret (pv 0)))), ?_⟩
    refine ⟨_, rfl, a, rfl, ⟨_, sq ha⟩, ?_⟩
    refine for_it (walk_list (K := K) (a := a) (xs := vs)) (fun i σ H' => ∃ v0 x2 x3 x4, σ = [some v0, some (.ref a), x2, x3, x4] ∧ Same H H' ∧ ((∃ Ri t', Df.addedR R (S.take i) = some Ri ∧ v0 = .ref t' ∧ TabAt N C H' t' ns Ri) ∨ (Df.addedR R (S.take i) = none ∧ v0 = .non)))
      ⟨.ref t, none, none, none, rfl, Same.refl H, .inl ⟨R, t, rfl, rfl, ht⟩⟩ (fun i σ H' _ ⟨_, _, _, _, _, s1, _⟩ => sq (s1 _ _ ha)) ?_ ?_
    · rintro i x σ H1 H' hi ⟨v0, x2, x3, x4, rfl, s1, hv⟩ ⟨rfl, ex⟩
      rw [plen hvs] at hi
      obtain ⟨v, hv', r, rfl, hrow⟩ := pget hvs (List.getElem?_eq_getElem hi)
      rw [hv'] at ex
      cases ex
      have hS : S.take (i + 1) = S.take i ++ [S[i]] := take_snoc hi
      refine ⟨r, _, rfl, sqt (s1 _ _ hrow), rfl, _, _, rfl, _, _, rfl, _, _, rfl, rfl, ?_⟩
      rcases hv with ⟨Ri, t', e1, rfl, ht'⟩ | ⟨e1, rfl⟩
      · refine ⟨_, rfl, rfl, _, rfl, ?_⟩
        rw [decide_eq_false (show ¬ V.ref t' = V.non from fun z => by cases z)]
        refine iteF ?_
        have hm := hin _ (List.getElem_mem hi)
        have hm0 := hne _ (List.getElem_mem hi)
        refine ⟨_, rfl, _, rfl, _, rfl, _, rfl, N, t', _, _, _, ns, Ri, rfl, fun p hp => hN p (s1.free hp), ht', hm.1, hm.2, hm0.1, hm0.2, hnd, hlen, fun R' e2 H2 t2 s2 ht2 => ?_, fun e2 => ?_⟩
        · refine ⟨.ref t2, _, _, _, rfl, s1.trans s2, .inl ⟨R', t2, ?_, rfl, ht2⟩⟩
          rw [hS, Df.addedR_append, e1, ← e2]
          exact Df.addedR_one Ri S[i]
        · refine ⟨.non, _, _, _, rfl, s1, .inr ⟨?_, rfl⟩⟩
          rw [hS, Df.addedR_append, e1, ← e2]
          exact Df.addedR_one Ri S[i]
      · refine ⟨_, rfl, rfl, _, rfl, iteT ?_⟩
        refine hkn ?_ _ s1
        have := addedR_stop (B := S.drop i) e1
        rwa [List.take_append_drop] at this
    · rintro σ H1 ⟨v0, x2, x3, x4, rfl, s1, hv⟩
      rw [plen hvs, List.take_length] at hv
      refine ⟨_, rfl, ?_⟩
      rcases hv with ⟨Ri, t', e1, rfl, ht'⟩ | ⟨e1, rfl⟩
      · exact hk Ri e1 H1 t' s1 ht'
      · exact hkn e1 H1 s1
theorem sc_table_of : FnScope ["names", "system"] ["names", "system"] (defScope s_table_of) := ⟨rfl, rfl, rfl, by decide +kernel, rfl, by decide +kernel, by decide +kernel⟩
theorem ok_table_of (F : FnP K "table_of" s_table_of [] f fd) (G : Facts mg) (C_added : Cal P w K mg base 4 "added" (spAdded C) []) (C_blank : Cal P w K mg base 3 "blank" (spBlank C) []) : FnOk P w K mg base CX0 5 f fd ["names", "system"] (spTableOf C) := by
  refine F.ok sc_table_of (fun vs H Q E h => ?_) (fun cdv A outer s H vs Q E hr h => ?_)
  · obtain ⟨N, b, a, nms, ns, S, rfl, _⟩ := h
    rfl
  · obtain ⟨N, b, a, nms, ns, S, rfl, hN, hb, lab, hlen, ha, hin, hne, hk, hkn⟩ := h
    have hnl : ns.length ≤ 901 := by rw [← lab.len]; simp; omega
    have hu := hu_of hr
    refine ⟨_, PSs.nox (pss_one (ps_ret (pe_c C_added hr (by decide) (by rfl) (pa_cons (pe_c C_blank hr (by decide) (by rfl) (pa_cons (pv 0) pa_nil)) (pa_cons (pv 1) pa_nil))))), ?_⟩
    refine ⟨_, rfl, N, b, nms, ns, rfl, hN, hb, lab, hlen, fun H1 t1 s1 ht1 => ?_⟩
    refine ⟨_, rfl, N, t1, a, _, Df.blankR, S, rfl, fun p hp => hN p (s1.free hp), ht1, ha.mono s1, hin, hne, lab.nd, by omega, fun R' e H2 t2 s2 ht2 => ?_, fun e H2 s2 => ?_⟩
    · exact hk R' e H2 t2 (s1.trans s2) ht2
    · exact hkn e H2 (s1.trans s2)
theorem sc_upper : FnScope ["table", "left", "right", "limit"] ["table", "left", "right"] (defScope s_upper) := ⟨rfl, rfl, rfl, by decide +kernel, rfl, by decide +kernel, by decide +kernel⟩
theorem ok_upper (F : FnP K "upper" s_upper [] f fd) (G : Facts mg) (T : TCls K C) : FnOk P w K mg base CX0 1 f fd ["table", "left", "right"] (spUpper C) := by
  refine F.ok sc_upper (fun vs H Q E h => ?_) (fun cdv A outer s H vs Q E hr h => ?_)
  · obtain ⟨N, t, l, r, ns, R, rfl, _⟩ := h
    rfl
  · obtain ⟨N, t, l, r, ns, R, rfl, ⟨dx, an, ar, asp, rs, shown, sp, hNs, ht, han, har, hrs, hsp, hspo, hsl, hss⟩, hl, hr', hl0, hr0, hnd, hq⟩ := h
    have hu := hu_of hr
    obtain ⟨i, hi, hil⟩ := ix_of hl
    obtain ⟨j, hj, hjl⟩ := ix_of hr'
    obtain ⟨vi, hvi, ri, rfl, _, hri⟩ := pget hrs hi
    refine ⟨_, PSs.nox (pss_cons (ps_set (i := 3) sc_upper.nd rfl (.inl rfl) (pe_ix (kIxL K) (pe_ix (kIxL K) (kfld K (pv 0)) (pe_dget hu (kfld K (pv 0)) (pv 1) (fun _ _ => rfl)) (fun _ _ => rfl)) (pe_dget hu (kfld K (pv 0)) (pv 2) (fun _ _ => rfl)) (fun _ _ => rfl)))
      (pss_one (ps_ret (pe_ifExp (pt_cmpR op_gt (pv 3) (pe_gi (by rfl) G.HALF) (nomark _)) pe_non (pv 3))))), ?_⟩
    refine ⟨_, rfl, t, C, dx, _, _, rfl, ht, T.cl, T.nR, flds_rows _ _ _, _, rfl, t, C, dx, _, _, rfl, ht, T.cl, T.nS, flds_spots _ _ _, _, rfl, asp, _, rfl, dget hsp (hspo _ _ hi hl0), ar, rs, _, _, rfl, rfl, sq har, atI_nat hvi,
      _, rfl, t, C, dx, _, _, rfl, ht, T.cl, T.nS, flds_spots _ _ _, _, rfl, asp, _, rfl, dget hsp (hspo _ _ hj hr0), ri, _, _, _, rfl, rfl, sq hri, atI_nat (row_at hj), ?_⟩
    refine ⟨_, rfl, _, _, rfl, rfl, _, rfl, ?_⟩
    by_cases hinf : Df.HALFI < R l r
    · rw [show decide ((100000000000000000000000000000 : Int) < R l r) = true from decide_eq_true hinf]
      rw [if_pos hinf] at hq
      exact iteT hq
    · rw [show decide ((100000000000000000000000000000 : Int) < R l r) = false from decide_eq_false hinf]
      rw [if_neg hinf] at hq
      exact iteF ⟨_, rfl, hq⟩
theorem sc_set_to : FnScope ["table", "name", "worth"] ["table", "name", "worth"] (defScope s_set_to) := ⟨rfl, rfl, rfl, by decide +kernel, rfl, by decide +kernel, by decide +kernel⟩
theorem ok_set_to (F : FnP K "set_to" s_set_to [] f fd) (G : Facts mg) (C_more : Cal P w K mg base 3 "more" (spMore C) []) : FnOk P w K mg base CX0 4 f fd ["table", "name", "worth"] (spSetTo C) := by
  refine F.ok sc_set_to (fun vs H Q E h => ?_) (fun cdv A outer s H vs Q E hr h => ?_)
  · obtain ⟨N, t, n, x, ns, R, rfl, _⟩ := h
    rfl
  · obtain ⟨N, t, n, x, ns, R, rfl, hN, ht, hn, h0, hn0, hnd, hlen, hk, hkn⟩ := h
    have h00 : ("0" : Str) ≠ "" := by decide +kernel
    have hu := hu_of hr
    refine ⟨_, PSs.nox (pss_cons (ps_set (i := 0) sc_set_to.nd rfl (.inl rfl) (pe_c C_more hr (by decide) (by rfl) (pa_cons (pv 0) (pa_cons (pv 1) (pa_cons pe_str (pa_cons (pv 2) pa_nil))))))
      (pss_one (ps_ret (pe_ifExp (pt_cmpR op_isN (pv 0) pe_non (nomark _)) pe_non (pe_c C_more hr (by decide) (by rfl) (pa_cons (pv 0) (pa_cons pe_str (pa_cons (pv 1) (pa_cons (pe_op op_sub pe_int (pv 2)) pa_nil))))))))), ?_⟩
    refine ⟨_, rfl, _, rfl, _, rfl, N, t, _, _, _, ns, R, rfl, hN, ht, hn, h0, hn0, h00, hnd, hlen, fun R1 e1 H1 t1 s1 ht1 => ?_, fun e1 => ?_⟩
    · refine ⟨_, rfl, rfl, _, rfl, ?_⟩
      rw [decide_eq_false (show ¬ V.ref t1 = V.non from fun z => by cases z)]
      refine iteF ?_
      refine ⟨_, rfl, _, rfl, _, rfl, _, _, rfl, rfl, N, t1, _, _, _, ns, R1, rfl, fun p hp => hN p (s1.free hp), ht1, h0, hn, h00, hn0, hnd, hlen, fun R2 e2 H2 t2 s2 ht2 => ?_, fun e2 => ?_⟩
      · exact hk R2 (by unfold Df.setR; rw [e1]; exact e2) H2 t2 (s1.trans s2) ht2
      · exact hkn (by unfold Df.setR; rw [e1]; exact e2) H1 s1
    · refine ⟨_, rfl, rfl, _, rfl, iteT ?_⟩
      exact hkn (by unfold Df.setR; rw [e1]; rfl) H (Same.refl H)
end
end K1

namespace K1
open PySem PySem.Spec PyProof.Rows L2 Ls
/-! ### a point of a table -/
theorem TabAt.apart {N : Addr → Prop} {C : Addr} {H : Hp} {t : Addr} {ns : List Str} {R : Df.Tab Str} {d : Addr} (hd : H d = none) (h : TabAt N C H t ns R) : TabAt (· ≠ d) C H t ns R := by
  have ⟨dx, an, ar, asp, rs, shown, sp, hN, h1, h2, h3, h4, h5, h6⟩ := h.ex
  exact ⟨dx, an, ar, asp, rs, shown, sp, ⟨ne_of_none h1 hd, ne_of_none h2 hd, ne_of_none h3 hd, ne_of_none h5 hd⟩, h1, h2, h3, pmono (fun _ _ ⟨r, q1, q2, q3⟩ => ⟨r, q1, ne_of_none q3 hd, q3⟩) h4, h5, h6⟩
def x0 : Str → Int := fun _ => 0
def ptV (ks : List Str) (x : Str → Int) : List (Key × V) := tabV ks fun n => V.int (x n)
theorem ptV_put {ks : List Str} {x : Str → Int} {n : Str} {v : Int} (h : n ∉ ks) : putK (ptV ks x) (Sum.inr n : Key) (V.int v) = ptV (ks ++ [n]) (Df.put x n v) := by
  unfold ptV
  rw [putK_tab, show Df.ins ks n = ks ++ [n] from if_neg h]
  refine tabV_congr fun m _ => ?_
  unfold Df.put
  split <;> rfl
def spPoint (C : Addr) : Sp := fun vs H Q _ => ∃ (N : Addr → Prop) (t : Addr) (nms : List Str) (R R' : Df.Tab Str) (x' : Str → Int), vs = [.ref t] ∧ TabAt N C H t (("0" : Str) :: nms) R ∧ (("0" : Str) :: nms).Nodup ∧ ("" : Str) ∉ nms ∧ nms.length ≤ 900 ∧
  Df.pts ("0" : Str) R x0 nms = some (R', x') ∧ ∀ H' d, Same H H' → H d = none → H' d = some (.dK (ptV nms x')) → Q (.ref d) H'
theorem cut_tail (a : V) (xs : List V) : cutV (a :: xs) (some 1) none = xs := by
  unfold cutV
  have h1 : HT.sIx (a :: xs).length 0 (some 1) = 1 := by
    have := HT.sIx_nat (a :: xs).length 0 1
    rw [List.length_cons] at this ⊢
    rw [show (some (1 : Int)) = some ((1 : Nat) : Int) from rfl, this]
    omega
  rw [h1, HT.sIx_none]
  simp
section
variable {P : Program} {w : World} {K : PySem.W.Frag} {mg : Str → Option Value} {base : Heap} {f C : Addr} {fd : FuncData} {k : Nat}
theorem sc_point_of : FnScope ["table", "found", "name", "low", "high"] ["table"] (defScope s_point_of) := ⟨rfl, rfl, rfl, by decide +kernel, rfl, by decide +kernel, by decide +kernel⟩
theorem ok_point_of (F : FnP K "point_of" s_point_of [] f fd) (G : Facts mg) (T : TCls K C) (C_upper : Cal P w K mg base 1 "upper" (spUpper C) []) (C_set_to : Cal P w K mg base 4 "set_to" (spSetTo C) []) : FnOk P w K mg base CX0 5 f fd ["table"] (spPoint C) := by
  refine F.ok sc_point_of (fun vs H Q E h => ?_) (fun cdv A outer s H vs Q E hr h => ?_)
  · obtain ⟨N, t, nms, R, R', x', rfl, _⟩ := h
    rfl
  · obtain ⟨N, t, nms, R, R', x', rfl, ht, hnd, hn0, hlen, hpts, hk⟩ := h
    have h00 : ("0" : Str) ≠ "" := by decide +kernel
    have hn1 : ("" : Str) ∉ ("0" : Str) :: nms := fun z => (List.mem_cons.mp z).elim (fun z => h00 z.symm) hn0
    have hu := hu_of hr
    have hnn := List.nodup_cons.mp hnd
    refine ⟨_, PSs.nox (pss_cons (ps_set (i := 1) sc_point_of.nd rfl (.inl rfl) pe_dnewK)
      (pss_cons (ps_for PassesOwn.never rfl (kpi_tup K (pe_slice kSlT (kfld K (pv 0)) (po_some pe_int) po_none)) (pg_name (i := 2) sc_point_of.nd rfl (by first | exact .inl rfl | exact .inr rfl))
        (pss_cons (ps_set (i := 3) sc_point_of.nd rfl (.inl rfl) (pe_c C_upper hr (by decide) (by rfl) (pa_cons (pv 0) (pa_cons pe_str (pa_cons (pv 2) pa_nil)))))
        (pss_cons (ps_set (i := 4) sc_point_of.nd rfl (.inl rfl) (pe_c C_upper hr (by decide) (by rfl) (pa_cons (pv 0) (pa_cons (pv 2) (pa_cons pe_str pa_nil)))))
        (pss_cons (ps_if (pt_cmpR op_notN (pv 3) pe_non (nomark _)) (pss_one (ps_dput hu (pv 1) (pv 2) (pe_op op_sub pe_int (pv 3)) rfl)) (pss_one (ps_if (pt_cmpR op_notN (pv 4) pe_non (nomark _)) (pss_one (ps_dput hu (pv 1) (pv 2) (pv 4) rfl)) (pss_one (ps_dput hu (pv 1) (pv 2) pe_int rfl)))))
        (pss_one (ps_set (i := 0) sc_point_of.nd rfl (.inl rfl) (pe_c C_set_to hr (by decide) (by rfl) (pa_cons (pv 0) (pa_cons (pv 2) (pa_cons (pe_dget hu (pv 1) (pv 2) (fun _ _ => rfl)) pa_nil))))))))))
      (pss_one (ps_ret (pv 1))))), ?_⟩
    intro d hd
    have s0 : Same H (upd H d (.dK [])) := same_upd hd
    have hta := (ht.apart hd).mono s0
    obtain ⟨dx, an, ar, asp, rs, shown, sp, hNs, h1, h2, _, _, _, _, _, hsh⟩ := hta.ex
    rw [hsh hn1] at h2
    refine ⟨_, rfl, t, C, dx, _, _, rfl, h1, T.cl, T.nN, flds_names _ _ _, ?_⟩
    refine ⟨_, rfl, an, _, rfl, h2, fun H1 p s1 np hp => ?_⟩
    rw [List.map_cons, cut_tail] at hp
    refine ⟨p, rfl, ⟨_, sqt hp⟩, ?_⟩
    have hdp : d ≠ p := fun z => by
      have := s1 _ _ (upd_same (H := H) (a := d) (o := .dK []))
      rw [z, hp] at this
      cases this
    refine for_it (walk_tup (K := K) (a := p) (xs := nms.map V.str)) (fun i σ H' => ∃ ti Ri xi x2 x3 x4, σ = [some (.ref ti), some (.ref d), x2, x3, x4] ∧ (∀ b o, b ≠ d → H1 b = some o → H' b = some o) ∧ H' d = some (.dK (ptV (nms.take i) xi)) ∧
        Df.pts ("0" : Str) R x0 (nms.take i) = some (Ri, xi) ∧ TabAt (· ≠ d) C H' ti (("0" : Str) :: nms) Ri)
      ⟨t, R, x0, none, none, none, rfl, fun _ _ _ e => e, s1 _ _ upd_same, rfl, hta.mono s1⟩ (fun i σ H' _ ⟨_, _, _, _, _, _, _, s2, _⟩ => sqt (s2 _ _ hdp.symm hp)) ?_ ?_
    · rintro i x σ H9 H2 hi ⟨ti, Ri, xi, x2, x3, x4, rfl, s2, hd2, hp2, ht2⟩ ⟨rfl, ex⟩
      rw [List.length_map] at hi
      have ex : x = V.str nms[i] := by
        rw [List.getElem?_map, List.getElem?_eq_getElem hi] at ex
        exact (Option.some.inj ex).symm
      subst ex
      have hS : nms.take (i + 1) = nms.take i ++ [nms[i]] := by rw [List.take_add_one, List.getElem?_eq_getElem hi]; rfl
      have hmem : nms[i] ∈ ("0" : Str) :: nms := List.mem_cons_of_mem _ (List.getElem_mem hi)
      have h0m : ("0" : Str) ∈ ("0" : Str) :: nms := List.mem_cons_self
      have hmn : nms[i] ≠ "" := fun z => hn0 (z ▸ List.getElem_mem hi)
      have hno : nms[i] ∉ nms.take i := fun hm => by
        obtain ⟨j, hj, ej⟩ := List.mem_take_iff_getElem.mp hm
        have := (List.getElem_inj hnn.2).mp ej
        omega
      have hdl : (ptV (nms.take i) xi).length < sizeLine := by
        rw [show (ptV (nms.take i) xi).length = (nms.take i).length from tabV_len _ _, List.length_take]
        exact szlt (by omega)
      refine ⟨_, rfl, _, rfl, _, ti, _, _, _, Ri, rfl, ht2, h0m, hmem, h00, hmn, hnd, ?_⟩
      refine ⟨_, rfl, _, rfl, _, ti, _, _, _, Ri, rfl, ht2, hmem, h0m, hmn, h00, hnd, ?_⟩
      have hpt : ∀ R2, Df.setR Ri ("0" : Str) nms[i] (Df.valOf Ri ("0" : Str) nms[i]) = some R2 → Df.pts ("0" : Str) R x0 (nms.take (i + 1)) = some (R2, Df.put xi nms[i] (Df.valOf Ri ("0" : Str) nms[i])) := fun R2 e => by
        rw [hS, Df.pts_append, hp2]
        show (Df.setR Ri ("0" : Str) nms[i] (Df.valOf Ri ("0" : Str) nms[i])).bind _ = _
        rw [e]
        rfl
      have hsome : ∃ R2, Df.setR Ri ("0" : Str) nms[i] (Df.valOf Ri ("0" : Str) nms[i]) = some R2 := by
        cases e : Df.setR Ri ("0" : Str) nms[i] (Df.valOf Ri ("0" : Str) nms[i]) with
        | some R2 => exact ⟨R2, rfl⟩
        | none =>
          have h1 : nms = nms.take i ++ nms[i] :: nms.drop (i + 1) := by rw [List.getElem_cons_drop hi, List.take_append_drop]
          have h2 := hpts
          rw [h1, Df.pts_append, hp2] at h2
          have h3 : ((Df.setR Ri ("0" : Str) nms[i] (Df.valOf Ri ("0" : Str) nms[i])).bind fun R' => Df.pts ("0" : Str) R' (Df.put xi nms[i] (Df.valOf Ri ("0" : Str) nms[i])) (nms.drop (i + 1))) = some (R', x') := h2
          rw [e] at h3
          cases h3
      obtain ⟨R2, hR2⟩ := hsome
      -- the value stands in the dict
      have fin : ∀ (v : Int) (x3 x4 : Option V), v = Df.valOf Ri ("0" : Str) nms[i] → ∃ a v0, V.ref d = V.ref a ∧ DGet (upd H2 d (.dK (putK (ptV (nms.take i) xi) (Sum.inr nms[i] : Key) (V.int v)))) a (.str nms[i]) (some v0) ∧
          spSetTo C [V.ref ti, V.str nms[i], v0] (upd H2 d (.dK (putK (ptV (nms.take i) xi) (Sum.inr nms[i] : Key) (V.int v)))) (fun v1 H3 => ∃ ti Ri xi y2 y3 y4, [some v1, some (.ref d), some (.str nms[i]), x3, x4] = [some (.ref ti), some (.ref d), y2, y3, y4] ∧
            (∀ b o, b ≠ d → H1 b = some o → H3 b = some o) ∧ H3 d = some (.dK (ptV (nms.take (i + 1)) xi)) ∧ Df.pts ("0" : Str) R x0 (nms.take (i + 1)) = some (Ri, xi) ∧ TabAt (· ≠ d) C H3 ti (("0" : Str) :: nms) Ri) E0 := by
        rintro v x3 x4 rfl
        rw [ptV_put hno, ← hS]
        refine ⟨d, V.int (Df.valOf Ri ("0" : Str) nms[i]), rfl, dget upd_same ?_, ?_⟩
        · have := valV_tab_in (ks := nms.take (i + 1)) (v := fun n => V.int (Df.put xi nms[i] (Df.valOf Ri ("0" : Str) nms[i]) n)) (n := nms[i]) (hS ▸ List.mem_append_right _ List.mem_cons_self)
          rw [Df.put_same] at this
          exact this
        · refine ⟨(· ≠ d), ti, _, _, _, Ri, rfl, fun p hp z => ?_, ht2.keep fun b o hb e => by rw [upd_ne hb]; exact e, hmem, h0m, hmn, hnd, by rw [List.length_cons]; omega, fun R3 e3 H3 t3 s3 ht3 => ?_, fun e3 => ?_⟩
          · rw [z, upd_same] at hp
            cases hp
          · rw [hR2] at e3
            cases e3
            refine ⟨t3, R2, _, _, _, _, rfl, fun b o hb e => s3 _ _ (by rw [upd_ne hb]; exact s2 b o hb e), s3 _ _ upd_same, hpt R2 hR2, ht3⟩
          · rw [hR2] at e3
            cases e3
      have nn : ∀ z : Int, decide (¬ V.int z = V.non) = true := fun z => decide_eq_true fun e => by cases e
      have nN : (!decide (V.non = V.non)) = false := rfl
      by_cases c1 : Df.HALFI < Ri ("0" : Str) nms[i]
      · rw [if_pos c1]
        have n1 : ¬ Ri ("0" : Str) nms[i] ≤ Df.HALFI := by omega
        refine ⟨_, rfl, rfl, _, rfl, iteF ?_⟩
        by_cases c2 : Df.HALFI < Ri nms[i] ("0" : Str)
        · rw [if_pos c2]
          have n2 : ¬ Ri nms[i] ("0" : Str) ≤ Df.HALFI := by omega
          refine ⟨_, rfl, rfl, _, rfl, iteF ?_⟩
          refine ⟨_, rfl, _, rfl, d, _, rfl, DPut.k (k := (Sum.inr nms[i] : Key)) hd2 hdl, ?_⟩
          refine ⟨_, rfl, _, rfl, _, rfl, _, rfl, fin 0 _ _ ?_⟩
          unfold Df.valOf
          rw [if_neg n1, if_neg n2]
        · rw [if_neg c2]
          refine ⟨_, rfl, rfl, _, rfl, iteT ?_⟩
          refine ⟨_, rfl, _, rfl, _, rfl, d, _, rfl, DPut.k (k := (Sum.inr nms[i] : Key)) hd2 hdl, ?_⟩
          refine ⟨_, rfl, _, rfl, _, rfl, _, rfl, fin _ _ _ ?_⟩
          unfold Df.valOf
          rw [if_neg n1, if_pos (by omega)]
      · rw [if_neg c1]
        refine ⟨_, rfl, rfl, _, rfl, iteT ?_⟩
        refine ⟨_, rfl, _, _, rfl, rfl, _, rfl, _, rfl, d, _, rfl, DPut.k (k := (Sum.inr nms[i] : Key)) hd2 hdl, ?_⟩
        refine ⟨_, rfl, _, rfl, _, rfl, _, rfl, fin _ _ _ ?_⟩
        unfold Df.valOf
        rw [if_pos (by omega)]
    · rintro σ H2 ⟨ti, Ri, xi, x2, x3, x4, rfl, s2, hd2, hp2, ht2⟩
      rw [List.length_map, List.take_length] at hd2 hp2
      rw [hpts] at hp2
      cases hp2
      refine ⟨_, rfl, ?_⟩
      exact hk H2 d (fun b o e => s2 b o (ne_of_none e hd) (s1 _ _ (s0 _ _ e))) hd hd2
end
end K1

/-! ### texts in order; data of lists -/
namespace Ls
open PySem PySem.Spec PyProof.Rows L2
def leS (a b : Str) : Prop := ¬ b.cps.toList < a.cps.toList
theorem leS_trans {a b c : Str} (h : leS a b) (k : leS b c) : leS a c := fun z => by
  have h1 : a.cps.toList ≤ b.cps.toList := List.not_lt.mp h
  have h2 : b.cps.toList ≤ c.cps.toList := List.not_lt.mp k
  exact List.not_lt.mpr (List.le_trans h1 h2) z
theorem leS_anti {a b : Str} (h : leS a b) (k : leS b a) : a = b := by
  have h1 : a.cps.toList ≤ b.cps.toList := List.not_lt.mp h
  have h2 : b.cps.toList ≤ a.cps.toList := List.not_lt.mp k
  have e : a.cps.toList = b.cps.toList := List.le_antisymm h1 h2
  have e2 : a.cps = b.cps := Array.toList_inj.mp e
  cases a; cases b
  exact congrArg Str.mk e2
theorem rising_pw : ∀ (r : List Str) (p : Str), risingS p r = true → (p :: r).Pairwise leS
  | [], p, _ => by simp
  | x :: r, p, h => by
    have h : (!ltCps x.cps.toList p.cps.toList && risingS x r) = true := h
    rw [Bool.and_eq_true] at h
    have h1 : leS p x := fun z => by
      have := h.1
      rw [ltCps_eq, decide_eq_true z] at this
      cases this
    have ih := rising_pw r x h.2
    refine List.pairwise_cons.mpr ⟨fun y hy => ?_, ih⟩
    rcases List.mem_cons.mp hy with rfl | hy
    · exact h1
    · exact leS_trans h1 ((List.pairwise_cons.mp ih).1 y hy)
theorem sorted_pw : ∀ (l : List Str), sortedS l = true → l.Pairwise leS
  | [], _ => List.Pairwise.nil
  | x :: r, h => rising_pw r x h
theorem pw_uniq : ∀ (l m : List Str), l.Perm m → l.Pairwise leS → m.Pairwise leS → l = m
  | [], m, p, _, _ => (List.nil_perm.mp p).symm
  | a :: l, [], p, _, _ => absurd p.length_eq (by simp)
  | a :: l, b :: m, p, h, k => by
    have h1 := List.pairwise_cons.mp h
    have k1 := List.pairwise_cons.mp k
    have e : a = b := by
      rcases List.mem_cons.mp (p.mem_iff.mp List.mem_cons_self) with e | hb
      · exact e
      · rcases List.mem_cons.mp (p.mem_iff.mpr List.mem_cons_self) with e | ha
        · exact e.symm
        · exact leS_anti (h1.1 b ha) (k1.1 a hb)
    subst e
    rw [pw_uniq l m (List.perm_cons a |>.mp p) h1.2 k1.2]
theorem sorted_uniq {l m n : List Str} (p : l.Perm n) (q : m.Perm n) (h : sortedS l = true) (k : sortedS m = true) : l = m := pw_uniq l m (p.trans q.symm) (sorted_pw l h) (sorted_pw m k)
/-! texts in lists -/
theorem eqV_str (a b : Str) : eqV (.str a) (.str b) = decide (a = b) := by
  unfold eqV
  rw [Bool.eq_iff_iff]
  simp
theorem inV_str (n : Str) : ∀ ns : List Str, inV (.str n) (ns.map V.str) = decide (n ∈ ns)
  | [] => by simp [inV]
  | a :: ns => by
    have ih := inV_str n ns
    unfold inV at ih ⊢
    rw [List.map_cons, List.any_cons, ih, eqV_str, Bool.eq_iff_iff]
    simp only [Bool.or_eq_true, decide_eq_true_eq, List.mem_cons]
    exact or_congr eq_comm Iff.rfl
theorem flat_str (ns : List Str) : (ns.map V.str).all flatV = true := by
  induction ns with
  | nil => rfl
  | cons a ns ih => rw [List.map_cons, List.all_cons, ih]; rfl
/-! data -/
theorem canAll {α : Type} (f : α → PyData) (h : ∀ x, PyData.canLay0 (f x) = true) : ∀ l : List α, PyData.canLayAll0 (l.map f) = true
  | [] => rfl
  | x :: l => by
    rw [List.map_cons, PyData.canLayAll0, h x, canAll f h l]
    rfl
theorem canAllm {α : Type} (f : α → PyData) : ∀ l : List α, (∀ x ∈ l, PyData.canLay0 (f x) = true) → PyData.canLayAll0 (l.map f) = true
  | [], _ => rfl
  | x :: l, h => by
    rw [List.map_cons, PyData.canLayAll0, h x List.mem_cons_self, canAllm f l fun y hy => h y (List.mem_cons_of_mem _ hy)]
    rfl
theorem depAll {α : Type} (f : α → PyData) (n : Nat) (h : ∀ x, PyData.depth (f x) ≤ n) : ∀ l : List α, PyData.depthAll (l.map f) ≤ n
  | [] => by simp [PyData.depthAll]
  | x :: l => by
    have h1 := h x
    have h2 := depAll f n h l
    simp only [List.map_cons, PyData.depthAll]
    omega
theorem shaped_list {α : Type} (f : α → PyData) (n : Nat) (hn : n < 60) (hd : ∀ x, PyData.depth (f x) ≤ n) (l : List α) (h : ∀ x ∈ l, PyData.canLay0 (f x) = true) : SeqAt.shaped (.list (l.map f)) = true := by
  have h1 := depAll f n hd l
  have h2 : PyData.depth (.list (l.map f)) ≤ 64 := by simp only [PyData.depth]; omega
  unfold SeqAt.shaped
  rw [Bool.and_eq_true]
  exact ⟨by simp only [PyData.canLay0]; exact canAllm f l h, decide_eq_true h2⟩
theorem eqv_list {α : Type} (f : α → PyData) (l : List α) (h : ∀ x ∈ l, PyData.canLay0 (f x) = true) : PyData.eqv (.list (l.map f)) (.list (l.map f)) = true := PySem.SeqAt.eqv_refl _ (by simp only [PyData.canLay0]; exact canAllm f l h)
theorem shaped_strs (l : List Str) (h : ∀ x ∈ l, PySem.PyData.strOk x = true) : SeqAt.shaped (.list (l.map PyData.str)) = true := shaped_list PyData.str 1 (by decide) (fun x => by simp [PyData.depth]) l fun x hx => by simp only [PyData.canLay0]; exact h x hx
theorem eqv_strs (l : List Str) (h : ∀ x ∈ l, PySem.PyData.strOk x = true) : PyData.eqv (.list (l.map PyData.str)) (.list (l.map PyData.str)) = true := eqv_list PyData.str l fun x hx => by simp only [PyData.canLay0]; exact h x hx
theorem dpStrs (K : PySem.W.Frag) (H : Hp) : ∀ ns : List Str, DpAll K H (ns.map V.str) (ns.map PyData.str)
  | [] => .nil
  | n :: ns => .cons (.str n) (dpStrs K H ns)
end Ls

namespace K1
open PySem PySem.Spec PyProof.Rows L2 Ls
/-! ### systems as they are handed in -/
def GoodS (S : List Df3) : Prop := ∀ e ∈ S, e.1 ≠ "" ∧ e.2.1 ≠ "" ∧ e.1 ≠ e.2.1 ∧ -1000000000000000000 < e.2.2 ∧ e.2.2 < 1000000000000000000
theorem GoodS.ends {S : List Df3} (h : GoodS S) : ∀ e ∈ S, e.1 ≠ "" ∧ e.2.1 ≠ "" := fun e he => ⟨(h e he).1, (h e he).2.1⟩
def spIsLimit : Sp := fun vs H Q _ => ∃ c : Int, vs = [.int c] ∧ -1000000000000000000 < c ∧ c < 1000000000000000000 ∧ Q (.bl true) H
def spIsEnd : Sp := fun vs H Q _ => ∃ (n : Str) (t : Addr) (ks : List Str), vs = [.str n, .ref t] ∧ H t = some (.tup (ks.map V.str)) ∧ n ≠ "" ∧ n ∈ ("0" : Str) :: ks ∧ Q (.bl true) H
/-- a row as it is handed in: a tuple or a list -/
def RowQ (H : Hp) : V → Df3 → Prop := fun v e => ∃ r, v = V.ref r ∧ (H r = some (.tup (rowT e)) ∨ H r = some (.lst (rowT e)))
def SysQ (H : Hp) (a : Addr) (S : List Df3) : Prop := ∃ vs, H a = some (.lst vs) ∧ Paired (RowQ H) vs S
theorem SysAt.q {H : Hp} {a : Addr} {S : List Df3} (h : SysAt H a S) : SysQ H a S := h.imp fun _ q => ⟨q.1, pmono (fun _ _ z => z.imp fun _ z => ⟨z.1, .inl z.2⟩) q.2⟩
theorem SysQ.mono {H H' : Hp} (s : Same H H') {a : Addr} {S : List Df3} (h : SysQ H a S) : SysQ H' a S :=
  have ⟨vs, h1, h2⟩ := h; ⟨vs, s _ _ h1, pmono (fun _ _ q => q.imp fun _ q => ⟨q.1, q.2.imp (s _ _) (s _ _)⟩) h2⟩
theorem ixq {K : PySem.W.Frag} {H : Hp} {r : Addr} {xs : List V} {i : Int} {v : V} {Q : VK} (h : H r = some (.tup xs) ∨ H r = some (.lst xs)) (ha : atI xs i = some v) (q : Q v H) : rIx K (.ref r) (.int i) H Q :=
  h.elim (fun h => .inr (.inl ⟨r, xs, i, v, rfl, rfl, sqt h, ha, q⟩)) fun h => .inl ⟨r, xs, i, v, rfl, rfl, sq h, ha, q⟩
def spChecked : Sp := fun vs H Q _ => ∃ (a t : Addr) (S : List Df3) (ks : List Str), vs = [.ref a, .ref t] ∧ SysQ H a S ∧ GoodS S ∧ S.length ≤ 900000 ∧ H t = some (.tup (ks.map V.str)) ∧ (∀ e ∈ S, e.1 ∈ ("0" : Str) :: ks ∧ e.2.1 ∈ ("0" : Str) :: ks) ∧ ∀ H' b, Same H H' → SysAt H' b S → Q (.ref b) H'
def nm1 (ks : List Str) (n : Str) : List Str := if n = "0" then ks else Df.ins ks n
def namesOf (S : List Df3) : List Str := S.foldl (fun ks e => nm1 (nm1 ks e.1) e.2.1) []
theorem mem_nm1 {ks : List Str} {n x : Str} : x ∈ nm1 ks n ↔ x ∈ ks ∨ (x = n ∧ n ≠ "0") := by
  unfold nm1
  split
  · rename_i h; simp [h]
  · rename_i h
    rw [Df.mem_ins]
    simp [h]
theorem nd_nm1 {ks : List Str} {n : Str} (h : ks.Nodup) : (nm1 ks n).Nodup := by
  unfold nm1
  split
  · exact h
  · exact Df.nd_ins h
theorem len_nm1 (ks : List Str) (n : Str) : (nm1 ks n).length ≤ ks.length + 1 := by
  unfold nm1
  split
  · omega
  · exact ins_len _ _
theorem namesOf_snoc (S : List Df3) (e : Df3) : namesOf (S ++ [e]) = nm1 (nm1 (namesOf S) e.1) e.2.1 := by
  unfold namesOf
  rw [List.foldl_append]
  rfl
theorem fold_mem (S : List Df3) : ∀ ks : List Str, ∀ x, x ∈ S.foldl (fun ks e => nm1 (nm1 ks e.1) e.2.1) ks ↔ x ∈ ks ∨ ∃ e ∈ S, (x = e.1 ∨ x = e.2.1) ∧ x ≠ "0" := by
  induction S with
  | nil => intro ks x; simp
  | cons e S ih =>
    intro ks x
    rw [List.foldl_cons, ih, mem_nm1, mem_nm1]
    constructor
    · rintro (((h | ⟨h, h0⟩) | ⟨h, h0⟩) | ⟨e', he, h⟩)
      · exact .inl h
      · exact .inr ⟨e, List.mem_cons_self, .inl h, h ▸ h0⟩
      · exact .inr ⟨e, List.mem_cons_self, .inr h, h ▸ h0⟩
      · exact .inr ⟨e', List.mem_cons_of_mem _ he, h⟩
    · rintro (h | ⟨e', he, h, h0⟩)
      · exact .inl (.inl (.inl h))
      · rcases List.mem_cons.mp he with rfl | he
        · rcases h with h | h
          · exact .inl (.inl (.inr ⟨h, h ▸ h0⟩))
          · exact .inl (.inr ⟨h, h ▸ h0⟩)
        · exact .inr ⟨e', he, h, h0⟩
theorem mem_namesOf {S : List Df3} {x : Str} : x ∈ namesOf S ↔ ∃ e ∈ S, (x = e.1 ∨ x = e.2.1) ∧ x ≠ "0" := by
  unfold namesOf
  rw [fold_mem]
  simp
theorem nd_fold (S : List Df3) : ∀ ks : List Str, ks.Nodup → (S.foldl (fun ks e => nm1 (nm1 ks e.1) e.2.1) ks).Nodup := by
  induction S with
  | nil => intro ks h; exact h
  | cons e S ih => intro ks h; exact ih _ (nd_nm1 (nd_nm1 h))
theorem nd_namesOf (S : List Df3) : (("0" : Str) :: namesOf S).Nodup := List.nodup_cons.mpr ⟨fun h => by obtain ⟨_, _, _, h0⟩ := mem_namesOf.mp h; exact h0 rfl, nd_fold S [] List.nodup_nil⟩
theorem in_names {S : List Df3} {x : Str} (h : ∃ e ∈ S, x = e.1 ∨ x = e.2.1) : x ∈ ("0" : Str) :: namesOf S := by
  by_cases h0 : x = "0"
  · rw [h0]; exact List.mem_cons_self
  · exact List.mem_cons_of_mem _ (mem_namesOf.mpr (h.imp fun e q => ⟨q.1, q.2, h0⟩))
theorem GoodS.names {S : List Df3} (h : GoodS S) : ("" : Str) ∉ namesOf S := fun z => by
  obtain ⟨e, he, h1, _⟩ := mem_namesOf.mp z
  rcases h1 with h1 | h1
  · exact (h e he).1 h1.symm
  · exact (h e he).2.1 h1.symm
theorem len_fold (S : List Df3) : ∀ ks : List Str, (S.foldl (fun ks e => nm1 (nm1 ks e.1) e.2.1) ks).length ≤ ks.length + 2 * S.length := by
  induction S with
  | nil => intro ks; simp
  | cons e S ih =>
    intro ks
    have h1 := ih (nm1 (nm1 ks e.1) e.2.1)
    have h2 := len_nm1 (nm1 ks e.1) e.2.1
    have h3 := len_nm1 ks e.1
    rw [List.foldl_cons, List.length_cons]
    omega
theorem len_namesOf (S : List Df3) : (namesOf S).length ≤ 2 * S.length := by
  have := len_fold S []
  simpa [namesOf] using this
def spNamesOf : Sp := fun vs H Q _ => ∃ (a : Addr) (S : List Df3), vs = [.ref a] ∧ SysAt H a S ∧ S.length ≤ 400000 ∧ ∀ H' b, Same H H' → H b = none → H' b = some (.lst ((namesOf S).map V.str)) → Q (.ref b) H'
section
variable {P : Program} {w : World} {K : PySem.W.Frag} {mg : Str → Option Value} {base : Heap} {f C : Addr} {fd : FuncData} {k : Nat}
theorem sc_is_limit : FnScope ["thing"] ["thing"] (defScope s_is_limit) := ⟨rfl, rfl, rfl, by decide +kernel, rfl, by decide +kernel, by decide +kernel⟩
theorem ok_is_limit (F : FnP K "is_limit" s_is_limit [] f fd) (G : Facts mg) : FnOk P w K mg base CX0 1 f fd ["thing"] spIsLimit := by
  refine F.ok sc_is_limit (fun vs H Q E h => ?_) (fun cdv A outer s H vs Q E hr h => ?_)
  · obtain ⟨c, rfl, _⟩ := h
    rfl
  · obtain ⟨c, rfl, h1, h2, hk⟩ := h
    have hu := hu_of hr
    refine ⟨_, PSs.nox (pss_one (ps_ret (pe_and (pe_callB (kIsi K) (by rfl) G.isinstance_ (by decide +kernel) (pa_cons (pv 0) (pa_cons (pe_ty "int" (by rfl) G.int_ (by decide +kernel)) pa_nil))) (pe_and (pe_not (pe_callB (kIsi K) (by rfl) G.isinstance_ (by decide +kernel) (pa_cons (pv 0) (pa_cons (pe_ty "bool" (by rfl) G.bool_ (by decide +kernel)) pa_nil)))) (pe_one (pe_chain op_lt op_lt (pe_op op_sub pe_int (pe_gi (by rfl) G.MOST)) (pv 0) (pe_gi (by rfl) G.MOST))))))), ?_⟩
    refine ⟨_, rfl, _, _, _, _, true, rfl, .ty "int", .base (.int c), kit_ty (by decide +kernel), _, rfl, iteT ?_⟩
    refine ⟨_, rfl, _, _, _, _, false, rfl, .ty "bool", .base (.int c), kit_ty (by decide +kernel), _, rfl, _, rfl, iteT ?_⟩
    refine ⟨_, _, rfl, rfl, _, rfl, _, _, rfl, rfl, _, rfl, ?_⟩
    rw [show decide ((0 : Int) - 1000000000000000000 < c) = true from decide_eq_true (by omega)]
    refine iteT ⟨_, _, rfl, rfl, ?_⟩
    show Q (.bl (decide (c < (1000000000000000000 : Int)))) H
    rw [show decide (c < (1000000000000000000 : Int)) = true from decide_eq_true h2]
    exact hk
theorem sc_u_is_end : FnScope ["thing", "known"] ["thing", "known"] (defScope s_u_is_end) := ⟨rfl, rfl, rfl, by decide +kernel, rfl, by decide +kernel, by decide +kernel⟩
theorem ok_is_end (F : FnP K "_is_end" s_u_is_end [] f fd) (G : Facts mg) : FnOk P w K mg base CX0 1 f fd ["thing", "known"] spIsEnd := by
  refine F.ok sc_u_is_end (fun vs H Q E h => ?_) (fun cdv A outer s H vs Q E hr h => ?_)
  · obtain ⟨c, t, ks, rfl, _⟩ := h
    rfl
  · obtain ⟨c, t, ks, rfl, ht, h1, hin, hk⟩ := h
    have hu := hu_of hr
    refine ⟨_, PSs.nox (pss_cons (ps_if (PW.pt (pw_or (pt_not (pt_val (pe_callB (kIsi K) (by rfl) G.isinstance_ (by decide +kernel) (pa_cons (pv 0) (pa_cons (pe_ty "str" (by rfl) G.str_ (by decide +kernel)) pa_nil))))) (pw_or1 (pt_cmpR op_eq (pv 0) pe_str (nomark _))))) (pss_one (ps_ret pe_bl)) pss_nil)
      (pss_one (ps_ret (pe_or (pe_cmpR op_isN (pv 1) pe_non (nomark _)) (pe_or (pe_cmpR op_eq (pv 0) pe_str (nomark _)) (pe_one (pe_cmpR (kIn K) (pv 0) (pv 1) (by rfl)))))))), ?_⟩
    refine ⟨_, rfl, _, _, _, _, true, rfl, .ty "str", .base (.str c), kit_ty (by decide +kernel), _, rfl, ?_⟩
    refine iteF ⟨_, rfl, rfl, _, rfl, ?_⟩
    rw [show decide (V.str c = V.str "") = false from decide_eq_false fun e => h1 (by injection e)]
    refine iteF ⟨_, rfl, rfl, _, rfl, iteF ?_⟩
    refine ⟨_, rfl, rfl, _, rfl, ?_⟩
    by_cases h0 : c = "0"
    · rw [decide_eq_true (show V.str c = V.str "0" by rw [h0])]
      exact iteT hk
    · rw [show decide (V.str c = V.str "0") = false from decide_eq_false fun e => h0 (by injection e)]
      refine iteF ⟨_, rfl, _, rfl, t, _, rfl, .inr (sqt ht), rfl, flat_str _, ?_⟩
      rw [if_neg (by decide), inV_str, decide_eq_true ((List.mem_cons.mp hin).resolve_left h0)]
      exact hk
end
end K1

namespace K1
open PySem PySem.Spec PyProof.Rows L2 Ls
section
variable {P : Program} {w : World} {K : PySem.W.Frag} {mg : Str → Option Value} {base : Heap} {f C : Addr} {fd : FuncData} {k : Nat}
theorem sc_checked_system : FnScope ["system", "names", "found", "place", "row", "good"] ["system", "names"] (defScope s_checked_system) := ⟨rfl, rfl, rfl, by decide +kernel, rfl, by decide +kernel, by decide +kernel⟩
theorem ok_checked (F : FnP K "checked_system" s_checked_system [.non] f fd) (G : Facts mg) (C_is_limit : Cal P w K mg base 1 "is_limit" spIsLimit []) (C_u_is_end : Cal P w K mg base 1 "_is_end" spIsEnd []) :
    FnOk P w K mg base CX0 2 f fd ["system", "names"] spChecked := by
  refine F.ok sc_checked_system (fun vs H Q E h => ?_) (fun cdv A outer s H vs Q E hr h => ?_)
  · obtain ⟨c, t, S, ks, rfl, _⟩ := h
    rfl
  · obtain ⟨a, t, S, ks, rfl, ⟨vs, ha, hvs⟩, hgood, hlen, ht, hin, hk⟩ := h
    have hu := hu_of hr
    refine ⟨_, PSs.nox (pss_cons (ps_set (i := 2) sc_checked_system.nd rfl (.inl rfl) (pe_lst pa_nil))
      (pss_cons (ps_for PassesOwn.never rfl (kpi_enum K (by rfl) G.enumerate_ (pa_cons (pv 0) pa_nil)) (kpg_tup K rfl (pgs_cons (pg_name (i := 3) sc_checked_system.nd rfl (by first | exact .inl rfl | exact .inr rfl)) (pgs_cons (pg_name (i := 4) sc_checked_system.nd rfl (by first | exact .inl rfl | exact .inr rfl)) pgs_nil)))
        (pss_cons (ps_set (i := 5) sc_checked_system.nd rfl (.inl rfl) (pe_and (pe_callB (kIsiT K) (by rfl) G.isinstance_ (by decide +kernel) (pa_cons (pv 4) (pa_cons (pe_tup (pa_cons (pe_ty "tuple" (by rfl) G.tuple_ (by decide +kernel)) (pa_cons (pe_ty "list" (by rfl) G.list_ (by decide +kernel)) pa_nil))) pa_nil))) (pe_one (pe_cmpR op_eq (pe_callB (kLen K) (by rfl) G.len_ PySem.boot_len (pa_cons (pv 4) pa_nil)) pe_int (nomark _)))))
        (pss_cons (ps_set (i := 5) sc_checked_system.nd rfl (.inl rfl) (pe_and (pv 5) (pe_and (pe_c C_u_is_end hr (by decide) (by rfl) (pa_cons (pe_ix (kIxQ K) (pv 4) pe_int (fun _ _ => rfl)) (pa_cons (pv 1) pa_nil))) (pe_one (pe_c C_u_is_end hr (by decide) (by rfl) (pa_cons (pe_ix (kIxQ K) (pv 4) pe_int (fun _ _ => rfl)) (pa_cons (pv 1) pa_nil)))))))
        (pss_cons (ps_if (PW.pt (pw_or (pt_not (pt_val (pv 5))) (pw_or (pt_cmpR op_eq (pe_ix (kIxQ K) (pv 4) pe_int (fun _ _ => rfl)) (pe_ix (kIxQ K) (pv 4) pe_int (fun _ _ => rfl)) (nomark _)) (pw_or1 (pt_not (pt_val (pe_c C_is_limit hr (by decide) (by rfl) (pa_cons (pe_ix (kIxQ K) (pv 4) pe_int (fun _ _ => rfl)) pa_nil)))))))) (pss_one ps_never) pss_nil)
        (pss_one (ps_expr (pe_bm PySem.F.plainAttrs_list PySem.F.slot_list_append PySem.F.type_list_append mt_append (pv 2) (pa_cons (pe_tup (pa_cons (pe_ix (kIxQ K) (pv 4) pe_int (fun _ _ => rfl)) (pa_cons (pe_ix (kIxQ K) (pv 4) pe_int (fun _ _ => rfl)) (pa_cons (pe_ix (kIxQ K) (pv 4) pe_int (fun _ _ => rfl)) pa_nil)))) pa_nil))))))))
      (pss_one (ps_ret (pv 2))))), ?_⟩
    refine ⟨by show 0 ≤ sizeLine; decide, fun d hd => ?_⟩
    refine ⟨_, rfl, a, vs, rfl, sq (same_upd hd _ _ ha), ?_⟩
    refine for_it (walk_enum (K := K) (a := a) (xs := vs)) (fun i σ H' => ∃ x3 x4 x5 out, σ = [some (.ref a), some (.ref t), some (.ref d), x3, x4, x5] ∧ Same H H' ∧ H' d = some (.lst out) ∧ Paired (RowT H') out (S.take i))
      ⟨none, none, none, [], rfl, same_upd hd, upd_same, .nil⟩ (fun i σ H' _ ⟨_, _, _, _, _, s1, _⟩ => sq (s1 _ _ ha)) ?_ ?_
    · rintro i x σ H0 H' hi ⟨x3, x4, x5, out, rfl, s1, hd1, hp⟩ ⟨T', y1, y2, rfl, nT, rfl, e1, e2⟩
      cases e1
      rw [plen hvs] at hi
      obtain ⟨v, hv', r, rfl, hrow⟩ := pget hvs (List.getElem?_eq_getElem hi)
      have e2 : vs[i]? = some y2 := e2
      rw [hv'] at e2
      cases e2
      obtain ⟨g1, g2, g3, g4, g5⟩ := hgood _ (List.getElem_mem hi)
      have s2 : Same H0 (upd H0 T' (.tup [V.int (i : Int), V.ref r])) := same_upd nT
      have hrow2 := (hrow.imp (s1 _ _) (s1 _ _)).imp (s2 _ _) (s2 _ _)
      have hd2 := s2 _ _ hd1
      refine ⟨T', _, rfl, sqt upd_same, rfl, _, _, rfl, _, _, rfl, rfl, ?_⟩
      generalize upd H0 T' (.tup [V.int (i : Int), V.ref r]) = H2 at s2 hrow2 hd2 ⊢
      -- good = isinstance(row, (tuple, list)) and len(row) == 3
      refine ⟨_, rfl, by show 2 ≤ sizeLine; decide, fun p np => ?_⟩
      have hrow3 := hrow2.imp (same_upd np (o := .tup [.ty "tuple", .ty "list"]) _ _) (same_upd np (o := .tup [.ty "tuple", .ty "list"]) _ _)
      have hty : ∃ t, TyX K (upd H2 p (.tup [.ty "tuple", .ty "list"])) (.ref r) t ∧ PySem.W.kitAny K t [.type "tuple", .type "list"] = some true := hrow3.elim
        (fun h => ⟨_, .base (.tup h), kitAny_cons (b := true) (kit_ty (by decide +kernel)) (fun z => by cases z) fun _ => rfl⟩)
        (fun h => ⟨_, .base (.lst h), kitAny_cons (b := false) (kit_ty (by decide +kernel)) (fun _ => kitAny_cons (b := true) (kit_ty (by decide +kernel)) (fun z => by cases z) fun _ => rfl) fun z => by cases z⟩)
      obtain ⟨ty, ty1, ty2⟩ := hty
      refine ⟨_, p, _, ty, _, true, rfl, upd_same, .cons (.ty "tuple") (.cons (.ty "list") .nil), ty1, ty2, _, rfl, iteT ?_⟩
      refine ⟨_, rfl, r, rowT S[i], rfl, hrow3.symm.imp sq sqt, rfl, ?_⟩
      have s3 : Same H2 (upd H2 p (.tup [.ty "tuple", .ty "list"])) := same_upd np
      have hd3 := s3 _ _ hd2
      have ht3 := s3 _ _ (s2 _ _ (s1 _ _ ht))
      have hin1 := hin _ (List.getElem_mem hi)
      generalize upd H2 p (.tup [.ty "tuple", .ty "list"]) = H3 at s3 hrow3 hd3 ht3 ⊢
      -- good and both ends
      refine ⟨_, rfl, _, rfl, iteT ?_⟩
      refine ⟨_, rfl, ixq hrow3 (i := 0) (v := .str S[i].1) rfl ⟨_, rfl, ?_⟩⟩
      refine ⟨S[i].1, t, ks, rfl, ht3, g1, hin1.1, _, rfl, iteT ?_⟩
      refine ⟨_, rfl, ixq hrow3 (i := 1) (v := .str S[i].2.1) rfl ⟨_, rfl, ?_⟩⟩
      refine ⟨S[i].2.1, t, ks, rfl, ht3, g2, hin1.2, ?_⟩
      -- not good or equal ends or no limit
      refine ⟨_, rfl, _, rfl, iteF ?_⟩
      refine ⟨_, rfl, ixq hrow3 (i := 0) (v := .str S[i].1) rfl ?_⟩
      refine ⟨_, rfl, ixq hrow3 (i := 1) (v := .str S[i].2.1) rfl ?_⟩
      refine ⟨rfl, _, rfl, ?_⟩
      rw [show decide (V.str S[i].1 = V.str S[i].2.1) = false from decide_eq_false fun e => g3 (by injection e)]
      refine iteF ?_
      refine ⟨_, rfl, ixq hrow3 (i := 2) (v := .int S[i].2.2) rfl ?_⟩
      refine ⟨S[i].2.2, rfl, g4, g5, _, rfl, iteF ?_⟩
      -- found.append
      refine ⟨_, rfl, .inl ⟨rfl, _, sq hd3⟩, ?_⟩
      refine ⟨_, rfl, ixq hrow3 (i := 0) (v := .str S[i].1) rfl ?_⟩
      refine ⟨_, rfl, ixq hrow3 (i := 1) (v := .str S[i].2.1) rfl ?_⟩
      refine ⟨_, rfl, ixq hrow3 (i := 2) (v := .int S[i].2.2) rfl ?_⟩
      refine ⟨by show 3 ≤ sizeLine; decide, fun q nq => ?_⟩
      have s4 := same_upd nq (o := .tup [.str S[i].1, .str S[i].2.1, .int S[i].2.2])
      have sT : Same H0 H3 := s2.trans s3
      have sA : Same H0 (upd H3 q (.tup [.str S[i].1, .str S[i].2.1, .int S[i].2.2])) := sT.trans s4
      refine ⟨d, out, .ref q, rfl, rfl, s4 _ _ hd3, ?_, _, _, _, _, rfl, same_mut (s1.trans sA) hd, upd_same, ?_⟩
      · rw [plen hp, List.length_take]
        exact szlt (by omega)
      · rw [take_snoc hi]
        have hdq : q ≠ d := (ne_of_none hd3 nq).symm
        have keep : ∀ v e, RowT H0 v e → RowT (upd (upd H3 q (.tup [.str S[i].1, .str S[i].2.1, .int S[i].2.2])) d (.lst (out ++ [.ref q]))) v e := fun v e ⟨r', e1, e2⟩ =>
          ⟨r', e1, by
            have h1 := sA _ _ e2
            have : r' ≠ d := fun z => by rw [z, hd1] at e2; cases e2
            rw [upd_ne this]; exact h1⟩
        exact (pmono keep hp).snoc ⟨q, rfl, by rw [upd_ne hdq]; exact upd_same⟩
    · rintro σ H1 ⟨x3, x4, x5, out, rfl, s1, hd1, hp⟩
      rw [plen hvs, List.take_length] at hp
      exact ⟨_, rfl, hk H1 d s1 ⟨out, hd1, hp⟩⟩
end
end K1

namespace K1
open PySem PySem.Spec PyProof.Rows L2 Ls
/-! ### names, checked -/
def spIsName : Sp := fun vs H Q _ => ∃ n : Str, vs = [.str n] ∧ n ≠ "" ∧ n ≠ "0" ∧ Q (.bl true) H
structure NamesOk (ns : List Str) : Prop where
  nd : ns.Nodup
  ne : ∀ x ∈ ns, x ≠ "" ∧ x ≠ "0"
  len : ns.length ≤ 800
def spChkNames : Sp := fun vs H Q _ => ∃ (a : Addr) (ns : List Str), vs = [.ref a] ∧ H a = some (.tup (ns.map V.str)) ∧ NamesOk ns ∧ ∀ H' q, Same H H' → H' q = some (.tup (ns.map V.str)) → Q (.ref q) H'
section
variable {P : Program} {w : World} {K : PySem.W.Frag} {mg : Str → Option Value} {base : Heap} {f C : Addr} {fd : FuncData} {k : Nat}
theorem sc_is_name : FnScope ["thing"] ["thing"] (defScope s_is_name) := ⟨rfl, rfl, rfl, by decide +kernel, rfl, by decide +kernel, by decide +kernel⟩
theorem ok_is_name (F : FnP K "is_name" s_is_name [] f fd) (G : Facts mg) : FnOk P w K mg base CX0 1 f fd ["thing"] spIsName := by
  refine F.ok sc_is_name (fun vs H Q E h => ?_) (fun cdv A outer s H vs Q E hr h => ?_)
  · obtain ⟨n, rfl, _⟩ := h
    rfl
  · obtain ⟨n, rfl, h1, h2, hk⟩ := h
    have hu := hu_of hr
    refine ⟨_, PSs.nox (pss_one (ps_ret (pe_and (pe_callB (kIsi K) (by rfl) G.isinstance_ (by decide +kernel) (pa_cons (pv 0) (pa_cons (pe_ty "str" (by rfl) G.str_ (by decide +kernel)) pa_nil))) (pe_and (pe_cmpR op_ne (pv 0) pe_str (nomark _)) (pe_one (pe_cmpR op_ne (pv 0) pe_str (nomark _))))))), ?_⟩
    refine ⟨_, rfl, _, _, _, _, true, rfl, .ty "str", .base (.str n), kit_ty (by decide +kernel), _, rfl, iteT ?_⟩
    refine ⟨_, rfl, rfl, _, rfl, ?_⟩
    rw [show (!decide (V.str n = V.str "")) = true by rw [decide_eq_false fun e => h1 (by injection e)]; rfl]
    refine iteT ⟨_, rfl, rfl, ?_⟩
    rw [show (!decide (V.str n = V.str "0")) = true by rw [decide_eq_false fun e => h2 (by injection e)]; rfl]
    exact hk
theorem sc_checked_names : FnScope ["names", "seen", "name"] ["names"] (defScope s_checked_names) := ⟨rfl, rfl, rfl, by decide +kernel, rfl, by decide +kernel, by decide +kernel⟩
theorem ok_chknames (F : FnP K "checked_names" s_checked_names [] f fd) (G : Facts mg) (C_is_name : Cal P w K mg base 1 "is_name" spIsName []) : FnOk P w K mg base CX0 2 f fd ["names"] spChkNames := by
  refine F.ok sc_checked_names (fun vs H Q E h => ?_) (fun cdv A outer s H vs Q E hr h => ?_)
  · obtain ⟨a, ns, rfl, _⟩ := h
    rfl
  · obtain ⟨a, ns, rfl, ha, hok, hk⟩ := h
    have hu := hu_of hr
    have hl := hok.len
    refine ⟨_, PSs.nox (pss_cons (ps_set (i := 1) sc_checked_names.nd rfl (.inl rfl) pe_dnewK)
      (pss_cons (ps_for PassesOwn.never rfl (kpi_tup K (pv 0)) (pg_name (i := 2) sc_checked_names.nd rfl (by first | exact .inl rfl | exact .inr rfl))
        (pss_cons (ps_if (PW.pt (pw_or (pt_not (pt_val (pe_c C_is_name hr (by decide) (by rfl) (pa_cons (pv 2) pa_nil)))) (pw_or1 (pt_cmp (pc_din hu (pv 2) (pv 1)))))) (pss_one ps_never) pss_nil)
        (pss_one (ps_dput hu (pv 1) (pv 2) pe_bl rfl))))
      (pss_one (ps_ret (pe_callTy kTuple (by rfl) G.tuple_ (by decide +kernel) (pa_cons (pv 0) pa_nil)))))), ?_⟩
    intro d hd
    have ha1 := same_upd hd (o := .dK []) _ _ ha
    refine ⟨_, rfl, a, rfl, ⟨_, sqt ha1⟩, ?_⟩
    refine for_it (walk_tup (K := K) (a := a) (xs := ns.map V.str)) (fun i σ H' => ∃ x2, σ = [some (.ref a), some (.ref d), x2] ∧ Same H H' ∧ H' d = some (.dK (tabV (ns.take i) fun _ => V.bl true))) ⟨none, rfl, same_upd hd, upd_same⟩ (fun i σ H' _ ⟨_, _, s, _⟩ => sqt (s _ _ ha)) ?_ ?_
    · rintro i x σ H9 H' hi ⟨x2, rfl, s1, d1⟩ ⟨rfl, ex⟩
      rw [List.length_map] at hi
      have ex : x = V.str ns[i] := by
        rw [List.getElem?_map, List.getElem?_eq_getElem hi] at ex
        exact (Option.some.inj ex).symm
      subst ex
      obtain ⟨n1, n2⟩ := hok.ne _ (List.getElem_mem hi)
      have hno : ns[i] ∉ ns.take i := fun hm => by
        obtain ⟨j, hj, ej⟩ := List.mem_take_iff_getElem.mp hm
        have := (List.getElem_inj hok.nd).mp ej
        omega
      refine ⟨_, rfl, ns[i], rfl, n1, n2, _, rfl, iteF ?_⟩
      refine ⟨_, rfl, _, rfl, d, _, rfl, DGet.k (k := (Sum.inr ns[i] : Key)) d1, ?_⟩
      have hv : valV (tabV (ns.take i) fun _ => V.bl true) (Sum.inr ns[i] : Key) = none := valV_tab_no hno
      rw [hv]
      refine ⟨_, rfl, iteF ?_⟩
      refine ⟨_, rfl, _, rfl, d, _, rfl, DPut.k (k := (Sum.inr ns[i] : Key)) d1 (by rw [tabV_len, List.length_take]; exact szlt (by omega)), _, rfl, same_mut s1 hd, ?_⟩
      rw [upd_same, putK_tab, take_snoc hi, show Df.ins (ns.take i) ns[i] = ns.take i ++ [ns[i]] from if_neg hno]
      congr 2
      exact tabV_congr fun m _ => by unfold Df.put; split <;> rfl
    · rintro σ H1 ⟨x2, rfl, s1, _⟩
      refine ⟨_, rfl, a, _, rfl, .inr (s1 _ _ ha), fun H2 q s2 _ hq => hk H2 q (s1.trans s2) hq⟩
end
end K1

namespace K1
open PySem PySem.Spec PyProof.Rows L2 Ls
/-! ### a point in a table -/
/-- the point x lies in the table R -/
def InR (ns : List Str) (R : Df.Tab Str) (x : Str → Int) : Prop := ∀ u ∈ ns, ∀ v ∈ ns, Df.pt0 ("0" : Str) x u - Df.pt0 ("0" : Str) x v ≤ R u v
def spAtPoint (C : Addr) : Sp := fun vs H Q _ => ∃ (t d : Addr) (ns ks : List Str) (R : Df.Tab Str) (x : Str → Int), vs = [.ref t, .ref d] ∧ TabAt (fun _ => True) C H t ns R ∧ ("" : Str) ∉ ns ∧ ns.length ≤ 900 ∧ H d = some (.dK (ptV ks x)) ∧ (∀ u ∈ ns, u ≠ "0" → u ∈ ks) ∧ ∀ H' b, Same H H' → (b = true ↔ InR ns R x) → Q (.bl b) H'
section
variable {P : Program} {w : World} {K : PySem.W.Frag} {mg : Str → Option Value} {base : Heap} {f C : Addr} {fd : FuncData} {k : Nat}
theorem sc_at_point : FnScope ["table", "values", "names", "worth", "name", "x", "row", "y", "limit"] ["table", "values"] (defScope s_at_point) := ⟨rfl, rfl, rfl, by decide +kernel, rfl, by decide +kernel, by decide +kernel⟩
theorem ok_at_point (F : FnP K "at_point" s_at_point [] f fd) (G : Facts mg) (T : TCls K C) : FnOk P w K mg base CX0 1 f fd ["table", "values"] (spAtPoint C) := by
  refine F.ok sc_at_point (fun vs H Q E h => ?_) (fun cdv A outer s H vs Q E hr h => ?_)
  · obtain ⟨t, d, ns, ks, R, x, rfl, _⟩ := h
    rfl
  · obtain ⟨t, d, ns, ks, R, x, rfl, ⟨dx, an, ar, asp, rs, shown, sp, hNs, ht, han, har, hrs, hsp, hspo, hsl, hss⟩, hne, hlen, hd, hks, hk⟩ := h
    have hu := hu_of hr
    have esh : shown = ns := hss hne
    subst esh
    refine ⟨_, PSs.nox (pss_cons (ps_set (i := 2) sc_at_point.nd rfl (.inl rfl) (kfld K (pv 0)))
      (pss_cons (ps_setLc (i := 3) (own := [("name", 4)]) (g := gName 4) (tt := tYes) rfl sc_at_point.nd rfl rfl (sw_true rfl rfl rfl (by decide +kernel)) (kpi_tup K (pv 2)) (blkOk_by (by kernel_rfl)) (fun _ _ _ _ _ => (pg_name (i := 4) sc_at_point.nd rfl (by first | exact .inl rfl | exact .inr rfl))) (fun _ _ _ _ _ => pts_nil) (fun _ _ _ _ _ => (pe_ifExp (pt_cmpR op_eq (pv 4) pe_str (nomark _)) pe_int (pe_dget hu (pv 1) (pv 4) (fun _ _ => rfl)))))
      (pss_cons (ps_for PassesOwn.never rfl (kpi_zip K (by rfl) G.zip_ (pa_cons (pv 3) (pa_cons (kfld K (pv 0)) pa_nil))) (kpg_tup K rfl (pgs_cons (pg_name (i := 5) sc_at_point.nd rfl (by first | exact .inl rfl | exact .inr rfl)) (pgs_cons (pg_name (i := 6) sc_at_point.nd rfl (by first | exact .inl rfl | exact .inr rfl)) pgs_nil)))
        (pss_one (ps_for PassesOwn.never rfl (kpi_zip K (by rfl) G.zip_ (pa_cons (pv 3) (pa_cons (pv 6) pa_nil))) (kpg_tup K rfl (pgs_cons (pg_name (i := 7) sc_at_point.nd rfl (by first | exact .inl rfl | exact .inr rfl)) (pgs_cons (pg_name (i := 8) sc_at_point.nd rfl (by first | exact .inl rfl | exact .inr rfl)) pgs_nil)))
          (pss_one (ps_if (pt_cmpR op_gt (pe_op op_sub (pv 5) (pv 7)) (pv 8) (nomark _)) (pss_one (ps_ret pe_bl)) pss_nil)))))
      (pss_one (ps_ret pe_bl))))), ?_⟩
    refine ⟨_, rfl, t, C, dx, _, _, rfl, ht, T.cl, T.nN, flds_names _ _ _, ?_⟩
    -- worth
    refine ⟨_, rfl, an, rfl, ⟨_, sqt han⟩, fun D hD => ?_⟩
    refine lc_it (walk_tup (K := K) (a := an) (xs := shown.map V.str)) (fun i H' => Same H H' ∧ H' D = some (.lst ((shown.take i).map fun u => V.int (Df.pt0 ("0" : Str) x u)))) ⟨same_upd hD, upd_same⟩ (fun i H' _ ⟨s1, _⟩ => sqt (s1 _ _ han)) ?_ ?_
    · rintro i y H9 H' hi ⟨s1, d1⟩ ⟨rfl, ex⟩
      rw [List.length_map] at hi
      have ex : y = V.str shown[i] := by
        rw [List.getElem?_map, List.getElem?_eq_getElem hi] at ex
        exact (Option.some.inj ex).symm
      subst ex
      have hll : ((shown.take i).map fun u => V.int (Df.pt0 ("0" : Str) x u)).length < sizeLine := by
        rw [List.length_map, List.length_take]
        exact szlt (by omega)
      refine ⟨rfl, _, rfl, rfl, _, rfl, ?_⟩
      by_cases h0 : shown[i] = "0"
      · rw [decide_eq_true (show V.str shown[i] = V.str "0" by rw [h0])]
        refine iteT ⟨_, d1, hll, same_mut s1 hD, ?_⟩
        rw [upd_same, take_snoc hi, List.map_append]
        show some (HO.lst (_ ++ [V.int 0])) = some (HO.lst (_ ++ [V.int (Df.pt0 ("0" : Str) x shown[i])]))
        rw [show Df.pt0 ("0" : Str) x shown[i] = 0 from if_pos h0]
      · rw [show decide (V.str shown[i] = V.str "0") = false from decide_eq_false fun e => h0 (by injection e)]
        have hin := hks _ (List.getElem_mem hi) h0
        refine iteF ⟨_, rfl, _, rfl, d, V.int (x shown[i]), rfl, dget (s1 _ _ hd) (valV_tab_in hin), _, d1, hll, same_mut s1 hD, ?_⟩
        rw [upd_same, take_snoc hi, List.map_append]
        show some (HO.lst (_ ++ [V.int (x shown[i])])) = some (HO.lst (_ ++ [V.int (Df.pt0 ("0" : Str) x shown[i])]))
        rw [show Df.pt0 ("0" : Str) x shown[i] = x shown[i] from if_neg h0]
    rintro H1 ⟨s1, d1⟩
    rw [List.length_map, List.take_length] at d1
    have hlw : (shown.map fun u => V.int (Df.pt0 ("0" : Str) x u)).length = shown.length := List.length_map _
    have hwa : ∀ (i : Nat) u, shown[i]? = some u → (shown.map fun u => V.int (Df.pt0 ("0" : Str) x u))[i]? = some (V.int (Df.pt0 ("0" : Str) x u)) := fun i u e => by rw [List.getElem?_map, e]; rfl
    -- for x, row in zip(worth, table.rows)
    refine ⟨_, rfl, _, rfl, t, C, dx, _, _, rfl, s1 _ _ ht, T.cl, T.nR, flds_rows _ _ _, D, ar, _, _, rfl, sq d1, sq (s1 _ _ har), ?_⟩
    refine for_it (walk_zip (K := K) (a := D) (b := ar) (xs := shown.map fun u => V.int (Df.pt0 ("0" : Str) x u)) (ys := rs) (n := shown.length) (by rw [hlw, plen hrs, Nat.min_self]))
      (fun i σ H' => ∃ x5 x6 x7 x8, σ = [some (.ref t), some (.ref d), some (.ref an), some (.ref D), none, x5, x6, x7, x8] ∧ Same H1 H' ∧ ∀ u ∈ shown.take i, ∀ v ∈ shown, Df.pt0 ("0" : Str) x u - Df.pt0 ("0" : Str) x v ≤ R u v) ⟨_, _, _, _, rfl, Same.refl _, fun u hu => (by cases hu)⟩ (fun i σ H' _ ⟨_, _, _, _, _, s, _⟩ => ⟨sq (s _ _ d1), sq (s _ _ (s1 _ _ har))⟩) ?_ ?_
    · rintro i y σ H9 H2 hi ⟨x5, x6, x7, x8, rfl, s2, hA⟩ ⟨T', y1, y2, rfl, nT, rfl, e1, e2⟩
      have e1 : (shown.map fun u => V.int (Df.pt0 ("0" : Str) x u))[i]? = some y1 := e1
      have e2 : rs[i]? = some y2 := e2
      rw [hwa i _ (List.getElem?_eq_getElem hi)] at e1
      cases e1
      obtain ⟨v, hv, r, rfl, _, hr⟩ := pget hrs (List.getElem?_eq_getElem hi)
      rw [hv] at e2
      cases e2
      have s3 := s2.trans (same_upd nT (o := .tup [V.int (Df.pt0 ("0" : Str) x shown[i]), V.ref r]))
      refine ⟨T', _, rfl, sqt upd_same, rfl, _, _, rfl, _, _, rfl, rfl, ?_⟩
      generalize upd H9 T' (.tup [V.int (Df.pt0 ("0" : Str) x shown[i]), V.ref r]) = H3 at s3 ⊢
      have s13 := s1.trans s3
      -- for y, limit in zip(worth, row)
      refine ⟨_, rfl, _, rfl, D, r, _, _, rfl, sq (s3 _ _ d1), sq (s13 _ _ hr), ?_⟩
      refine for_it (walk_zip (K := K) (a := D) (b := r) (xs := shown.map fun u => V.int (Df.pt0 ("0" : Str) x u)) (ys := rowV shown R shown[i]) (n := shown.length) (by rw [hlw, rowV_len, Nat.min_self]))
        (fun j σ H' => ∃ x7 x8, σ = [some (.ref t), some (.ref d), some (.ref an), some (.ref D), none, some (.int (Df.pt0 ("0" : Str) x shown[i])), some (.ref r), x7, x8] ∧ Same H3 H' ∧ ∀ v ∈ shown.take j, Df.pt0 ("0" : Str) x shown[i] - Df.pt0 ("0" : Str) x v ≤ R shown[i] v) ⟨_, _, rfl, Same.refl _, fun u hu => (by cases hu)⟩ (fun j σ H' _ ⟨_, _, _, s, _⟩ => ⟨sq (s _ _ (s3 _ _ d1)), sq (s _ _ (s13 _ _ hr))⟩) ?_ ?_
      · rintro j y σ H11 H4 hj ⟨x7, x8, rfl, s4, hB⟩ ⟨T2, z1, z2, rfl, nT2, rfl, e1, e2⟩
        have e1 : (shown.map fun u => V.int (Df.pt0 ("0" : Str) x u))[j]? = some z1 := e1
        have e2 : (rowV shown R shown[i])[j]? = some z2 := e2
        rw [hwa j _ (List.getElem?_eq_getElem hj)] at e1
        cases e1
        rw [row_at (List.getElem?_eq_getElem hj)] at e2
        cases e2
        have s5 := s4.trans (same_upd nT2 (o := .tup [V.int (Df.pt0 ("0" : Str) x shown[j]), V.int (R shown[i] shown[j])]))
        refine ⟨T2, _, rfl, sqt upd_same, rfl, _, _, rfl, _, _, rfl, rfl, ?_⟩
        refine ⟨_, rfl, _, rfl, _, _, rfl, rfl, _, rfl, _, _, rfl, rfl, _, rfl, ?_⟩
        by_cases hgt : R shown[i] shown[j] < Df.pt0 ("0" : Str) x shown[i] - Df.pt0 ("0" : Str) x shown[j]
        · rw [decide_eq_true hgt]
          refine iteT ?_
          refine hk _ false (s13.trans s5) ⟨fun z => (by cases z), fun hin => ?_⟩
          have := hin _ (List.getElem_mem hi) _ (List.getElem_mem hj)
          omega
        · rw [decide_eq_false hgt]
          refine iteF ⟨_, _, rfl, s5, fun v hv => ?_⟩
          rw [take_snoc hj] at hv
          rcases List.mem_append.mp hv with hv | hv
          · exact hB v hv
          · rw [List.mem_singleton.mp hv]; omega
      · rintro σ H4 ⟨x7, x8, rfl, s4, hB⟩
        rw [List.take_length] at hB
        refine ⟨_, _, _, _, rfl, s3.trans s4, fun u hu => ?_⟩
        rw [take_snoc hi] at hu
        rcases List.mem_append.mp hu with hu | hu
        · exact hA u hu
        · rw [List.mem_singleton.mp hu]; exact hB
    · rintro σ H2 ⟨x5, x6, x7, x8, rfl, s2, hA⟩
      rw [List.take_length] at hA
      exact hk H2 true (s1.trans s2) ⟨fun _ => hA, fun _ => rfl⟩
end
end K1

namespace K1
open PySem PySem.Spec PyProof.Rows L2 Ls
/-! ### the least point of a list of tables -/
abbrev TabU (N : Addr → Prop) (C : Addr) (H : Hp) (ns : List Str) : V → Df.Tab Str → Prop := fun v R => ∃ t, v = V.ref t ∧ TabAt N C H t ns R
def TabsAt (N : Addr → Prop) (C : Addr) (H : Hp) (a : Addr) (ns : List Str) (Rs : List (Df.Tab Str)) : Prop := ∃ vs, H a = some (.lst vs) ∧ Paired (TabU N C H ns) vs Rs
theorem TabU.mono {N : Addr → Prop} {C : Addr} {H H' : Hp} (s : Same H H') {ns : List Str} {v : V} {R : Df.Tab Str} (h : TabU N C H ns v R) : TabU N C H' ns v R := h.imp fun _ q => ⟨q.1, q.2.mono s⟩
theorem TabsAt.mono {N : Addr → Prop} {C : Addr} {H H' : Hp} (s : Same H H') {a : Addr} {ns : List Str} {Rs : List (Df.Tab Str)} (h : TabsAt N C H a ns Rs) : TabsAt N C H' a ns Rs := have ⟨vs, h1, h2⟩ := h; ⟨vs, s _ _ h1, pmono (fun _ _ => TabU.mono s) h2⟩
/-- a table that stands uses no address that is free -/
theorem TabAt.off {N N' : Addr → Prop} {C : Addr} {H : Hp} {t d : Addr} {ns : List Str} {R : Df.Tab Str} (h : TabAt N C H t ns R) (hd : H d = none) (hN : ∀ b, N b → b ≠ d → N' b) : TabAt N' C H t ns R := by
  obtain ⟨dx, an, ar, asp, rs, shown, sp, ⟨a1, a2, a3, a4⟩, h1, h2, h3, h4, h5, h6⟩ := h.ex
  exact ⟨dx, an, ar, asp, rs, shown, sp, ⟨hN _ a1 (ne_of_none h1 hd), hN _ a2 (ne_of_none h2 hd), hN _ a3 (ne_of_none h3 hd), hN _ a4 (ne_of_none h5 hd)⟩, h1, h2, h3, pmono (fun v u ⟨r, e, n, q⟩ => ⟨r, e, hN _ n (ne_of_none q hd), q⟩) h4, h5, h6⟩
theorem TabAt.weak {N N' : Addr → Prop} {C : Addr} {H : Hp} {t : Addr} {ns : List Str} {R : Df.Tab Str} (h : TabAt N C H t ns R) (hN : ∀ b, N b → N' b) : TabAt N' C H t ns R := by
  obtain ⟨dx, an, ar, asp, rs, shown, sp, ⟨a1, a2, a3, a4⟩, h1, h2, h3, h4, h5, h6⟩ := h.ex
  exact ⟨dx, an, ar, asp, rs, shown, sp, ⟨hN _ a1, hN _ a2, hN _ a3, hN _ a4⟩, h1, h2, h3, pmono (fun v u ⟨r, e, n, q⟩ => ⟨r, e, hN _ n, q⟩) h4, h5, h6⟩
/-- what set_to hands back -/
def PartU (N : Addr → Prop) (C : Addr) (H : Hp) (ns : List Str) (k : Str) (x : Int) : V → Df.Tab Str → Prop := fun v R => (∃ R', Df.setR R ("0" : Str) k x = some R' ∧ TabU N C H ns v R') ∨ (Df.setR R ("0" : Str) k x = none ∧ v = .non)
theorem PartU.keep {N : Addr → Prop} {C : Addr} {H H' : Hp} (s : ∀ a o, N a → H a = some o → H' a = some o) {ns : List Str} {k : Str} {x : Int} {v : V} {R : Df.Tab Str} (h : PartU N C H ns k x v R) : PartU N C H' ns k x v R :=
  h.imp (fun q => q.imp fun _ q => ⟨q.1, q.2.imp fun _ q => ⟨q.1, q.2.keep s⟩⟩) id
/-- name by name the least value: the point, or the name without one -/
inductive Lp : List Str → List (Df.Tab Str) → (Str → Int) → Except Str (Str → Int) → Prop where
  | nil {Rs : List (Df.Tab Str)} {x : Str → Int} : Lp [] Rs x (.ok x)
  | bad {k : Str} {ks : List Str} {Rs : List (Df.Tab Str)} {x : Str → Int} (h : ∃ R ∈ Rs, Df.HALFI < R "0" k) : Lp (k :: ks) Rs x (.error k)
  | step {k : Str} {ks : List Str} {Rs : List (Df.Tab Str)} {x : Str → Int} {M : Int} {r : Except Str (Str → Int)} (h : ∀ R ∈ Rs, R "0" k ≤ Df.HALFI) (hm : ∃ R ∈ Rs, R "0" k = M) (hM : ∀ R ∈ Rs, R "0" k ≤ M)
      (t : Lp ks (Rs.filterMap fun R => Df.setR R "0" k (0 - M)) (Df.put x k (0 - M)) r) : Lp (k :: ks) Rs x r
def spLeast (C CU : Addr) : Sp := fun vs H Q E => ∃ (nm tl : Addr) (ks ns : List Str) (Rs : List (Df.Tab Str)), vs = [.ref nm, .ref tl] ∧ H nm = some (.tup (ks.map V.str)) ∧ TabsAt (fun _ => True) C H tl ns Rs ∧ ns.Nodup ∧ ("0" : Str) ∈ ns ∧ (∀ k ∈ ks, k ∈ ns ∧ k ≠ "") ∧ ks.Nodup ∧ ns.length ≤ 900 ∧ Rs.length ≤ 900 ∧
  ((Rs = [] ∧ ∀ H', Same H H' → Q .non H') ∨ (Rs ≠ [] ∧ ∃ r, Lp ks Rs x0 r ∧ (∀ x, r = .ok x → ∀ H' d, Same H H' → H' d = some (.dK (ptV ks x)) → Q (.ref d) H') ∧ (∀ k, r = .error k → ∀ d H', Same H H' → H' d = some (.xd [("name", .str k)]) → E (.ref CU) (some d) H')))
theorem noneIn (f : Df.Tab Str → Int) : ∀ Rs : List (Df.Tab Str), inV .non (Rs.map fun R => if Df.HALFI < f R then V.non else .int (f R)) = Rs.any fun R => decide (Df.HALFI < f R)
  | [] => rfl
  | R :: Rs => by
    rw [List.map_cons, List.any_cons, ← noneIn f Rs]
    by_cases h : Df.HALFI < f R
    · rw [if_pos h, decide_eq_true h]
      rfl
    · rw [if_neg h, decide_eq_false h]
      rfl
theorem flatLow (f : Df.Tab Str → Int) : ∀ Rs : List (Df.Tab Str), (Rs.map fun R => if Df.HALFI < f R then V.non else .int (f R)).all flatV = true
  | [] => rfl
  | R :: Rs => by
    rw [List.map_cons, List.all_cons, flatLow f Rs]
    split <;> rfl
section
variable {P : Program} {w : World} {K : PySem.W.Frag} {mg : Str → Option Value} {base : Heap} {f C CU : Addr} {fd : FuncData} {k : Nat}
end
end K1

namespace K1
open PySem PySem.Spec PyProof.Rows L2 Ls
/-! ### regions -/
structure RCls (K : PySem.W.Frag) (CR : Addr) : Prop where
  cl : Cls K CR
  nN : NoAttr K CR "names"
  nT : NoAttr K CR "tables"
def rflds (nm tl : Addr) : List (Str × V) := putF "tables" (.ref tl) (putF "names" (.ref nm) [])
theorem rflds_names (nm tl : Addr) : (rflds nm tl).lookup ("names" : Str) = some (V.ref nm) := by
  have h1 : ¬ (("names" : Str) = "tables") := by decide +kernel
  have h2 : (("names" : Str) == ("tables" : Str)) = false := by decide +kernel
  simp [rflds, putF, h1, h2, List.lookup]
theorem rflds_tables (nm tl : Addr) : (rflds nm tl).lookup ("tables" : Str) = some (V.ref tl) := by
  have h1 : ¬ (("names" : Str) = "tables") := by decide +kernel
  have h2 : (("tables" : Str) == ("names" : Str)) = false := by decide +kernel
  simp [rflds, putF, h1, h2, List.lookup]
def RegAt (CR C : Addr) (H : Hp) (r : Addr) (names : List Str) (Rs : List (Df.Tab Str)) : Prop := ∃ dx nm tl, H r = some (.ins CR dx (rflds nm tl)) ∧ H nm = some (.tup (names.map V.str)) ∧ TabsAt (fun _ => True) C H tl (("0" : Str) :: names) Rs
theorem RegAt.mono {CR C : Addr} {H H' : Hp} (s : Same H H') {r : Addr} {names : List Str} {Rs : List (Df.Tab Str)} (h : RegAt CR C H r names Rs) : RegAt CR C H' r names Rs :=
  have ⟨dx, nm, tl, h1, h2, h3⟩ := h; ⟨dx, nm, tl, s _ _ h1, s _ _ h2, h3.mono s⟩
def spContains (CR C : Addr) : Sp := fun vs H Q _ => ∃ (r d : Addr) (names ks : List Str) (Rs : List (Df.Tab Str)) (x : Str → Int), vs = [.ref r, .ref d] ∧ RegAt CR C H r names Rs ∧ NamesOk names ∧ Rs.length ≤ 900 ∧ H d = some (.dK (ptV ks x)) ∧ (∀ u ∈ names, u ∈ ks) ∧
  ∀ H' b, Same H H' → (b = true ↔ ∃ R ∈ Rs, InR (("0" : Str) :: names) R x) → Q (.bl b) H'
section
variable {P : Program} {w : World} {K : PySem.W.Frag} {mg : Str → Option Value} {base : Heap} {f C CU CR : Addr} {fd : FuncData} {k : Nat}
theorem sc_Region___contains__ : FnScope ["self", "point", "table"] ["self", "point"] (defScope s_Region___contains__) := ⟨rfl, rfl, rfl, by decide +kernel, rfl, by decide +kernel, by decide +kernel⟩
theorem ok_contains (F : FunD K "__contains__" "Region.__contains__" (defArgs s_Region___contains__) (defBody s_Region___contains__) (defScope s_Region___contains__) [] [] f fd) (G : Facts mg) (RC : RCls K CR) (C_at_point : Cal P w K mg base 1 "at_point" (spAtPoint C) []) :
    FnOk P w K mg base CX0 2 f fd ["self", "point"] (spContains CR C) := by
  refine F.ok sc_Region___contains__ (fun vs H Q E h => ?_) (fun cdv A outer s H vs Q E hr h => ?_)
  · obtain ⟨r, d, names, ks, Rs, x, rfl, _⟩ := h
    rfl
  · obtain ⟨r, d, names, ks, Rs, x, rfl, ⟨dx, nm, tl, hr', hnm, ts, htl, hts⟩, hok, hRl, hd, hks, hk⟩ := h
    have hu := hu_of hr
    have hl := hok.len
    refine ⟨_, PSs.nox (pss_one (ps_ret (pe_callB (kAny K rfl) (by rfl) G.any_ (by decide +kernel) (pa_cons (pe_lc (own := [("table", 2)]) (g := gName 2) (tt := tYes) rfl sc_Region___contains__.nd  (kpi_list K (kfld K (pv 0))) (blkOk_by (by kernel_rfl)) (fun _ _ _ _ _ => (pg_name (i := 2) sc_Region___contains__.nd rfl (by first | exact .inl rfl | exact .inr rfl))) (fun _ _ _ _ _ => pts_nil) (fun _ _ _ _ _ => (pe_c C_at_point hr (by decide) (by rfl) (pa_cons (pv 2) (pa_cons (pv 1) pa_nil))))) pa_nil)))), ?_⟩
    refine ⟨_, rfl, r, CR, dx, _, _, rfl, hr', RC.cl, RC.nT, rflds_tables _ _, tl, rfl, ⟨_, sq htl⟩, fun D hD => ?_⟩
    have hne0 : ("" : Str) ∉ ("0" : Str) :: names := fun z => (List.mem_cons.mp z).elim (fun z => absurd z (by decide +kernel)) fun z => (hok.ne _ z).1 rfl
    refine lc_it (walk_list (K := K) (a := tl) (xs := ts)) (fun j H' => Same H H' ∧ ∃ bs : List Bool, H' D = some (.lst (bs.map V.bl)) ∧ Paired (fun b R => b = true ↔ InR (("0" : Str) :: names) R x) bs (Rs.take j)) ⟨same_upd hD, [], upd_same, .nil⟩ (fun j H' _ ⟨s2, _⟩ => sq (s2 _ _ htl)) ?_ ?_
    · rintro j y H8 H' hj ⟨s2, bs, dD, hp⟩ ⟨rfl, ey⟩
      rw [plen hts] at hj
      obtain ⟨v, hv, t, rfl, ht⟩ := pget hts (List.getElem?_eq_getElem hj)
      rw [hv] at ey
      cases ey
      refine ⟨rfl, _, rfl, _, rfl, t, d, _, ks, Rs[j], x, rfl, ht.mono s2, hne0, by rw [List.length_cons]; omega, s2 _ _ hd, fun u hu' h0 => hks u ((List.mem_cons.mp hu').resolve_left h0), fun H5 b s5 hb => ?_⟩
      refine ⟨_, s5 _ _ dD, ?_, same_mut (s2.trans s5) hD, bs ++ [b], by rw [upd_same, List.map_append]; rfl, ?_⟩
      · rw [List.length_map, plen hp, List.length_take]
        exact szlt (by omega)
      · rw [take_snoc hj]
        exact hp.snoc hb
    rintro H2 ⟨s2, bs, dD, hp⟩
    rw [plen hts, List.take_length] at hp
    refine ⟨D, bs, rfl, sq dD, ?_⟩
    have hbl := plen hp
    refine hk H2 _ s2 ⟨fun h => ?_, fun ⟨R, hR, hin⟩ => ?_⟩
    · obtain ⟨b, hb, e⟩ := List.any_eq_true.mp h
      obtain ⟨j, hj, rfl⟩ := List.mem_iff_getElem.mp hb
      obtain ⟨b', hb', q⟩ := pget hp (List.getElem?_eq_getElem (show j < Rs.length by omega))
      rw [List.getElem?_eq_getElem hj] at hb'
      cases hb'
      exact ⟨_, List.getElem_mem _, q.mp e⟩
    · obtain ⟨j, hj, rfl⟩ := List.mem_iff_getElem.mp hR
      obtain ⟨b, hb, q⟩ := pget hp (List.getElem?_eq_getElem hj)
      exact List.any_eq_true.mpr ⟨b, List.mem_of_getElem? hb, q.mpr hin⟩
end
end K1

namespace K1
open PySem PySem.Spec PyProof.Rows L2 Ls
/-! ### a table over other names -/
def spWider (C : Addr) : Sp := fun vs H Q _ => ∃ (N : Addr → Prop) (t nm : Addr) (ns names : List Str) (R : Df.Tab Str), vs = [.ref t, .ref nm] ∧ (∀ p, H p = none → N p) ∧ N nm ∧ TabAt (fun _ => True) C H t ns R ∧ ns.length ≤ 900 ∧ H nm = some (.tup (names.map V.str)) ∧ NamesOk names ∧ (∀ u ∈ ("0" : Str) :: names, u ∈ ns) ∧
  ∀ H' t', Same H H' → TabAt N C H' t' (("0" : Str) :: names) R → Q (.ref t') H'
section
variable {P : Program} {w : World} {K : PySem.W.Frag} {mg : Str → Option Value} {base : Heap} {f C CU CR : Addr} {fd : FuncData} {k : Nat}
theorem sc_wider : FnScope ["table", "names", "told", "spots", "name", "rows", "at", "u", "k", "v"] ["table", "names"] (defScope s_wider) := ⟨rfl, rfl, rfl, by decide +kernel, rfl, by decide +kernel, by decide +kernel⟩
theorem ok_wider (F : FnP K "wider" s_wider [] f fd) (G : Facts mg) (T : TCls K C) (M_Table : Mak P w K mg base 1 "Table" C (spTable C) [.non]) : FnOk P w K mg base CX0 3 f fd ["table", "names"] (spWider C) := by
  refine F.ok sc_wider (fun vs H Q E h => ?_) (fun cdv A outer s H vs Q E hr h => ?_)
  · obtain ⟨N, t, nm, ns, names, R, rfl, _⟩ := h
    rfl
  · obtain ⟨N, t, nm, ns, names, R, rfl, hN, hNnm, ⟨dx, an, ar, asp, rs, shown, sp, hNs, ht, han, har, hrs, hsp, hspo, hsl, hss⟩, hlen, hnm, hok, hin, hk⟩ := h
    have hu := hu_of hr
    have hl := hok.len
    refine ⟨_, PSs.nox (pss_cons (ps_set (i := 2) sc_wider.nd rfl (.inl rfl) (pe_op kCatT (pe_tup (pa_cons pe_str pa_nil)) (pe_callTy kTuple (by rfl) G.tuple_ (by decide +kernel) (pa_cons (pv 1) pa_nil))))
      (pss_cons (ps_setLc (i := 3) (own := [("name", 4)]) (g := gName 4) (tt := tYes) rfl sc_wider.nd rfl rfl (sw_true rfl rfl rfl (by decide +kernel)) (kpi_tup K (pv 2)) (blkOk_by (by kernel_rfl)) (fun _ _ _ _ _ => (pg_name (i := 4) sc_wider.nd rfl (by first | exact .inl rfl | exact .inr rfl))) (fun _ _ _ _ _ => pts_nil) (fun _ _ _ _ _ => (pe_ifExp (pt_cmp (pc_din hu (pv 4) (kfld K (pv 0)))) (pe_dget hu (kfld K (pv 0)) (pv 4) (fun _ _ => rfl)) (pe_un un_neg pe_int))))
      (pss_cons (ps_set (i := 5) sc_wider.nd rfl (.inl rfl) (pe_lst pa_nil))
      (pss_cons (ps_for PassesOwn.never rfl (kpi_enum K (by rfl) G.enumerate_ (pa_cons (pv 3) pa_nil)) (kpg_tup K rfl (pgs_cons (pg_name (i := 6) sc_wider.nd rfl (by first | exact .inl rfl | exact .inr rfl)) (pgs_cons (pg_name (i := 7) sc_wider.nd rfl (by first | exact .inl rfl | exact .inr rfl)) pgs_nil)))
        (pss_one (ps_if (pt_cmpR op_lt (pv 7) pe_int (nomark _)) (pss_one (ps_expr (pe_bm PySem.F.plainAttrs_list PySem.F.slot_list_append PySem.F.type_list_append mt_append (pv 5) (pa_cons (pe_lc (own := [("k", 8)]) (g := gName 8) (tt := tYes) rfl sc_wider.nd  (pi_range1 (by rfl) G.range_ (pa_cons (pe_callB (kLen K) (by rfl) G.len_ PySem.boot_len (pa_cons (pv 2) pa_nil)) pa_nil)) (blkOk_by (by kernel_rfl)) (fun _ _ _ _ _ => (pg_name (i := 8) sc_wider.nd rfl (by first | exact .inl rfl | exact .inr rfl))) (fun _ _ _ _ _ => pts_nil) (fun _ _ _ _ _ => (pe_ifExp (pt_cmpR op_eq (pv 6) (pv 8) (nomark _)) pe_int (pe_gi (by rfl) G.FAR)))) pa_nil)))) (pss_one (ps_expr (pe_bm PySem.F.plainAttrs_list PySem.F.slot_list_append PySem.F.type_list_append mt_append (pv 5) (pa_cons (pe_lc (own := [("v", 9)]) (g := gName 9) (tt := tYes) rfl sc_wider.nd  (kpi_list K (pv 3)) (blkOk_by (by kernel_rfl)) (fun _ _ _ _ _ => (pg_name (i := 9) sc_wider.nd rfl (by first | exact .inl rfl | exact .inr rfl))) (fun _ _ _ _ _ => pts_nil) (fun _ _ _ _ _ => (pe_ifExp (pt_cmpR op_lt (pv 9) pe_int (nomark _)) (pe_gi (by rfl) G.FAR) (pe_ix (kIxL K) (pe_ix (kIxL K) (kfld K (pv 0)) (pv 7) (fun _ _ => rfl)) (pv 9) (fun _ _ => rfl))))) pa_nil)))))))
      (pss_one (ps_ret (pe_mk M_Table hr (by decide) (by rfl) (pa_cons (pv 2) (pa_cons (pv 5) pa_nil))))))))), ?_⟩
    -- told
    refine ⟨by show 1 ≤ sizeLine; decide, fun p np => ?_⟩
    have s1 := same_upd np (o := .tup [.str "0"])
    refine ⟨_, rfl, nm, _, rfl, .inr (s1 _ _ hnm), fun H2 q s2 nq hq => ?_⟩
    refine ⟨p, q, [.str "0"], names.map V.str, rfl, rfl, s2 _ _ upd_same, hq, szl (by simp; omega), fun H3 tn s3 ntn htn => ?_⟩
    have htn : H3 tn = some (.tup ((("0" : Str) :: names).map V.str)) := htn
    have sA := s1.trans (s2.trans s3)
    have Ntn : N tn := by
      rcases ntn with e | e | e
      · exact hN _ ((s1.trans s2).free e)
      · rw [e]; exact hN _ np
      · rw [e]; exact nq.elim (fun e => hN _ (s1.free e)) fun e => by rw [e]; exact hNnm
    generalize hts : ("0" : Str) :: names = ts at htn hin
    have htl : ts.length ≤ 801 := by rw [← hts, List.length_cons]; omega
    have hnd : ts.Nodup := by rw [← hts]; exact List.nodup_cons.mpr ⟨fun z => (hok.ne _ z).2 rfl, hok.nd⟩
    have hne : ∀ u ∈ ts, u ≠ "" := fun u hu' => by
      rw [← hts] at hu'
      rcases List.mem_cons.mp hu' with rfl | h
      · decide +kernel
      · exact (hok.ne _ h).1
    -- the place of a name
    have hpl : ∀ u, ∃ i : Nat, u ∈ ts → ns[i]? = some u := fun u => by
      by_cases h : u ∈ ts
      · obtain ⟨i, hi, _⟩ := ix_of (hin u h)
        exact ⟨i, fun _ => hi⟩
      · exact ⟨0, fun z => absurd z h⟩
    obtain ⟨pl, hpl⟩ := Classical.axiomOfChoice hpl
    -- spots
    refine ⟨_, rfl, tn, rfl, ⟨_, sqt htn⟩, fun D hD => ?_⟩
    refine lc_it (walk_tup (K := K) (a := tn) (xs := ts.map V.str)) (fun i H' => Same H3 H' ∧ H' D = some (.lst ((ts.take i).map fun u => V.int (pl u : Int)))) ⟨same_upd hD, upd_same⟩ (fun i H' _ ⟨s4, _⟩ => sqt (s4 _ _ htn)) ?_ ?_
    · rintro i y H9 H' hi ⟨s4, d4⟩ ⟨rfl, ex⟩
      rw [List.length_map] at hi
      have ex : y = V.str ts[i] := by
        rw [List.getElem?_map, List.getElem?_eq_getElem hi] at ex
        exact (Option.some.inj ex).symm
      subst ex
      have hm := List.getElem_mem hi
      have sB := sA.trans s4
      have hget := dget (sB _ _ hsp) (hspo _ _ (hpl _ hm) (hne _ hm))
      refine ⟨rfl, _, rfl, _, rfl, t, C, dx, _, _, rfl, sB _ _ ht, T.cl, T.nS, flds_spots _ _ _, asp, _, rfl, hget, _, rfl, iteT ?_⟩
      refine ⟨_, rfl, t, C, dx, _, _, rfl, sB _ _ ht, T.cl, T.nS, flds_spots _ _ _, _, rfl, asp, _, rfl, hget, _, d4, ?_, same_mut s4 hD, ?_⟩
      · rw [List.length_map, List.length_take]
        exact szlt (by omega)
      · rw [upd_same, take_snoc hi, List.map_append]
        rfl
    rintro H4 ⟨s4, d4⟩
    rw [List.length_map, List.take_length] at d4
    have sB := sA.trans s4
    have htn4 := s4 _ _ htn
    -- rows
    refine ⟨by show 0 ≤ sizeLine; decide, fun D2 hD2 => ?_⟩
    have sC := sB.trans (same_upd hD2 (o := .lst []))
    have d4' : (upd H4 D2 (.lst [])) D = some (.lst (ts.map fun u => V.int (pl u : Int))) := by rw [upd_ne (ne_of_none d4 hD2)]; exact d4
    have e2' : (upd H4 D2 (.lst [])) D2 = some (.lst []) := upd_same
    have htn5 : (upd H4 D2 (.lst [])) tn = some (.tup (ts.map V.str)) := by rw [upd_ne (ne_of_none htn4 hD2)]; exact htn4
    have nDD : D ≠ D2 := ne_of_none d4 hD2
    have fD2 : H D2 = none := sB.free hD2
    refine ⟨_, rfl, D, _, rfl, sq d4', ?_⟩
    generalize upd H4 D2 (.lst []) = H5 at sC d4' e2' htn5 ⊢
    refine for_it (walk_enum (K := K) (a := D) (xs := ts.map fun u => V.int (pl u : Int))) (fun i σ H' => ∃ x4 x6 x7 x8 x9 rs', σ = [some (.ref t), some (.ref nm), some (.ref tn), some (.ref D), x4, some (.ref D2), x6, x7, x8, x9] ∧ Same H H' ∧ H' D = some (.lst (ts.map fun u => V.int (pl u : Int))) ∧ H' tn = some (.tup (ts.map V.str)) ∧ H' D2 = some (.lst rs') ∧ Paired (fun v u => v ≠ V.ref D2 ∧ RowIs N H' ts R v u) rs' (ts.take i))
      ⟨_, _, _, _, _, [], rfl, sC, d4', htn5, e2', .nil⟩ (fun i σ H' _ ⟨_, _, _, _, _, _, _, _, q, _⟩ => sq q) ?_ ?_
    · rintro i x σ H9 H' hi ⟨x4, x6, x7, x8, x9, rs', rfl, s5, d5, n5, r5, hp⟩ ⟨T', y1, y2, rfl, nT, rfl, e1, e2⟩
      cases e1
      have hil : i < ts.length := by simpa using hi
      have e2 : y2 = V.int (pl ts[i] : Int) := by
        have e2 : (ts.map fun u => V.int (pl u : Int))[i]? = some y2 := e2
        rw [List.getElem?_map, List.getElem?_eq_getElem hil] at e2
        exact (Option.some.inj e2).symm
      subst e2
      have sT := same_upd nT (o := .tup [V.int (i : Int), V.int (pl ts[i] : Int)])
      refine ⟨T', _, rfl, sqt upd_same, rfl, _, _, rfl, _, _, rfl, rfl, ?_⟩
      have sE := s5.trans sT
      have d6 := sT _ _ d5
      have n6 := sT _ _ n5
      have r6 := sT _ _ r5
      have hp6 := pmono (fun (v : V) u (h : v ≠ V.ref D2 ∧ RowIs N H9 ts R v u) => (⟨h.1, h.2.mono sT⟩ : v ≠ V.ref D2 ∧ RowIs N _ ts R v u)) hp
      generalize upd H9 T' (.tup [V.int (i : Int), V.int (pl ts[i] : Int)]) = H6 at sE d6 n6 r6 hp6 ⊢
      have hmi := List.getElem_mem hil
      obtain ⟨vi, hvi, ri, rfl, _, hri⟩ := pget hrs (hpl _ hmi)
      refine ⟨_, rfl, _, _, rfl, rfl, _, rfl, ?_⟩
      rw [show decide ((pl ts[i] : Int) < 0) = false from decide_eq_false (by omega)]
      refine iteF ?_
      refine ⟨_, rfl, .inl ⟨rfl, _, sq r6⟩, _, rfl, D, rfl, ⟨_, sq d6⟩, fun D3 hD3 => ?_⟩
      have n23 : D2 ≠ D3 := ne_of_none r6 hD3
      refine lc_it (walk_list (K := K) (a := D) (xs := ts.map fun u => V.int (pl u : Int))) (fun k H' => Same H6 H' ∧ H' D3 = some (.lst ((ts.take k).map fun v => V.int (R ts[i] v)))) ⟨same_upd hD3, upd_same⟩ (fun k H' _ ⟨s7, _⟩ => sq (s7 _ _ d6)) ?_ ?_
      · rintro k y H7 H' hk2 ⟨s7, d7⟩ ⟨rfl, ex⟩
        rw [List.length_map] at hk2
        have ex : y = V.int (pl ts[k] : Int) := by
          rw [List.getElem?_map, List.getElem?_eq_getElem hk2] at ex
          exact (Option.some.inj ex).symm
        subst ex
        have hmk := List.getElem_mem hk2
        have sF := sE.trans s7
        refine ⟨rfl, _, rfl, _, _, rfl, rfl, _, rfl, ?_⟩
        rw [show decide ((pl ts[k] : Int) < 0) = false from decide_eq_false (by omega)]
        refine iteF ?_
        refine ⟨_, rfl, t, C, dx, _, _, rfl, sF _ _ ht, T.cl, T.nR, flds_rows _ _ _, _, rfl, ar, rs, _, _, rfl, rfl, sq (sF _ _ har), atI_nat hvi, _, rfl, ri, _, _, _, rfl, rfl, sq (sF _ _ hri), atI_nat (row_at (hpl _ hmk)), _, d7, ?_, same_mut s7 hD3, ?_⟩
        · rw [List.length_map, List.length_take]
          exact szlt (by omega)
        · rw [upd_same, take_snoc hk2, List.map_append]
          rfl
      rintro H7 ⟨s7, d7⟩
      rw [List.length_map, List.take_length] at d7
      refine ⟨D2, rs', _, rfl, rfl, s7 _ _ r6, ?_, ?_⟩
      · rw [plen hp6, List.length_take]
        exact szlt (by omega)
      refine ⟨_, _, _, _, _, rs' ++ [.ref D3], rfl, same_mut (sE.trans s7) fD2, ?_, ?_, upd_same, ?_⟩
      · rw [upd_ne nDD]; exact s7 _ _ d6
      · rw [upd_ne (ne_of_none htn4 hD2)]; exact s7 _ _ n6
      · rw [take_snoc hil]
        have sm : ∀ v u, (v ≠ V.ref D2 ∧ RowIs N H6 ts R v u) → v ≠ V.ref D2 ∧ RowIs N (upd H7 D2 (.lst (rs' ++ [.ref D3]))) ts R v u := fun v u ⟨e0, r, e1, eN, e2⟩ =>
          ⟨e0, r, e1, eN, by rw [upd_ne (fun z => e0 (by rw [e1, z]))]; exact s7 _ _ e2⟩
        refine (pmono sm hp6).snoc ⟨fun z => n23 (by injection z with z; exact z.symm), D3, rfl, hN _ (sE.free hD3), ?_⟩
        rw [upd_ne n23.symm, d7]
        rfl
    rintro σ H6 ⟨x4, x6, x7, x8, x9, rs', rfl, s6, d6, n6, r6, hp⟩
    rw [List.length_map, List.take_length] at hp
    refine ⟨_, rfl, _, rfl, ?_⟩
    intro x dx' nx ndx nex
    have s7 : Same H6 (upd (upd H6 dx' (.own x)) x (.ins C dx' [])) := fun b o e => by rw [upd_ne (ne_of_none e nx), upd_ne (ne_of_none e ndx)]; exact e
    refine ⟨x, dx', tn, D2, ts, .non, rfl, upd_same, s7 _ _ n6, by omega, .inl ⟨rfl, fun d H' nd hd' hx ho => ⟨rfl, ?_⟩⟩⟩
    have s8 : Same H6 H' := fun b o e => ho b o (s7 b o e) (ne_of_none e nx)
    have lab := Lab.of hnd
    subst hts
    exact hk H' x (s6.trans s8) ⟨dx', tn, D2, d, rs', _, _, ⟨hN _ (s6.free nx), Ntn, hN _ fD2, hN _ ((s6.trans s7).free nd)⟩, hx, s8 _ _ n6, s8 _ _ r6, pmono (fun _ _ q => RowIs.mono s8 q.2) hp, hd', lab.spots, lab.len, lab.same⟩
end
end K1

namespace K1
open PySem PySem.Spec PyProof.Rows L2 Ls
/-! ### a new region -/
def SysOk (H : Hp) (names : List Str) (v : V) (S : List Df3) : Prop := ∃ r, v = .ref r ∧ (∀ H', Same H H' → SysQ H' r S) ∧ GoodS S ∧ S.length ≤ 900000 ∧ ∀ e ∈ S, e.1 ∈ ("0" : Str) :: names ∧ e.2.1 ∈ ("0" : Str) :: names
def tabsOf (Ss : List (List Df3)) : List (Df.Tab Str) := Ss.filterMap fun S => Df.addedR Df.blankR S
def spRegion (K : PySem.W.Frag) (CR C : Addr) : Sp := fun vs H Q _ => ∃ (H0 : Hp) (p dx a sy tb : Addr) (names : List Str) (qs vs0 : List V) (Ss : List (List Df3)) (Rs0 : List (Df.Tab Str)), vs = [.ref p, .ref a, .ref sy, .ref tb] ∧ H p = some (.ins CR dx []) ∧ Same H0 H ∧ H0 p = none ∧
  H0 a = some (.tup (names.map V.str)) ∧ NamesOk names ∧ H0 sy = some (.lst qs) ∧ Paired (SysOk H0 names) qs Ss ∧ (∀ H', Same H0 H' → (SqL K H' tb vs0 ∨ SqT K H' tb vs0)) ∧ Paired (TabU (fun _ => True) C H0 (("0" : Str) :: names)) vs0 Rs0 ∧ Rs0.length + Ss.length ≤ 900000 ∧
  ∀ nm tl H', Same H0 H' → H' p = some (.ins CR dx (rflds nm tl)) → H' nm = some (.tup (names.map V.str)) → TabsAt (fun _ => True) C H' tl (("0" : Str) :: names) (Rs0 ++ tabsOf Ss) → Q .non H'
theorem tabsOf_take {Ss : List (List Df3)} {i : Nat} (hi : i < Ss.length) : tabsOf (Ss.take (i + 1)) = tabsOf (Ss.take i) ++ (Df.addedR Df.blankR Ss[i]).toList := by
  unfold tabsOf
  rw [take_snoc hi, List.filterMap_append, List.filterMap_cons, List.filterMap_nil]
  cases Df.addedR Df.blankR Ss[i] <;> rfl
theorem lk1 {v : V} : List.lookup ("names" : Str) (putF "names" v []) = some v := by simp [putF, List.lookup]
section
variable {P : Program} {w : World} {K : PySem.W.Frag} {mg : Str → Option Value} {base : Heap} {f C CU CR TB : Addr} {fd : FuncData} {k : Nat}
theorem sc_Region___init__ : FnScope ["self", "names", "systems", "tables", "found", "system", "table"] ["self", "names", "systems", "tables"] (defScope s_Region___init__) := ⟨rfl, rfl, rfl, by decide +kernel, rfl, by decide +kernel, by decide +kernel⟩
theorem ok_reginit (F : FunD K "__init__" "Region.__init__" (defArgs s_Region___init__) (defBody s_Region___init__) (defScope s_Region___init__) [] [("tables", V.ref TB)] f fd) (G : Facts mg) (RC : RCls K CR)
    (C_checked_names : Cal P w K mg base 2 "checked_names" spChkNames []) (C_table_of : Cal P w K mg base 5 "table_of" (spTableOf C) []) (C_checked_system : Cal P w K mg base 2 "checked_system" spChecked []) :
    FnOk P w K mg base CX0 6 f fd ["self", "names", "systems", "tables"] (spRegion K CR C) := by
  refine F.ok sc_Region___init__ (fun vs H Q E h => ?_) (fun cdv A outer s H vs Q E hr h => ?_)
  · obtain ⟨H0, p, dx, a, sy, tb, names, qs, vs0, Ss, Rs0, rfl, _⟩ := h
    rfl
  · obtain ⟨H0, p, dx, a, sy, tb, names, qs, vs0, Ss, Rs0, rfl, hp, s0, np, ha, hok, hsy, hqs, htb, hvs0, hlen, hk⟩ := h
    have hu := hu_of hr
    have hl := hok.len
    refine ⟨_, PSs.nox (pss_cons (ps_fld (pv 0) (pe_c C_checked_names hr (by decide) (by rfl) (pa_cons (pv 1) pa_nil)) rfl)
      (pss_cons (ps_set (i := 4) sc_Region___init__.nd rfl (.inl rfl) (pe_callTy (kList K) (by rfl) G.list_ (by decide +kernel) (pa_cons (pv 3) pa_nil)))
      (pss_cons (ps_for PassesOwn.never rfl (kpi_list K (pv 2)) (pg_name (i := 5) sc_Region___init__.nd rfl (by first | exact .inl rfl | exact .inr rfl))
        (pss_cons (ps_set (i := 6) sc_Region___init__.nd rfl (.inl rfl) (pe_c C_table_of hr (by decide) (by rfl) (pa_cons (kfld K (pv 0)) (pa_cons (pe_c C_checked_system hr (by decide) (by rfl) (pa_cons (pv 5) (pa_cons (kfld K (pv 0)) pa_nil))) pa_nil))))
        (pss_one (ps_if (pt_cmpR op_notN (pv 6) pe_non (nomark _)) (pss_one (ps_expr (pe_bm PySem.F.plainAttrs_list PySem.F.slot_list_append PySem.F.type_list_append mt_append (pv 4) (pa_cons (pv 6) pa_nil)))) pss_nil))))
      (pss_one (ps_fld (pv 0) (pv 4) rfl))))), ?_⟩
    refine ⟨_, rfl, a, names, rfl, s0 _ _ ha, hok, fun H1 nm s1 hnm => ?_⟩
    refine ⟨_, rfl, p, CR, dx, [], rfl, s1 _ _ hp, RC.cl, RC.nN, (by show 0 < 1000; decide), ?_⟩
    have s01 : Same H0 (upd H1 p (.ins CR dx (putF "names" (.ref nm) []))) := same_mut (s0.trans s1) np
    have nmp : nm ≠ p := ne_of hnm (s1 _ _ hp) (by intro z; cases z)
    have hnm1 : (upd H1 p (.ins CR dx (putF "names" (.ref nm) []))) nm = some (.tup (names.map V.str)) := by rw [upd_ne nmp]; exact hnm
    have hp1 : (upd H1 p (.ins CR dx (putF "names" (.ref nm) []))) p = some (.ins CR dx (putF "names" (.ref nm) [])) := upd_same
    generalize upd H1 p (.ins CR dx (putF "names" (.ref nm) [])) = H2 at s01 hnm1 hp1 ⊢
    refine ⟨_, rfl, tb, vs0, rfl, htb _ s01, fun l nl => ?_⟩
    have s2 := same_upd nl (o := .lst vs0)
    have s02 := s01.trans s2
    have fl : H0 l = none := s01.free nl
    have pl : p ≠ l := ne_of_none hp1 nl
    have nml : nm ≠ l := ne_of_none hnm1 nl
    have hN0 : ∀ v R, TabU (fun _ => True) C H0 (("0" : Str) :: names) v R → TabU (fun b => b ≠ p ∧ b ≠ l) C (upd H2 l (.lst vs0)) (("0" : Str) :: names) v R := fun v R ⟨t, e, h⟩ =>
      ⟨t, e, ((h.off np (N' := fun b => b ≠ p) fun _ _ q => q).off fl (N' := fun b => b ≠ p ∧ b ≠ l) fun _ q r => ⟨q, r⟩).mono s02⟩
    have hp2 := s2 _ _ hp1
    have hnm2 := s2 _ _ hnm1
    have hl2 : (upd H2 l (.lst vs0)) l = some (.lst vs0) := upd_same
    have hv2 := pmono hN0 hvs0
    refine ⟨_, rfl, sy, rfl, ⟨_, sq (s02 _ _ hsy)⟩, ?_⟩
    generalize upd H2 l (.lst vs0) = H3 at s02 hp2 hnm2 hl2 hv2 ⊢
    refine for_it (walk_list (K := K) (a := sy) (xs := qs)) (fun i σ H' => ∃ x5 x6 out, σ = [some (.ref p), some (.ref a), some (.ref sy), some (.ref tb), some (.ref l), x5, x6] ∧ Same H0 H' ∧ H' p = some (.ins CR dx (putF "names" (.ref nm) [])) ∧ H' nm = some (.tup (names.map V.str)) ∧ H' l = some (.lst out) ∧
        Paired (TabU (fun b => b ≠ p ∧ b ≠ l) C H' (("0" : Str) :: names)) out (Rs0 ++ tabsOf (Ss.take i)))
      ⟨_, _, vs0, rfl, s02, hp2, hnm2, hl2, by simpa [tabsOf] using hv2⟩ (fun i σ H' _ ⟨_, _, _, _, s, _⟩ => sq (s _ _ hsy)) ?_ ?_
    · rintro i x σ H9 H' hi ⟨x5, x6, out, rfl, s3, p3, n3, l3, hv⟩ ⟨rfl, ex⟩
      rw [plen hqs] at hi
      obtain ⟨v, hv', r, rfl, hS, hgood, hSl, hSn⟩ := pget hqs (List.getElem?_eq_getElem hi)
      rw [hv'] at ex
      cases ex
      refine ⟨_, rfl, p, CR, dx, _, _, rfl, p3, RC.cl, RC.nN, lk1, ?_⟩
      refine ⟨_, rfl, _, rfl, p, CR, dx, _, _, rfl, p3, RC.cl, RC.nN, lk1, ?_⟩
      refine ⟨r, nm, Ss[i], names, rfl, hS _ s3, hgood, hSl, n3, hSn, fun H4 b s4 hb => ?_⟩
      have s34 := s3.trans s4
      have lab := Lab.of (List.nodup_cons.mpr ⟨fun z => (hok.ne _ z).2 rfl, hok.nd⟩ : (("0" : Str) :: names).Nodup)
      have hne : ∀ u ∈ ("0" : Str) :: names, u ≠ "" := fun u hu' => by
        rcases List.mem_cons.mp hu' with rfl | h
        · decide +kernel
        · exact (hok.ne _ h).1
      have p4 := s4 _ _ p3
      have l4 := s4 _ _ l3
      have hol : out.length < sizeLine := by
        rw [plen hv, List.length_append]
        have h1 : (tabsOf (Ss.take i)).length ≤ (Ss.take i).length := List.length_filterMap_le _ _
        have h2 := List.length_take_le i Ss
        have h3 := plen hqs
        exact szlt (by rw [List.length_take] at h1; omega)
      refine ⟨fun b => b ≠ p ∧ b ≠ l, nm, b, names, _, Ss[i], rfl, fun q nq => ⟨(ne_of_none p4 nq).symm, (ne_of_none l4 nq).symm⟩, .inr ⟨s4 _ _ n3, nmp, nml⟩, lab, by omega, hb, hSn, fun e he => ⟨hne _ (hSn e he).1, hne _ (hSn e he).2⟩, fun R' eR H5 t' s5 ht => ?_, fun eR H5 s5 => ?_⟩
      · refine ⟨_, rfl, rfl, _, rfl, iteT ?_⟩
        refine ⟨_, rfl, .inl ⟨rfl, _, sq (s5 _ _ l4)⟩, _, rfl, l, out, _, rfl, rfl, s5 _ _ l4, hol, ?_⟩
        have kp : ∀ b o, (b ≠ p ∧ b ≠ l) → H5 b = some o → (upd H5 l (.lst (out ++ [.ref t']))) b = some o := fun b o hb e => by rw [upd_ne hb.2]; exact e
        refine ⟨_, _, out ++ [.ref t'], rfl, same_mut (s34.trans s5) fl, by rw [upd_ne pl]; exact s5 _ _ p4, by rw [upd_ne nml]; exact s5 _ _ (s4 _ _ n3), upd_same, ?_⟩
        rw [tabsOf_take hi, eR, ← List.append_assoc]
        refine Paired.snoc (pmono (fun v R ⟨t, e, h⟩ => ?_) hv) ⟨t', rfl, ht.keep kp⟩
        exact ⟨t, e, (h.mono (s4.trans s5)).keep kp⟩
      · refine ⟨_, rfl, rfl, _, rfl, iteF ?_⟩
        refine ⟨_, _, out, rfl, s34.trans s5, s5 _ _ p4, s5 _ _ (s4 _ _ n3), s5 _ _ l4, ?_⟩
        rw [tabsOf_take hi, eR]
        exact pmono (fun _ _ => TabU.mono (s4.trans s5)) (by simpa using hv)
    · rintro σ H4 ⟨x5, x6, out, rfl, s3, p3, n3, l3, hv⟩
      rw [plen hqs, List.take_length] at hv
      refine ⟨_, rfl, _, rfl, p, CR, dx, _, rfl, p3, RC.cl, RC.nT, (by show 1 < 1000; decide), ?_⟩
      refine hk nm l _ (same_mut s3 np) upd_same (by rw [upd_ne nmp]; exact n3) ⟨out, by rw [upd_ne pl.symm]; exact l3, ?_⟩
      refine pmono (fun v R ⟨t, e, h⟩ => ⟨t, e, ?_⟩) hv
      exact (h.keep fun b o hb e => by rw [upd_ne hb.1]; exact e).weak fun _ _ => True.intro
end
end K1

/-! LsKw: a new instance of a class whose __init__ has keyword-only parameters. -/
namespace Ls
open PySem PySem.Spec PyProof.Rows L2
/-- C(e, .., k = v, ..): n written values, the keywords ks; gV: what __init__ then sees -/
structure MakK (P : Program) (w : World) (K : PySem.W.Frag) (mg : Str → Option Value) (base : Heap) (k : Nat) (x : Str) (C : Addr) (sp : Sp) (n : Nat) (ks : List Str) (gV : List V → List V → List V) : Prop where
  ex : ∃ (f : Addr) (fd : FuncData) (ps : List Str) (g : List Value → List Value → List Value), Mk K C f ∧ FnOk P w K mg base CX0 k f fd ps sp ∧ mg x = some (.ref C) ∧ KBn K fd ps (n + 1) ks g gV
section
variable {X : Cx} {e : Expr} {es : List Expr} {kws : List Keyword} {t tk : TA} {p pos : Pos} {x : Str} {k j n : Nat} {sp : Sp} {C : Addr} {ks : List Str} {gV : List V → List V → List V}
theorem pe_mkK (c : MakK X.prog X.w X.K X.mg X.base k x C sp n ks gV) (hr : Room j X.A) (hk : k + 1 ≤ j) (hg : Gl X x) (ha : PA X (e :: es) t) (hkw : PK X kws tk)
    (hall : (backToKw pos (keywordEach kws X.env)).all (·.1.isSome) = true := by rfl) (hks : (backToKw pos (keywordEach kws X.env)).filterMap (·.1) = ks := by rfl) (hdb : (x == ("__debug__" : Str)) = false := by decide)
    (he : starEach (e :: es) X.env = (false, eval e X.env) :: starEach es X.env := by rfl) (hpl : ((backTo pos (starEach (e :: es) X.env)).any (·.1) || (backToKw pos (keywordEach kws X.env)).any (·.1.isNone)) = false := by rfl) :
    PE X (.Call (.Name x p) (e :: es) kws pos) (tMakeK C n ks.length sp gV E0 t tk) := by
  have ⟨f, fd, ps, g, M, F, hm, b⟩ := c.ex
  exact pe_makeK M F (hr.mono hk) hg hm b pass0 ha hkw hall hks hdb he hpl
end
/-! ### a method f(self, *r) -/
theorem cxnew0 : CXNew CX0 := fun _ _ _ _ _ _ _ _ _ _ _ _ h => h
theorem FunD.okV {P : Program} {w : World} {K : PySem.W.Frag} {mg : Str → Option Value} {base : Heap} {x qual : Str} {params : Arguments} {body : List Stmt} {scope : Scope} {kws : List (Str × V)} {f : Addr} {fd : FuncData} {N : List Str} {pa pv : Str} {nmax k : Nat} {sp : Sp}
    (F : FunD K x qual params body scope [] kws f fd) (S : FnScope N [pa, pv] scope) (hz : nmax ≤ sizeLine)
    (hb : ∀ (kV doc pm : Value) (an : Option Addr) (cdv ct u : Value) (rest : List Value), rest.length ≤ nmax → bindArgs (PySem.W.fnOf x qual params body scope .none kV doc pm an cdv ct) ⟨u :: rest, []⟩ = (newTuple rest >>= fun t => pure [(pa, u), (pv, t)]))
    (hbody : ∀ (cdv : Value) (A : Around) (outer : List Env) (s : Shared) (H : Hp) (vs : List V) (Q : VK) (E : XK), Room k (A.deeper (envOfC qual scope s.heap.objs.size f cdv)) → sp vs H Q E →
      ∃ t, PSs (cxOf CX0 P w K mg base N qual scope f cdv A outer s H E) body t ∧ t { nx := fun _ H' => Q .non H', rt := Q } (start N vs) H) :
    FnR P w K mg base CX0 (k + 1) f (fun vs H Q E => ∃ v rest, vs = v :: rest ∧ rest.length ≤ nmax ∧ ∀ p, H p = none → sp [v, .ref p] (upd H p (.tup rest)) Q E) := by
  obtain ⟨oc, od, dV, kV, doc, pm, an, cdv, ct, osl, rfl, lk, hcd, hD, _⟩ := F.ex
  rcases hD with ⟨_, rfl⟩ | ⟨e, _⟩
  case inr => exact absurd rfl e
  exact fn_ofV lk hcd S hz (hb kV doc pm an cdv ct) cxnew0 fun A outer s H vs Q E hr hsp => hbody cdv A outer s H vs Q E hr hsp
end Ls

namespace K1
open PySem PySem.Spec PyProof.Rows L2 Ls
/-! ### the same region over its names in another order -/
def spOver (CR C : Addr) : Sp := fun vs H Q _ => ∃ (r a : Addr) (names ks : List Str) (Rs : List (Df.Tab Str)), vs = [.ref r, .ref a] ∧ RegAt CR C H r names Rs ∧ NamesOk names ∧ H a = some (.tup (ks.map V.str)) ∧ NamesOk ks ∧ (∀ u, u ∈ ks ↔ u ∈ names) ∧ Rs.length ≤ 900 ∧
  ∀ H' r', Same H H' → RegAt CR C H' r' ks Rs → Q (.ref r') H'
section
variable {P : Program} {w : World} {K : PySem.W.Frag} {mg : Str → Option Value} {base : Heap} {f C CU CR : Addr} {fd : FuncData} {k : Nat}
theorem sc_Region_over : FnScope ["self", "names", "name", "table"] ["self", "names"] (defScope s_Region_over) := ⟨rfl, rfl, rfl, by decide +kernel, rfl, by decide +kernel, by decide +kernel⟩
theorem body_over (G : Facts mg) (RC : RCls K CR) (C_checked_names : Cal P w K mg base 2 "checked_names" spChkNames []) (C_wider : Cal P w K mg base 3 "wider" (spWider C) []) (M_RegionK : MakK P w K mg base 6 "Region" CR (spRegion K CR C) 2 ["tables"] (fun vs zs => vs ++ zs))
    (f : Addr) (cdv : Value) (A : Around) (outer : List Env) (s : Shared) (H : Hp) (vs : List V) (Q : VK) (E : XK) (hr : Room 7 (A.deeper (envOfC "Region.over" (defScope s_Region_over) s.heap.objs.size f cdv))) (h : spOver CR C vs H Q E) :
    ∃ t, PSs (cxOf CX0 P w K mg base ["self", "names", "name", "table"] "Region.over" (defScope s_Region_over) f cdv A outer s H E) (defBody s_Region_over) t ∧ t { nx := fun _ H' => Q .non H', rt := Q } (start ["self", "names", "name", "table"] vs) H := by
  obtain ⟨r, a, names, ks, Rs, rfl, ⟨dx, nm, tl, hrr, hnm, ts, htl, hts⟩, hok, ha, hko, hpm, hRl, hk⟩ := h
  have hu := hu_of hr
  have hl := hok.len
  have hlk := hko.len
  refine ⟨_, PSs.nox (pss_cons (ps_set (i := 1) sc_Region_over.nd rfl (.inr rfl) (pe_c C_checked_names hr (by decide) (by rfl) (pa_cons (pv 1) pa_nil)))
      (pss_cons (ps_for PassesOwn.never rfl (kpi_tup K (kfld K (pv 0))) (pg_name (i := 2) sc_Region_over.nd rfl (by first | exact .inl rfl | exact .inr rfl))
        (pss_one (ps_if (pt_cmpR (kNotIn K) (pv 2) (pv 1) (by rfl)) (pss_one ps_never) pss_nil)))
      (pss_one (ps_ret (pe_mkK M_RegionK hr (by decide) (by rfl) (pa_cons (pv 1) (pa_cons (pe_lst pa_nil) pa_nil)) (pk_cons (pe_lc (own := [("table", 3)]) (g := gName 3) (tt := tYes) rfl sc_Region_over.nd  (kpi_list K (kfld K (pv 0))) (blkOk_by (by kernel_rfl)) (fun _ _ _ _ _ => (pg_name (i := 3) sc_Region_over.nd rfl (by first | exact .inl rfl | exact .inr rfl))) (fun _ _ _ _ _ => pts_nil) (fun _ _ _ _ _ => (pe_c C_wider hr (by decide) (by rfl) (pa_cons (pv 3) (pa_cons (pv 1) pa_nil))))) pk_nil)))))), ?_⟩
  refine ⟨_, rfl, a, ks, rfl, ha, hko, fun H1 q s1 hq => ?_⟩
  refine ⟨_, rfl, r, CR, dx, _, _, rfl, s1 _ _ hrr, RC.cl, RC.nN, rflds_names _ _, nm, rfl, ⟨_, sqt (s1 _ _ hnm)⟩, ?_⟩
  refine for_it (walk_tup (K := K) (a := nm) (xs := names.map V.str)) (fun i σ H' => ∃ x2 x3, σ = [some (.ref r), some (.ref q), x2, x3] ∧ H' = H1) ⟨_, _, rfl, rfl⟩ (fun i σ H' _ ⟨_, _, _, e⟩ => by rw [e]; exact sqt (s1 _ _ hnm)) ?_ ?_
  · rintro i x σ H9 H' hi ⟨x2, x3, rfl, rfl⟩ ⟨rfl, ex⟩
    rw [List.length_map] at hi
    have ex : x = V.str names[i] := by
      rw [List.getElem?_map, List.getElem?_eq_getElem hi] at ex
      exact (Option.some.inj ex).symm
    subst ex
    refine ⟨_, rfl, _, rfl, q, ks.map V.str, rfl, .inr (sqt hq), rfl, flat_str _, _, rfl, ?_⟩
    rw [inV_str, decide_eq_true ((hpm _).mpr (List.getElem_mem hi))]
    refine iteF ?_
    exact ⟨_, _, rfl, rfl⟩
  rintro σ H2 ⟨x2, x3, rfl, rfl⟩
  refine ⟨_, rfl, by show 0 ≤ sizeLine; decide, fun e he => ?_⟩
  have s2 := s1.trans (same_upd he (o := .lst []))
  have hq2 : (upd H2 e (.lst [])) q = some (.tup (ks.map V.str)) := same_upd he _ _ hq
  have he2 : (upd H2 e (.lst [])) e = some (.lst []) := upd_same
  generalize upd H2 e (.lst []) = H3 at s2 hq2 he2 ⊢
  refine ⟨_, rfl, r, CR, dx, _, _, rfl, s2 _ _ hrr, RC.cl, RC.nT, rflds_tables _ _, tl, rfl, ⟨_, sq (s2 _ _ htl)⟩, fun D hD => ?_⟩
  refine lc_it (walk_list (K := K) (a := tl) (xs := ts)) (fun j H' => Same H3 H' ∧ ∃ us, H' D = some (.lst us) ∧ Paired (TabU (fun b => b ≠ D) C H' (("0" : Str) :: ks)) us (Rs.take j)) ⟨same_upd hD, [], upd_same, .nil⟩ (fun j H' _ ⟨s3, _⟩ => sq (s3 _ _ (s2 _ _ htl))) ?_ ?_
  · rintro j y H8 H' hj ⟨s3, us, dD, hp⟩ ⟨rfl, ey⟩
    rw [plen hts] at hj
    obtain ⟨v, hv, t, rfl, ht⟩ := pget hts (List.getElem?_eq_getElem hj)
    rw [hv] at ey
    cases ey
    have fD : H D = none := s2.free hD
    refine ⟨rfl, _, rfl, _, rfl, fun b => b ≠ D, t, q, ("0" : Str) :: names, ks, Rs[j], rfl, fun b nb => (ne_of_none dD nb).symm, ne_of_none hq2 hD, ht.mono (s2.trans s3), by rw [List.length_cons]; omega, s3 _ _ hq2, hko, fun u hu' => ?_, fun H5 t' s5 ht' => ?_⟩
    · rcases List.mem_cons.mp hu' with rfl | h
      · exact List.mem_cons_self
      · exact List.mem_cons_of_mem _ ((hpm _).mp h)
    · have kp : ∀ b o, b ≠ D → H5 b = some o → (upd H5 D (.lst (us ++ [.ref t']))) b = some o := fun b o hb e => by rw [upd_ne hb]; exact e
      refine ⟨_, s5 _ _ dD, ?_, same_mut (s3.trans s5) hD, us ++ [.ref t'], upd_same, ?_⟩
      · rw [plen hp, List.length_take]
        exact szlt (by omega)
      · rw [take_snoc hj]
        exact (pmono (fun _ _ ⟨t, e, h⟩ => ⟨t, e, (h.mono s5).keep kp⟩) hp).snoc ⟨t', rfl, ht'.keep kp⟩
  rintro H4 ⟨s3, us, dD, hp⟩
  rw [plen hts, List.take_length] at hp
  refine ⟨rfl, rfl, fun x dx' nx ndx nex => ?_⟩
  have s5 : Same H4 (upd (upd H4 dx' (.own x)) x (.ins CR dx' [])) := fun b o e => by rw [upd_ne (ne_of_none e nx), upd_ne (ne_of_none e ndx)]; exact e
  refine ⟨H4, x, dx', q, e, D, ks, [], us, [], Rs, rfl, upd_same, s5, nx, s3 _ _ hq2, hko, s3 _ _ he2, .nil, fun H' s6 => .inl (sq (s6 _ _ dD)), pmono (fun _ _ ⟨t, e, h⟩ => ⟨t, e, h.weak fun _ _ => True.intro⟩) hp, by simp; omega, fun nm' tl' H' s6 hx hn ht => ⟨rfl, ?_⟩⟩
  exact hk H' x (s2.trans (s3.trans s6)) ⟨dx', nm', tl', hx, hn, by simpa [tabsOf] using ht⟩
theorem ok_over (F : FunD K "over" "Region.over" (defArgs s_Region_over) (defBody s_Region_over) (defScope s_Region_over) [] [] f fd) (G : Facts mg) (RC : RCls K CR) (C_checked_names : Cal P w K mg base 2 "checked_names" spChkNames []) (C_wider : Cal P w K mg base 3 "wider" (spWider C) []) (M_RegionK : MakK P w K mg base 6 "Region" CR (spRegion K CR C) 2 ["tables"] (fun vs zs => vs ++ zs)) :
    FnR P w K mg base CX0 8 f (fun vs H Q E => ∃ v rest, vs = v :: rest ∧ rest.length ≤ 3 ∧ ∀ p, H p = none → spOver CR C [v, .ref p] (upd H p (.tup rest)) Q E) :=
  FunD.okV F sc_Region_over (by decide) (fun kV doc pm an cdv ct u rest hl => by
    match rest, hl with
    | [], _ => rfl
    | [_], _ => rfl
    | [_, _], _ => rfl
    | [_, _, _], _ => rfl
    | _ :: _ :: _ :: _ :: _, h => simp at h) fun cdv A outer s H vs Q E hr h => body_over G RC C_checked_names C_wider M_RegionK f cdv A outer s H vs Q E hr h
end
end K1

/-! ### partial tables: a limit or none -/
namespace Df
variable {α : Type} [DecidableEq α]
abbrev OTab (α : Type) := α → α → Option Int
/-- a closed partial table over ns -/
structure Cl (ns : List α) (F : OTab α) : Prop where
  diag : ∀ u ∈ ns, F u u = some 0
  tri : ∀ u ∈ ns, ∀ w ∈ ns, ∀ v ∈ ns, ∀ a b, F u w = some a → F w v = some b → ∃ c, F u v = some c ∧ c ≤ a + b
def Le (F : OTab α) (u v : α) (c : Int) : Prop := ∃ c', F u v = some c' ∧ c' ≤ c
theorem Le.of {F : OTab α} {u v : α} {c : Int} (h : F u v = some c) : Le F u v c := ⟨c, h, Int.le_refl _⟩
theorem Le.up {F : OTab α} {u v : α} {c d : Int} (h : Le F u v c) (k : c ≤ d) : Le F u v d := h.imp fun _ q => ⟨q.1, Int.le_trans q.2 k⟩
theorem Cl.le {ns : List α} {F : OTab α} (h : Cl ns F) {u w v : α} (hu : u ∈ ns) (hw : w ∈ ns) (hv : v ∈ ns) {a b : Int} (h1 : Le F u w a) (h2 : Le F w v b) : Le F u v (a + b) := by
  obtain ⟨a', e1, l1⟩ := h1
  obtain ⟨b', e2, l2⟩ := h2
  obtain ⟨c, e3, l3⟩ := h.tri u hu w hw v hv a' b' e1 e2
  exact ⟨c, e3, by omega⟩
def Comp (S : List (Row α)) (F : OTab α) : Prop := ∀ e ∈ S, Le F e.1 e.2.1 e.2.2
/-- a walk is no less than the closed table's limit -/
theorem Cl.walk {ns : List α} {F : OTab α} (h : Cl ns F) {S : List (Row α)} (hS : Comp S F) (hin : ∀ e ∈ S, e.1 ∈ ns ∧ e.2.1 ∈ ns) {u v : α} {W : Int} (w : Wk S ns u v W) (hv : v ∈ ns) : Le F u v W := by
  induction w with
  | refl h' => exact .of (h.diag _ h')
  | @step u x v c W he hu _ ih => exact h.le hu (hin _ he).2 hv (hS _ he) (ih hv)
/-- the finite limits of a table over ns -/
def opt (ns : List α) (R : Tab α) : OTab α := fun u v => if u ∈ ns ∧ v ∈ ns ∧ R u v ≤ HALFI then some (R u v) else none
theorem opt_some {ns : List α} {R : Tab α} {u v : α} {c : Int} (h : opt ns R u v = some c) : u ∈ ns ∧ v ∈ ns ∧ R u v ≤ HALFI ∧ R u v = c := by
  unfold opt at h
  split at h
  · rename_i q
    exact ⟨q.1, q.2.1, q.2.2, Option.some.inj h⟩
  · cases h
theorem opt_fin {ns : List α} {R : Tab α} {u v : α} (hu : u ∈ ns) (hv : v ∈ ns) (h : R u v ≤ HALFI) : opt ns R u v = some (R u v) := if_pos ⟨hu, hv, h⟩
theorem opt_inf {ns : List α} {R : Tab α} {u v : α} (h : HALFI < R u v) : opt ns R u v = none := if_neg fun q => by have := q.2.2; omega
theorem Ok.cl {ns : List α} {B : Int} {S : List (Row α)} {R : Tab α} (h : Ok ns B S R) (hB : B ≤ 10 ^ 28) : Cl ns (opt ns R) where
  diag := fun u hu => by
    have := h.diag u hu
    rw [opt_fin hu hu (by rw [this]; decide), this]
  tri := fun u hu w hw v hv a b h1 h2 => by
    obtain ⟨_, _, f1, e1⟩ := opt_some h1
    obtain ⟨_, _, f2, e2⟩ := opt_some h2
    have b1 := h.fin hB hu hw f1
    have b2 := h.fin hB hw hv f2
    have t := h.tri u hu w hw v hv f1 f2
    exact ⟨R u v, opt_fin hu hv (by simp only [HALFI_eq]; omega), by omega⟩
/-! ### a closed table has a solution -/
def minL : List Int → Int := fun l => l.foldl min 0
theorem foldl_min (l : List Int) : ∀ a : Int, l.foldl min a ≤ a ∧ (∀ x ∈ l, l.foldl min a ≤ x) ∧ (l.foldl min a = a ∨ l.foldl min a ∈ l) := by
  induction l with
  | nil => intro a; exact ⟨Int.le_refl _, by simp, .inl rfl⟩
  | cons b l ih =>
    intro a
    obtain ⟨h1, h2, h3⟩ := ih (min a b)
    rw [List.foldl_cons]
    have m1 : min a b ≤ a := Int.min_le_left a b
    have m2 : min a b ≤ b := Int.min_le_right a b
    refine ⟨Int.le_trans h1 m1, fun x hx => ?_, ?_⟩
    · rcases List.mem_cons.mp hx with rfl | hx
      · exact Int.le_trans h1 m2
      · exact h2 x hx
    · rcases h3 with h3 | h3
      · rw [h3]
        rcases (show min a b = a ∨ min a b = b by omega) with e | e
        · exact .inl e
        · exact .inr (by rw [e]; exact List.mem_cons_self)
      · exact .inr (List.mem_cons_of_mem _ h3)
def pot (ns : List α) (F : OTab α) (u : α) : Int := minL (ns.filterMap (F u))
theorem Cl.solves {ns : List α} {F : OTab α} (h : Cl ns F) {S : List (Row α)} (hS : Comp S F) (hin : ∀ e ∈ S, e.1 ∈ ns ∧ e.2.1 ∈ ns) : Solves S (pot ns F) := fun e he => by
  obtain ⟨hl, hr⟩ := hin e he
  obtain ⟨d, e1, l1⟩ := hS e he
  have pl := foldl_min (ns.filterMap (F e.1)) 0
  have pr := foldl_min (ns.filterMap (F e.2.1)) 0
  have key : ∀ v x, v ∈ ns → F e.1 v = some x → pot ns F e.1 ≤ x := fun v x hv hx => pl.2.1 x (List.mem_filterMap.mpr ⟨v, hv, hx⟩)
  show pot ns F e.1 - pot ns F e.2.1 ≤ e.2.2
  rcases pr.2.2 with k | k
  · have k : pot ns F e.2.1 = 0 := k
    have := key _ _ hr e1
    omega
  · obtain ⟨v, hv, hx⟩ := List.mem_filterMap.mp k
    have hx : F e.2.1 v = some (pot ns F e.2.1) := hx
    obtain ⟨c, e3, l3⟩ := h.tri _ hl _ hr _ hv _ _ e1 hx
    have := key _ _ hv e3
    omega
/-! ### the table by middles -/
def relax (F : OTab α) (u v : α) (c : Int) : OTab α := fun x y => if x = u ∧ y = v then (match F u v with | some d => if c < d then some c else some d | none => some c) else F x y
theorem relax_same (F : OTab α) (u v : α) (c : Int) : Le (relax F u v c) u v c := by
  unfold Le relax
  rw [if_pos ⟨rfl, rfl⟩]
  cases F u v with
  | none => exact ⟨c, rfl, Int.le_refl _⟩
  | some d =>
    show ∃ c', (if c < d then some c else some d) = some c' ∧ c' ≤ c
    split
    · exact ⟨c, rfl, Int.le_refl _⟩
    · exact ⟨d, rfl, by omega⟩
theorem relax_cases (F : OTab α) (u v : α) (c : Int) {x y : α} {d : Int} (h : relax F u v c x y = some d) : F x y = some d ∨ (x = u ∧ y = v ∧ d = c) := by
  unfold relax at h
  split at h
  · rename_i q
    obtain ⟨rfl, rfl⟩ := q
    revert h
    cases hF : F x y with
    | none => intro h; exact .inr ⟨rfl, rfl, (Option.some.inj h).symm⟩
    | some d' =>
      show (if c < d' then some c else some d') = some d → _
      split
      · intro h; exact .inr ⟨rfl, rfl, (Option.some.inj h).symm⟩
      · intro h; exact .inl h
  · exact .inl h
def Mono (F G : OTab α) : Prop := ∀ u v c, F u v = some c → Le G u v c
theorem Mono.refl (F : OTab α) : Mono F F := fun _ _ _ h => .of h
theorem Mono.le {F G : OTab α} (h : Mono F G) {u v : α} {c : Int} (k : Le F u v c) : Le G u v c := by
  obtain ⟨c', e, l⟩ := k
  exact (h _ _ _ e).up l
theorem Mono.trans {F G K : OTab α} (h : Mono F G) (k : Mono G K) : Mono F K := fun u v c e => k.le (h u v c e)
theorem relax_mono (F : OTab α) (u v : α) (c : Int) : Mono F (relax F u v c) := fun x y d h => by
  by_cases q : x = u ∧ y = v
  · obtain ⟨rfl, rfl⟩ := q
    unfold Le relax
    rw [if_pos ⟨rfl, rfl⟩, h]
    show ∃ c', (if c < d then some c else some d) = some c' ∧ c' ≤ d
    split
    · exact ⟨c, rfl, by omega⟩
    · exact ⟨d, rfl, Int.le_refl _⟩
  · refine ⟨d, ?_, Int.le_refl _⟩
    unfold relax
    rw [if_neg q]
    exact h
/-- every limit is that of a walk -/
def Snd (ns : List α) (S : List (Row α)) (F : OTab α) : Prop := ∀ u v c, F u v = some c → u ∈ ns ∧ v ∈ ns ∧ Wk S ns u v c
theorem Snd.relax {ns : List α} {S : List (Row α)} {F : OTab α} (h : Snd ns S F) {u v : α} {c : Int} (hu : u ∈ ns) (hv : v ∈ ns) (w : Wk S ns u v c) : Snd ns S (relax F u v c) := fun x y d e => by
  rcases relax_cases F u v c e with k | ⟨rfl, rfl, rfl⟩
  · exact h x y d k
  · exact ⟨hu, hv, w⟩
def Dg (ns : List α) (F : OTab α) : Prop := ∀ u ∈ ns, ∃ d, F u u = some d ∧ d ≤ 0
theorem Dg.mono {ns : List α} {F G : OTab α} (h : Dg ns F) (m : Mono F G) : Dg ns G := fun u hu => by
  obtain ⟨d, e, l⟩ := h u hu
  obtain ⟨d', e', l'⟩ := m _ _ _ e
  exact ⟨d', e', by omega⟩
theorem Comp.mono {S : List (Row α)} {F G : OTab α} (h : Comp S F) (m : Mono F G) : Comp S G := fun e he => m.le (h e he)
def Zero (ns : List α) (F : OTab α) : Prop := ∀ u ∈ ns, F u u = some 0
theorem Zero.back {ns : List α} {F G : OTab α} (h : Zero ns G) (d : Dg ns F) (m : Mono F G) : Zero ns F := fun u hu => by
  obtain ⟨x, e, l⟩ := d u hu
  obtain ⟨y, e2, l2⟩ := m _ _ _ e
  rw [h u hu] at e2
  cases e2
  rw [e]
  congr 1
  omega
def CloM (ns M : List α) (F : OTab α) : Prop := ∀ k ∈ M, ∀ u ∈ ns, ∀ v ∈ ns, ∀ a b, F u k = some a → F k v = some b → Le F u v (a + b)
/-- within the phase of the middle m: F the table at its start, G the present one -/
structure Ph (ns : List α) (S : List (Row α)) (m : α) (F G : OTab α) : Prop where
  snd : Snd ns S G
  mono : Mono F G
  lo : F m m = some 0 → ∀ u v c, G u v = some c → Le F u v c ∨ ∃ a b, F u m = some a ∧ F m v = some b ∧ a + b ≤ c
theorem Ph.start {ns : List α} {S : List (Row α)} {m : α} {F : OTab α} (h : Snd ns S F) : Ph ns S m F F := ⟨h, Mono.refl F, fun _ u v c e => .inl (.of e)⟩
/-- first: the limit from u to the middle, as it was read some time -/
def Rd1 (ns : List α) (S : List (Row α)) (m : α) (F : OTab α) (u : α) (first : Int) : Prop := u ∈ ns ∧ Wk S ns u m first ∧ (F m m = some 0 → Le F u m first)
theorem Ph.rd {ns : List α} {S : List (Row α)} {m : α} {F G : OTab α} (h : Ph ns S m F G) {u : α} {x : Int} (e : G u m = some x) : Rd1 ns S m F u x := by
  obtain ⟨hu, hm, w⟩ := h.snd _ _ _ e
  refine ⟨hu, w, fun z => ?_⟩
  rcases h.lo z _ _ _ e with k | ⟨a, b, e1, e2, l⟩
  · exact k
  · rw [z] at e2
    cases e2
    exact ⟨a, e1, by omega⟩
theorem Ph.step {ns : List α} {S : List (Row α)} {m : α} {F G : OTab α} (h : Ph ns S m F G) {u v : α} {x y : Int} (r : Rd1 ns S m F u x) (e : G m v = some y) : Ph ns S m F (relax G u v (x + y)) := by
  obtain ⟨hu, w, l⟩ := r
  obtain ⟨hm, hv, w2⟩ := h.snd _ _ _ e
  refine ⟨h.snd.relax hu hv (w.app w2), h.mono.trans (relax_mono _ _ _ _), fun z p q c k => ?_⟩
  rcases relax_cases _ _ _ _ k with k | ⟨rfl, rfl, rfl⟩
  · exact h.lo z _ _ _ k
  · right
    obtain ⟨a, e1, l1⟩ := l z
    rcases h.lo z _ _ _ e with ⟨b, e2, l2⟩ | ⟨a2, b, e2, e3, l2⟩
    · exact ⟨a, b, e1, e2, by omega⟩
    · rw [z] at e2
      cases e2
      exact ⟨a, b, e1, e3, by omega⟩
/-- what stands between two phases -/
structure Fw (ns : List α) (S : List (Row α)) (M : List α) (F : OTab α) : Prop where
  snd : Snd ns S F
  dg : Dg ns F
  cmp : Comp S F
  clo : Zero ns F → CloM ns M F
theorem Fw.next {ns : List α} {S : List (Row α)} {M : List α} {m : α} {F G : OTab α} (h : Fw ns S M F) (hm : m ∈ ns) (hM : ∀ k ∈ M, k ∈ ns) (p : Ph ns S m F G) (hd : ∀ u ∈ ns, ∀ v ∈ ns, ∀ a b, F u m = some a → F m v = some b → Le G u v (a + b)) : Fw ns S (M ++ [m]) G := by
  refine ⟨p.snd, h.dg.mono p.mono, h.cmp.mono p.mono, fun z k hk u hu v hv a b e1 e2 => ?_⟩
  have zF := z.back h.dg p.mono
  have zm := zF m hm
  have c := h.clo zF
  have l1 := p.lo zm _ _ _ e1
  have l2 := p.lo zm _ _ _ e2
  rcases List.mem_append.mp hk with hk | hk
  · have hkn := hM k hk
    rcases l1 with ⟨a1, f1, g1⟩ | ⟨a1, b1, f1, f1', g1⟩ <;> rcases l2 with ⟨a2, f2, g2⟩ | ⟨a2, b2, f2, f2', g2⟩
    · exact (p.mono.le (c k hk u hu v hv _ _ f1 f2)).up (by omega)
    · obtain ⟨x, ex, lx⟩ := c k hk u hu m hm _ _ f1 f2
      exact (hd u hu v hv _ _ ex f2').up (by omega)
    · obtain ⟨x, ex, lx⟩ := c k hk m hm v hv _ _ f1' f2
      exact (hd u hu v hv _ _ f1 ex).up (by omega)
    · obtain ⟨x, ex, lx⟩ := c k hk m hm m hm _ _ f1' f2
      rw [zm] at ex
      cases ex
      exact (hd u hu v hv _ _ f1 f2').up (by omega)
  · rw [List.mem_singleton.mp hk] at e1 e2 l1 l2
    have k1 : Le F u m a := by
      rcases l1 with l1 | ⟨x, y, f1, f2, g⟩
      · exact l1
      · rw [zm] at f2
        cases f2
        exact ⟨x, f1, by omega⟩
    have k2 : Le F m v b := by
      rcases l2 with l2 | ⟨x, y, f1, f2, g⟩
      · exact l2
      · rw [zm] at f1
        cases f1
        exact ⟨y, f2, by omega⟩
    obtain ⟨x, f1, g1⟩ := k1
    obtain ⟨y, f2, g2⟩ := k2
    exact (hd u hu v hv _ _ f1 f2).up (by omega)
theorem Fw.cl {ns : List α} {S : List (Row α)} {F : OTab α} (h : Fw ns S ns F) (z : Zero ns F) : Cl ns F := ⟨z, fun u hu w hw v hv a b e1 e2 => h.clo z w hw u hu v hv a b e1 e2⟩
theorem Fw.neg {ns : List α} {S : List (Row α)} {M : List α} {F : OTab α} (h : Fw ns S M F) {u : α} {d : Int} (e : F u u = some d) (hd : d < 0) (p : α → Int) : ¬ Solves S p := fun hp => by
  have := (h.snd _ _ _ e).2.2.point hp
  omega
/-- the law's table is the package's -/
theorem Fw.eq {ns : List α} {S : List (Row α)} {F : OTab α} (h : Fw ns S ns F) (z : Zero ns F) {L : Int} (fit : Fit ns S L) {R : Tab α} (e : addedR blankR S = some R) {p : α → Int} (hp : Solves S p) (hL : (ns.length : Int) * L ≤ 10 ^ 28) : opt ns R = F := by
  obtain ⟨ok, wk⟩ := fit.some e
  have cl := h.cl z
  have hin : ∀ e ∈ S, e.1 ∈ ns ∧ e.2.1 ∈ ns := fun e he => ⟨(fit.ins e he).1, (fit.ins e he).2.1⟩
  have up : ∀ u v c, F u v = some c → ∃ c', opt ns R u v = some c' ∧ c' ≤ c := fun u v c k => by
    obtain ⟨hu, hv, w⟩ := h.snd _ _ _ k
    cases hn : ns.length with
    | zero => rw [List.length_eq_zero_iff.mp hn] at hu; cases hu
    | succ n =>
      rw [hn] at hL
      obtain ⟨W', k1, k2, k3, k4⟩ := ok.short hp fit.ins fit.nn n ns (by omega) (by rw [show ((n : Int) + 1) = ((n + 1 : Nat) : Int) by omega]; exact hL) (fun x hx => hx) hv w
      have e1 : ((n + 1 : Nat) : Int) * L = (n : Int) * L + L := by rw [show ((n + 1 : Nat) : Int) = (n : Int) + 1 by omega, Int.add_mul, Int.one_mul]
      have h0 := fit.nn
      exact ⟨R u v, opt_fin hu hv (by simp only [HALFI_eq]; omega), by omega⟩
  funext u v
  cases hF : F u v with
  | some c =>
    obtain ⟨c', e1, l1⟩ := up u v c hF
    obtain ⟨hu, hv, f, e2⟩ := opt_some e1
    obtain ⟨c2, e3, l3⟩ := cl.walk h.cmp hin (wk u hu v hv f) hv
    rw [hF] at e3
    cases e3
    rw [e1]
    congr 1
    omega
  | none =>
    cases ho : opt ns R u v with
    | none => rfl
    | some c =>
      obtain ⟨hu, hv, f, e2⟩ := opt_some ho
      obtain ⟨c2, e3, _⟩ := cl.walk h.cmp hin (wk u hu v hv f) hv
      rw [hF] at e3
      cases e3
end Df

namespace K1
open PySem PySem.Spec PyProof.Rows L2 Ls
/-! ### what the script draws -/
theorem SqL.mono {K : PySem.W.Frag} {H H' : Hp} (s : Same H H') {a : Addr} {xs : List V} (h : SqL K H a xs) : SqL K H' a xs := by
  rcases h with h | h
  · rcases h with h | ⟨o, h⟩
    · exact .inl (.inl (s _ _ h))
    · exact .inl (.inr ⟨o, s _ _ h⟩)
  · exact .inr h
def Scr (K : PySem.W.Frag) (H : Hp) (a : Addr) (ns : List Int) : Prop := SqL K H a (ns.map V.int) ∧ ns.length ≤ 1000
theorem Scr.mono {K : PySem.W.Frag} {H H' : Hp} (s : Same H H') {a : Addr} {ns : List Int} (h : Scr K H a ns) : Scr K H' a ns := ⟨SqL.mono s h.1, h.2⟩
def spDraw (K : PySem.W.Frag) : Sp := fun vs H Q _ => ∃ (a : Addr) (ns : List Int) (at_ many : Int), vs = [.ref a, .int at_, .int many] ∧ Scr K H a ns ∧ 0 < many ∧ ∀ H' d, Same H H' → 0 ≤ d → d < many → Q (.int d) H'
theorem dpInts (K : PySem.W.Frag) (H : Hp) : ∀ ns : List Int, DpAll K H (ns.map V.int) (ns.map PyData.int)
  | [] => .nil
  | n :: ns => .cons (.int n) (dpInts K H ns)
theorem eqv_nil (ns : List Int) : PyData.eqv (.list (ns.map PyData.int)) (.list []) = ns.isEmpty := by
  cases ns with
  | nil => simp [PyData.eqv, PyData.eqvAll]
  | cons n ns => simp [PyData.eqv, PyData.eqvAll]
theorem cut60 (ns : List Int) : cutV (ns.map V.int) none (some 60) = (ns.take 60).map V.int := by
  unfold cutV
  have h1 : HT.sIx (ns.map V.int).length (ns.map V.int).length (some 60) = min 60 (ns.map V.int).length := by
    have := HT.sIx_nat (ns.map V.int).length (ns.map V.int).length 60
    rw [show (some (60 : Int)) = some ((60 : Nat) : Int) from rfl, this]
  rw [h1, HT.sIx_none, List.drop_zero, Nat.sub_zero, List.map_take]
  rw [← List.take_eq_take_min]
section
variable {P : Program} {w : World} {K : PySem.W.Frag} {mg : Str → Option Value} {base : Heap} {f C : Addr} {fd : FuncData} {k : Nat}
theorem sc_u_law_draw : FnScope ["script", "at", "many", "row", "cell", "turn", "step", "mixed"] ["script", "at", "many"] (defScope s_u_law_draw) := ⟨rfl, rfl, rfl, by decide +kernel, rfl, by decide +kernel, by decide +kernel⟩
theorem ok_draw (F : FnP K "_law_draw" s_u_law_draw [] f fd) (G : Facts mg) : FnOk P w K mg base CX0 1 f fd ["script", "at", "many"] (spDraw K) := by
  refine F.ok sc_u_law_draw (fun vs H Q E h => ?_) (fun cdv A outer s H vs Q E hr h => ?_)
  · obtain ⟨a, ns, at_, many, rfl, _⟩ := h
    rfl
  · obtain ⟨a, ns, at_, many, rfl, ⟨hS, hlen⟩, hm, hk⟩ := h
    have hu := hu_of hr
    refine ⟨_, PSs.nox (pss_cons (ps_set (i := 3) sc_u_law_draw.nd rfl (.inl rfl) (pe_ifExp (pt_cmpR (kNeD K hr.units) (pv 0) (pe_lst pa_nil) (nomark _)) (pe_slice (kSlL K) (pv 0) po_none (po_some pe_int)) (pe_lst (pa_cons pe_int pa_nil))))
      (pss_cons (ps_par (i := 4) (j := 5) (by rfl) sc_u_law_draw.nd rfl rfl (by decide) rfl rfl (pa_cons (pe_ix (kIxL K) (pv 3) (pe_op op_mod (pv 1) (pe_callB (kLen K) (by rfl) G.len_ PySem.boot_len (pa_cons (pv 3) pa_nil))) (fun _ _ => rfl)) (pa_cons (pe_op op_fdiv (pv 1) (pe_callB (kLen K) (by rfl) G.len_ PySem.boot_len (pa_cons (pv 3) pa_nil))) pa_nil)) (by rfl))
      (pss_cons (ps_if (pt_cmpR op_ge (pv 4) (pe_op op_pow pe_int pe_int) (nomark _)) (pss_cons (ps_set (i := 4) sc_u_law_draw.nd rfl (.inl rfl) (pe_op op_mod (pe_callTy call_int1 (by rfl) G.int_ (by decide +kernel) (pa_cons (pv 4) pa_nil)) (pe_op op_pow pe_int pe_int)))
        (pss_cons (ps_for PassesOwn.never rfl (pi_range1 (by rfl) G.range_ (pa_cons (pe_op op_mod (pv 5) pe_int) pa_nil)) (pg_name (i := 6) sc_u_law_draw.nd rfl (by first | exact .inl rfl | exact .inr rfl))
          (pss_one (ps_set (i := 4) sc_u_law_draw.nd rfl (.inl rfl) (pe_op op_fdiv (pv 4) pe_int))))
        (pss_one (ps_ret (pe_op op_mod (pe_op op_mod (pe_callTy call_int1 (by rfl) G.int_ (by decide +kernel) (pa_cons (pv 4) pa_nil)) pe_int) (pv 2)))))) pss_nil)
      (pss_cons (ps_set (i := 7) sc_u_law_draw.nd rfl (.inl rfl) (pe_op op_add (pe_op op_mul (pe_op op_add (pe_op op_add (pe_op op_mod (pe_callTy call_int1 (by rfl) G.int_ (by decide +kernel) (pa_cons (pe_op op_add (pv 4) (pe_op op_mul pe_int (pv 5))) pa_nil)) pe_int) (pe_op op_mul pe_int (pv 1))) pe_int) pe_int) (pe_op op_mod (pe_callTy call_int1 (by rfl) G.int_ (by decide +kernel) (pa_cons (pe_op op_fdiv (pv 4) pe_int) pa_nil)) pe_int)))
      (pss_one (ps_ret (pe_op op_mod (pe_callTy call_int1 (by rfl) G.int_ (by decide +kernel) (pa_cons (pe_op op_mod (pe_op op_mul (pe_op op_mod (pv 7) pe_int) pe_int) pe_int) pa_nil)) (pv 2)))))))), ?_⟩
    refine ⟨_, rfl, by show 0 ≤ sizeLine; decide, fun p np => ?_⟩
    have s1 := same_upd np (o := .lst [])
    refine ⟨_, _, .lst (SqL.mono s1 hS) (dpInts K _ ns), .lst (sq upd_same) .nil, PySem.W.shaped_ints ns, rfl, _, rfl, ?_⟩
    rw [eqv_nil]
    by_cases he : ns = []
    case' pos =>
      subst he
      refine iteF ⟨by show 1 ≤ sizeLine; decide, fun b nb => ?_⟩
      have sH := s1.trans (same_upd nb (o := .lst [.int 7]))
      have hb : (upd (upd H p (.lst [])) b (.lst [.int 7])) b = some (.lst (([7] : List Int).map V.int)) := upd_same
      have hne : ([7] : List Int) ≠ [] := by decide
      have hl : ([7] : List Int).length ≤ 60 := by decide
      generalize upd (upd H p (.lst [])) b (.lst [.int 7]) = H1 at sH hb ⊢
      generalize ([7] : List Int) = row at hb hne hl
    case' neg =>
      rw [show (!ns.isEmpty) = true by cases ns with | nil => exact absurd rfl he | cons _ _ => rfl]
      refine iteT ⟨_, rfl, _, rfl, a, _, rfl, SqL.mono s1 hS, fun b nb => ?_⟩
      rw [cut60]
      have sH := s1.trans (same_upd nb (o := .lst ((ns.take 60).map V.int)))
      have hb : (upd (upd H p (.lst [])) b (.lst ((ns.take 60).map V.int))) b = some (.lst ((ns.take 60).map V.int)) := upd_same
      have hne : ns.take 60 ≠ [] := by
        cases ns with
        | nil => exact absurd rfl he
        | cons _ _ => simp
      have hl : (ns.take 60).length ≤ 60 := by rw [List.length_take]; omega
      generalize upd (upd H p (.lst [])) b (.lst ((ns.take 60).map V.int)) = H1 at sH hb ⊢
      generalize ns.take 60 = row at hb hne hl
    all_goals
      have hl0 : (0 : Int) < (row.length : Int) := by
        cases row with
        | nil => exact absurd rfl hne
        | cons _ _ => simp
      have hlm : (row.map V.int).length = row.length := List.length_map _
      have m1 := Int.emod_nonneg at_ (b := (row.length : Int)) (by omega)
      have m2 := Int.emod_lt_of_pos at_ hl0
      obtain ⟨m, hm1, hm2⟩ : ∃ m : Nat, at_ % (row.length : Int) = (m : Int) ∧ m < row.length := ⟨(at_ % (row.length : Int)).toNat, by omega, by omega⟩
      have hat : atI (row.map V.int) (at_ % (row.length : Int)) = some (.int row[m]) := by
        rw [hm1]
        exact atI_nat (by rw [List.getElem?_map, List.getElem?_eq_getElem hm2]; rfl)
      refine ⟨_, rfl, _, rfl, _, rfl, b, _, rfl, .inl (sq hb), ?_⟩
      rw [hlm]
      refine ⟨_, _, rfl, rfl, hl0, b, _, _, _, rfl, rfl, sq hb, hat, ?_⟩
      refine ⟨_, rfl, _, rfl, b, _, rfl, .inl (sq hb), ?_⟩
      rw [hlm]
      refine ⟨_, _, rfl, rfl, ⟨hl0, by omega⟩, ?_⟩
      generalize row[m] = cell
      refine ⟨_, _, rfl, ?_⟩
      refine ⟨_, rfl, _, _, rfl, rfl, ⟨by decide, by decide, by decide⟩, _, _, rfl, rfl, _, rfl, ?_⟩
      by_cases hc : (10 : Int) ^ (18 : Int).toNat ≤ cell
      · rw [decide_eq_true hc]
        refine iteT ⟨_, rfl, .inl ⟨_, rfl, _, _, rfl, rfl, ⟨by decide, by decide, by decide⟩, _, _, rfl, rfl, ?_, ?_⟩⟩
        · exact Int.pow_pos (by decide)
        have t1 := Int.emod_nonneg (at_ / (row.length : Int)) (b := 40) (by decide)
        have t2 := Int.emod_lt_of_pos (at_ / (row.length : Int)) (b := 40) (by decide)
        refine ⟨_, rfl, _, _, rfl, rfl, (by decide : (0 : Int) < 40), at_ / (row.length : Int) % 40, rfl, by omega, by omega, ?_⟩
        refine for_it (walk_range (lo := 0) (n := (at_ / (row.length : Int) % 40).toNat)) (fun i σ H' => ∃ c x6, H' = H1 ∧ σ = [some (.ref a), some (.int at_), some (.int many), some (.ref b), some (.int c), some (.int (at_ / (row.length : Int))), x6, none]) ⟨_, _, rfl, rfl⟩ (fun _ _ _ _ _ => True.intro) ?_ ?_
        · rintro i x σ H9 H' hi ⟨c, x6, rfl, rfl⟩ ⟨rfl, rfl⟩
          exact ⟨_, rfl, _, _, rfl, rfl, ⟨by decide, by decide⟩, _, _, rfl, rfl⟩
        · rintro σ H' ⟨c, x6, rfl, rfl⟩
          refine ⟨_, rfl, .inl ⟨_, rfl, _, _, rfl, rfl, (by decide : (0 : Int) < 97), _, rfl, _, _, rfl, rfl, hm, ?_⟩⟩
          exact hk _ _ sH (Int.emod_nonneg _ (by omega)) (Int.emod_lt_of_pos _ hm)
      · rw [decide_eq_false hc]
        refine iteF ?_
        refine ⟨_, rfl, _, rfl, _, _, rfl, rfl, .inl ⟨by decide, by decide⟩, _, _, rfl, rfl, .inl ⟨_, rfl, _, _, rfl, rfl, (by decide : (0 : Int) < 1000003), _, rfl, _, _, rfl, rfl, .inl ⟨by decide, by decide⟩, _, _, rfl, rfl, _, _, rfl, rfl, _, _, rfl, rfl, .inr ⟨by decide, by decide⟩, _, rfl, _, _, rfl, rfl, ⟨by decide, by decide⟩, .inl ⟨_, rfl, _, _, rfl, rfl, (by decide : (0 : Int) < 999983), _, _, rfl, rfl, ?_⟩⟩⟩
        refine ⟨_, rfl, _, _, rfl, rfl, (by decide : (0 : Int) < 2147483647), _, _, rfl, rfl, .inr ⟨by decide, by decide⟩, _, _, rfl, rfl, (by decide : (0 : Int) < 4294967291), .inl ⟨_, rfl, _, rfl, _, _, rfl, rfl, hm, ?_⟩⟩
        exact hk _ _ sH (Int.emod_nonneg _ (by omega)) (Int.emod_lt_of_pos _ hm)
end
end K1

namespace K1
open PySem PySem.Spec PyProof.Rows L2 Ls
/-! ### the law's drawn names and systems -/
def pools : List (List Str) := [["a", "b", "c", "d"], ["z", "Z9", "00", " "], ["n", "n1", "m", "long name"], ["x", "xx", "xxx", "y"]]
theorem pools_ok : ∀ ks ∈ pools, (("0" : Str) :: (ks ++ (["new", "old"] : List Str))).Nodup ∧ ("" : Str) ∉ ks ∧ ks.length = 4 := by decide +kernel
def spPool (K : PySem.W.Frag) : Sp := fun vs H Q _ => ∃ (a : Addr) (ns : List Int) (at_ : Int), vs = [.ref a, .int at_] ∧ Scr K H a ns ∧ ∀ H' t ks, Same H H' → ks ∈ pools → H' t = some (.tup (ks.map V.str)) → Q (.ref t) H'
/-- a system as the law draws it -/
structure DrawnS (names : List Str) (S : List Df3) : Prop where
  ends : ∀ e ∈ S, e.1 ∈ ("0" : Str) :: names ∧ e.2.1 ∈ ("0" : Str) :: names ∧ e.1 ≠ e.2.1
  lim : ∀ e ∈ S, -5000000000000000 ≤ e.2.2 ∧ e.2.2 ≤ 5000000000000000
def spSystem (K : PySem.W.Frag) : Sp := fun vs H Q _ => ∃ (a t : Addr) (ns : List Int) (at_ most : Int) (names : List Str), vs = [.ref a, .int at_, .ref t, .int most] ∧ Scr K H a ns ∧ H t = some (.tup (names.map V.str)) ∧ (("0" : Str) :: names).Nodup ∧ 1 ≤ names.length ∧ names.length ≤ 10 ∧ 0 ≤ most ∧ most ≤ 20 ∧
  ∀ H' b S, H b = none → Same H H' → SysAt H' b S → DrawnS names S → (S.length : Int) ≤ most → Q (.ref b) H'
def spWorth : Sp := fun vs H Q _ => ∃ (n : Str) (d : Addr) (ks : List Str) (x : Str → Int), vs = [.str n, .ref d] ∧ H d = some (.dK (ptV ks x)) ∧ n ∈ ("0" : Str) :: ks ∧ Q (.int (Df.pt0 ("0" : Str) x n)) H
def spSolves : Sp := fun vs H Q _ => ∃ (a d : Addr) (S : List Df3) (ks : List Str) (x : Str → Int), vs = [.ref a, .ref d] ∧ SysAt H a S ∧ H d = some (.dK (ptV ks x)) ∧ (∀ e ∈ S, e.1 ∈ ("0" : Str) :: ks ∧ e.2.1 ∈ ("0" : Str) :: ks) ∧ ∀ b, (b = true ↔ Df.Solves S (Df.pt0 ("0" : Str) x)) → Q (.bl b) H
theorem other_ne {n one d : Int} (h0 : 0 ≤ one) (h1 : one < n) (d0 : 0 ≤ d) (d1 : d < n - 1) : (one + 1 + d) % n ≠ one := fun e => by
  by_cases h : one + 1 + d < n
  · rw [Int.emod_eq_of_lt (by omega) h] at e; omega
  · have : (one + 1 + d) % n = one + 1 + d - n := by
      rw [show one + 1 + d = (one + 1 + d - n) + n by omega, Int.add_emod_right, Int.emod_eq_of_lt (by omega) (by omega)]
      omega
    omega
theorem nth_of {α : Type} {xs : List α} {i : Int} (h0 : 0 ≤ i) (h1 : i < (xs.length : Int)) : ∃ m : Nat, i = (m : Int) ∧ m < xs.length := ⟨i.toNat, by omega, by omega⟩
section
variable {P : Program} {w : World} {K : PySem.W.Frag} {mg : Str → Option Value} {base : Heap} {f C : Addr} {fd : FuncData} {k : Nat}
theorem sc_u_law_pool : FnScope ["script", "at"] ["script", "at"] (defScope s_u_law_pool) := ⟨rfl, rfl, rfl, by decide +kernel, rfl, by decide +kernel, by decide +kernel⟩
theorem ok_pool (F : FnP K "_law_pool" s_u_law_pool [] f fd) (G : Facts mg) (C_u_law_draw : Cal P w K mg base 1 "_law_draw" (spDraw K) []) : FnOk P w K mg base CX0 2 f fd ["script", "at"] (spPool K) := by
  refine F.ok sc_u_law_pool (fun vs H Q E h => ?_) (fun cdv A outer s H vs Q E hr h => ?_)
  · obtain ⟨a, ns, at_, rfl, _⟩ := h
    rfl
  · obtain ⟨a, ns, at_, rfl, hS, hk⟩ := h
    have hu := hu_of hr
    refine ⟨_, PSs.nox (pss_one (ps_ret (pe_ix (kIxT K) (pe_tup (pa_cons (pe_tup (pa_cons pe_str (pa_cons pe_str (pa_cons pe_str (pa_cons pe_str pa_nil))))) (pa_cons (pe_tup (pa_cons pe_str (pa_cons pe_str (pa_cons pe_str (pa_cons pe_str pa_nil))))) (pa_cons (pe_tup (pa_cons pe_str (pa_cons pe_str (pa_cons pe_str (pa_cons pe_str pa_nil))))) (pa_cons (pe_tup (pa_cons pe_str (pa_cons pe_str (pa_cons pe_str (pa_cons pe_str pa_nil))))) pa_nil))))) (pe_c C_u_law_draw hr (by decide) (by rfl) (pa_cons (pv 0) (pa_cons (pv 1) (pa_cons pe_int pa_nil)))) (fun _ _ => rfl)))), ?_⟩
    refine ⟨by show 4 ≤ sizeLine; decide, fun p1 n1 => ?_⟩
    have s1 := same_upd n1 (o := .tup [.str "a", .str "b", .str "c", .str "d"])
    have h1 : (upd H p1 (.tup [.str "a", .str "b", .str "c", .str "d"])) p1 = some (.tup ((["a", "b", "c", "d"] : List Str).map V.str)) := upd_same
    refine ⟨by show 4 ≤ sizeLine; decide, fun p2 n2 => ?_⟩
    have s2 := same_upd n2 (o := .tup [.str "z", .str "Z9", .str "00", .str " "])
    refine ⟨by show 4 ≤ sizeLine; decide, fun p3 n3 => ?_⟩
    have s3 := same_upd n3 (o := .tup [.str "n", .str "n1", .str "m", .str "long name"])
    refine ⟨by show 4 ≤ sizeLine; decide, fun p4 n4 => ?_⟩
    have s4 := same_upd n4 (o := .tup [.str "x", .str "xx", .str "xxx", .str "y"])
    refine ⟨by show 4 ≤ sizeLine; decide, fun p n => ?_⟩
    have s5 := same_upd n (o := .tup [.ref p1, .ref p2, .ref p3, .ref p4])
    have sA := s1.trans (s2.trans (s3.trans (s4.trans s5)))
    refine ⟨_, rfl, _, rfl, a, ns, _, 4, rfl, hS.mono sA, by decide, fun H' d s6 d0 d4 => ?_⟩
    have sB := sA.trans s6
    have g1 := s6 _ _ (s5 _ _ (s4 _ _ (s3 _ _ (s2 _ _ h1))))
    have g2 := s6 _ _ (s5 _ _ (s4 _ _ (s3 _ _ (upd_same (a := p2)))))
    have g3 := s6 _ _ (s5 _ _ (s4 _ _ (upd_same (a := p3))))
    have g4 := s6 _ _ (s5 _ _ (upd_same (a := p4)))
    have g5 := s6 _ _ (upd_same (a := p))
    have c : d = 0 ∨ d = 1 ∨ d = 2 ∨ d = 3 := by omega
    rcases c with rfl | rfl | rfl | rfl
    · exact ⟨p, _, _, .ref p1, rfl, rfl, sqt g5, rfl, hk H' p1 _ sB (by decide +kernel) g1⟩
    · exact ⟨p, _, _, .ref p2, rfl, rfl, sqt g5, rfl, hk H' p2 ["z", "Z9", "00", " "] sB (by decide +kernel) g2⟩
    · exact ⟨p, _, _, .ref p3, rfl, rfl, sqt g5, rfl, hk H' p3 ["n", "n1", "m", "long name"] sB (by decide +kernel) g3⟩
    · exact ⟨p, _, _, .ref p4, rfl, rfl, sqt g5, rfl, hk H' p4 ["x", "xx", "xxx", "y"] sB (by decide +kernel) g4⟩
theorem sc_u_law_worth : FnScope ["name", "point"] ["name", "point"] (defScope s_u_law_worth) := ⟨rfl, rfl, rfl, by decide +kernel, rfl, by decide +kernel, by decide +kernel⟩
theorem ok_worth (F : FnP K "_law_worth" s_u_law_worth [] f fd) (G : Facts mg) : FnOk P w K mg base CX0 1 f fd ["name", "point"] spWorth := by
  refine F.ok sc_u_law_worth (fun vs H Q E h => ?_) (fun cdv A outer s H vs Q E hr h => ?_)
  · obtain ⟨n, d, ks, x, rfl, _⟩ := h
    rfl
  · obtain ⟨n, d, ks, x, rfl, hd, hn, hk⟩ := h
    have hu := hu_of hr
    refine ⟨_, PSs.nox (pss_one (ps_ret (pe_ifExp (pt_cmpR op_eq (pv 0) pe_str (nomark _)) pe_int (pe_dget hu (pv 1) (pv 0) (fun _ _ => rfl))))), ?_⟩
    refine ⟨_, rfl, rfl, _, rfl, ?_⟩
    unfold Df.pt0 at hk
    by_cases h0 : n = "0"
    · rw [show decide (V.str n = V.str "0") = true by rw [h0]; exact decide_eq_true rfl]
      rw [if_pos h0] at hk
      exact iteT hk
    · rw [show decide (V.str n = V.str "0") = false from decide_eq_false fun e => h0 (by injection e)]
      rw [if_neg h0] at hk
      have hn2 : n ∈ ks := (List.mem_cons.mp hn).resolve_left h0
      exact iteF ⟨_, rfl, _, rfl, d, _, rfl, dget hd (valV_tab_in hn2), hk⟩
theorem sc_u_law_solves : FnScope ["system", "point", "left", "right", "limit"] ["system", "point"] (defScope s_u_law_solves) := ⟨rfl, rfl, rfl, by decide +kernel, rfl, by decide +kernel, by decide +kernel⟩
theorem ok_solves (F : FnP K "_law_solves" s_u_law_solves [] f fd) (G : Facts mg) (C_u_law_worth : Cal P w K mg base 1 "_law_worth" spWorth []) : FnOk P w K mg base CX0 2 f fd ["system", "point"] spSolves := by
  refine F.ok sc_u_law_solves (fun vs H Q E h => ?_) (fun cdv A outer s H vs Q E hr h => ?_)
  · obtain ⟨a, d, S, ks, x, rfl, _⟩ := h
    rfl
  · obtain ⟨a, d, S, ks, x, rfl, ⟨vs, ha, hvs⟩, hd, hin, hk⟩ := h
    have hu := hu_of hr
    refine ⟨_, PSs.nox (pss_cons (ps_for PassesOwn.never rfl (kpi_list K (pv 0)) (kpg_tup K rfl (pgs_cons (pg_name (i := 2) sc_u_law_solves.nd rfl (by first | exact .inl rfl | exact .inr rfl)) (pgs_cons (pg_name (i := 3) sc_u_law_solves.nd rfl (by first | exact .inl rfl | exact .inr rfl)) (pgs_cons (pg_name (i := 4) sc_u_law_solves.nd rfl (by first | exact .inl rfl | exact .inr rfl)) pgs_nil))))
        (pss_one (ps_if (pt_cmpR op_gt (pe_op op_sub (pe_c C_u_law_worth hr (by decide) (by rfl) (pa_cons (pv 2) (pa_cons (pv 1) pa_nil))) (pe_c C_u_law_worth hr (by decide) (by rfl) (pa_cons (pv 3) (pa_cons (pv 1) pa_nil)))) (pv 4) (nomark _)) (pss_one (ps_ret pe_bl)) pss_nil)))
      (pss_one (ps_ret pe_bl))), ?_⟩
    refine ⟨_, rfl, a, rfl, ⟨_, sq ha⟩, ?_⟩
    refine for_it (walk_list (K := K) (a := a) (xs := vs)) (fun i σ H' => ∃ x2 x3 x4, H' = H ∧ σ = [some (.ref a), some (.ref d), x2, x3, x4] ∧ Df.Solves (S.take i) (Df.pt0 ("0" : Str) x)) ⟨_, _, _, rfl, rfl, fun e he => (by cases he)⟩ (fun i σ H' _ ⟨_, _, _, e, _⟩ => sq (e ▸ ha)) ?_ ?_
    · rintro i y σ H9 H' hi ⟨x2, x3, x4, rfl, rfl, hdone⟩ ⟨rfl, ex⟩
      rw [plen hvs] at hi
      obtain ⟨v, hv', r, rfl, hrow⟩ := pget hvs (List.getElem?_eq_getElem hi)
      rw [hv'] at ex
      cases ex
      have hm := hin _ (List.getElem_mem hi)
      refine ⟨r, _, rfl, sqt hrow, rfl, _, _, rfl, _, _, rfl, _, _, rfl, rfl, ?_⟩
      refine ⟨_, rfl, _, rfl, _, d, ks, x, rfl, hd, hm.1, _, rfl, _, rfl, _, d, ks, x, rfl, hd, hm.2, _, _, rfl, rfl, _, rfl, _, _, rfl, rfl, _, rfl, ?_⟩
      by_cases hs : S[i].2.2 < Df.pt0 ("0" : Str) x S[i].1 - Df.pt0 ("0" : Str) x S[i].2.1
      · rw [decide_eq_true hs]
        refine iteT (hk false ⟨fun z => (by cases z), fun q => ?_⟩)
        have := q _ (List.getElem_mem hi)
        omega
      · rw [decide_eq_false hs]
        refine iteF ⟨_, _, _, rfl, rfl, fun e he => ?_⟩
        rw [take_snoc hi] at he
        rcases List.mem_append.mp he with he | he
        · exact hdone e he
        · rw [List.mem_singleton.mp he]
          omega
    · rintro σ H' ⟨x2, x3, x4, rfl, rfl, hdone⟩
      rw [plen hvs, List.take_length] at hdone
      exact hk true ⟨fun _ => hdone, fun _ => rfl⟩
end
end K1

namespace K1
open PySem PySem.Spec PyProof.Rows L2 Ls
theorem DrawnS.nil (names : List Str) : DrawnS names [] := ⟨fun _ h => (List.not_mem_nil h).elim, fun _ h => (List.not_mem_nil h).elim⟩
theorem scale_lim {l s : Int} (h0 : -3 ≤ l) (h1 : l ≤ 5) (hs : s = 1 ∨ s = 1000 ∨ s = 1000000000000000) : -5000000000000000 ≤ (l - 1) * s + l ∧ (l - 1) * s + l ≤ 5000000000000000 := by
  rcases hs with rfl | rfl | rfl <;> omega
section
variable {P : Program} {w : World} {K : PySem.W.Frag} {mg : Str → Option Value} {base : Heap} {f C : Addr} {fd : FuncData} {k : Nat}
theorem sc_u_law_system : FnScope ["script", "at", "names", "most", "found", "ends", "scale", "turn", "spot", "one", "other", "limit"] ["script", "at", "names", "most"] (defScope s_u_law_system) := ⟨rfl, rfl, rfl, by decide +kernel, rfl, by decide +kernel, by decide +kernel⟩
theorem ok_system (F : FnP K "_law_system" s_u_law_system [] f fd) (G : Facts mg) (C_u_law_draw : Cal P w K mg base 1 "_law_draw" (spDraw K) []) : FnOk P w K mg base CX0 2 f fd ["script", "at", "names", "most"] (spSystem K) := by
  refine F.ok sc_u_law_system (fun vs H Q E h => ?_) (fun cdv A outer s H vs Q E hr h => ?_)
  · obtain ⟨a, t, ns, at_, most, names, rfl, _⟩ := h
    rfl
  · obtain ⟨a, t, ns, at_, most, names, rfl, hS, ht, hnd, hl1, hl9, hm0, hm9, hk⟩ := h
    have hu := hu_of hr
    refine ⟨_, PSs.nox (pss_cons (ps_par (i := 4) (j := 5) (by rfl) sc_u_law_system.nd rfl rfl (by decide) rfl rfl (pa_cons (pe_lst pa_nil) (pa_cons (pe_op kCatT (pe_tup (pa_cons pe_str pa_nil)) (pe_callTy kTuple (by rfl) G.tuple_ (by decide +kernel) (pa_cons (pv 2) pa_nil))) pa_nil)) (by rfl))
      (pss_cons (ps_set (i := 6) sc_u_law_system.nd rfl (.inl rfl) (pe_ix (kIxT K) (pe_tup (pa_cons pe_int (pa_cons pe_int (pa_cons pe_int (pa_cons pe_int (pa_cons (pe_op op_pow pe_int pe_int) pa_nil)))))) (pe_c C_u_law_draw hr (by decide) (by rfl) (pa_cons (pv 0) (pa_cons (pv 1) (pa_cons pe_int pa_nil)))) (fun _ _ => rfl)))
      (pss_cons (ps_for PassesOwn.never rfl (pi_range1 (by rfl) G.range_ (pa_cons (pe_c C_u_law_draw hr (by decide) (by rfl) (pa_cons (pv 0) (pa_cons (pe_op op_add (pv 1) pe_int) (pa_cons (pe_op op_add (pv 3) pe_int) pa_nil)))) pa_nil)) (pg_name (i := 7) sc_u_law_system.nd rfl (by first | exact .inl rfl | exact .inr rfl))
        (pss_cons (ps_set (i := 8) sc_u_law_system.nd rfl (.inl rfl) (pe_op op_add (pe_op op_add (pv 1) pe_int) (pe_op op_mul pe_int (pv 7))))
        (pss_cons (ps_set (i := 9) sc_u_law_system.nd rfl (.inl rfl) (pe_c C_u_law_draw hr (by decide) (by rfl) (pa_cons (pv 0) (pa_cons (pv 8) (pa_cons (pe_callB (kLen K) (by rfl) G.len_ PySem.boot_len (pa_cons (pv 5) pa_nil)) pa_nil)))))
        (pss_cons (ps_set (i := 10) sc_u_law_system.nd rfl (.inl rfl) (pe_op op_mod (pe_callTy call_int1 (by rfl) G.int_ (by decide +kernel) (pa_cons (pe_op op_add (pe_op op_add (pv 9) pe_int) (pe_c C_u_law_draw hr (by decide) (by rfl) (pa_cons (pv 0) (pa_cons (pe_op op_add (pv 8) pe_int) (pa_cons (pe_op op_sub (pe_callB (kLen K) (by rfl) G.len_ PySem.boot_len (pa_cons (pv 5) pa_nil)) pe_int) pa_nil))))) pa_nil)) (pe_callB (kLen K) (by rfl) G.len_ PySem.boot_len (pa_cons (pv 5) pa_nil))))
        (pss_cons (ps_set (i := 11) sc_u_law_system.nd rfl (.inl rfl) (pe_op op_sub (pe_c C_u_law_draw hr (by decide) (by rfl) (pa_cons (pv 0) (pa_cons (pe_op op_add (pv 8) pe_int) (pa_cons pe_int pa_nil)))) pe_int))
        (pss_cons (ps_if (PW.pt (pw_and (pt_cmpR op_gt (pv 6) pe_int (nomark _)) (pw_and1 (pt_cmpR op_eq (pe_c C_u_law_draw hr (by decide) (by rfl) (pa_cons (pv 0) (pa_cons (pe_op op_add (pv 8) pe_int) (pa_cons pe_int pa_nil)))) pe_int (nomark _))))) (pss_one (ps_set (i := 11) sc_u_law_system.nd rfl (.inl rfl) (pe_op op_add (pe_op op_mul (pe_op op_sub (pv 11) pe_int) (pv 6)) (pv 11)))) pss_nil)
        (pss_one (ps_expr (pe_bm PySem.F.plainAttrs_list PySem.F.slot_list_append PySem.F.type_list_append mt_append (pv 4) (pa_cons (pe_tup (pa_cons (pe_ix (kIxT K) (pv 5) (pv 9) (fun _ _ => rfl)) (pa_cons (pe_ix (kIxT K) (pv 5) (pv 10) (fun _ _ => rfl)) (pa_cons (pv 11) pa_nil)))) pa_nil))))))))))
      (pss_one (ps_ret (pv 4)))))), ?_⟩
    -- found, ends
    refine ⟨by show 0 ≤ sizeLine; decide, fun d nd => ?_⟩
    have s1 := same_upd nd (o := .lst [])
    refine ⟨by show 1 ≤ sizeLine; decide, fun p np => ?_⟩
    have s2 := same_upd np (o := .tup [.str "0"])
    refine ⟨_, rfl, t, names.map V.str, rfl, .inr (s2 _ _ (s1 _ _ ht)), fun H2 q s3 nq hq => ?_⟩
    refine ⟨p, q, [.str "0"], names.map V.str, rfl, rfl, s3 _ _ upd_same, hq, szl (by simp; omega), fun H3 e s4 ne he => ?_⟩
    have he : H3 e = some (.tup ((("0" : Str) :: names).map V.str)) := he
    generalize hen : ("0" : Str) :: names = ends at hnd he
    have hel : ends.length = names.length + 1 := by rw [← hen]; rfl
    have helm : (ends.map V.str).length = ends.length := List.length_map _
    have sA : Same H H3 := s1.trans (s2.trans (s3.trans s4))
    have hd3 : H3 d = some (.lst []) := s4 _ _ (s3 _ _ (s2 _ _ upd_same))
    refine ⟨_, _, rfl, ?_⟩
    -- scale
    refine ⟨_, _, rfl, rfl, ⟨by decide, by decide, by decide⟩, by show 5 ≤ sizeLine; decide, fun p5 n5 => ?_⟩
    have s5 := same_upd n5 (o := .tup [.int 1, .int 1, .int 1, .int 1000, .int ((10 : Int) ^ (15 : Int).toNat)])
    refine ⟨_, rfl, _, rfl, a, ns, _, 5, rfl, hS.mono (sA.trans s5), by decide, fun H6 ds s6 ds0 ds5 => ?_⟩
    have g5 := s6 _ _ (upd_same (H := H3) (a := p5) (o := .tup [.int 1, .int 1, .int 1, .int 1000, .int ((10 : Int) ^ (15 : Int).toNat)]))
    have hsc : ∃ sc : Int, atI [V.int 1, .int 1, .int 1, .int 1000, .int ((10 : Int) ^ (15 : Int).toNat)] ds = some (.int sc) ∧ (sc = 1 ∨ sc = 1000 ∨ sc = 1000000000000000) := by
      have c : ds = 0 ∨ ds = 1 ∨ ds = 2 ∨ ds = 3 ∨ ds = 4 := by omega
      rcases c with rfl | rfl | rfl | rfl | rfl
      · exact ⟨1, rfl, .inl rfl⟩
      · exact ⟨1, rfl, .inl rfl⟩
      · exact ⟨1, rfl, .inl rfl⟩
      · exact ⟨1000, rfl, .inr (.inl rfl)⟩
      · exact ⟨1000000000000000, rfl, .inr (.inr rfl)⟩
    obtain ⟨sc, hsc, hsc2⟩ := hsc
    refine ⟨p5, _, _, _, rfl, rfl, sqt g5, hsc, ?_⟩
    have sB : Same H H6 := sA.trans (s5.trans s6)
    have he6 := s6 _ _ (s5 _ _ he)
    have hd6 := s6 _ _ (s5 _ _ hd3)
    -- the rows
    refine ⟨_, rfl, _, rfl, _, _, rfl, rfl, _, rfl, _, _, rfl, rfl, a, ns, _, _, rfl, hS.mono sB, by omega, fun H7 n7 s7 n70 n7m => ?_⟩
    refine ⟨n7, rfl, by omega, by omega, ?_⟩
    refine for_it (walk_range (lo := 0) (n := n7.toNat)) (fun i σ H' => ∃ x7 x8 x9 x10 x11 out S, σ = [some (.ref a), some (.int at_), some (.ref t), some (.int most), some (.ref d), some (.ref e), some (.int sc), x7, x8, x9, x10, x11] ∧ Same H H' ∧ H' d = some (.lst out) ∧ H' e = some (.tup (ends.map V.str)) ∧
        Paired (RowT H') out S ∧ DrawnS names S ∧ S.length = i)
      ⟨_, _, _, _, _, [], [], rfl, sB.trans s7, s7 _ _ hd6, s7 _ _ he6, .nil, DrawnS.nil names, rfl⟩ (fun _ _ _ _ _ => True.intro) ?_ ?_
    · rintro i x σ H8 H' hi ⟨x7, x8, x9, x10, x11, out, S, rfl, s8, hd, he, hp, hdr, hSl⟩ ⟨rfl, rfl⟩
      -- spot, one
      refine ⟨_, rfl, _, _, rfl, rfl, _, rfl, _, _, rfl, rfl, .inl ⟨by decide, by decide⟩, _, _, rfl, rfl, ?_⟩
      refine ⟨_, rfl, _, rfl, _, rfl, e, _, rfl, .inr (sqt he), ?_⟩
      rw [helm]
      refine ⟨a, ns, _, _, rfl, hS.mono s8, by omega, fun H9 one s9 o0 o1 => ?_⟩
      -- other
      have he9 := s9 _ _ he
      refine ⟨_, rfl, _, _, rfl, rfl, _, rfl, _, rfl, _, _, rfl, rfl, _, rfl, e, _, rfl, .inr (sqt he9), ?_⟩
      rw [helm]
      refine ⟨_, _, rfl, rfl, a, ns, _, _, rfl, hS.mono (s8.trans s9), by omega, fun H10 dd s10 d0 d1 => ?_⟩
      have he10 := s10 _ _ he9
      refine ⟨_, _, rfl, rfl, .inl ⟨_, rfl, _, rfl, e, _, rfl, .inr (sqt he10), ?_⟩⟩
      rw [helm]
      have hone : (one + 1 + dd) % (ends.length : Int) ≠ one := other_ne o0 o1 d0 d1
      have r0 := Int.emod_nonneg (one + 1 + dd) (b := (ends.length : Int)) (by omega)
      have r1 := Int.emod_lt_of_pos (one + 1 + dd) (b := (ends.length : Int)) (by omega)
      refine ⟨_, _, rfl, rfl, (show (0 : Int) < (ends.length : Int) by omega), ?_⟩
      -- limit
      refine ⟨_, rfl, _, rfl, _, _, rfl, rfl, a, ns, _, 9, rfl, hS.mono (s8.trans (s9.trans s10)), by decide, fun H11 dl s11 l0 l9 => ?_⟩
      refine ⟨_, _, rfl, rfl, ?_⟩
      have s811 := s8.trans (s9.trans (s10.trans s11))
      have s8b := s9.trans (s10.trans s11)
      -- what is left once the limit stands
      have fin : ∀ (lim : Int) (HH : Hp) (x8 x9 x10 : Option V), -5000000000000000 ≤ lim → lim ≤ 5000000000000000 → Same H' HH → Same H HH →
          tDrop (tBM K "list" rAppend (tVar 4) (tCons (tTup (tCons (tOp (rIxT K) (tVar 5) (tVar 9)) (tCons (tOp (rIxT K) (tVar 5) (tVar 10)) (tCons (tVar 11) tNil)))) tNil))
            { nx := fun σ H' => ∃ x7 x8 x9 x10 x11 out S, σ = [some (.ref a), some (.int at_), some (.ref t), some (.int most), some (.ref d), some (.ref e), some (.int sc), x7, x8, x9, x10, x11] ∧ Same H H' ∧ H' d = some (.lst out) ∧ H' e = some (.tup (ends.map V.str)) ∧
                Paired (RowT H') out S ∧ DrawnS names S ∧ S.length = i + 1, rt := Q } [some (.ref a), some (.int at_), some (.ref t), some (.int most), some (.ref d), some (.ref e), some (.int sc), some (.int (0 + (i : Int))), x8, some (.int one), some (.int ((one + 1 + dd) % (ends.length : Int))), some (.int lim)] HH := by
        intro lim HH x8 x9 x10 b0 b1 sx sy
        obtain ⟨m1, e1, hm1⟩ := nth_of o0 (show one < (ends.length : Int) by omega)
        obtain ⟨m2, e2, hm2⟩ := nth_of r0 r1
        have hdH := sx _ _ hd
        have heH := sx _ _ he
        refine ⟨_, rfl, .inl ⟨rfl, _, sq hdH⟩, ?_⟩
        refine ⟨_, rfl, _, rfl, e, _, _, _, rfl, rfl, sqt heH, by rw [e1]; exact atI_nat (by rw [List.getElem?_map, List.getElem?_eq_getElem hm1]; rfl), ?_⟩
        refine ⟨_, rfl, _, rfl, e, _, _, _, rfl, rfl, sqt heH, by rw [e2]; exact atI_nat (by rw [List.getElem?_map, List.getElem?_eq_getElem hm2]; rfl), ?_⟩
        refine ⟨_, rfl, by show 3 ≤ sizeLine; decide, fun r nr => ?_⟩
        have sr := same_upd nr (o := .tup [.str ends[m1], .str ends[m2], .int lim])
        have hde : d ≠ e := fun z => by rw [z, he] at hd; cases hd
        refine ⟨d, out, .ref r, rfl, rfl, sr _ _ hdH, szlt (by rw [plen hp]; omega), _, _, _, _, _, out ++ [.ref r], S ++ [(ends[m1], ends[m2], lim)], rfl, same_mut (sy.trans sr) nd, upd_same, by rw [upd_ne hde.symm]; exact sr _ _ heH, ?_, ?_, by rw [List.length_append, hSl]; rfl⟩
        · have hrd : r ≠ d := (ne_of_none hdH nr).symm
          have keep : ∀ v e, RowT H' v e → RowT (upd (upd HH r (.tup [.str ends[m1], .str ends[m2], .int lim])) d (.lst (out ++ [.ref r]))) v e := fun v e ⟨r', e1, e2⟩ =>
            ⟨r', e1, by
              have h1 := sr _ _ (sx _ _ e2)
              have : r' ≠ d := fun z => by rw [z, hd] at e2; cases e2
              rw [upd_ne this]; exact h1⟩
          exact (pmono keep hp).snoc ⟨r, rfl, by rw [upd_ne hrd]; exact upd_same⟩
        · have hne : ends[m1] ≠ ends[m2] := fun z => by
            have := (List.getElem_inj hnd).mp z
            omega
          refine ⟨fun ee hee => ?_, fun ee hee => ?_⟩
          · rcases List.mem_append.mp hee with h | h
            · exact hdr.ends _ h
            · rw [List.mem_singleton.mp h, hen]
              exact ⟨List.getElem_mem hm1, List.getElem_mem hm2, hne⟩
          · rcases List.mem_append.mp hee with h | h
            · exact hdr.lim _ h
            · rw [List.mem_singleton.mp h]
              exact ⟨b0, b1⟩
      refine ⟨_, rfl, _, _, rfl, rfl, _, rfl, ?_⟩
      by_cases hs1 : (1 : Int) < sc
      · rw [decide_eq_true hs1]
        refine iteT ?_
        refine ⟨_, rfl, _, rfl, _, _, rfl, rfl, a, ns, _, 2, rfl, hS.mono s811, by decide, fun H12 d2 s12 c0 c2 => ?_⟩
        refine ⟨rfl, _, rfl, ?_⟩
        by_cases h1 : d2 = 1
        · rw [show decide (V.int d2 = V.int 1) = true by rw [h1]; exact decide_eq_true rfl]
          refine iteT ⟨_, rfl, _, _, rfl, rfl, _, rfl, _, _, rfl, rfl, .inl ⟨by omega, by omega⟩, _, rfl, _, _, rfl, rfl, ?_⟩
          have := scale_lim (l := dl - 3) (s := sc) (by omega) (by omega) hsc2
          exact fin _ H12 _ none none this.1 this.2 (s8b.trans s12) (s811.trans s12)
        · rw [show decide (V.int d2 = V.int 1) = false from decide_eq_false fun z => h1 (by injection z)]
          exact iteF (fin _ H12 _ none none (by omega) (by omega) (s8b.trans s12) (s811.trans s12))
      · rw [decide_eq_false hs1]
        exact iteF (fin _ H11 _ none none (by omega) (by omega) s8b s811)
    · rintro σ H' ⟨x7, x8, x9, x10, x11, out, S, rfl, s8, hd, he, hp, hdr, hSl⟩
      exact ⟨_, rfl, hk H' d S nd s8 ⟨out, hd, hp⟩ hdr (by omega)⟩
end
end K1

namespace K1
open PySem PySem.Spec PyProof.Rows L2 Ls
/-! ### the law's table -/
def key2 (u v : Str) : List Key := [Sum.inr u, Sum.inr v]
def TabD (kvs : List (List Key × V)) (F : Df.OTab Str) : Prop := ∀ u v : Str, valV kvs (key2 u v) = (F u v).map V.int
theorem key2_iff {u v x y : Str} : key2 x y = key2 u v ↔ x = u ∧ y = v := by
  unfold key2
  constructor
  · intro h
    injection h with h1 h2
    injection h2 with h2 _
    exact ⟨by injection h1, by injection h2⟩
  · rintro ⟨rfl, rfl⟩; rfl
def setF (F : Df.OTab Str) (u v : Str) (c : Int) : Df.OTab Str := fun x y => if x = u ∧ y = v then some c else F x y
theorem TabD.put {kvs : List (List Key × V)} {F : Df.OTab Str} (h : TabD kvs F) (u v : Str) (c : Int) : TabD (putK kvs (key2 u v) (V.int c)) (setF F u v c) := fun x y => by
  rw [valV_put]
  unfold setF
  by_cases q : x = u ∧ y = v
  · rw [if_pos (key2_iff.mpr q), if_pos q]; rfl
  · rw [if_neg (fun z => q (key2_iff.mp z)), if_neg q]; exact h x y
theorem relax_none {F : Df.OTab Str} {u v : Str} {c : Int} (h : F u v = none) : Df.relax F u v c = setF F u v c := by
  funext x y
  unfold Df.relax setF
  split
  · rw [h]
  · rfl
theorem relax_less {F : Df.OTab Str} {u v : Str} {c d : Int} (h : F u v = some d) (hc : c < d) : Df.relax F u v c = setF F u v c := by
  funext x y
  unfold Df.relax setF
  split
  · rw [h]
    show (if c < d then some c else some d) = _
    rw [if_pos hc]
  · rfl
theorem relax_id {F : Df.OTab Str} {u v : Str} {c d : Int} (h : F u v = some d) (hc : ¬ c < d) : Df.relax F u v c = F := by
  funext x y
  unfold Df.relax
  split
  · rename_i q
    obtain ⟨rfl, rfl⟩ := q
    rw [h]
    show (if c < d then some c else some d) = _
    rw [if_neg hc]
  · rfl
theorem key_tup (u v : Str) : (key2 u v).map kV = [V.str u, V.str v] := rfl
def dgF (l : List Str) : Df.OTab Str := fun x y => if x = y ∧ x ∈ l then some 0 else none
def spLTable : Sp := fun vs H Q _ => ∃ (n a : Addr) (nms : List Str) (S : List Df3), vs = [.ref n, .ref a] ∧ H n = some (.tup (nms.map V.str)) ∧ SysAt H a S ∧ (("0" : Str) :: nms).length ≤ 10 ∧ (∀ e ∈ S, e.1 ∈ ("0" : Str) :: nms ∧ e.2.1 ∈ ("0" : Str) :: nms) ∧ S.length ≤ 100 ∧
  (∀ F, Df.Fw (("0" : Str) :: nms) S (("0" : Str) :: nms) F → (∀ u ∈ ("0" : Str) :: nms, ∀ d, F u u = some d → d < 0 → ∀ H', Same H H' → Q .non H') ∧ (Df.Zero (("0" : Str) :: nms) F → ∀ H' q kvs, Same H H' → H' q = some (.dT kvs) → TabD kvs F → Q (.ref q) H'))
section
variable {P : Program} {w : World} {K : PySem.W.Frag} {mg : Str → Option Value} {base : Heap} {f C CN : Addr} {fd : FuncData} {k : Nat}
theorem sc_u_law_table : FnScope ["names", "system", "ends", "found", "one", "left", "right", "limit", "middle", "first", "other"] ["names", "system"] (defScope s_u_law_table) := ⟨rfl, rfl, rfl, by decide +kernel, rfl, by decide +kernel, by decide +kernel⟩
theorem ok_ltable (F : FnP K "_law_table" s_u_law_table [] f fd) (G : Facts mg) : FnOk P w K mg base CX0 1 f fd ["names", "system"] spLTable := by
  refine F.ok sc_u_law_table (fun vs H Q E h => ?_) (fun cdv A outer s H vs Q E hr h => ?_)
  · obtain ⟨n, a, nms, S, rfl, _⟩ := h
    rfl
  · obtain ⟨n, a, nms, S, rfl, hn, hS, hl, hin, hSl, hk⟩ := h
    have hu := hu_of hr
    refine ⟨_, PSs.nox (pss_cons (ps_set (i := 2) sc_u_law_table.nd rfl (.inl rfl) (pe_op kCatT (pe_tup (pa_cons pe_str pa_nil)) (pe_callTy kTuple (by rfl) G.tuple_ (by decide +kernel) (pa_cons (pv 0) pa_nil))))
      (pss_cons (ps_set (i := 3) sc_u_law_table.nd rfl (.inl rfl) pe_dnewT)
      (pss_cons (ps_for PassesOwn.never rfl (kpi_tup K (pv 2)) (pg_name (i := 4) sc_u_law_table.nd rfl (by first | exact .inl rfl | exact .inr rfl))
        (pss_one (ps_dput hu (pv 3) (pe_tup (pa_cons (pv 4) (pa_cons (pv 4) pa_nil))) pe_int rfl)))
      (pss_cons (ps_for PassesOwn.never rfl (kpi_list K (pv 1)) (kpg_tup K rfl (pgs_cons (pg_name (i := 5) sc_u_law_table.nd rfl (by first | exact .inl rfl | exact .inr rfl)) (pgs_cons (pg_name (i := 6) sc_u_law_table.nd rfl (by first | exact .inl rfl | exact .inr rfl)) (pgs_cons (pg_name (i := 7) sc_u_law_table.nd rfl (by first | exact .inl rfl | exact .inr rfl)) pgs_nil))))
        (pss_one (ps_if (PW.pt (pw_or (pt_cmp (pc_dnotin hu (pe_tup (pa_cons (pv 5) (pa_cons (pv 6) pa_nil))) (pv 3))) (pw_or1 (pt_cmpR op_lt (pv 7) (pe_dget hu (pv 3) (pe_tup (pa_cons (pv 5) (pa_cons (pv 6) pa_nil))) (fun _ _ => rfl)) (nomark _))))) (pss_one (ps_dput hu (pv 3) (pe_tup (pa_cons (pv 5) (pa_cons (pv 6) pa_nil))) (pv 7) rfl)) pss_nil)))
      (pss_cons (ps_for PassesOwn.never rfl (kpi_tup K (pv 2)) (pg_name (i := 8) sc_u_law_table.nd rfl (by first | exact .inl rfl | exact .inr rfl))
        (pss_one (ps_for PassesOwn.never rfl (kpi_tup K (pv 2)) (pg_name (i := 4) sc_u_law_table.nd rfl (by first | exact .inl rfl | exact .inr rfl))
          (pss_one (ps_if (pt_cmp (pc_din hu (pe_tup (pa_cons (pv 4) (pa_cons (pv 8) pa_nil))) (pv 3))) (pss_cons (ps_set (i := 9) sc_u_law_table.nd rfl (.inl rfl) (pe_dget hu (pv 3) (pe_tup (pa_cons (pv 4) (pa_cons (pv 8) pa_nil))) (fun _ _ => rfl)))
            (pss_one (ps_for PassesOwn.never rfl (kpi_tup K (pv 2)) (pg_name (i := 10) sc_u_law_table.nd rfl (by first | exact .inl rfl | exact .inr rfl))
              (pss_one (ps_if (pt_cmp (pc_din hu (pe_tup (pa_cons (pv 8) (pa_cons (pv 10) pa_nil))) (pv 3))) (pss_cons (ps_set (i := 7) sc_u_law_table.nd rfl (.inl rfl) (pe_op op_add (pv 9) (pe_dget hu (pv 3) (pe_tup (pa_cons (pv 8) (pa_cons (pv 10) pa_nil))) (fun _ _ => rfl))))
                (pss_one (ps_if (PW.pt (pw_or (pt_cmp (pc_dnotin hu (pe_tup (pa_cons (pv 4) (pa_cons (pv 10) pa_nil))) (pv 3))) (pw_or1 (pt_cmpR op_lt (pv 7) (pe_dget hu (pv 3) (pe_tup (pa_cons (pv 4) (pa_cons (pv 10) pa_nil))) (fun _ _ => rfl)) (nomark _))))) (pss_one (ps_dput hu (pv 3) (pe_tup (pa_cons (pv 4) (pa_cons (pv 10) pa_nil))) (pv 7) rfl)) pss_nil))) pss_nil))))) pss_nil)))))
      (pss_cons (ps_for PassesOwn.never rfl (kpi_tup K (pv 2)) (pg_name (i := 4) sc_u_law_table.nd rfl (by first | exact .inl rfl | exact .inr rfl))
        (pss_one (ps_if (pt_cmpR op_lt (pe_dget hu (pv 3) (pe_tup (pa_cons (pv 4) (pa_cons (pv 4) pa_nil))) (fun _ _ => rfl)) pe_int (nomark _)) (pss_one (ps_ret pe_non)) pss_nil)))
      (pss_one (ps_ret (pv 3))))))))), ?_⟩
    -- ends
    refine ⟨by show 1 ≤ sizeLine; decide, fun p np => ?_⟩
    have s1 := same_upd np (o := .tup [.str "0"])
    refine ⟨_, rfl, n, nms.map V.str, rfl, .inr (s1 _ _ hn), fun H2 q s2 nq hq => ?_⟩
    refine ⟨p, q, [.str "0"], nms.map V.str, rfl, rfl, s2 _ _ upd_same, hq, szl (by simp at hl ⊢; omega), fun H3 e s3 ne he => ?_⟩
    have he : H3 e = some (.tup ((("0" : Str) :: nms).map V.str)) := he
    have s03 := s1.trans (s2.trans s3)
    generalize hns : ("0" : Str) :: nms = ns at *
    have nml : (ns.map V.str).length = ns.length := List.length_map _
    have atn : ∀ (i : Nat) (h : i < ns.length) x, (ns.map V.str)[i]? = some x → x = V.str ns[i] := fun i h x ex => by
      rw [List.getElem?_map, List.getElem?_eq_getElem h] at ex
      exact (Option.some.inj ex).symm
    -- found
    intro d nd
    have s4 := same_upd nd (o := .dT [])
    have he4 := s4 _ _ he
    refine ⟨_, rfl, e, rfl, ⟨_, sqt he4⟩, ?_⟩
    have hd0 : (upd H3 d (.dT [])) d = some (.dT []) := upd_same
    generalize upd H3 d (.dT []) = H4 at s4 he4 hd0 ⊢
    have s04 := s03.trans s4
    have dn : H d = none := s03.free nd
    refine for_it (walk_tup (K := K) (a := e) (xs := ns.map V.str)) (fun i σ H' => ∃ x4 kvs, σ = [some (.ref n), some (.ref a), some (.ref e), some (.ref d), x4, none, none, none, none, none, none] ∧ Same H H' ∧ H' e = some (.tup (ns.map V.str)) ∧ H' d = some (.dT kvs) ∧ kvs.length ≤ i ∧ TabD kvs (dgF (ns.take i)))
      ⟨_, [], rfl, s04, he4, hd0, Nat.le_refl _, fun u v => by simp [valV, dgF]⟩ (fun i σ H' _ ⟨_, _, _, _, h, _⟩ => sqt h) ?_ ?_
    · rintro i x σ H9 H' hi ⟨x4, kvs, rfl, s5, he5, hd5, hkl, ht⟩ ⟨rfl, ex⟩
      rw [nml] at hi
      cases atn i hi x ex
      refine ⟨_, rfl, _, rfl, _, rfl, by show 2 ≤ sizeLine; decide, fun p2 np2 => ?_⟩
      have sp := same_upd np2 (o := .tup [.str ns[i], .str ns[i]])
      have hde : d ≠ e := fun z => by rw [z, he5] at hd5; cases hd5
      refine ⟨d, _, rfl, DPut.t (k := key2 ns[i] ns[i]) (sp _ _ hd5) (by rw [key_tup]; exact upd_same) (szlt (by omega)), _, _, rfl, same_mut (s5.trans sp) dn, by rw [upd_ne hde.symm]; exact sp _ _ he5, upd_same, ?_, ?_⟩
      · have := length_putK kvs (key2 ns[i] ns[i]) (V.int 0)
        omega
      · have := ht.put ns[i] ns[i] 0
        intro x y
        rw [this x y]
        unfold setF
        congr 1
        unfold dgF
        by_cases q : x = ns[i] ∧ y = ns[i]
        · rw [if_pos q, if_pos]
          exact ⟨by rw [q.1, q.2], by rw [q.1, take_snoc hi]; exact List.mem_append_right _ (List.mem_singleton.mpr rfl)⟩
        · rw [if_neg q]
          by_cases q2 : x = y ∧ x ∈ ns.take i
          · rw [if_pos q2, if_pos ⟨q2.1, by rw [take_snoc hi]; exact List.mem_append_left _ q2.2⟩]
          · rw [if_neg q2, if_neg]
            rintro ⟨rfl, h⟩
            rw [take_snoc hi] at h
            rcases List.mem_append.mp h with h | h
            · exact q2 ⟨rfl, h⟩
            · have := List.mem_singleton.mp h
              exact q ⟨this, this⟩
    rintro σ H5 ⟨x4, kvs, rfl, s5, he5, hd5, hkl, ht⟩
    rw [nml, List.take_length] at ht
    rw [nml] at hkl
    -- the rows
    obtain ⟨vs, hva, hvs⟩ := hS
    have hsnd0 : Df.Snd ns S (dgF ns) := fun u v c h => by
      unfold dgF at h
      split at h
      · rename_i q
        obtain ⟨rfl, hq⟩ := q
        cases h
        exact ⟨hq, hq, .refl hq⟩
      · cases h
    have hdg0 : Df.Dg ns (dgF ns) := fun u hu => ⟨0, if_pos ⟨rfl, hu⟩, Int.le_refl _⟩
    generalize dgF ns = F0 at ht hsnd0 hdg0
    -- what a look and a change of the dict do
    refine ⟨_, rfl, a, rfl, ⟨_, sq (s5 _ _ hva)⟩, ?_⟩
    refine for_it (walk_list (K := K) (a := a) (xs := vs)) (fun i σ H' => ∃ x4 x5 x6 x7 kvs F, σ = [some (.ref n), some (.ref a), some (.ref e), some (.ref d), x4, x5, x6, x7, none, none, none] ∧ Same H H' ∧ H' e = some (.tup (ns.map V.str)) ∧ H' d = some (.dT kvs) ∧ kvs.length ≤ 10 + i ∧ TabD kvs F ∧ Df.Snd ns S F ∧ Df.Dg ns F ∧ Df.Comp (S.take i) F)
      ⟨_, _, _, _, kvs, F0, rfl, s5, he5, hd5, by omega, ht, hsnd0, hdg0, fun e he => by simp at he⟩ (fun i σ H' _ ⟨_, _, _, _, _, _, _, h, _⟩ => sq (h _ _ hva)) ?_ ?_
    · rintro i x σ H9 H' hi ⟨x4, x5, x6, x7, kvs, F, rfl, s6, he6, hd6, hkl, ht, hsnd, hdg, hcm⟩ ⟨rfl, ex⟩
      rw [plen hvs] at hi
      obtain ⟨v, hv', r, rfl, hrow⟩ := pget hvs (List.getElem?_eq_getElem hi)
      rw [hv'] at ex
      cases ex
      refine ⟨r, _, rfl, sqt (s6 _ _ hrow), rfl, _, _, rfl, _, _, rfl, _, _, rfl, rfl, ?_⟩
      have hm := hin _ (List.getElem_mem hi)
      have wk : Df.Wk S ns S[i].1 S[i].2.1 S[i].2.2 := by
        have := Df.Wk.step (S := S) (V := ns) (u := S[i].1) (x := S[i].2.1) (c := S[i].2.2) (List.getElem_mem hi) hm.1 (.refl hm.2)
        rwa [Int.add_zero] at this
      have hcm2 : Df.Comp (S.take (i + 1)) (Df.relax F S[i].1 S[i].2.1 S[i].2.2) := fun e he => by
        rw [take_snoc hi] at he
        rcases List.mem_append.mp he with h | h
        · exact (Df.relax_mono F _ _ _).le (hcm e h)
        · rw [List.mem_singleton.mp h]
          exact Df.relax_same F _ _ _
      have hde : d ≠ e := fun z => by rw [z, he6] at hd6; cases hd6
      -- the store
      have fin : ∀ HH, Same H' HH → Same H HH → Df.relax F S[i].1 S[i].2.1 S[i].2.2 = setF F S[i].1 S[i].2.1 S[i].2.2 →
          sDPut (tVar 3) (tTup (tCons (tVar 5) (tCons (tVar 6) tNil))) (tVar 7) { nx := fun σ H' => ∃ x4 x5 x6 x7 kvs F, σ = [some (.ref n), some (.ref a), some (.ref e), some (.ref d), x4, x5, x6, x7, none, none, none] ∧ Same H H' ∧ H' e = some (.tup (ns.map V.str)) ∧ H' d = some (.dT kvs) ∧ kvs.length ≤ 10 + (i + 1) ∧ TabD kvs F ∧ Df.Snd ns S F ∧ Df.Dg ns F ∧ Df.Comp (S.take (i + 1)) F, rt := Q }
            [some (.ref n), some (.ref a), some (.ref e), some (.ref d), x4, some (.str S[i].1), some (.str S[i].2.1), some (.int S[i].2.2), none, none, none] HH := fun HH sx sy er => by
        have hdH := sx _ _ hd6
        have heH := sx _ _ he6
        refine ⟨_, rfl, _, rfl, _, rfl, _, rfl, by show 2 ≤ sizeLine; decide, fun p2 np2 => ?_⟩
        have sp := same_upd np2 (o := .tup [.str S[i].1, .str S[i].2.1])
        refine ⟨d, _, rfl, DPut.t (k := key2 S[i].1 S[i].2.1) (sp _ _ hdH) (by rw [key_tup]; exact upd_same) (szlt (by omega)), _, _, _, _, _, setF F S[i].1 S[i].2.1 S[i].2.2, rfl, same_mut (sy.trans sp) dn, by rw [upd_ne hde.symm]; exact sp _ _ heH, upd_same, ?_, ht.put _ _ _, ?_, ?_, ?_⟩
        · have := length_putK kvs (key2 S[i].1 S[i].2.1) (V.int S[i].2.2)
          omega
        · rw [← er]; exact hsnd.relax hm.1 hm.2 wk
        · rw [← er]; exact hdg.mono (Df.relax_mono _ _ _ _)
        · rw [← er]; exact hcm2
      -- (left, right) not in found
      refine ⟨_, rfl, _, rfl, by show 2 ≤ sizeLine; decide, fun p1 np1 => ?_⟩
      have sp1 := same_upd np1 (o := .tup [.str S[i].1, .str S[i].2.1])
      refine ⟨_, rfl, d, _, rfl, DGet.t (k := key2 S[i].1 S[i].2.1) (sp1 _ _ hd6) (by rw [key_tup]; exact upd_same), ?_⟩
      rw [ht]
      cases hF : F S[i].1 S[i].2.1 with
      | none => exact ⟨_, rfl, iteT (fin _ sp1 (s6.trans sp1) (relax_none hF))⟩
      | some dd =>
        refine ⟨_, rfl, iteF ?_⟩
        refine ⟨_, rfl, _, rfl, _, rfl, _, rfl, by show 2 ≤ sizeLine; decide, fun p2 np2 => ?_⟩
        have sp2 := same_upd np2 (o := .tup [.str S[i].1, .str S[i].2.1])
        refine ⟨d, _, rfl, (by
          have := DGet.t (k := key2 S[i].1 S[i].2.1) (sp2 _ _ (sp1 _ _ hd6)) (by rw [key_tup]; exact upd_same)
          rw [ht, hF] at this
          exact this), ?_⟩
        refine ⟨_, _, rfl, rfl, _, rfl, ?_⟩
        by_cases hlt : S[i].2.2 < dd
        · rw [decide_eq_true hlt]
          exact iteT (fin _ (sp1.trans sp2) (s6.trans (sp1.trans sp2)) (relax_less hF hlt))
        · rw [decide_eq_false hlt]
          refine iteF ⟨_, _, _, _, kvs, F, rfl, s6.trans (sp1.trans sp2), sp2 _ _ (sp1 _ _ he6), sp2 _ _ (sp1 _ _ hd6), by omega, ht, hsnd, hdg, ?_⟩
          rw [relax_id hF hlt] at hcm2
          exact hcm2
    rintro σ H6 ⟨x4, x5, x6, x7, kvs1, F1, rfl, s6, he6, hd6, hkl1, ht1, hsnd1, hdg1, hcm1⟩
    rw [plen hvs, List.take_length] at hcm1
    rw [plen hvs] at hkl1
    have fw0 : Df.Fw ns S [] F1 := ⟨hsnd1, hdg1, hcm1, fun _ k hk => (List.not_mem_nil hk).elim⟩
    have hmn : ∀ (i : Nat) (h : i < ns.length), ns[i] ∈ ns := fun i h => List.getElem_mem h
    -- the phases
    refine ⟨_, rfl, e, rfl, ⟨_, sqt he6⟩, ?_⟩
    refine for_it (walk_tup (K := K) (a := e) (xs := ns.map V.str)) (fun mi σ H' => ∃ x4 x5 x6 x7 x8 x9 x10 kvs F, σ = [some (.ref n), some (.ref a), some (.ref e), some (.ref d), x4, x5, x6, x7, x8, x9, x10] ∧ Same H H' ∧ H' e = some (.tup (ns.map V.str)) ∧ H' d = some (.dT kvs) ∧ kvs.length ≤ 110 + 100 * mi ∧ TabD kvs F ∧ Df.Fw ns S (ns.take mi) F)
      ⟨_, _, _, _, _, _, _, kvs1, F1, rfl, s6, he6, hd6, by omega, ht1, fw0⟩ (fun i σ H' _ ⟨_, _, _, _, _, _, _, _, _, _, _, h, _⟩ => sqt h) ?_ ?_
    · rintro mi x σ H9 H' hi ⟨x4, x5, x6, x7, x8, x9, x10, kvs, F, rfl, s7, he7, hd7, hkl, ht, fw⟩ ⟨rfl, ex⟩
      rw [nml] at hi
      cases atn mi hi x ex
      have hmm := hmn mi hi
      have esn : ns.take (mi + 1) = ns.take mi ++ [ns[mi]] := take_snoc hi
      generalize hm0 : ns[mi] = m at hmm esn
      refine ⟨_, rfl, e, rfl, ⟨_, sqt he7⟩, ?_⟩
      refine for_it (walk_tup (K := K) (a := e) (xs := ns.map V.str)) (fun oi σ H' => ∃ x4 x7 x9 x10 kvs G, σ = [some (.ref n), some (.ref a), some (.ref e), some (.ref d), x4, x5, x6, x7, some (.str m), x9, x10] ∧ Same H H' ∧ H' e = some (.tup (ns.map V.str)) ∧ H' d = some (.dT kvs) ∧ kvs.length ≤ 110 + 100 * mi + 10 * oi ∧ TabD kvs G ∧ Df.Ph ns S m F G ∧
          ∀ u ∈ ns.take oi, ∀ v ∈ ns, ∀ a b, F u m = some a → F m v = some b → Df.Le G u v (a + b))
        ⟨_, _, _, _, kvs, F, rfl, s7, he7, hd7, by omega, ht, Df.Ph.start fw.snd, fun u hu => by simp at hu⟩ (fun i σ H' _ ⟨_, _, _, _, _, _, _, _, h, _⟩ => sqt h) ?_ ?_
      · rintro oi x σ H9 H' hi2 ⟨x4, x7, x9, x10, kvs, G', rfl, s8, he8, hd8, hkl8, ht8, ph, hdn⟩ ⟨rfl, ex⟩
        rw [nml] at hi2
        cases atn oi hi2 x ex
        have hon := hmn oi hi2
        have esn2 : ns.take (oi + 1) = ns.take oi ++ [ns[oi]] := take_snoc hi2
        generalize hu0 : ns[oi] = one at hon esn2
        -- (one, middle) in found
        refine ⟨_, rfl, _, rfl, by show 2 ≤ sizeLine; decide, fun p1 np1 => ?_⟩
        have sp1 := same_upd np1 (o := .tup [.str one, .str m])
        refine ⟨_, rfl, d, _, rfl, DGet.t (k := key2 one m) (sp1 _ _ hd8) (by rw [key_tup]; exact upd_same), ?_⟩
        rw [ht8]
        have hde : d ≠ e := fun z => by rw [z, he8] at hd8; cases hd8
        cases hG : G' one m with
        | none =>
          refine ⟨_, rfl, iteF ⟨_, _, _, _, kvs, G', rfl, s8.trans sp1, sp1 _ _ he8, sp1 _ _ hd8, by omega, ht8, ph, fun u hu v hv a b e1 e2 => ?_⟩⟩
          rw [esn2] at hu
          rcases List.mem_append.mp hu with h | h
          · exact hdn u h v hv a b e1 e2
          · rw [List.mem_singleton.mp h] at e1
            obtain ⟨c, e3, _⟩ := ph.mono _ _ _ e1
            rw [hG] at e3
            cases e3
        | some first =>
          refine ⟨_, rfl, iteT ?_⟩
          refine ⟨_, rfl, _, rfl, _, rfl, by show 2 ≤ sizeLine; decide, fun p2 np2 => ?_⟩
          have sp2 := same_upd np2 (o := .tup [.str one, .str m])
          refine ⟨d, _, rfl, (by
            have := DGet.t (k := key2 one m) (sp2 _ _ (sp1 _ _ hd8)) (by rw [key_tup]; exact upd_same)
            rw [ht8, hG] at this
            exact this), ?_⟩
          have hrd := ph.rd hG
          have sq2 := sp1.trans sp2
          refine ⟨_, rfl, e, rfl, ⟨_, sqt (sq2 _ _ he8)⟩, ?_⟩
          refine for_it (walk_tup (K := K) (a := e) (xs := ns.map V.str)) (fun k σ H' => ∃ x7 x10 kvs G2, σ = [some (.ref n), some (.ref a), some (.ref e), some (.ref d), some (.str one), x5, x6, x7, some (.str m), some (.int first), x10] ∧ Same H H' ∧ H' e = some (.tup (ns.map V.str)) ∧ H' d = some (.dT kvs) ∧ kvs.length ≤ 110 + 100 * mi + 10 * oi + k ∧ TabD kvs G2 ∧ Df.Ph ns S m F G2 ∧ Df.Mono G' G2 ∧
              ∀ v ∈ ns.take k, ∀ b, F m v = some b → Df.Le G2 one v (first + b))
            ⟨_, _, kvs, G', rfl, s8.trans sq2, sq2 _ _ he8, sq2 _ _ hd8, by omega, ht8, ph, Df.Mono.refl _, fun v hv => by simp at hv⟩ (fun i σ H' _ ⟨_, _, _, _, _, _, h, _⟩ => sqt h) ?_ ?_
          · rintro k x σ H9 H' hi3 ⟨x7, x10, kvs, G2, rfl, s9, he9, hd9, hkl9, ht9, ph9, mo9, hdn9⟩ ⟨rfl, ex⟩
            rw [nml] at hi3
            cases atn k hi3 x ex
            have hvn := hmn k hi3
            have esn3 : ns.take (k + 1) = ns.take k ++ [ns[k]] := take_snoc hi3
            generalize hv0 : ns[k] = oth at hvn esn3
            refine ⟨_, rfl, _, rfl, by show 2 ≤ sizeLine; decide, fun p3 np3 => ?_⟩
            have sp3 := same_upd np3 (o := .tup [.str m, .str oth])
            refine ⟨_, rfl, d, _, rfl, DGet.t (k := key2 m oth) (sp3 _ _ hd9) (by rw [key_tup]; exact upd_same), ?_⟩
            rw [ht9]
            cases hG2 : G2 m oth with
            | none =>
              refine ⟨_, rfl, iteF ⟨_, _, kvs, G2, rfl, s9.trans sp3, sp3 _ _ he9, sp3 _ _ hd9, by omega, ht9, ph9, mo9, fun v hv b e2 => ?_⟩⟩
              rw [esn3] at hv
              rcases List.mem_append.mp hv with h | h
              · exact hdn9 v h b e2
              · rw [List.mem_singleton.mp h] at e2
                obtain ⟨c, e3, _⟩ := ph9.mono _ _ _ e2
                rw [hG2] at e3
                cases e3
            | some y =>
              refine ⟨_, rfl, iteT ?_⟩
              -- limit = first + found[(middle, other)]
              refine ⟨_, rfl, _, rfl, _, rfl, _, rfl, by show 2 ≤ sizeLine; decide, fun p4 np4 => ?_⟩
              have sp4 := same_upd np4 (o := .tup [.str m, .str oth])
              refine ⟨d, _, rfl, (by
                have := DGet.t (k := key2 m oth) (sp4 _ _ (sp3 _ _ hd9)) (by rw [key_tup]; exact upd_same)
                rw [ht9, hG2] at this
                exact this), _, _, rfl, rfl, ?_⟩
              have ph10 := ph9.step (v := oth) hrd hG2
              have mo10 := mo9.trans (Df.relax_mono G2 one oth (first + y))
              have dn10 : ∀ v ∈ ns.take (k + 1), ∀ b, F m v = some b → Df.Le (Df.relax G2 one oth (first + y)) one v (first + b) := fun v hv b e2 => by
                rw [esn3] at hv
                rcases List.mem_append.mp hv with h | h
                · exact (Df.relax_mono G2 _ _ _).le (hdn9 v h b e2)
                · rw [List.mem_singleton.mp h] at e2 ⊢
                  obtain ⟨c, e3, l3⟩ := ph9.mono _ _ _ e2
                  rw [hG2] at e3
                  cases e3
                  exact (Df.relax_same G2 one oth (first + y)).up (by omega)
              have s34 := sp3.trans sp4
              have fin : ∀ HH, Same H' HH → Same H HH → Df.relax G2 one oth (first + y) = setF G2 one oth (first + y) →
                  sDPut (tVar 3) (tTup (tCons (tVar 4) (tCons (tVar 10) tNil))) (tVar 7) { nx := fun σ H' => ∃ x7 x10 kvs G2, σ = [some (.ref n), some (.ref a), some (.ref e), some (.ref d), some (.str one), x5, x6, x7, some (.str m), some (.int first), x10] ∧ Same H H' ∧ H' e = some (.tup (ns.map V.str)) ∧ H' d = some (.dT kvs) ∧ kvs.length ≤ 110 + 100 * mi + 10 * oi + (k + 1) ∧ TabD kvs G2 ∧ Df.Ph ns S m F G2 ∧ Df.Mono G' G2 ∧ (∀ v ∈ ns.take (k + 1), ∀ b, F m v = some b → Df.Le G2 one v (first + b)), rt := Q }
                    [some (.ref n), some (.ref a), some (.ref e), some (.ref d), some (.str one), x5, x6, some (.int (first + y)), some (.str m), some (.int first), some (.str oth)] HH := fun HH sx sy er => by
                have hdH := sx _ _ hd9
                have heH := sx _ _ he9
                refine ⟨_, rfl, _, rfl, _, rfl, _, rfl, by show 2 ≤ sizeLine; decide, fun p5 np5 => ?_⟩
                have sp := same_upd np5 (o := .tup [.str one, .str oth])
                refine ⟨d, _, rfl, DPut.t (k := key2 one oth) (sp _ _ hdH) (by rw [key_tup]; exact upd_same) (szlt (by omega)), _, _, _, setF G2 one oth (first + y), rfl, same_mut (sy.trans sp) dn, by rw [upd_ne hde.symm]; exact sp _ _ heH, upd_same, ?_, ht9.put _ _ _, ?_, ?_, ?_⟩
                · have := length_putK kvs (key2 one oth) (V.int (first + y))
                  omega
                · rw [← er]; exact ph10
                · rw [← er]; exact mo10
                · rw [← er]; exact dn10
              -- (one, other) not in found or less
              refine ⟨_, rfl, _, rfl, by show 2 ≤ sizeLine; decide, fun p5 np5 => ?_⟩
              have sp5 := same_upd np5 (o := .tup [.str one, .str oth])
              have s35 := s34.trans sp5
              refine ⟨_, rfl, d, _, rfl, DGet.t (k := key2 one oth) (s35 _ _ hd9) (by rw [key_tup]; exact upd_same), ?_⟩
              rw [ht9]
              cases hF : G2 one oth with
              | none => exact ⟨_, rfl, iteT (fin _ s35 (s9.trans s35) (relax_none hF))⟩
              | some dd =>
                refine ⟨_, rfl, iteF ?_⟩
                refine ⟨_, rfl, _, rfl, _, rfl, _, rfl, by show 2 ≤ sizeLine; decide, fun p6 np6 => ?_⟩
                have sp6 := same_upd np6 (o := .tup [.str one, .str oth])
                have s36 := s35.trans sp6
                refine ⟨d, _, rfl, (by
                  have := DGet.t (k := key2 one oth) (s36 _ _ hd9) (by rw [key_tup]; exact upd_same)
                  rw [ht9, hF] at this
                  exact this), ?_⟩
                refine ⟨_, _, rfl, rfl, _, rfl, ?_⟩
                by_cases hlt : first + y < dd
                · rw [decide_eq_true hlt]
                  exact iteT (fin _ s36 (s9.trans s36) (relax_less hF hlt))
                · rw [decide_eq_false hlt]
                  rw [relax_id hF hlt] at ph10 mo10 dn10
                  exact iteF ⟨_, _, kvs, G2, rfl, s9.trans s36, s36 _ _ he9, s36 _ _ hd9, by omega, ht9, ph10, mo10, dn10⟩
          · rintro σ H' ⟨x7, x10, kvs, G2, rfl, s9, he9, hd9, hkl9, ht9, ph9, mo9, hdn9⟩
            rw [nml, List.take_length] at hdn9
            rw [nml] at hkl9
            refine ⟨_, _, _, _, kvs, G2, rfl, s9, he9, hd9, by omega, ht9, ph9, fun u hu v hv a b e1 e2 => ?_⟩
            rw [esn2] at hu
            rcases List.mem_append.mp hu with h | h
            · exact mo9.le (hdn u h v hv a b e1 e2)
            · rw [List.mem_singleton.mp h] at e1 ⊢
              obtain ⟨c, e3, l3⟩ := ph.mono _ _ _ e1
              rw [hG] at e3
              cases e3
              exact (hdn9 v hv b e2).up (by omega)
      · rintro σ H' ⟨x4, x7, x9, x10, kvs, G', rfl, s8, he8, hd8, hkl8, ht8, ph, hdn⟩
        rw [nml, List.take_length] at hdn
        rw [nml] at hkl8
        refine ⟨_, _, _, _, _, _, _, kvs, G', rfl, s8, he8, hd8, by omega, ht8, ?_⟩
        rw [esn]
        exact fw.next hmm (fun k hk => List.mem_of_mem_take hk) ph hdn
    rintro σ H7 ⟨x4, x5, x6, x7, x8, x9, x10, kvs, F, rfl, s7, he7, hd7, hkl, ht, fw⟩
    rw [nml, List.take_length] at fw
    obtain ⟨kN, kD⟩ := hk F fw
    -- a name less than itself
    refine ⟨_, rfl, e, rfl, ⟨_, sqt he7⟩, ?_⟩
    refine for_it (walk_tup (K := K) (a := e) (xs := ns.map V.str)) (fun i σ H' => ∃ x4, σ = [some (.ref n), some (.ref a), some (.ref e), some (.ref d), x4, x5, x6, x7, x8, x9, x10] ∧ Same H H' ∧ H' e = some (.tup (ns.map V.str)) ∧ H' d = some (.dT kvs) ∧ ∀ u ∈ ns.take i, F u u = some 0)
      ⟨_, rfl, s7, he7, hd7, fun u hu => by simp at hu⟩ (fun i σ H' _ ⟨_, _, _, h, _⟩ => sqt h) ?_ ?_
    · rintro i x σ H9 H' hi ⟨x4, rfl, s8, he8, hd8, hz⟩ ⟨rfl, ex⟩
      rw [nml] at hi
      cases atn i hi x ex
      obtain ⟨dd, edd, ldd⟩ := fw.dg _ (hmn i hi)
      refine ⟨_, rfl, _, rfl, _, rfl, by show 2 ≤ sizeLine; decide, fun p1 np1 => ?_⟩
      have sp1 := same_upd np1 (o := .tup [.str ns[i], .str ns[i]])
      refine ⟨d, _, rfl, (by
        have := DGet.t (k := key2 ns[i] ns[i]) (sp1 _ _ hd8) (by rw [key_tup]; exact upd_same)
        rw [ht, edd] at this
        exact this), ?_⟩
      refine ⟨_, _, rfl, rfl, _, rfl, ?_⟩
      by_cases hlt : dd < 0
      · rw [decide_eq_true hlt]
        exact iteT (kN _ (hmn i hi) _ edd hlt _ (s8.trans sp1))
      · rw [decide_eq_false hlt]
        refine iteF ⟨_, rfl, s8.trans sp1, sp1 _ _ he8, sp1 _ _ hd8, fun u hu => ?_⟩
        rw [take_snoc hi] at hu
        rcases List.mem_append.mp hu with h | h
        · exact hz u h
        · rw [List.mem_singleton.mp h, edd]
          congr 1
          omega
    · rintro σ H' ⟨x4, rfl, s8, he8, hd8, hz⟩
      rw [nml, List.take_length] at hz
      exact ⟨_, rfl, kD hz H' d kvs s8 hd8 ht⟩
end
end K1

namespace K1
open PySem PySem.Spec PyProof.Rows L2 Ls
/-! ### the law's systems -/
def PartsAt (H0 H : Hp) (a : Addr) (names : List Str) (Ss : List (List Df3)) (ls : List Addr) : Prop := H a = some (.lst (ls.map V.ref)) ∧ ls.Nodup ∧ a ∉ ls ∧ (∀ r ∈ ls, H0 r = none) ∧ Paired (fun r S => SysAt H r S ∧ DrawnS names S ∧ S.length ≤ 4) ls Ss
def spParts (K : PySem.W.Frag) : Sp := fun vs H Q _ => ∃ (a t : Addr) (ns : List Int) (at_ most : Int) (names : List Str), vs = [.ref a, .int at_, .ref t, .int most] ∧ Scr K H a ns ∧ H t = some (.tup (names.map V.str)) ∧ (("0" : Str) :: names).Nodup ∧ 1 ≤ names.length ∧ names.length ≤ 10 ∧ 0 ≤ most ∧ most ≤ 20 ∧
  ∀ H' b Ss ls, Same H H' → PartsAt H H' b names Ss ls → (Ss.length : Int) ≤ most → Q (.ref b) H'
section
variable {P : Program} {w : World} {K : PySem.W.Frag} {mg : Str → Option Value} {base : Heap} {f C CN : Addr} {fd : FuncData} {k : Nat}
theorem sc_u_law_parts : FnScope ["script", "at", "names", "most", "turn"] ["script", "at", "names", "most"] (defScope s_u_law_parts) := ⟨rfl, rfl, rfl, by decide +kernel, rfl, by decide +kernel, by decide +kernel⟩
theorem ok_parts (F : FnP K "_law_parts" s_u_law_parts [] f fd) (G : Facts mg) (C_u_law_draw : Cal P w K mg base 1 "_law_draw" (spDraw K) []) (C_u_law_system : Cal P w K mg base 2 "_law_system" (spSystem K) []) : FnOk P w K mg base CX0 3 f fd ["script", "at", "names", "most"] (spParts K) := by
  refine F.ok sc_u_law_parts (fun vs H Q E h => ?_) (fun cdv A outer s H vs Q E hr h => ?_)
  · obtain ⟨a, t, ns, at_, most, names, rfl, _⟩ := h
    rfl
  · obtain ⟨a, t, ns, at_, most, names, rfl, hS, ht, hnd, h1, h10, m0, m20, hk⟩ := h
    have hu := hu_of hr
    refine ⟨_, PSs.nox (pss_one (ps_ret (pe_lc (own := [("turn", 4)]) (g := gName 4) (tt := tYes) rfl sc_u_law_parts.nd  (pi_range1 (by rfl) G.range_ (pa_cons (pe_c C_u_law_draw hr (by decide) (by rfl) (pa_cons (pv 0) (pa_cons (pv 1) (pa_cons (pe_op op_add (pv 3) pe_int) pa_nil)))) pa_nil)) (blkOk_by (by kernel_rfl)) (fun _ _ _ _ _ => (pg_name (i := 4) sc_u_law_parts.nd rfl (by first | exact .inl rfl | exact .inr rfl))) (fun _ _ _ _ _ => pts_nil) (fun _ _ _ _ _ => (pe_c C_u_law_system hr (by decide) (by rfl) (pa_cons (pv 0) (pa_cons (pe_op op_add (pe_op op_add (pv 1) pe_int) (pe_op op_mul pe_int (pv 4))) (pa_cons (pv 2) (pa_cons pe_int pa_nil))))))))), ?_⟩
    refine ⟨_, rfl, _, rfl, _, rfl, _, _, rfl, rfl, a, ns, at_, most + 1, rfl, hS, by omega, fun H1 d s1 d0 d1 => ?_⟩
    refine ⟨d, rfl, by omega, by omega, fun D hD => ?_⟩
    refine lc_it (walk_range (lo := 0) (n := d.toNat)) (fun i H' => Same H1 H' ∧ ∃ (ls : List Addr) (Ss : List (List Df3)), H' D = some (.lst (ls.map V.ref)) ∧ Ss.length = i ∧ ls.Nodup ∧ (∀ r ∈ ls, r ≠ D ∧ H' r ≠ none ∧ H r = none) ∧ Paired (fun r S => r ≠ D ∧ SysAt H' r S ∧ DrawnS names S ∧ S.length ≤ 4) ls Ss) ⟨same_upd hD, [], [], upd_same, rfl, List.nodup_nil, fun r hr => (List.not_mem_nil hr).elim, .nil⟩ (fun _ _ _ _ => True.intro) ?_ ?_
    · rintro i x H8 H' hi ⟨s2, ls, Ss, dD, hl, hnl, hne, hp⟩ ⟨rfl, rfl⟩
      refine ⟨rfl, _, rfl, _, rfl, _, _, rfl, rfl, _, rfl, _, _, rfl, rfl, .inl ⟨by decide, by decide⟩, _, _, rfl, rfl, _, rfl, ?_⟩
      refine ⟨a, t, ns, _, 4, names, rfl, hS.mono (s1.trans s2), s2 _ _ (s1 _ _ ht), hnd, h1, h10, by decide, by decide, fun H4 b S nb s4 hb hdr hbl => ?_⟩
      refine ⟨ls.map V.ref, s4 _ _ dD, szlt (by rw [List.length_map, plen hp, hl]; omega), ?_⟩
      have off : ∀ r S, r ≠ D → SysAt H4 r S → SysAt (upd H4 D (.lst (ls.map V.ref ++ [.ref b]))) r S := fun r S hr ⟨ws, h1, h2⟩ => ⟨ws, by rw [upd_ne hr]; exact h1, pmono (fun v e ⟨q, e1, e2⟩ => ⟨q, e1, by rw [upd_ne (ne_of e2 (s4 _ _ dD) (by intro z; cases z))]; exact e2⟩) h2⟩
      refine ⟨same_mut (s2.trans s4) hD, ls ++ [b], Ss ++ [S], by rw [upd_same, List.map_append]; rfl, by rw [List.length_append, hl]; rfl, List.nodup_append.mpr ⟨hnl, by simp, fun r hr q hq z => by rw [List.mem_singleton.mp hq] at z; exact (hne r hr).2.1 (by rw [z]; exact nb)⟩, fun r hr => ?_, ?_⟩
      · rcases List.mem_append.mp hr with h | h
        · obtain ⟨n1, n2, n3⟩ := hne r h
          refine ⟨n1, ?_, n3⟩
          rw [upd_ne n1]
          cases e : H' r with
          | none => exact absurd e n2
          | some o => rw [s4 _ _ e]; simp
        · rw [List.mem_singleton.mp h]
          refine ⟨(ne_of_none dD nb).symm, ?_, (s1.trans s2).free nb⟩
          rw [upd_ne (ne_of_none dD nb).symm]
          obtain ⟨ws, h1, _⟩ := hb
          rw [h1]; simp
      exact (pmono (fun _ _ ⟨n, h1, h2⟩ => ⟨n, off _ _ n (h1.mono s4), h2⟩) hp).snoc ⟨(ne_of_none dD nb).symm, off _ _ (ne_of_none dD nb).symm hb, hdr, by omega⟩
    rintro H2 ⟨s2, ls, Ss, dD, hl, hnl, hne, hp⟩
    refine hk H2 D Ss ls (s1.trans s2) ⟨dD, hnl, fun h => (hne _ h).1 rfl, fun r hr => (hne r hr).2.2, pmono (fun _ _ h => h.2) hp⟩ (by omega)
end
end K1

namespace K1
open PySem PySem.Spec PyProof.Rows L2 Ls
/-- the least point is one -/
theorem Lp.one {ks : List Str} {Rs : List (Df.Tab Str)} {x : Str → Int} {e e' : Except Str (Str → Int)} (h : Lp ks Rs x e) (h' : Lp ks Rs x e') : e = e' := by
  induction h generalizing e' with
  | nil => cases h'; rfl
  | bad hb =>
    cases h' with
    | bad _ => rfl
    | step h2 _ _ _ =>
      obtain ⟨R, hR, hl⟩ := hb
      have := h2 R hR
      omega
  | step h1 hm hM t ih =>
    cases h' with
    | bad hb =>
      obtain ⟨R, hR, hl⟩ := hb
      have := h1 R hR
      omega
    | step h2 hm2 hM2 t2 =>
      obtain ⟨R, hR, e1⟩ := hm
      obtain ⟨R2, hR2, e2⟩ := hm2
      have a1 := hM2 R hR
      have a2 := hM R2 hR2
      have e := Int.le_antisymm (e1 ▸ a1) (e2 ▸ a2)
      subst e
      exact ih t2
/-- a set name is two rows more -/
theorem setR_rows (R : Df.Tab Str) (z k : Str) (x : Int) : Df.addedR R [(k, z, x), (z, k, 0 - x)] = Df.setR R z k x := by
  unfold Df.setR
  show (Df.moreR R k z x).bind (fun R' => (Df.moreR R' z k (0 - x)).bind fun R'' => some R'') = _
  congr 1
  funext R'
  cases Df.moreR R' z k (0 - x) <;> rfl
theorem addedR_set (S : List Df3) (z k : Str) (x : Int) : Df.addedR Df.blankR (S ++ [(k, z, x), (z, k, 0 - x)]) = (Df.addedR Df.blankR S).bind fun R => Df.setR R z k x := by
  rw [Df.addedR_append]
  congr 1
  funext R
  exact setR_rows R z k x
/-- the systems with two rows more, and their tables -/
theorem tabsOf_set (Ss : List (List Df3)) (z k : Str) (x : Int) : tabsOf (Ss.map fun S => S ++ [(k, z, x), (z, k, 0 - x)]) = (tabsOf Ss).filterMap fun R => Df.setR R z k x := by
  unfold tabsOf
  rw [List.filterMap_map, List.filterMap_filterMap]
  congr 1
  funext S
  exact addedR_set S z k x
/-- the systems that have a table are enough -/
def hasT (S : List Df3) : Bool := (Df.addedR Df.blankR S).isSome
theorem tabsOf_has : ∀ Ss : List (List Df3), tabsOf (Ss.filter hasT) = tabsOf Ss
  | [] => rfl
  | S :: Ss => by
    have ih := tabsOf_has Ss
    unfold tabsOf at ih ⊢
    rw [List.filter_cons]
    cases e : Df.addedR Df.blankR S with
    | none => rw [if_neg (by simp [hasT, e]), List.filterMap_cons, e]; exact ih
    | some R => rw [if_pos (by simp [hasT, e]), List.filterMap_cons, List.filterMap_cons, e, ih]
theorem tabsOf_nil : ∀ {Ss : List (List Df3)}, tabsOf Ss = [] → Ss.filter hasT = []
  | [], _ => rfl
  | S :: Ss, h => by
    unfold tabsOf at h
    rw [List.filterMap_cons] at h
    cases e : Df.addedR Df.blankR S with
    | none =>
      rw [e] at h
      rw [List.filter_cons, if_neg (by simp [hasT, e])]
      exact tabsOf_nil h
    | some R => rw [e] at h; cases h
end K1

namespace K1
open PySem PySem.Spec PyProof.Rows L2 Ls
/-- _law_table at a system that fits -/
theorem ltabF {H : Hp} {n a : Addr} {nms : List Str} {S : List Df3} {L : Int} {Q : V → Hp → Prop} {E : XK} (hn : H n = some (.tup (nms.map V.str))) (hS : SysAt H a S) (hnd : (("0" : Str) :: nms).Nodup) (hl : nms.length ≤ 9) (hSl : S.length ≤ 100)
    (fit : Df.Fit (("0" : Str) :: nms) S L) (hL : (((("0" : Str) :: nms).length : Nat) : Int) * L ≤ 10 ^ 28) (hno : Df.addedR Df.blankR S = none → ∀ H', Same H H' → Q .non H')
    (hyes : ∀ R, Df.addedR Df.blankR S = some R → ∀ H' q kvs, Same H H' → H' q = some (.dT kvs) → TabD kvs (Df.opt (("0" : Str) :: nms) R) → Q (.ref q) H') : spLTable [.ref n, .ref a] H Q E := by
  have hin : ∀ e ∈ S, e.1 ∈ ("0" : Str) :: nms ∧ e.2.1 ∈ ("0" : Str) :: nms := fun e he => ⟨(fit.ins e he).1, (fit.ins e he).2.1⟩
  refine ⟨n, a, nms, S, rfl, hn, hS, by rw [List.length_cons]; omega, hin, hSl, fun F fw => ⟨fun u _ d e hd => ?_, fun z H' q kvs s hq ht => ?_⟩⟩
  · cases e1 : Df.addedR Df.blankR S with
    | none => exact hno e1
    | some R =>
      obtain ⟨p, hp⟩ := fit.solvable rfl hnd e1
      exact absurd hp (fw.neg e hd p)
  · cases e1 : Df.addedR Df.blankR S with
    | none => exact absurd ((fw.cl z).solves fw.cmp hin) (fit.none e1 _)
    | some R =>
      obtain ⟨p, hp⟩ := fit.solvable rfl hnd e1
      exact hyes R e1 H' q kvs s hq (by rw [fw.eq z fit e1 hp hL]; exact ht)
/-- a system over few names, its limits at most L, of at most m rows -/
structure Sys9 (ns : List Str) (L : Int) (m : Nat) (S : List Df3) : Prop where
  ends : ∀ e ∈ S, e.1 ∈ ns ∧ e.2.1 ∈ ns
  lim : ∀ e ∈ S, -L ≤ e.2.2 ∧ e.2.2 ≤ L
  len : S.length ≤ m
theorem Sys9.fit {ns : List Str} {L : Int} {m : Nat} {S : List Df3} (h : Sys9 ns L m S) (hn : ns.length ≤ 4) (hm : m ≤ 13) (h0 : 0 ≤ L) (hL : L ≤ 320000000000000000) : Df.Fit ns S L := by
  refine ⟨h0, fun e he => ⟨(h.ends e he).1, (h.ends e he).2, h.lim e he⟩, ?_⟩
  have h1 : (9 : Int) ^ ns.length ≤ 9 ^ 4 := by
    have : (9 : Nat) ^ ns.length ≤ 9 ^ 4 := Nat.pow_le_pow_right (by decide) hn
    exact_mod_cast this
  have h2 : (3 : Int) ^ S.length ≤ 3 ^ 13 := by
    have : (3 : Nat) ^ S.length ≤ 3 ^ 13 := Nat.pow_le_pow_right (by decide) (by have := h.len; omega)
    exact_mod_cast this
  have p9 := Df.pow9 ns.length
  have p3 := Df.pow3 S.length
  have a1 : (3 : Int) ^ S.length * L ≤ 3 ^ 13 * L := Int.mul_le_mul_of_nonneg_right h2 h0
  have a0 : (0 : Int) ≤ 3 ^ S.length * L := Int.mul_nonneg (by omega) h0
  have a2 : (9 : Int) ^ ns.length * (3 ^ S.length * L) ≤ 9 ^ 4 * (3 ^ S.length * L) := Int.mul_le_mul_of_nonneg_right h1 a0
  omega
theorem Sys9.four {ns : List Str} {L : Int} (hn : ns.length ≤ 4) (h0 : 0 ≤ L) (hL : L ≤ 320000000000000000) : (ns.length : Int) * L ≤ 10 ^ 28 ∧ (ns.length : Int) * L ≤ 4 * L := by
  have : (ns.length : Int) * L ≤ 4 * L := Int.mul_le_mul_of_nonneg_right (by omega) h0
  omega
/-- one name more is set -/
theorem Sys9.set {z : Str} {nms : List Str} {L : Int} {m : Nat} {S : List Df3} (h : Sys9 (z :: nms) L m S) (h0 : 0 ≤ L) {k : Str} (hk : k ∈ z :: nms) {M : Int} (hM : -(4 * L) ≤ M ∧ M ≤ 4 * L) : Sys9 (z :: nms) (4 * L) (m + 2) (S ++ [(k, z, 0 - M), (z, k, 0 - (0 - M))]) := by
  refine ⟨fun e he => ?_, fun e he => ?_, by have := h.len; simp; omega⟩
  · rcases List.mem_append.mp he with he | he
    · exact h.ends e he
    · rcases List.mem_cons.mp he with rfl | he
      · exact ⟨hk, List.mem_cons_self ..⟩
      · rw [List.mem_singleton.mp he]
        exact ⟨List.mem_cons_self .., hk⟩
  · rcases List.mem_append.mp he with he | he
    · have := h.lim e he
      omega
    · rcases List.mem_cons.mp he with rfl | he
      · exact ⟨by show _ ≤ 0 - M; omega, by show 0 - M ≤ _; omega⟩
      · rw [List.mem_singleton.mp he]
        exact ⟨by show _ ≤ 0 - (0 - M); omega, by show 0 - (0 - M) ≤ _; omega⟩
theorem mem_tabsOf {Ss : List (List Df3)} {R : Df.Tab Str} : R ∈ tabsOf Ss ↔ ∃ S ∈ Ss, Df.addedR Df.blankR S = some R := List.mem_filterMap
/-- a table's limit is small -/
theorem Sys9.bound {z : Str} {nms : List Str} {L : Int} {m : Nat} {S : List Df3} (h : Sys9 (z :: nms) L m S) (hnd : (z :: nms).Nodup) (hn : (z :: nms).length ≤ 4) (hm : m ≤ 13) (h0 : 0 ≤ L) (hL : L ≤ 320000000000000000) {R : Df.Tab Str} (e : Df.addedR Df.blankR S = some R) {k : Str} (hk : k ∈ z :: nms) (hf : R z k ≤ Df.HALFI) : -(4 * L) ≤ R z k ∧ R z k ≤ 4 * L := by
  have fit := h.fit hn hm h0 hL
  obtain ⟨p, hp⟩ := fit.solvable rfl hnd e
  obtain ⟨f1, f2⟩ := Sys9.four (ns := z :: nms) hn h0 hL
  have := fit.bound e hp (List.mem_cons_self ..) hk hf f1
  omega
/-- a greatest one -/
theorem maxOf : ∀ (l : List Int), l ≠ [] → ∃ M ∈ l, ∀ x ∈ l, x ≤ M
  | [], h => absurd rfl h
  | [a], _ => ⟨a, by simp, fun x hx => by rw [List.mem_singleton.mp hx]; exact Int.le_refl _⟩
  | a :: b :: l, _ => by
    obtain ⟨M, hM, h⟩ := maxOf (b :: l) (by simp)
    by_cases c : M ≤ a
    · refine ⟨a, List.mem_cons_self .., fun x hx => ?_⟩
      rcases List.mem_cons.mp hx with rfl | hx
      · exact Int.le_refl _
      · exact Int.le_trans (h x hx) c
    · refine ⟨M, List.mem_cons_of_mem _ hM, fun x hx => ?_⟩
      rcases List.mem_cons.mp hx with rfl | hx
      · omega
      · exact h x hx
/-- the one with the greatest offer has a table when it is set -/
theorem set_some {z : Str} {nms : List Str} {L : Int} {m : Nat} {S : List Df3} (h : Sys9 (z :: nms) L m S) (hn : (z :: nms).length ≤ 4) (hm : m ≤ 13) (h0 : 0 ≤ L) (hL : L ≤ 320000000000000000) {R : Df.Tab Str} (e : Df.addedR Df.blankR S = some R) {k : Str} (hk : k ∈ z :: nms) (hf : R z k ≤ Df.HALFI) : ∃ R', Df.setR R z k (0 - R z k) = some R' := by
  have fit := h.fit hn hm h0 hL
  have ok := (fit.some e).1
  have h3 := fit.le3
  have hs := fit.small
  have h9 : 9 * (3 ^ S.length * L) ≤ 10 ^ 28 := by
    have : (9 : Int) * (3 ^ S.length * L) ≤ 9 ^ (z :: nms).length * (3 ^ S.length * L) := by
      refine Int.mul_le_mul_of_nonneg_right ?_ h3.2.1
      rw [List.length_cons, Int.pow_succ]
      have := Df.pow9 nms.length
      omega
    omega
  obtain ⟨R1, R2, e1, e2, _⟩ := ok.setTo h3.2.1 h9 (List.mem_cons_self (a := z)) hk
  have hv : Df.valOf R z k = 0 - R z k := if_pos hf
  rw [hv] at e1 e2
  exact ⟨R2, by unfold Df.setR; rw [e1]; exact e2⟩
/-- there is a least point, or a name without one -/
theorem Lp.ex {nms : List Str} (hnd : (("0" : Str) :: nms).Nodup) (hn : (("0" : Str) :: nms).length ≤ 4) : ∀ (ks : List Str) (Ss : List (List Df3)) (x : Str → Int) (L : Int) (m : Nat), (∀ S ∈ Ss, Sys9 (("0" : Str) :: nms) L m S) → tabsOf Ss ≠ [] → m + 2 * ks.length ≤ 13 → 0 ≤ L → 4 ^ ks.length * L ≤ 320000000000000000 → (∀ k ∈ ks, k ∈ nms) → ∃ r, Lp ks (tabsOf Ss) x r
  | [], _, x, _, _, _, _, _, _, _, _ => ⟨_, .nil⟩
  | k :: ks, Ss, x, L, m, hS, hne, hm, h0, hL, hk => by
    rw [List.length_cons] at hm
    rw [List.length_cons, Int.pow_succ, Int.mul_assoc] at hL
    have p4 : (1 : Int) ≤ 4 ^ ks.length := by have := Int.pow_pos (n := 4) (m := ks.length) (by decide); omega
    have hL1 : 4 * L ≤ 4 ^ ks.length * (4 * L) := by have := Int.mul_le_mul_of_nonneg_right p4 (show 0 ≤ 4 * L by omega); omega
    have hkn : k ∈ ("0" : Str) :: nms := List.mem_cons_of_mem _ (hk k (List.mem_cons_self ..))
    by_cases hb : ∃ R ∈ tabsOf Ss, Df.HALFI < R "0" k
    · exact ⟨_, .bad hb⟩
    have hfin : ∀ R ∈ tabsOf Ss, R "0" k ≤ Df.HALFI := fun R hR => by
      by_cases c : Df.HALFI < R "0" k
      · exact absurd ⟨R, hR, c⟩ hb
      · omega
    obtain ⟨M, hM, hmax⟩ := maxOf ((tabsOf Ss).map fun R => R "0" k) (by simpa using hne)
    obtain ⟨Rm, hRm, eM⟩ := List.mem_map.mp hM
    obtain ⟨Sm, hSm, eS⟩ := mem_tabsOf.mp hRm
    have bd := (hS Sm hSm).bound hnd hn (by omega) h0 (by omega) eS hkn (hfin _ hRm)
    obtain ⟨R', eR'⟩ := set_some (hS Sm hSm) hn (by omega) h0 (by omega) eS hkn (hfin _ hRm)
    have eM : Rm "0" k = M := eM
    rw [eM] at eR' bd
    have ts := tabsOf_set Ss "0" k (0 - M)
    obtain ⟨r, hr⟩ := Lp.ex hnd hn ks (Ss.map fun S => S ++ [(k, ("0" : Str), 0 - M), (("0" : Str), k, 0 - (0 - M))]) (Df.put x k (0 - M)) (4 * L) (m + 2)
      (fun S' hS' => by
        obtain ⟨S, h1, rfl⟩ := List.mem_map.mp hS'
        exact (hS S h1).set h0 hkn bd)
      (by
        rw [ts]
        intro z
        have : R' ∈ ([] : List (Df.Tab Str)) := z ▸ List.mem_filterMap.mpr ⟨Rm, hRm, eR'⟩
        cases this)
      (by omega) (by omega) hL (fun k' hk' => hk k' (List.mem_cons_of_mem _ hk'))
    rw [ts] at hr
    exact ⟨r, .step hfin ⟨Rm, hRm, eM⟩ (fun R hR => hmax _ (List.mem_map.mpr ⟨R, hR, rfl⟩)) hr⟩
end K1

namespace K1
open PySem PySem.Spec PyProof.Rows L2 Ls
/-! ### systems as data; the law's names of a system -/
def OkN (S : List Df3) : Prop := ∀ e ∈ S, PySem.PyData.strOk e.1 = true ∧ PySem.PyData.strOk e.2.1 = true
theorem okNames {S : List Df3} (h : OkN S) : ∀ x ∈ namesOf S, PySem.PyData.strOk x = true := fun x hx => by
  obtain ⟨e, he, h1, _⟩ := mem_namesOf.mp hx
  rcases h1 with rfl | rfl
  · exact (h e he).1
  · exact (h e he).2
/-! rows as data -/
def rowD (e : Df3) : PyData := .tuple [.str e.1, .str e.2.1, .int e.2.2]
theorem rowD_ok {e : Df3} (h : PySem.PyData.strOk e.1 = true ∧ PySem.PyData.strOk e.2.1 = true) : PyData.canLay0 (rowD e) = true := by
  unfold rowD
  simp only [PyData.canLay0, PyData.canLayAll0, h.1, h.2]
  rfl
theorem rowD_dep (e : Df3) : PyData.depth (rowD e) ≤ 5 := by
  unfold rowD
  simp only [PyData.depth, PyData.depthAll]
  omega
theorem dpSys {K : PySem.W.Frag} {H : Hp} : ∀ {vs : List V} {S : List Df3}, Paired (RowT H) vs S → DpAll K H vs (S.map rowD)
  | _, _, .nil => .nil
  | _, _, .cons ⟨r, e, h⟩ t => by
    subst e
    exact .cons (.tup (sqt h) (.cons (.str _) (.cons (.str _) (.cons (.int _) .nil)))) (dpSys t)
theorem eqv_none (S : List Df3) : PyData.eqv (.list (S.map rowD)) (.list []) = S.isEmpty := by
  cases S with
  | nil => simp [PyData.eqv, PyData.eqvAll]
  | cons e S => simp [PyData.eqv, PyData.eqvAll]
theorem shaped_sys {S : List Df3} (h : OkN S) : SeqAt.shaped (.list (S.map rowD)) = true := shaped_list rowD 5 (by decide) rowD_dep S fun e he => rowD_ok (h e he)
theorem eqv_sys {S : List Df3} (h : OkN S) : PyData.eqv (.list (S.map rowD)) (.list (S.map rowD)) = true := eqv_list rowD S fun e he => rowD_ok (h e he)
theorem cut_upto (xs : List V) (n : Nat) : cutV xs none (some (n : Int)) = xs.take n := by
  unfold cutV
  rw [HT.sIx_nat, HT.sIx_none, List.drop_zero, Nat.sub_zero, ← List.take_eq_take_min]
theorem cut_from (xs : List V) (n : Nat) : cutV xs (some (n : Int)) none = xs.drop n := by
  unfold cutV
  rw [HT.sIx_nat, HT.sIx_none]
  rcases Nat.le_total n xs.length with h | h
  · rw [Nat.min_eq_left h, List.take_of_length_le (by rw [List.length_drop]; omega)]
  · rw [Nat.min_eq_right h, List.drop_of_length_le (Nat.le_refl _), List.drop_of_length_le h]
    simp
theorem ptake {α β : Type} {F : α → β → Prop} : ∀ {xs : List α} {ys : List β} (n : Nat), Paired F xs ys → Paired F (xs.take n) (ys.take n)
  | _, _, 0, _ => by simp only [List.take_zero]; exact .nil
  | _, _, n + 1, .nil => by simp only [List.take_nil]; exact .nil
  | _, _, n + 1, .cons r t => .cons r (ptake n t)
theorem pdrop {α β : Type} {F : α → β → Prop} : ∀ {xs : List α} {ys : List β} (n : Nat), Paired F xs ys → Paired F (xs.drop n) (ys.drop n)
  | _, _, 0, h => h
  | _, _, n + 1, .nil => by simp only [List.drop_nil]; exact .nil
  | _, _, n + 1, .cons r t => pdrop n t
theorem papp {α β : Type} {F : α → β → Prop} : ∀ {xs us : List α} {ys zs : List β}, Paired F xs ys → Paired F us zs → Paired F (xs ++ us) (ys ++ zs)
  | _, _, _, _, .nil, h => h
  | _, _, _, _, .cons r t, h => .cons r (papp t h)
def spLawNames : Sp := spNamesOf
section
variable {P : Program} {w : World} {K : PySem.W.Frag} {mg : Str → Option Value} {base : Heap} {f C : Addr} {fd : FuncData} {k : Nat}
end
end K1

/-! LsMeth: own methods as callers need them: raising ones (also within a try), ones with star arguments, classmethods; cls(..) within a classmethod; != of None or dicts. -/
namespace Ls
open PySem PySem.Spec PyProof.Rows L2 ClX
section
variable (P : Program) (w : World) (K : PySem.W.Frag) (mg : Str → Option Value) (base : Heap) (k : Nat) (C : Addr) (m : Str) (sp : Sp)
/-- a method that may raise -/
structure MetX : Prop where
  cl : Cls K C
  ex : ∃ (f : Addr) (fd : FuncData) (ps : List Str), Meth K C m f ∧ FnOk P w K mg base (L2.CX P w) k f fd ps sp ∧ Binds K fd ps []
/-- a method that raises nothing -/
structure MetS : Prop where
  cl : Cls K C
  ex : ∃ (f : Addr) (fd : FuncData) (ps : List Str), Meth K C m f ∧ FnOk P w K mg base CX0 k f fd ps sp ∧ Binds K fd ps []
/-- .. by position -/
structure MetR : Prop where
  cl : Cls K C
  ex : ∃ (f : Addr), Meth K C m f ∧ FnR P w K mg base CX0 k f sp
/-- a classmethod -/
structure MetCl : Prop where
  ex : ∃ (mc : Value) (p g : Addr), CRead K C mc ∧ CMet K C mc m p g ∧ FnR P w K mg base CX0 k g sp
end
/-- o.m() within a try -/
def tMethX (C : Addr) (m : Str) (sp : Sp) (W : WX) (ta : TE) : TE := fun σ H Q => ta σ H fun x H1 => ∃ a dx fs, x = .ref a ∧ H1 a = some (.ins C dx fs) ∧ fs.lookup m = none ∧ sp [x] H1 Q (WE W σ)
def tMakeV (i : Nat) (C : Addr) (n : Nat) (sp : Sp) (gV : List V → List V → List V) (t : TA) : TE := fun σ H Q => σ[i]? = some (some (.ref C)) ∧ t σ H fun vs H1 => vs.length = n ∧ ∀ x dx, H1 x = none → H1 dx = none → dx ≠ x →
  sp (gV (.ref x :: vs) []) (upd (upd H1 dx (.own x)) x (.ins C dx [])) (fun v H3 => v = .non ∧ Q (.ref x) H3) E0
section
variable {X : Cx} {W : WX} {E : XK} {o e : Expr} {es : List Expr} {ta : TE} {t : TA} {p pos apos : Pos} {x m : Str} {k j : Nat} {sp : Sp} {C : Addr} {pl : Sem Bool}
theorem pe_mx0 (c : MetX X.prog X.w X.K X.mg X.base k C m sp) (tk : Takes X W) (hE : ∀ cls d σ H, E cls d H → W cls d σ H) (hr : Room j X.A) (hk : k ≤ j) (he : PE X o ta)
    (ht : eval (.Call (.Attribute o m apos) [] [] pos) X.env = (do
      let ov ← eval o X.env
      standAt apos.atName
      let (f, first) ← holding [ov] (getMethod ov m pl)
      callWith pos f first (backTo pos (starEach [] X.env)) (backToKw pos (keywordEach [] X.env))) := by rfl) :
    PE X (.Call (.Attribute o m apos) [] [] pos) (tMeth C m sp [] E ta tNil) := by
  have ⟨f, fd, ps, hm, F, b⟩ := c.ex
  exact pe_meth0 he c.cl hm F (hr.mono hk) b .nil (passes_call tk hE) ht
theorem pe_mxS0 (c : MetX X.prog X.w X.K X.mg X.base k C m sp) (tk : Takes X W) (hr : Room j X.A) (hk : k ≤ j) (he : PE X o ta)
    (ht : eval (.Call (.Attribute o m apos) [] [] pos) X.env = (do
      let ov ← eval o X.env
      standAt apos.atName
      let (f, first) ← holding [ov] (getMethod ov m pl)
      callWith pos f first (backTo pos (starEach [] X.env)) (backToKw pos (keywordEach [] X.env))) := by rfl) :
    PE X (.Call (.Attribute o m apos) [] [] pos) (tMethX C m sp W ta) := by
  have ⟨f, fd, ps, hm, F, b⟩ := c.ex
  refine ⟨fun pins s σ H Q I h => ?_⟩
  refine PySem.W.methodCall_KW (pl := pl) (thn (he.run pins s σ H _ I h) fun u s1 ⟨x, H1, I1, rx, a, dx, fs, ex, ea, l, q⟩ => ?_) ht
  subst ex
  obtain rfl : u = Value.ref a := rx
  refine getmeth_ok I1 ea c.cl hm l ?_
  exact PySem.W.callWith_K0 (first := [.ref a]) I1.kIn hm.kp (run_fnS (E := WE W) (us := [.ref a]) (vs := [.ref a]) F (hr.mono hk) b (passAt tk σ) I1 (.cons rfl .nil) q)
theorem pe_mr (c : MetR X.prog X.w X.K X.mg X.base k C m sp) (hr : Room j X.A) (hk : k ≤ j) (he : PE X o ta) (ha : PA X (e :: es) t)
    (hst : starEach (e :: es) X.env = (false, eval e X.env) :: starEach es X.env := by rfl) (hpl : (backTo pos (starEach es X.env)).any (·.1) = false := by rfl)
    (ht : eval (.Call (.Attribute o m apos) (e :: es) [] pos) X.env = (do
      let ov ← eval o X.env
      standAt apos.atName
      let (f, first) ← holding [ov] (getMethod ov m pl)
      callWith pos f first (backTo pos (starEach (e :: es) X.env)) (backToKw pos (keywordEach [] X.env))) := by rfl) :
    PE X (.Call (.Attribute o m apos) (e :: es) [] pos) (tMethR C m sp E0 ta t) := by
  have ⟨f, hm, F⟩ := c.ex
  exact pe_methR he c.cl hm F (hr.mono hk) pass0 ha hst hpl ht
theorem pe_mcl (c : MetCl X.prog X.w X.K X.mg X.base k C m sp) (hr : Room j X.A) (hk : k ≤ j) (he : PE X o ta) (ha : PA X (e :: es) t)
    (hst : starEach (e :: es) X.env = (false, eval e X.env) :: starEach es X.env := by rfl) (hpl : (backTo pos (starEach es X.env)).any (·.1) = false := by rfl)
    (ht : eval (.Call (.Attribute o m apos) (e :: es) [] pos) X.env = (do
      let ov ← eval o X.env
      standAt apos.atName
      let (f, first) ← holding [ov] (getMethod ov m pl)
      callWith pos f first (backTo pos (starEach (e :: es) X.env)) (backToKw pos (keywordEach [] X.env))) := by rfl) :
    PE X (.Call (.Attribute o m apos) (e :: es) [] pos) (tCMeth C sp E0 ta t) := by
  have ⟨mc, q, g, r, cm, F⟩ := c.ex
  exact pe_cmeth he r cm F (hr.mono hk) pass0 ha hst hpl ht
theorem kNiOwn (c : MetS X.prog X.w X.K X.mg X.base k C "__contains__" sp) (hr : Room j X.A) (hk : k ≤ j) : OpR X (compareOp .NotIn) (rNiOwn C sp E0) := by
  have ⟨f, fd, ps, hm, F, b⟩ := c.ex
  exact op_niOwn hm F (hr.mono hk) b pass0
theorem kInOwn (c : MetS X.prog X.w X.K X.mg X.base k C "__contains__" sp) (hr : Room j X.A) (hk : k ≤ j) : OpR X (compareOp .In) (rInOwn C sp E0) := by
  have ⟨f, fd, ps, hm, F, b⟩ := c.ex
  exact op_inOwn hm F (hr.mono hk) b pass0
/-- cls(e, ..), cls a local name that holds the class -/
theorem pe_mkV {i n : Nat} {nm : Str} {gV : List V → List V → List V} (c : MakK X.prog X.w X.K X.mg X.base k nm C sp n [] gV) (hr : Room j X.A) (hk : k + 1 ≤ j) (hN : X.N[i]? = some x) (hv : Vis X.env.scope x) (ha : PA X (e :: es) t)
    (hd : (x == ("__debug__" : Str)) = false := by decide) (hcd : (x == ("__classdict__" : Str)) = false := by decide)
    (he : starEach (e :: es) X.env = (false, eval e X.env) :: starEach es X.env := by rfl) (hpl : (backTo pos (starEach es X.env)).any (·.1) = false := by rfl) : PE X (.Call (.Name x p) (e :: es) [] pos) (tMakeV i C n sp gV t) := by
  have ⟨f, fd, ps, g, M, F, hm, b⟩ := c.ex
  refine ⟨fun pins s σ H Q I h => ?_⟩
  obtain ⟨hs, h⟩ := h
  refine wpAny_Call_Name_kw (thn ((pe_var (pos := p) (i := i) hN hv hd hcd).run pins s σ H (fun v H1 => v = .ref C ∧ H1 = H) I ⟨.ref C, hs, rfl, rfl⟩) fun u s1 ⟨v, H1, I1, r1, ev, eH⟩ => ?_)
  subst ev
  rw [eH] at I1
  cases r1
  refine PySem.W.callWith_K (h₀ := X.base) I.ok.mod.kin M.kp (thn (ha.run pos pins s1 σ H _ I1 h) fun us s2 ⟨vs, H2, I2, r, l1, q⟩ => ⟨I2.kIn, ?_⟩) he hpl
  exact run_makeK (ws := []) (zs := []) M F (hr.mono hk) b pass0 I2 r .nil l1 rfl q
/-- None or dicts: != -/
def rNeO : R2 := fun x y H Q => rNe x y H Q ∨ rNeDA x y H Q
theorem op_neO (hu : X.A.units < cLine) : OpR X (compareOp .NotEq) rNeO := fun pins s σ H x y v u Q I rx ry h => h.elim (op_ne pins s σ H x y v u Q I rx ry) (op_ne_dictA hu pins s σ H x y v u Q I rx ry)
end
end Ls

namespace K1
open PySem PySem.Spec PyProof.Rows L2 Ls
/-! ### tables without the solutions of others -/
def spHolds (C : Addr) : Sp := fun vs H Q _ => ∃ (t : Addr) (l r : Str) (c : Int) (ns : List Str) (R : Df.Tab Str), vs = [.ref t, .str l, .str r, .int c] ∧ TabAt (fun _ => True) C H t ns R ∧ l ∈ ns ∧ r ∈ ns ∧ l ≠ "" ∧ r ≠ "" ∧ Q (.bl (decide (R l r ≤ c))) H
def spOutside (C : Addr) : Sp := fun vs H Q _ => ∃ (N : Addr → Prop) (t a : Addr) (ns : List Str) (R : Df.Tab Str) (S : List Df3), vs = [.ref t, .ref a] ∧ (∀ p, H p = none → N p) ∧ TabAt N C H t ns R ∧ SysAt H a S ∧ (∀ e ∈ S, e.1 ∈ ns ∧ e.2.1 ∈ ns) ∧ (∀ u ∈ ns, u ≠ "") ∧ ns.Nodup ∧ ns.length ≤ 1000 ∧ S.length ≤ 1000 ∧
  ∀ H' b, Same H H' → TabsAt N C H' b ns (Df.outR R S) → Q (.ref b) H'
section
variable {P : Program} {w : World} {K : PySem.W.Frag} {mg : Str → Option Value} {base : Heap} {f C : Addr} {fd : FuncData} {k : Nat}
theorem sc_holds : FnScope ["table", "left", "right", "limit"] ["table", "left", "right", "limit"] (defScope s_holds) := ⟨rfl, rfl, rfl, by decide +kernel, rfl, by decide +kernel, by decide +kernel⟩
theorem ok_holds (F : FnP K "holds" s_holds [] f fd) (G : Facts mg) (T : TCls K C) : FnOk P w K mg base CX0 1 f fd ["table", "left", "right", "limit"] (spHolds C) := by
  refine F.ok sc_holds (fun vs H Q E h => ?_) (fun cdv A outer s H vs Q E hr h => ?_)
  · obtain ⟨t, l, r, c, ns, R, rfl, _⟩ := h
    rfl
  · obtain ⟨t, l, r, c, ns, R, rfl, ⟨dx, an, ar, asp, rs, shown, sp, hNs, ht, han, har, hrs, hsp, hspo, hsl, hss⟩, hl, hr', hl0, hr0, hk⟩ := h
    have hu := hu_of hr
    obtain ⟨i, hi, hil⟩ := ix_of hl
    obtain ⟨j, hj, hjl⟩ := ix_of hr'
    obtain ⟨vi, hvi, ri, rfl, _, hri⟩ := pget hrs hi
    refine ⟨_, PSs.nox (pss_one (ps_ret (pe_cmpR op_le (pe_ix (kIxL K) (pe_ix (kIxL K) (kfld K (pv 0)) (pe_dget hu (kfld K (pv 0)) (pv 1) (fun _ _ => rfl)) (fun _ _ => rfl)) (pe_dget hu (kfld K (pv 0)) (pv 2) (fun _ _ => rfl)) (fun _ _ => rfl)) (pv 3) (nomark _)))), ?_⟩
    refine ⟨_, rfl, t, C, dx, _, _, rfl, ht, T.cl, T.nR, flds_rows _ _ _, ?_⟩
    refine ⟨_, rfl, t, C, dx, _, _, rfl, ht, T.cl, T.nS, flds_spots _ _ _, _, rfl, asp, _, rfl, dget hsp (hspo _ _ hi hl0), ?_⟩
    refine ⟨ar, rs, _, _, rfl, rfl, sq har, atI_nat hvi, ?_⟩
    refine ⟨_, rfl, t, C, dx, _, _, rfl, ht, T.cl, T.nS, flds_spots _ _ _, _, rfl, asp, _, rfl, dget hsp (hspo _ _ hj hr0), ?_⟩
    refine ⟨ri, _, _, _, rfl, rfl, sq hri, atI_nat (row_at hj), _, rfl, _, _, rfl, rfl, ?_⟩
    exact hk
theorem sc_outside : FnScope ["table", "system", "found", "left", "right", "limit", "part"] ["table", "system"] (defScope s_outside) := ⟨rfl, rfl, rfl, by decide +kernel, rfl, by decide +kernel, by decide +kernel⟩
theorem ok_outside (F : FnP K "outside" s_outside [] f fd) (G : Facts mg) (C_holds : Cal P w K mg base 1 "holds" (spHolds C) []) (C_more : Cal P w K mg base 3 "more" (spMore C) []) : FnOk P w K mg base CX0 4 f fd ["table", "system"] (spOutside C) := by
  refine F.ok sc_outside (fun vs H Q E h => ?_) (fun cdv A outer s H vs Q E hr h => ?_)
  · obtain ⟨N, t, a, ns, R, S, rfl, _⟩ := h
    rfl
  · obtain ⟨N, t, a, ns, R, S, rfl, hNN, hT, ⟨ws, ha, hws⟩, hends, hne, hnd, hln, hSl, hk⟩ := h
    have hu := hu_of hr
    have hwl := plen hws
    refine ⟨_, PSs.nox (pss_cons (ps_set (i := 2) sc_outside.nd rfl (.inl rfl) (pe_lst pa_nil))
      (pss_cons (ps_for PassesOwn.never rfl (kpi_list K (pv 1)) (kpg_tup K rfl (pgs_cons (pg_name (i := 3) sc_outside.nd rfl (by first | exact .inl rfl | exact .inr rfl)) (pgs_cons (pg_name (i := 4) sc_outside.nd rfl (by first | exact .inl rfl | exact .inr rfl)) (pgs_cons (pg_name (i := 5) sc_outside.nd rfl (by first | exact .inl rfl | exact .inr rfl)) pgs_nil))))
        (pss_cons (ps_if (pt_val (pe_c C_holds hr (by decide) (by rfl) (pa_cons (pv 0) (pa_cons (pv 3) (pa_cons (pv 4) (pa_cons (pv 5) pa_nil)))))) (pss_one ps_continue) pss_nil)
        (pss_cons (ps_set (i := 6) sc_outside.nd rfl (.inl rfl) (pe_c C_more hr (by decide) (by rfl) (pa_cons (pv 0) (pa_cons (pv 4) (pa_cons (pv 3) (pa_cons (pe_op op_sub (pe_op op_sub pe_int (pv 5)) pe_int) pa_nil))))))
        (pss_cons (ps_if (pt_cmpR op_notN (pv 6) pe_non (nomark _)) (pss_one (ps_expr (pe_bm PySem.F.plainAttrs_list PySem.F.slot_list_append PySem.F.type_list_append mt_append (pv 2) (pa_cons (pv 6) pa_nil)))) pss_nil)
        (pss_cons (ps_set (i := 0) sc_outside.nd rfl (.inl rfl) (pe_c C_more hr (by decide) (by rfl) (pa_cons (pv 0) (pa_cons (pv 3) (pa_cons (pv 4) (pa_cons (pv 5) pa_nil))))))
        (pss_one (ps_if (pt_cmpR op_isN (pv 0) pe_non (nomark _)) (pss_one ps_break) pss_nil)))))))
      (pss_one (ps_ret (pv 2))))), ?_⟩
    refine ⟨by show 0 ≤ sizeLine; decide, fun fo nfo => ?_⟩
    have s1 := same_upd nfo (o := .lst [])
    have hfo : (upd H fo (.lst [])) fo = some (.lst []) := upd_same
    refine ⟨_, rfl, a, rfl, ⟨_, sq (s1 _ _ ha)⟩, ?_⟩
    have hT1 : TabAt (fun b => N b ∧ b ≠ fo) C (upd H fo (.lst [])) t ns R := (hT.off nfo fun _ y z => ⟨y, z⟩).mono s1
    generalize upd H fo (.lst []) = H1 at s1 hfo hT1 ⊢
    refine for_it (walk_list (K := K) (a := a) (xs := ws)) (fun i σ H' => ∃ t' x3 x4 x5 x6 R' us Ts, σ = [some (.ref t'), some (.ref a), some (.ref fo), x3, x4, x5, x6] ∧ Same H H' ∧ TabAt (fun b => N b ∧ b ≠ fo) C H' t' ns R' ∧ H' fo = some (.lst us) ∧ Paired (TabU (fun b => N b ∧ b ≠ fo) C H' ns) us Ts ∧ Ts ++ Df.outR R' (S.drop i) = Df.outR R S ∧ us.length ≤ i)
      ⟨t, _, _, _, _, R, [], [], rfl, s1, hT1, hfo, .nil, rfl, Nat.le_refl _⟩ (fun i σ H' _ ⟨_, _, _, _, _, _, _, _, _, s, _⟩ => sq (s _ _ ha)) ?_ ?_
    · rintro i x σ H9 H2 hi ⟨t', x3, x4, x5, x6, R', us, Ts, rfl, s2, hT2, hfo2, hus, hout, hul⟩ ⟨rfl, ex⟩
      rw [hwl] at hi
      obtain ⟨v, hv, r, rfl, hrow⟩ := pget hws (List.getElem?_eq_getElem hi)
      rw [hv] at ex
      cases ex
      have hrow2 := s2 _ _ hrow
      obtain ⟨h1, h2⟩ := hends _ (List.getElem_mem hi)
      have hdr : S.drop i = S[i] :: S.drop (i + 1) := List.drop_eq_getElem_cons hi
      rw [hdr, Df.outR_cons] at hout
      generalize S[i] = e at hrow2 h1 h2 hout
      obtain ⟨l, r', c⟩ := e
      have hl0 := hne _ h1
      have hr0 := hne _ h2
      refine ⟨r, _, rfl, sqt hrow2, rfl, _, _, rfl, _, _, rfl, _, _, rfl, rfl, ?_⟩
      refine ⟨_, rfl, _, rfl, _, rfl, _, rfl, t', l, r', c, ns, R', rfl, hT2.weak (fun _ _ => True.intro), h1, h2, hl0, hr0, _, rfl, ?_⟩
      have hout : Ts ++ (if R' l r' ≤ c then Df.outR R' (S.drop (i + 1)) else (Df.moreR R' r' l (0 - c - 1)).toList ++ ((Df.moreR R' l r' c).elim [] fun R'' => Df.outR R'' (S.drop (i + 1)))) = Df.outR R S := hout
      by_cases c1 : R' l r' ≤ c
      · rw [decide_eq_true c1]
        rw [if_pos c1] at hout
        exact iteT ⟨t', _, _, _, _, R', us, Ts, rfl, s2, hT2, hfo2, hus, hout, by omega⟩
      rw [decide_eq_false c1]
      rw [if_neg c1] at hout
      refine iteF ?_
      have hN : ∀ p, H2 p = none → N p ∧ p ≠ fo := fun p e => ⟨hNN p (s2.free e), fun z => by rw [z, hfo2] at e; cases e⟩
      -- the denial
      refine ⟨_, rfl, _, rfl, _, rfl, _, rfl, 0, c, rfl, rfl, 0 - c, 1, rfl, rfl, (fun b => N b ∧ b ≠ fo), t', r', l, 0 - c - 1, ns, R', rfl, hN, hT2, h2, h1, hr0, hl0, hnd, hln, fun T hm H3 t3 s3 ht3 => ?_, fun hm => ?_⟩
      · refine ⟨_, rfl, rfl, _, rfl, ?_⟩
        rw [show (!decide (V.ref t3 = V.non)) = true by rw [decide_eq_false (fun z => by cases z)]; rfl]
        refine iteT ⟨_, rfl, .inl ⟨rfl, _, sq (s3 _ _ hfo2)⟩, _, rfl, fo, us, _, rfl, rfl, s3 _ _ hfo2, szlt (by omega), ?_⟩
        rw [hm] at hout
        have kp : ∀ b o, (N b ∧ b ≠ fo) → H3 b = some o → (upd H3 fo (.lst (us ++ [.ref t3]))) b = some o := fun b o hb e => by rw [upd_ne hb.2]; exact e
        obtain ⟨H4, us4, Ts4, e4, s4, hT4, hfo4, hus4, hout4, hul4⟩ : ∃ H4 us4 Ts4, upd H3 fo (.lst (us ++ [.ref t3])) = H4 ∧ Same H H4 ∧ TabAt (fun b => N b ∧ b ≠ fo) C H4 t' ns R' ∧ H4 fo = some (.lst us4) ∧ Paired (TabU (fun b => N b ∧ b ≠ fo) C H4 ns) us4 Ts4 ∧ Ts4 ++ ((Df.moreR R' l r' c).elim [] fun R'' => Df.outR R'' (S.drop (i + 1))) = Df.outR R S ∧ us4.length ≤ i + 1 :=
          ⟨_, us ++ [.ref t3], Ts ++ [T], rfl, same_mut (s2.trans s3) nfo, (hT2.mono s3).keep kp, upd_same, (pmono (fun _ _ q => (q.mono s3).imp fun _ q => ⟨q.1, q.2.keep kp⟩) hus).snoc ⟨t3, rfl, ht3.keep kp⟩, by rw [← hout]; simp, by rw [List.length_append, List.length_singleton]; omega⟩
        rw [e4]
        clear e4 kp hout hT2 hfo2 hus s2 s3 ht3 hN hm
        refine ⟨_, rfl, _, rfl, _, rfl, _, rfl, (fun b => N b ∧ b ≠ fo), t', l, r', c, ns, R', rfl, (fun p e => ⟨hNN p (s4.free e), fun z => by rw [z, hfo4] at e; cases e⟩), hT4, h1, h2, hl0, hr0, hnd, hln, fun T2 hm H5 t5 s5 ht5 => ?_, fun hm => ?_⟩
        · rw [hm] at hout4
          refine ⟨_, rfl, rfl, _, rfl, ?_⟩
          rw [show decide (V.ref t5 = V.non) = false from decide_eq_false (fun z => by cases z)]
          exact iteF ⟨t5, _, _, _, _, T2, us4, Ts4, rfl, s4.trans s5, ht5, s5 _ _ hfo4, pmono (fun _ _ q => q.mono s5) hus4, hout4, hul4⟩
        · rw [hm] at hout4
          refine ⟨_, rfl, rfl, _, rfl, ?_⟩
          rw [show decide (V.non = V.non) = true from decide_eq_true rfl]
          refine iteT ⟨_, rfl, hk _ fo s4 ?_⟩
          rw [← hout4]
          exact ⟨us4, hfo4, by simpa using pmono (fun _ _ q => q.imp fun _ q => ⟨q.1, q.2.weak fun _ z => z.1⟩) hus4⟩
      · refine ⟨_, rfl, rfl, _, rfl, ?_⟩
        rw [show (!decide (V.non = V.non)) = false by rw [decide_eq_true rfl]; rfl]
        refine iteF ?_
        rw [hm] at hout
        obtain ⟨H4, us4, Ts4, e4, s4, hT4, hfo4, hus4, hout4, hul4⟩ : ∃ H4 us4 Ts4, H2 = H4 ∧ Same H H4 ∧ TabAt (fun b => N b ∧ b ≠ fo) C H4 t' ns R' ∧ H4 fo = some (.lst us4) ∧ Paired (TabU (fun b => N b ∧ b ≠ fo) C H4 ns) us4 Ts4 ∧ Ts4 ++ ((Df.moreR R' l r' c).elim [] fun R'' => Df.outR R'' (S.drop (i + 1))) = Df.outR R S ∧ us4.length ≤ i + 1 :=
          ⟨_, us, Ts, rfl, s2, hT2, hfo2, hus, by rw [← hout]; simp, by omega⟩
        rw [e4]
        clear e4 hout hT2 hfo2 hus s2 hN hm
        refine ⟨_, rfl, _, rfl, _, rfl, _, rfl, (fun b => N b ∧ b ≠ fo), t', l, r', c, ns, R', rfl, (fun p e => ⟨hNN p (s4.free e), fun z => by rw [z, hfo4] at e; cases e⟩), hT4, h1, h2, hl0, hr0, hnd, hln, fun T2 hm H5 t5 s5 ht5 => ?_, fun hm => ?_⟩
        · rw [hm] at hout4
          refine ⟨_, rfl, rfl, _, rfl, ?_⟩
          rw [show decide (V.ref t5 = V.non) = false from decide_eq_false (fun z => by cases z)]
          exact iteF ⟨t5, _, _, _, _, T2, us4, Ts4, rfl, s4.trans s5, ht5, s5 _ _ hfo4, pmono (fun _ _ q => q.mono s5) hus4, hout4, hul4⟩
        · rw [hm] at hout4
          refine ⟨_, rfl, rfl, _, rfl, ?_⟩
          rw [show decide (V.non = V.non) = true from decide_eq_true rfl]
          refine iteT ⟨_, rfl, hk _ fo s4 ?_⟩
          rw [← hout4]
          exact ⟨us4, hfo4, by simpa using pmono (fun _ _ q => q.imp fun _ q => ⟨q.1, q.2.weak fun _ z => z.1⟩) hus4⟩
    rintro σ H2 ⟨t', x3, x4, x5, x6, R', us, Ts, rfl, s2, hT2, hfo2, hus, hout, hul⟩
    rw [hwl, List.drop_length] at hout
    refine ⟨_, rfl, ?_⟩
    refine hk H2 fo s2 ?_
    have hout : Ts ++ [] = Df.outR R S := hout
    rw [List.append_nil] at hout
    rw [← hout]
    exact ⟨us, hfo2, pmono (fun _ _ q => q.imp fun _ q => ⟨q.1, q.2.weak fun _ z => z.1⟩) hus⟩
end
end K1

namespace K1
open PySem PySem.Spec PyProof.Rows L2 Ls
/-! ### a lean system of a table -/
def keyI (i j : Nat) : List Key := [Sum.inl (i : Int), Sum.inl (j : Int)]
theorem keyI_iff {i j x y : Nat} : keyI x y = keyI i j ↔ x = i ∧ y = j := by
  unfold keyI
  constructor
  · intro h
    injection h with h1 h2
    injection h2 with h2 _
    have h1 := Sum.inl.inj h1
    have h2 := Sum.inl.inj h2
    omega
  · rintro ⟨rfl, rfl⟩
    rfl
def DropD (ns : List Str) (kvs : List (List Key × V)) (Pd : Str → Str → Prop) : Prop := ∀ (i j : Nat) u v, ns[i]? = some u → ns[j]? = some v → ((valV kvs (keyI i j)).isSome = true ↔ Pd u v)
theorem nd_ix {ns : List Str} (h : ns.Nodup) {i j : Nat} {u : Str} (h1 : ns[i]? = some u) (h2 : ns[j]? = some u) : i = j := by
  obtain ⟨a, e1⟩ := List.getElem?_eq_some_iff.mp h1
  obtain ⟨b, e2⟩ := List.getElem?_eq_some_iff.mp h2
  exact (List.getElem_inj h).mp (e1.trans e2.symm)
theorem DropD.put {ns : List Str} (hn : ns.Nodup) {kvs : List (List Key × V)} {Pd : Str → Str → Prop} (h : DropD ns kvs Pd) {i j : Nat} {u v : Str} (hi : ns[i]? = some u) (hj : ns[j]? = some v) (z : V) : DropD ns (putK kvs (keyI i j) z) fun x y => (x = u ∧ y = v) ∨ Pd x y := fun a b x y ha hb => by
  rw [valV_put]
  by_cases c : keyI a b = keyI i j
  · obtain ⟨rfl, rfl⟩ := keyI_iff.mp c
    rw [ha] at hi; cases hi
    rw [hb] at hj; cases hj
    rw [if_pos rfl]
    exact ⟨fun _ => .inl ⟨rfl, rfl⟩, fun _ => rfl⟩
  · rw [if_neg c, h a b x y ha hb]
    refine ⟨.inr, fun z => z.resolve_left fun ⟨e1, e2⟩ => c ?_⟩
    subst e1 e2
    rw [nd_ix hn ha hi, nd_ix hn hb hj]
/-- the pairs looked at -/
def pairsI (ns us : List Str) : List (Str × Str) := us.flatMap fun u => ns.map fun v => (u, v)
theorem pairsI_len (ns : List Str) : ∀ us : List Str, (pairsI ns us).length = us.length * ns.length
  | [] => by simp [pairsI]
  | u :: us => by
    have := pairsI_len ns us
    unfold pairsI at this ⊢
    rw [List.flatMap_cons, List.length_append, this, List.length_map, List.length_cons, Nat.succ_mul, Nat.add_comm]
theorem mem_pairsI {ns us : List Str} {u v : Str} (hu : u ∈ us) (hv : v ∈ ns) : (u, v) ∈ pairsI ns us := List.mem_flatMap.mpr ⟨u, hu, List.mem_map.mpr ⟨v, hv, rfl⟩⟩
theorem pairsI_snoc {ns : List Str} {us : List Str} {i : Nat} (hi : i < us.length) : pairsI ns (us.take (i + 1)) = pairsI ns (us.take i) ++ ns.map fun v => (us[i], v) := by
  unfold pairsI
  rw [take_snoc hi, List.flatMap_append]
  simp
def spLean (C : Addr) : Sp := fun vs H Q _ => ∃ (t : Addr) (ns : List Str) (R : Df.Tab Str), vs = [.ref t] ∧ TabAt (fun _ => True) C H t ns R ∧ (∀ u ∈ ns, u ≠ "") ∧ ns.Nodup ∧ ns.length ≤ 30 ∧ (∀ u ∈ ns, R u u = 0) ∧
  ∀ H' b S, Same H H' → H b = none → SysAt H' b S → Df.LeanOf ns R S → Q (.ref b) H'
section
variable {P : Program} {w : World} {K : PySem.W.Frag} {mg : Str → Option Value} {base : Heap} {f C : Addr} {fd : FuncData} {k : Nat}
theorem sc_lean_of : FnScope ["table", "names", "rows", "found", "dropped", "i", "row", "j", "limit", "needless", "k"] ["table"] (defScope s_lean_of) := ⟨rfl, rfl, rfl, by decide +kernel, rfl, by decide +kernel, by decide +kernel⟩
theorem ok_lean (F : FnP K "lean_of" s_lean_of [] f fd) (G : Facts mg) (T : TCls K C) : FnOk P w K mg base CX0 1 f fd ["table"] (spLean C) := by
  refine F.ok sc_lean_of (fun vs H Q E h => ?_) (fun cdv A outer s H vs Q E hr h => ?_)
  · obtain ⟨t, ns, R, rfl, _⟩ := h
    rfl
  · obtain ⟨t, ns, R, rfl, ⟨dx, an, ar, asp, rs, shown, sp, hNs, ht, han, har, hrs, hsp, hspo, hsl, hss⟩, hne, hnd, hln, hdg, hk⟩ := h
    have hu := hu_of hr
    have esh : shown = ns := hss fun z => hne _ z rfl
    subst esh
    have hrl := plen hrs
    refine ⟨_, PSs.nox (pss_cons (ps_set (i := 1) sc_lean_of.nd rfl (.inl rfl) (kfld K (pv 0)))
      (pss_cons (ps_set (i := 2) sc_lean_of.nd rfl (.inl rfl) (kfld K (pv 0)))
      (pss_cons (ps_set (i := 3) sc_lean_of.nd rfl (.inl rfl) (pe_lst pa_nil))
      (pss_cons (ps_set (i := 4) sc_lean_of.nd rfl (.inl rfl) pe_dnewT)
      (pss_cons (ps_for PassesOwn.never rfl (kpi_enum K (by rfl) G.enumerate_ (pa_cons (pv 2) pa_nil)) (kpg_tup K rfl (pgs_cons (pg_name (i := 5) sc_lean_of.nd rfl (by first | exact .inl rfl | exact .inr rfl)) (pgs_cons (pg_name (i := 6) sc_lean_of.nd rfl (by first | exact .inl rfl | exact .inr rfl)) pgs_nil)))
        (pss_one (ps_for PassesOwn.never rfl (kpi_enum K (by rfl) G.enumerate_ (pa_cons (pv 6) pa_nil)) (kpg_tup K rfl (pgs_cons (pg_name (i := 7) sc_lean_of.nd rfl (by first | exact .inl rfl | exact .inr rfl)) (pgs_cons (pg_name (i := 8) sc_lean_of.nd rfl (by first | exact .inl rfl | exact .inr rfl)) pgs_nil)))
          (pss_cons (ps_if (PW.pt (pw_or (pt_cmpR op_eq (pv 5) (pv 7) (nomark _)) (pw_or1 (pt_cmpR op_gt (pv 8) (pe_gi (by rfl) G.HALF) (nomark _))))) (pss_one ps_continue) pss_nil)
          (pss_cons (ps_set (i := 9) sc_lean_of.nd rfl (.inl rfl) pe_bl)
          (pss_cons (ps_for PassesOwn.never rfl (pi_range1 (by rfl) G.range_ (pa_cons (pe_callB (kLen K) (by rfl) G.len_ PySem.boot_len (pa_cons (pv 2) pa_nil)) pa_nil)) (pg_name (i := 10) sc_lean_of.nd rfl (by first | exact .inl rfl | exact .inr rfl))
            (pss_one (ps_if (PW.pt (pw_and (pt_cmpR op_ne (pv 10) (pv 5) (nomark _)) (pw_and (pt_cmpR op_ne (pv 10) (pv 7) (nomark _)) (pw_and (pt_cmp (pc_dnotin hu (pe_tup (pa_cons (pv 5) (pa_cons (pv 10) pa_nil))) (pv 4))) (pw_and1 (pt_cmp (pc_dnotin hu (pe_tup (pa_cons (pv 10) (pa_cons (pv 7) pa_nil))) (pv 4)))))))) (pss_one (ps_if (PW.pt (pw_and (pt_cmpR op_lt (pe_ix (kIxL K) (pv 6) (pv 10) (fun _ _ => rfl)) (pe_gi (by rfl) G.HALF) (nomark _)) (pw_and (pt_cmpR op_lt (pe_ix (kIxL K) (pe_ix (kIxL K) (pv 2) (pv 10) (fun _ _ => rfl)) (pv 7) (fun _ _ => rfl)) (pe_gi (by rfl) G.HALF) (nomark _)) (pw_and1 (pt_cmpR op_le (pe_op op_add (pe_ix (kIxL K) (pv 6) (pv 10) (fun _ _ => rfl)) (pe_ix (kIxL K) (pe_ix (kIxL K) (pv 2) (pv 10) (fun _ _ => rfl)) (pv 7) (fun _ _ => rfl))) (pv 8) (nomark _)))))) (pss_cons (ps_set (i := 9) sc_lean_of.nd rfl (.inl rfl) pe_bl)
                (pss_one ps_break)) pss_nil)) pss_nil)))
          (pss_one (ps_if (pt_val (pv 9)) (pss_one (ps_dput hu (pv 4) (pe_tup (pa_cons (pv 5) (pa_cons (pv 7) pa_nil))) pe_bl rfl)) (pss_one (ps_expr (pe_bm PySem.F.plainAttrs_list PySem.F.slot_list_append PySem.F.type_list_append mt_append (pv 3) (pa_cons (pe_tup (pa_cons (pe_ix (kIxT K) (pv 1) (pv 5) (fun _ _ => rfl)) (pa_cons (pe_ix (kIxT K) (pv 1) (pv 7) (fun _ _ => rfl)) (pa_cons (pv 8) pa_nil)))) pa_nil))))))))))))
      (pss_one (ps_ret (pv 3)))))))), ?_⟩
    refine ⟨_, rfl, t, C, dx, _, _, rfl, ht, T.cl, T.nN, flds_names _ _ _, ?_⟩
    refine ⟨_, rfl, t, C, dx, _, _, rfl, ht, T.cl, T.nR, flds_rows _ _ _, ?_⟩
    refine ⟨by show 0 ≤ sizeLine; decide, fun fo nfo => ?_⟩
    have s1 := same_upd nfo (o := .lst [])
    have hfo : (upd H fo (.lst [])) fo = some (.lst []) := upd_same
    generalize upd H fo (.lst []) = H1 at s1 hfo ⊢
    intro d nd
    have s2 := s1.trans (same_upd nd (o := .dT []))
    have hd : (upd H1 d (.dT [])) d = some (.dT []) := upd_same
    have hdf : d ≠ fo := fun z => by rw [z, hfo] at nd; cases nd
    have hfo := (same_upd nd (o := .dT [])) _ _ hfo
    have nd0 : H d = none := s1.free nd
    generalize upd H1 d (.dT []) = H2 at s2 hfo hd ⊢
    refine ⟨_, rfl, ar, _, rfl, sq (s2 _ _ har), ?_⟩
    refine for_it (walk_enum (K := K) (a := ar) (xs := rs)) (fun i σ H' => ∃ x5 x6 x7 x8 x9 x10 us S kvs Pd, σ = [some (.ref t), some (.ref an), some (.ref ar), some (.ref fo), some (.ref d), x5, x6, x7, x8, x9, x10] ∧ Same H H' ∧ H' fo = some (.lst us) ∧ Paired (RowT H') us S ∧ H' d = some (.dT kvs) ∧ DropD shown kvs Pd ∧ Df.LeanI shown R (pairsI shown (shown.take i)) Pd S ∧ kvs.length ≤ 30 * i)
      ⟨_, _, _, _, _, _, [], [], [], fun _ _ => False, rfl, s2, hfo, .nil, hd, fun i j u v _ _ => ⟨fun z => (by cases z), fun z => z.elim⟩, Df.LeanI.start, by decide⟩ (fun i σ H' _ ⟨_, _, _, _, _, _, _, _, _, _, _, s, _⟩ => sq (s _ _ har)) ?_ ?_
    · rintro i x σ H9 H3 hi ⟨x5, x6, x7, x8, x9, x10, us, S, kvs, Pd, rfl, s3, hfo3, hus, hd3, hdrop, hlean, hkl⟩ hY
      cases hY with | intro T' hY =>
      obtain ⟨y1, y2, rfl, nT, rfl, e1, e2⟩ := hY
      cases e1
      rw [hrl] at hi
      obtain ⟨v, hv, r, rfl, _, hrow⟩ := pget hrs (List.getElem?_eq_getElem hi)
      have e2 : rs[i]? = some y2 := e2
      rw [hv] at e2
      cases e2
      have sT := same_upd nT (o := .tup [V.int (i : Int), V.ref r])
      refine ⟨T', _, rfl, sqt upd_same, rfl, _, _, rfl, _, _, rfl, rfl, ?_⟩
      have hfo3 := sT _ _ hfo3
      have hd3 := sT _ _ hd3
      have s3 := s3.trans sT
      have hus : Paired (RowT (upd H9 T' (.tup [V.int (i : Int), V.ref r]))) us S := pmono (fun _ _ q => q.imp fun _ q => ⟨q.1, sT _ _ q.2⟩) hus
      generalize upd H9 T' (.tup [V.int (i : Int), V.ref r]) = H3 at hfo3 hd3 s3 hus ⊢
      have hui := List.getElem?_eq_getElem hi
      have hsn := pairsI_snoc (ns := shown) hi
      have hum := List.getElem_mem hi
      generalize shown[i] = u at hui hsn hum hrow
      have hrow3 := s3 _ _ hrow
      refine ⟨_, rfl, r, _, rfl, sq hrow3, ?_⟩
      refine for_it (walk_enum (K := K) (a := r) (xs := rowV shown R u)) (fun j σ H' => ∃ x7 x8 x9 x10 us S kvs Pd, σ = [some (.ref t), some (.ref an), some (.ref ar), some (.ref fo), some (.ref d), some (.int (i : Int)), some (.ref r), x7, x8, x9, x10] ∧ Same H H' ∧ H' fo = some (.lst us) ∧ Paired (RowT H') us S ∧ H' d = some (.dT kvs) ∧ DropD shown kvs Pd ∧ Df.LeanI shown R (pairsI shown (shown.take i) ++ (shown.take j).map fun v => (u, v)) Pd S ∧ kvs.length ≤ 30 * i + j)
        ⟨_, _, _, _, us, S, kvs, Pd, rfl, s3, hfo3, hus, hd3, hdrop, by simpa using hlean, by omega⟩ (fun i σ H' _ ⟨_, _, _, _, _, _, _, _, _, s, _⟩ => sq (s _ _ hrow)) ?_ ?_
      · rintro j x σ H9 H4 hj ⟨x7, x8, x9, x10, us, S, kvs, Pd, rfl, s4, hfo4, hus, hd4, hdrop, hlean, hkl⟩ hY
        cases hY with | intro T' hY =>
        obtain ⟨y1, y2, rfl, nT, rfl, e1, e2⟩ := hY
        cases e1
        rw [rowV_len] at hj
        have e2 : (rowV shown R u)[j]? = some y2 := e2
        rw [row_at (List.getElem?_eq_getElem hj)] at e2
        cases e2
        have hvj := List.getElem?_eq_getElem hj
        have hjs : (shown.take (j + 1)).map (fun v => (u, v)) = (shown.take j).map (fun v => (u, v)) ++ [(u, shown[j])] := by rw [take_snoc hj, List.map_append]; rfl
        have hvm := List.getElem_mem hj
        generalize shown[j] = v at hvj hjs hvm nT ⊢
        rw [hjs, ← List.append_assoc]
        have sT := same_upd nT (o := .tup [V.int (j : Int), V.int (R u v)])
        refine ⟨T', _, rfl, sqt upd_same, rfl, _, _, rfl, _, _, rfl, rfl, ?_⟩
        have hfo4 := sT _ _ hfo4
        have hd4 := sT _ _ hd4
        have s4 := s4.trans sT
        have hus : Paired (RowT (upd H9 T' (.tup [V.int (j : Int), V.int (R u v)]))) us S := pmono (fun _ _ q => q.imp fun _ q => ⟨q.1, sT _ _ q.2⟩) hus
        generalize upd H9 T' (.tup [V.int (j : Int), V.int (R u v)]) = H4 at hfo4 hd4 s4 hus ⊢
        have hdl : (pairsI shown (shown.take i) ++ (shown.take j).map (fun v => (u, v))).length ≤ 930 := by
          rw [List.length_append, pairsI_len, List.length_map, List.length_take, List.length_take]
          have : min i shown.length * shown.length ≤ 30 * 30 := Nat.mul_le_mul (by omega) hln
          omega
        generalize pairsI shown (shown.take i) ++ (shown.take j).map (fun v => (u, v)) = dn at hlean hdl ⊢
        have har4 := s4 _ _ har
        have hrow4 := s4 _ _ hrow
        refine ⟨_, rfl, _, rfl, rfl, _, rfl, ?_⟩
        by_cases hij : i = j
        · rw [show decide (V.int (i : Int) = V.int (j : Int)) = true from decide_eq_true (by rw [hij])]
          have huv : u = v := by
            rw [hij, hvj] at hui
            exact (Option.some.inj hui).symm
          exact iteT (iteT ⟨_, _, _, _, us, S, kvs, Pd, rfl, s4, hfo4, hus, hd4, hdrop, hlean.skip (.inl huv), by omega⟩)
        rw [show decide (V.int (i : Int) = V.int (j : Int)) = false from decide_eq_false fun z => hij (by injection z with z; omega)]
        have huv : u ≠ v := fun z => hij (nd_ix hnd hui (z ▸ hvj))
        refine iteF ⟨_, rfl, _, _, rfl, rfl, _, rfl, ?_⟩
        by_cases hf : Df.HALFI < R u v
        · rw [decide_eq_true (show (100000000000000000000000000000 : Int) < R u v from hf)]
          exact iteT ⟨_, _, _, _, us, S, kvs, Pd, rfl, s4, hfo4, hus, hd4, hdrop, hlean.skip (.inr (by omega)), by omega⟩
        rw [decide_eq_false (show ¬ (100000000000000000000000000000 : Int) < R u v from hf)]
        have hf : R u v ≤ Df.HALFI := by omega
        refine iteF ?_
        refine ⟨_, rfl, ar, _, rfl, .inl (sq har4), ?_⟩
        have hn30 : rs.length ≤ 30 := by omega
        refine ⟨_, rfl, by omega, by omega, ?_⟩
        refine for_it (walk_range (lo := 0) (n := ((rs.length : Nat) : Int).toNat)) (fun m σ H' => ∃ x10, σ = [some (.ref t), some (.ref an), some (.ref ar), some (.ref fo), some (.ref d), some (.int (i : Int)), some (.ref r), some (.int (j : Int)), some (.int (R u v)), some (.bl false), x10] ∧ Same H4 H') ⟨_, rfl, Same.refl _⟩ (fun _ _ _ _ _ => True.intro) ?_ ?_
        · rintro m x σ H9 H5 hm ⟨x10, rfl, s5⟩ ⟨rfl, rfl⟩
          have hm : m < rs.length := hm
          show gName 10 (V.int (0 + (m : Int))) _ _ _
          rw [show (0 : Int) + (m : Int) = (m : Int) by omega]
          rw [hrl] at hm
          obtain ⟨vm, hvm', rm, rfl, _, hrm⟩ := pget hrs (List.getElem?_eq_getElem hm)
          have hwm := List.getElem?_eq_getElem hm
          have hwmm := List.getElem_mem hm
          have hat1 := row_at (R := R) (u := u) hwm
          have hat2 := row_at (R := R) (u := shown[m]) hvj
          generalize shown[m] = w' at hrm hwm hwmm hat1 hat2
          have hrm5 := s5 _ _ (s4 _ _ hrm)
          have hrow5 := s5 _ _ hrow4
          have har5 := s5 _ _ har4
          refine ⟨_, rfl, _, rfl, rfl, _, rfl, ?_⟩
          by_cases h1 : m = i
          · rw [show (!decide (V.int (m : Int) = V.int (i : Int))) = false by rw [h1, decide_eq_true rfl]; rfl]
            exact iteF (iteF ⟨_, rfl, s5⟩)
          rw [show (!decide (V.int (m : Int) = V.int (i : Int))) = true by rw [decide_eq_false (show ¬ V.int (m : Int) = V.int (i : Int) from fun z => h1 (by injection z with z; omega))]; rfl]
          refine iteT ⟨_, rfl, _, rfl, rfl, _, rfl, ?_⟩
          by_cases h2 : m = j
          · rw [show (!decide (V.int (m : Int) = V.int (j : Int))) = false by rw [h2, decide_eq_true rfl]; rfl]
            exact iteF (iteF ⟨_, rfl, s5⟩)
          rw [show (!decide (V.int (m : Int) = V.int (j : Int))) = true by rw [decide_eq_false (show ¬ V.int (m : Int) = V.int (j : Int) from fun z => h2 (by injection z with z; omega))]; rfl]
          have n1 : w' ≠ u := fun z => h1 (nd_ix hnd hwm (z ▸ hui))
          have n2 : w' ≠ v := fun z => h2 (nd_ix hnd hwm (z ▸ hvj))
          refine iteT ⟨_, rfl, _, rfl, by show 2 ≤ sizeLine; decide, fun q1 nq1 => ?_⟩
          have t1 := same_upd nq1 (o := .tup [.int (i : Int), .int (m : Int)])
          refine ⟨_, rfl, d, _, rfl, DGet.t (k := keyI i m) (t1 _ _ (s5 _ _ hd4)) upd_same, _, rfl, ?_⟩
          have hp1 := hdrop i m u w' hui hwm
          cases hs1 : (valV kvs (keyI i m)).isSome with
          | true => exact iteF (iteF ⟨_, rfl, s5.trans t1⟩)
          | false =>
            have np1 : ¬ Pd u w' := fun z => by rw [hp1.mpr z] at hs1; cases hs1
            refine iteT ⟨_, rfl, _, rfl, by show 2 ≤ sizeLine; decide, fun q2 nq2 => ?_⟩
            have t2 := t1.trans (same_upd nq2 (o := .tup [.int (m : Int), .int (j : Int)]))
            refine ⟨_, rfl, d, _, rfl, DGet.t (k := keyI m j) (t2 _ _ (s5 _ _ hd4)) upd_same, _, rfl, ?_⟩
            have hp2 := hdrop m j w' v hwm hvj
            cases hs2 : (valV kvs (keyI m j)).isSome with
            | true => exact iteF ⟨_, rfl, s5.trans t2⟩
            | false =>
              have np2 : ¬ Pd w' v := fun z => by rw [hp2.mpr z] at hs2; cases hs2
              refine iteT ?_
              generalize upd (upd H5 q1 (.tup [.int (i : Int), .int (m : Int)])) q2 (.tup [.int (m : Int), .int (j : Int)]) = H6 at t2 ⊢
              have s56 := s5.trans t2
              refine ⟨_, rfl, _, rfl, r, _, _, _, rfl, rfl, sq (t2 _ _ hrow5), atI_nat hat1, _, _, rfl, rfl, _, rfl, ?_⟩
              by_cases g1 : R u w' < Df.HALFI
              · rw [decide_eq_true (show R u w' < (100000000000000000000000000000 : Int) from g1)]
                refine iteT ⟨_, rfl, _, rfl, ar, _, _, _, rfl, rfl, sq (t2 _ _ har5), atI_nat hvm', _, rfl, rm, _, _, _, rfl, rfl, sq (t2 _ _ hrm5), atI_nat hat2, _, _, rfl, rfl, _, rfl, ?_⟩
                by_cases g2 : R w' v < Df.HALFI
                · rw [decide_eq_true (show R w' v < (100000000000000000000000000000 : Int) from g2)]
                  refine iteT ⟨_, rfl, _, rfl, r, _, _, _, rfl, rfl, sq (t2 _ _ hrow5), atI_nat hat1, _, rfl, _, rfl, ar, _, _, _, rfl, rfl, sq (t2 _ _ har5), atI_nat hvm', _, rfl, rm, _, _, _, rfl, rfl, sq (t2 _ _ hrm5), atI_nat hat2, _, _, rfl, rfl, _, rfl, _, _, rfl, rfl, _, rfl, ?_⟩
                  by_cases g3 : R u w' + R w' v ≤ R u v
                  · rw [decide_eq_true g3]
                    refine iteT ⟨_, rfl, _, rfl, iteT ?_⟩
                    refine ⟨_, rfl, _, rfl, _, rfl, by show 2 ≤ sizeLine; decide, fun q3 nq3 => ?_⟩
                    have t3 := same_upd nq3 (o := .tup [.int (i : Int), .int (j : Int)])
                    have s46 := s56.trans t3
                    have hd6 := s46 _ _ hd4
                    refine ⟨d, _, rfl, DPut.t (k := keyI i j) hd6 upd_same (szlt (by omega)), ?_⟩
                    have kt : ∀ b z, (upd H6 q3 (.tup [.int (i : Int), .int (j : Int)])) b = some (.tup z) → (upd (upd H6 q3 (.tup [.int (i : Int), .int (j : Int)])) d (.dT (putK kvs (keyI i j) (V.bl true)))) b = some (.tup z) := fun b z e => by rw [upd_ne (ne_of e hd6 (by intro z; cases z))]; exact e
                    exact ⟨_, _, _, _, us, S, _, _, rfl, same_mut (s4.trans s46) nd0, by rw [upd_ne hdf.symm]; exact s46 _ _ hfo4, pmono (fun _ _ q => q.imp fun _ q => ⟨q.1, kt _ _ (s46 _ _ q.2)⟩) hus, upd_same, hdrop.put hnd hui hvj _, hlean.drop hwmm hum hvm n1 n2 np1 np2 (by omega) (by omega) g3, by have := length_putK kvs (keyI i j) (V.bl true); omega⟩
                  · rw [decide_eq_false g3]
                    exact iteF ⟨_, rfl, s56⟩
                · rw [decide_eq_false (show ¬ R w' v < (100000000000000000000000000000 : Int) from g2)]
                  exact iteF (iteF ⟨_, rfl, s56⟩)
              · rw [decide_eq_false (show ¬ R u w' < (100000000000000000000000000000 : Int) from g1)]
                exact iteF (iteF ⟨_, rfl, s56⟩)
        rintro σ H5 ⟨x10, rfl, s5⟩
        have han5 := s5 _ _ (s4 _ _ han)
        have hfo5 := s5 _ _ hfo4
        have ai : (shown.map V.str)[i]? = some (.str u) := by rw [List.getElem?_map, hui]; rfl
        have aj : (shown.map V.str)[j]? = some (.str v) := by rw [List.getElem?_map, hvj]; rfl
        refine ⟨_, rfl, _, rfl, iteF ⟨_, rfl, .inl ⟨rfl, _, sq hfo5⟩, _, rfl, _, rfl, an, _, _, _, rfl, rfl, sqt han5, atI_nat ai, _, rfl, _, rfl, an, _, _, _, rfl, rfl, sqt han5, atI_nat aj, _, rfl, by show 3 ≤ sizeLine; decide, fun q3 nq3 => ?_⟩⟩
        have t3 := same_upd nq3 (o := .tup (rowT (u, v, R u v)))
        have s45 := s5.trans t3
        have hfo6 := t3 _ _ hfo5
        have hul := plen hus
        have hSl := hlean.len
        have hg3 : (upd H5 q3 (.tup (rowT (u, v, R u v)))) q3 = some (.tup (rowT (u, v, R u v))) := upd_same
        have kt : ∀ b z, (upd H5 q3 (.tup (rowT (u, v, R u v)))) b = some (.tup z) → (upd (upd H5 q3 (.tup (rowT (u, v, R u v)))) fo (.lst (us ++ [.ref q3]))) b = some (.tup z) := fun b z e => by rw [upd_ne (ne_of e hfo6 (by intro z; cases z))]; exact e
        refine ⟨fo, us, _, rfl, rfl, hfo6, szlt (by omega), ?_⟩
        exact ⟨_, _, _, _, us ++ [.ref q3], S ++ [(u, v, R u v)], kvs, Pd, rfl, same_mut (s4.trans s45) nfo, upd_same, (pmono (fun _ _ q => q.imp fun _ q => ⟨q.1, kt _ _ (s45 _ _ q.2)⟩) hus).snoc ⟨q3, rfl, kt _ _ hg3⟩, by rw [upd_ne hdf]; exact s45 _ _ hd4, hdrop, hlean.keep hum hvm huv hf, by omega⟩
      · rintro σ H4 ⟨x7, x8, x9, x10, us, S, kvs, Pd, rfl, s4, hfo4, hus, hd4, hdrop, hlean, hkl⟩
        rw [rowV_len] at hlean hkl
        rw [List.take_length] at hlean
        refine ⟨_, _, _, _, _, _, us, S, kvs, Pd, rfl, s4, hfo4, hus, hd4, hdrop, by rw [hsn]; exact hlean, by omega⟩
    rintro σ H3 ⟨x5, x6, x7, x8, x9, x10, us, S, kvs, Pd, rfl, s3, hfo3, hus, hd3, hdrop, hlean, hkl⟩
    rw [hrl, List.take_length] at hlean
    refine ⟨_, rfl, ?_⟩
    exact hk H3 fo S s3 nfo ⟨us, hfo3, hus⟩ (hlean.done_ (fun u hu v hv => mem_pairsI hu hv) (Nat.le_of_eq (pairsI_len _ _)) hdg)
end
end K1

namespace K1
open PySem PySem.Spec PyProof.Rows L2 Ls
/-! ### tables without the solutions of other tables -/
theorem SysAt.keep {H H' : Hp} {r : Addr} {S : List Df3} (h : SysAt H r S) (hl : ∀ l, H r = some (.lst l) → H' r = some (.lst l)) (ht : ∀ a t, H a = some (.tup t) → H' a = some (.tup t)) : SysAt H' r S :=
  have ⟨ws, h1, h2⟩ := h; ⟨ws, hl _ h1, pmono (fun v e ⟨q, e1, e2⟩ => ⟨q, e1, ht _ _ e2⟩) h2⟩
def spWithout (C : Addr) : Sp := fun vs H Q _ => ∃ (N : Addr → Prop) (tl t : Addr) (ns : List Str) (Rs : List (Df.Tab Str)) (O : Df.Tab Str), vs = [.ref tl, .ref t] ∧ (∀ p, H p = none → N p) ∧ TabsAt N C H tl ns Rs ∧ TabAt (fun _ => True) C H t ns O ∧ (∀ u ∈ ns, u ≠ "") ∧ ns.Nodup ∧ ns.length ≤ 4 ∧ Rs.length ≤ 50000 ∧ (∀ u ∈ ns, O u u = 0) ∧
  ∀ H' b S, Same H H' → Df.LeanOf ns O S → TabsAt N C H' b ns (Df.withR Rs S) → Q (.ref b) H'
def spLeft (C : Addr) : Sp := fun vs H Q _ => ∃ (tl ol : Addr) (ns : List Str) (Rs Os : List (Df.Tab Str)), vs = [.ref tl, .ref ol] ∧ TabsAt (fun _ => True) C H tl ns Rs ∧ TabsAt (fun _ => True) C H ol ns Os ∧ (∀ u ∈ ns, u ≠ "") ∧ ns.Nodup ∧ ns.length ≤ 4 ∧ Rs.length ≤ 4 ∧ Os.length ≤ 4 ∧ (∀ O ∈ Os, ∀ u ∈ ns, O u u = 0) ∧
  ∀ H' b Ts, Same H H' → Df.LeftR ns Rs Os Ts → TabsAt (fun _ => True) C H' b ns Ts → Q (.ref b) H'
section
variable {P : Program} {w : World} {K : PySem.W.Frag} {mg : Str → Option Value} {base : Heap} {f C : Addr} {fd : FuncData} {k : Nat}
theorem sc_without : FnScope ["tables", "table", "system", "found", "part"] ["tables", "table"] (defScope s_without) := ⟨rfl, rfl, rfl, by decide +kernel, rfl, by decide +kernel, by decide +kernel⟩
theorem ok_without (F : FnP K "without" s_without [] f fd) (G : Facts mg) (C_lean_of : Cal P w K mg base 1 "lean_of" (spLean C) []) (C_outside : Cal P w K mg base 4 "outside" (spOutside C) []) : FnOk P w K mg base CX0 5 f fd ["tables", "table"] (spWithout C) := by
  refine F.ok sc_without (fun vs H Q E h => ?_) (fun cdv A outer s H vs Q E hr h => ?_)
  · obtain ⟨N, tl, t, ns, Rs, O, rfl, _⟩ := h
    rfl
  · obtain ⟨N, tl, t, ns, Rs, O, rfl, hNN, ⟨ts, htl, hts⟩, hT, hne, hnd, hln, hRl, hdg, hk⟩ := h
    have hu := hu_of hr
    have htll := plen hts
    refine ⟨_, PSs.nox (pss_cons (ps_set (i := 2) sc_without.nd rfl (.inl rfl) (pe_c C_lean_of hr (by decide) (by rfl) (pa_cons (pv 1) pa_nil)))
      (pss_cons (ps_set (i := 3) sc_without.nd rfl (.inl rfl) (pe_lst pa_nil))
      (pss_cons (ps_for PassesOwn.never rfl (kpi_list K (pv 0)) (pg_name (i := 4) sc_without.nd rfl (by first | exact .inl rfl | exact .inr rfl))
        (pss_one (ps_expr (pe_bm PySem.F.plainAttrs_list PySem.F.slot_list_extend PySem.F.type_list_extend mt_extend (pv 3) (pa_cons (pe_c C_outside hr (by decide) (by rfl) (pa_cons (pv 4) (pa_cons (pv 2) pa_nil))) pa_nil)))))
      (pss_one (ps_ret (pv 3)))))), ?_⟩
    refine ⟨_, rfl, t, ns, O, rfl, hT, hne, hnd, by omega, hdg, fun H1 sa S s1 _ hS hlean => ?_⟩
    have hSl : S.length ≤ 16 := by
      have h1 := hlean.len
      have h2 : ns.length * ns.length ≤ 4 * 4 := Nat.mul_le_mul hln hln
      omega
    refine ⟨by show 0 ≤ sizeLine; decide, fun fo nfo => ?_⟩
    have nfo0 : H fo = none := s1.free nfo
    have s2 := s1.trans (same_upd nfo (o := .lst []))
    have hS2 := hS.mono (same_upd nfo (o := .lst []))
    have hfo : (upd H1 fo (.lst [])) fo = some (.lst []) := upd_same
    have hsf : sa ≠ fo := fun z => by
      obtain ⟨_, e, _⟩ := hS
      rw [z, nfo] at e
      cases e
    generalize upd H1 fo (.lst []) = H2 at s2 hS2 hfo ⊢
    refine ⟨_, rfl, tl, rfl, ⟨_, sq (s2 _ _ htl)⟩, ?_⟩
    have hts0 : Paired (TabU (fun b => N b ∧ b ≠ fo) C H ns) ts Rs := pmono (fun _ _ q => q.imp fun _ q => ⟨q.1, q.2.off nfo0 fun _ y z => ⟨y, z⟩⟩) hts
    refine for_it (walk_list (K := K) (a := tl) (xs := ts)) (fun i σ H' => ∃ x4 us, σ = [some (.ref tl), some (.ref t), some (.ref sa), some (.ref fo), x4] ∧ Same H H' ∧ SysAt H' sa S ∧ H' fo = some (.lst us) ∧ Paired (TabU (fun b => N b ∧ b ≠ fo) C H' ns) us (Df.withR (Rs.take i) S))
      ⟨_, [], rfl, s2, hS2, hfo, .nil⟩ (fun i σ H' _ ⟨_, _, _, s, _⟩ => sq (s _ _ htl)) ?_ ?_
    · rintro i x σ H9 H3 hi ⟨x4, us, rfl, s3, hS3, hfo3, hus⟩ ⟨rfl, ex⟩
      rw [htll] at hi
      obtain ⟨v, hv, t', rfl, hT'⟩ := pget hts0 (List.getElem?_eq_getElem hi)
      rw [hv] at ex
      cases ex
      have hwl := Df.withR_len (S := S) (Rs.take i)
      have hsn : Df.withR (Rs.take (i + 1)) S = Df.withR (Rs.take i) S ++ Df.outR Rs[i] S := by
        unfold Df.withR
        rw [take_snoc hi, List.flatMap_append]
        simp
      have hol := Df.outR_len S Rs[i]
      generalize Rs[i] = R' at hT' hsn hol
      refine ⟨_, rfl, .inl ⟨rfl, _, sq hfo3⟩, _, rfl, _, rfl, (fun b => N b ∧ b ≠ fo), t', sa, ns, R', S, rfl, fun p e => ⟨hNN p (s3.free e), fun z => by rw [z, hfo3] at e; cases e⟩, hT'.mono s3, hS3, fun e he => ⟨(hlean.sub e he).1, (hlean.sub e he).2.1⟩, hne, hnd, by omega, by omega, fun H4 b s4 ⟨os, hb, hos⟩ => ?_⟩
      have hosl := plen hos
      have hul := plen hus
      rw [List.length_take] at hwl
      have hmul : min i Rs.length * S.length ≤ 50000 * 16 := Nat.mul_le_mul (by omega) hSl
      have hfo4 := s4 _ _ hfo3
      have hbf : b ≠ fo ∨ b = fo := by by_cases c : b = fo; exact .inr c; exact .inl c
      have kp : ∀ b o, (N b ∧ b ≠ fo) → H4 b = some o → (upd H4 fo (.lst (us ++ os))) b = some o := fun b o hb e => by rw [upd_ne hb.2]; exact e
      refine ⟨fo, b, us, os, rfl, rfl, hfo4, hb, szl (by omega), ?_⟩
      refine ⟨_, us ++ os, rfl, same_mut (s3.trans s4) nfo0, ?_, upd_same, ?_⟩
      · exact (hS3.mono s4).keep (fun l e => by rw [upd_ne hsf]; exact e) (fun a t e => by rw [upd_ne (ne_of e hfo4 (by intro z; cases z))]; exact e)
      · rw [hsn]
        exact papp (pmono (fun _ _ q => (q.mono s4).imp fun _ q => ⟨q.1, q.2.keep kp⟩) hus) (pmono (fun _ _ q => q.imp fun _ q => ⟨q.1, q.2.keep kp⟩) hos)
    rintro σ H3 ⟨x4, us, rfl, s3, hS3, hfo3, hus⟩
    rw [htll, List.take_length] at hus
    exact ⟨_, rfl, hk H3 fo S s3 hlean ⟨us, hfo3, pmono (fun _ _ q => q.imp fun _ q => ⟨q.1, q.2.weak fun _ z => z.1⟩) hus⟩⟩
theorem sc_left_of : FnScope ["tables", "others", "table"] ["tables", "others"] (defScope s_left_of) := ⟨rfl, rfl, rfl, by decide +kernel, rfl, by decide +kernel, by decide +kernel⟩
theorem ok_left (F : FnP K "left_of" s_left_of [] f fd) (G : Facts mg) (C_without : Cal P w K mg base 5 "without" (spWithout C) []) : FnOk P w K mg base CX0 6 f fd ["tables", "others"] (spLeft C) := by
  refine F.ok sc_left_of (fun vs H Q E h => ?_) (fun cdv A outer s H vs Q E hr h => ?_)
  · obtain ⟨tl, ol, ns, Rs, Os, rfl, _⟩ := h
    rfl
  · obtain ⟨tl, ol, ns, Rs, Os, rfl, hTs, ⟨os, hol, hos⟩, hne, hnd, hln, hRl, hOl, hdg, hk⟩ := h
    have hu := hu_of hr
    have hosl := plen hos
    refine ⟨_, PSs.nox (pss_cons (ps_for PassesOwn.never rfl (kpi_list K (pv 1)) (pg_name (i := 2) sc_left_of.nd rfl (by first | exact .inl rfl | exact .inr rfl))
        (pss_one (ps_set (i := 0) sc_left_of.nd rfl (.inl rfl) (pe_c C_without hr (by decide) (by rfl) (pa_cons (pv 0) (pa_cons (pv 2) pa_nil))))))
      (pss_one (ps_ret (pv 0)))), ?_⟩
    refine ⟨_, rfl, ol, rfl, ⟨_, sq hol⟩, ?_⟩
    refine for_it (walk_list (K := K) (a := ol) (xs := os)) (fun i σ H' => ∃ tl' x2 Ts, σ = [some (.ref tl'), some (.ref ol), x2] ∧ Same H H' ∧ TabsAt (fun _ => True) C H' tl' ns Ts ∧ Df.LeftR ns Rs (Os.take i) Ts ∧ Ts.length ≤ 4 * 16 ^ i)
      ⟨tl, _, Rs, rfl, Same.refl _, hTs, .nil, by simpa using hRl⟩ (fun i σ H' _ ⟨_, _, _, _, s, _⟩ => sq (s _ _ hol)) ?_ ?_
    · rintro i x σ H9 H3 hi ⟨tl', x2, Ts, rfl, s3, hTs3, hL, hTl⟩ ⟨rfl, ex⟩
      rw [hosl] at hi
      obtain ⟨v, hv, t', rfl, hT'⟩ := pget hos (List.getElem?_eq_getElem hi)
      rw [hv] at ex
      cases ex
      have hp : 16 ^ i ≤ 16 ^ 3 := Nat.pow_le_pow_right (by decide) (by omega)
      have hp3 : (16 : Nat) ^ 3 = 4096 := rfl
      refine ⟨_, rfl, _, rfl, (fun _ => True), tl', t', ns, Ts, Os[i], rfl, fun _ _ => True.intro, hTs3, hT'.mono s3, hne, hnd, hln, by omega, hdg _ (List.getElem_mem hi), fun H4 b S s4 hlean hb => ?_⟩
      refine ⟨b, _, _, rfl, s3.trans s4, hb, by rw [take_snoc hi]; exact hL.snoc hlean, ?_⟩
      have h1 := Df.withR_len (S := S) Ts
      have hSl : S.length ≤ 16 := by
        have h1 := hlean.len
        have h2 : ns.length * ns.length ≤ 4 * 4 := Nat.mul_le_mul hln hln
        omega
      have h2 : Ts.length * S.length ≤ 4 * 16 ^ i * 16 := Nat.mul_le_mul hTl hSl
      rw [Nat.pow_succ, ← Nat.mul_assoc]
      omega
    rintro σ H3 ⟨tl', x2, Ts, rfl, s3, hTs3, hL, hTl⟩
    rw [hosl, List.take_length] at hL
    exact ⟨_, rfl, hk H3 tl' Ts s3 hL hTs3⟩
end
end K1

namespace K1
open PySem PySem.Spec PyProof.Rows L2 Ls
/-! ### tables inside of others -/
def spInside (C : Addr) : Sp := fun vs H Q _ => ∃ (t1 t2 : Addr) (ns : List Str) (R1 R2 : Df.Tab Str), vs = [.ref t1, .ref t2] ∧ TabAt (fun _ => True) C H t1 ns R1 ∧ TabAt (fun _ => True) C H t2 ns R2 ∧ ns.length ≤ 900 ∧ ∀ H', Same H H' → Q (.bl (Df.insB ns R1 R2)) H'
def spAbsorbed (C : Addr) : Sp := fun vs H Q _ => ∃ (tl : Addr) (ns : List Str) (Rs : List (Df.Tab Str)), vs = [.ref tl] ∧ TabsAt (fun _ => True) C H tl ns Rs ∧ ns.length ≤ 900 ∧ Rs.length ≤ 900 ∧ ∀ H' b, Same H H' → TabsAt (fun _ => True) C H' b ns (Df.absR ns Rs) → Q (.ref b) H'
section
variable {P : Program} {w : World} {K : PySem.W.Frag} {mg : Str → Option Value} {base : Heap} {f C : Addr} {fd : FuncData} {k : Nat}
theorem sc_u_inside : FnScope ["one", "two", "first", "second", "a", "b"] ["one", "two"] (defScope s_u_inside) := ⟨rfl, rfl, rfl, by decide +kernel, rfl, by decide +kernel, by decide +kernel⟩
theorem ok_inside (F : FnP K "_inside" s_u_inside [] f fd) (G : Facts mg) (T : TCls K C) : FnOk P w K mg base CX0 1 f fd ["one", "two"] (spInside C) := by
  refine F.ok sc_u_inside (fun vs H Q E h => ?_) (fun cdv A outer s H vs Q E hr h => ?_)
  · obtain ⟨t1, t2, ns, R1, R2, rfl, _⟩ := h
    rfl
  · obtain ⟨t1, t2, ns, R1, R2, rfl, ⟨dx, an, ar, asp, rs, shown, sp, hNs, ht, han, har, hrs, hsp, hspo, hsl, hss⟩, ⟨dx', an', ar', asp', rs', shown', sp', hNs', ht', han', har', hrs', hsp', hspo', hsl', hss'⟩, hln, hk⟩ := h
    have hu := hu_of hr
    have hl1 := plen hrs
    have hl2 := plen hrs'
    refine ⟨_, PSs.nox (pss_cons (ps_for PassesOwn.never rfl (kpi_zip K (by rfl) G.zip_ (pa_cons (kfld K (pv 0)) (pa_cons (kfld K (pv 1)) pa_nil))) (kpg_tup K rfl (pgs_cons (pg_name (i := 2) sc_u_inside.nd rfl (by first | exact .inl rfl | exact .inr rfl)) (pgs_cons (pg_name (i := 3) sc_u_inside.nd rfl (by first | exact .inl rfl | exact .inr rfl)) pgs_nil)))
        (pss_one (ps_for PassesOwn.never rfl (kpi_zip K (by rfl) G.zip_ (pa_cons (pv 2) (pa_cons (pv 3) pa_nil))) (kpg_tup K rfl (pgs_cons (pg_name (i := 4) sc_u_inside.nd rfl (by first | exact .inl rfl | exact .inr rfl)) (pgs_cons (pg_name (i := 5) sc_u_inside.nd rfl (by first | exact .inl rfl | exact .inr rfl)) pgs_nil)))
          (pss_one (ps_if (PW.pt (pw_and (pt_cmpR op_gt (pv 4) (pv 5) (nomark _)) (pw_and1 (pt_cmpR op_lt (pv 5) (pe_op op_pow pe_int pe_int) (nomark _))))) (pss_one (ps_ret pe_bl)) pss_nil)))))
      (pss_one (ps_ret pe_bl))), ?_⟩
    refine ⟨_, rfl, t1, C, dx, _, _, rfl, ht, T.cl, T.nR, flds_rows _ _ _, _, rfl, t2, C, dx', _, _, rfl, ht', T.cl, T.nR, flds_rows _ _ _, ar, ar', _, _, rfl, sq har, sq har', ?_⟩
    refine for_it (walk_zip (K := K) (a := ar) (b := ar') (xs := rs) (ys := rs') (n := ns.length) (by rw [hl1, hl2, Nat.min_self])) (fun i σ H' => ∃ x2 x3 x4 x5, σ = [some (.ref t1), some (.ref t2), x2, x3, x4, x5] ∧ Same H H' ∧ ∀ u ∈ ns.take i, ∀ v ∈ ns, R1 u v ≤ R2 u v ∨ Df.HALFI ≤ R2 u v)
      ⟨_, _, _, _, rfl, Same.refl _, fun u hu => (by cases hu)⟩ (fun i σ H' _ ⟨_, _, _, _, _, s, _⟩ => ⟨sq (s _ _ har), sq (s _ _ har')⟩) ?_ ?_
    · rintro i x σ H9 H2 hi ⟨x2, x3, x4, x5, rfl, s2, hA⟩ ⟨T', y1, y2, rfl, nT, rfl, e1, e2⟩
      obtain ⟨v, hv, r1, rfl, _, hr1⟩ := pget hrs (List.getElem?_eq_getElem hi)
      obtain ⟨v', hv', r2, rfl, _, hr2⟩ := pget hrs' (List.getElem?_eq_getElem hi)
      have e1 : rs[i]? = some y1 := e1
      have e2 : rs'[i]? = some y2 := e2
      rw [hv] at e1; cases e1
      rw [hv'] at e2; cases e2
      have s3 := s2.trans (same_upd nT (o := .tup [V.ref r1, V.ref r2]))
      refine ⟨T', _, rfl, sqt upd_same, rfl, _, _, rfl, _, _, rfl, rfl, ?_⟩
      generalize upd H9 T' (.tup [V.ref r1, V.ref r2]) = H3 at s3 ⊢
      have htk := take_snoc hi
      have hum := List.getElem_mem hi
      generalize ns[i] = u at hr1 hr2 htk hum
      refine ⟨_, rfl, _, rfl, r1, r2, _, _, rfl, sq (s3 _ _ hr1), sq (s3 _ _ hr2), ?_⟩
      refine for_it (walk_zip (K := K) (a := r1) (b := r2) (xs := rowV ns R1 u) (ys := rowV ns R2 u) (n := ns.length) (by rw [rowV_len, rowV_len, Nat.min_self])) (fun j σ H' => ∃ x4 x5, σ = [some (.ref t1), some (.ref t2), some (.ref r1), some (.ref r2), x4, x5] ∧ Same H H' ∧ ∀ v ∈ ns.take j, R1 u v ≤ R2 u v ∨ Df.HALFI ≤ R2 u v)
        ⟨_, _, rfl, s3, fun u hu => (by cases hu)⟩ (fun j σ H' _ ⟨_, _, _, s, _⟩ => ⟨sq (s _ _ hr1), sq (s _ _ hr2)⟩) ?_ ?_
      · rintro j x σ H9 H4 hj ⟨x4, x5, rfl, s4, hB⟩ ⟨T', y1, y2, rfl, nT, rfl, e1, e2⟩
        have e1 : (rowV ns R1 u)[j]? = some y1 := e1
        have e2 : (rowV ns R2 u)[j]? = some y2 := e2
        rw [row_at (List.getElem?_eq_getElem hj)] at e1
        cases e1
        rw [row_at (List.getElem?_eq_getElem hj)] at e2
        cases e2
        have s5 := s4.trans (same_upd nT (o := .tup [V.int (R1 u ns[j]), V.int (R2 u ns[j])]))
        refine ⟨T', _, rfl, sqt upd_same, rfl, _, _, rfl, _, _, rfl, rfl, ?_⟩
        have htk2 := take_snoc hj
        have hvm := List.getElem_mem hj
        generalize ns[j] = v at s5 htk2 hvm ⊢
        refine ⟨_, rfl, _, rfl, _, _, rfl, rfl, _, rfl, ?_⟩
        have go : (R1 u v ≤ R2 u v ∨ Df.HALFI ≤ R2 u v) → ∀ v ∈ ns.take (j + 1), R1 u v ≤ R2 u v ∨ Df.HALFI ≤ R2 u v := fun h x hx => by
          rw [htk2] at hx
          rcases List.mem_append.mp hx with hx | hx
          · exact hB x hx
          · rw [List.mem_singleton.mp hx]; exact h
        by_cases c1 : R2 u v < R1 u v
        · rw [decide_eq_true c1]
          refine iteT ⟨_, rfl, 10, 29, rfl, rfl, ⟨by decide, by decide, by decide⟩, _, _, rfl, rfl, _, rfl, ?_⟩
          by_cases c2 : R2 u v < Df.HALFI
          · rw [decide_eq_true (show R2 u v < (10 : Int) ^ (29 : Int).toNat from c2)]
            refine iteT ?_
            have := hk _ s5
            rw [show Df.insB ns R1 R2 = false from Bool.eq_false_iff.mpr fun z => by rcases Df.insB_iff.mp z u hum v hvm with z | z <;> omega] at this
            exact this
          · rw [decide_eq_false (show ¬ R2 u v < (10 : Int) ^ (29 : Int).toNat from c2)]
            exact iteF ⟨_, _, rfl, s5, go (.inr (by omega))⟩
        · rw [decide_eq_false c1]
          exact iteF (iteF ⟨_, _, rfl, s5, go (.inl (by omega))⟩)
      · rintro σ H4 ⟨x4, x5, rfl, s4, hB⟩
        rw [List.take_length] at hB
        refine ⟨_, _, _, _, rfl, s4, fun x hx => ?_⟩
        rw [htk] at hx
        rcases List.mem_append.mp hx with hx | hx
        · exact hA x hx
        · rw [List.mem_singleton.mp hx]; exact hB
    rintro σ H2 ⟨x2, x3, x4, x5, rfl, s2, hA⟩
    rw [List.take_length] at hA
    have := hk H2 s2
    rw [Df.insB_iff.mpr hA] at this
    exact this
theorem sc_absorbed : FnScope ["tables", "found", "at", "table", "covered", "k", "other"] ["tables"] (defScope s_absorbed) := ⟨rfl, rfl, rfl, by decide +kernel, rfl, by decide +kernel, by decide +kernel⟩
theorem ok_absorbed (F : FnP K "absorbed" s_absorbed [] f fd) (G : Facts mg) (C_u_inside : Cal P w K mg base 1 "_inside" (spInside C) []) : FnOk P w K mg base CX0 2 f fd ["tables"] (spAbsorbed C) := by
  refine F.ok sc_absorbed (fun vs H Q E h => ?_) (fun cdv A outer s H vs Q E hr h => ?_)
  · obtain ⟨tl, ns, Rs, rfl, _⟩ := h
    rfl
  · obtain ⟨tl, ns, Rs, rfl, ⟨ts, htl, hts⟩, hln, hRl, hk⟩ := h
    have hu := hu_of hr
    have htll := plen hts
    refine ⟨_, PSs.nox (pss_cons (ps_set (i := 1) sc_absorbed.nd rfl (.inl rfl) (pe_lst pa_nil))
      (pss_cons (ps_for PassesOwn.never rfl (kpi_enum K (by rfl) G.enumerate_ (pa_cons (pv 0) pa_nil)) (kpg_tup K rfl (pgs_cons (pg_name (i := 2) sc_absorbed.nd rfl (by first | exact .inl rfl | exact .inr rfl)) (pgs_cons (pg_name (i := 3) sc_absorbed.nd rfl (by first | exact .inl rfl | exact .inr rfl)) pgs_nil)))
        (pss_cons (ps_set (i := 4) sc_absorbed.nd rfl (.inl rfl) pe_bl)
        (pss_cons (ps_for PassesOwn.never rfl (kpi_enum K (by rfl) G.enumerate_ (pa_cons (pv 0) pa_nil)) (kpg_tup K rfl (pgs_cons (pg_name (i := 5) sc_absorbed.nd rfl (by first | exact .inl rfl | exact .inr rfl)) (pgs_cons (pg_name (i := 6) sc_absorbed.nd rfl (by first | exact .inl rfl | exact .inr rfl)) pgs_nil)))
          (pss_one (ps_if (PW.pt (pw_and (pt_cmpR op_ne (pv 5) (pv 2) (nomark _)) (pw_and (pt_val (pe_c C_u_inside hr (by decide) (by rfl) (pa_cons (pv 3) (pa_cons (pv 6) pa_nil)))) (pw_and1 (PW.pt (pw_or (pt_cmpR op_lt (pv 5) (pv 2) (nomark _)) (pw_or1 (pt_not (pt_val (pe_c C_u_inside hr (by decide) (by rfl) (pa_cons (pv 6) (pa_cons (pv 3) pa_nil)))))))))))) (pss_cons (ps_set (i := 4) sc_absorbed.nd rfl (.inl rfl) pe_bl)
            (pss_one ps_break)) pss_nil)))
        (pss_one (ps_if (pt_not (pt_val (pv 4))) (pss_one (ps_expr (pe_bm PySem.F.plainAttrs_list PySem.F.slot_list_append PySem.F.type_list_append mt_append (pv 1) (pa_cons (pv 3) pa_nil)))) pss_nil)))))
      (pss_one (ps_ret (pv 1))))), ?_⟩
    refine ⟨by show 0 ≤ sizeLine; decide, fun fo nfo => ?_⟩
    have s1 := same_upd nfo (o := .lst [])
    have hfo : (upd H fo (.lst [])) fo = some (.lst []) := upd_same
    generalize upd H fo (.lst []) = H1 at s1 hfo ⊢
    have hts0 : Paired (TabU (fun b => b ≠ fo) C H ns) ts Rs := pmono (fun _ _ q => q.imp fun _ q => ⟨q.1, q.2.off nfo fun _ _ z => z⟩) hts
    refine ⟨_, rfl, tl, _, rfl, sq (s1 _ _ htl), ?_⟩
    refine for_it (walk_enum (K := K) (a := tl) (xs := ts)) (fun i σ H' => ∃ x2 x3 x4 x5 x6 us, σ = [some (.ref tl), some (.ref fo), x2, x3, x4, x5, x6] ∧ Same H H' ∧ H' fo = some (.lst us) ∧ Paired (TabU (fun b => b ≠ fo) C H' ns) us (((List.range i).filter fun k => !Df.covB ns Rs k).map (Df.atR Rs)))
      ⟨_, _, _, _, _, [], rfl, s1, hfo, .nil⟩ (fun i σ H' _ ⟨_, _, _, _, _, _, _, s, _⟩ => sq (s _ _ htl)) ?_ ?_
    · rintro i x σ H9 H2 hi ⟨x2, x3, x4, x5, x6, us, rfl, s2, hfo2, hus⟩ hY
      cases hY with | intro T' hY =>
      obtain ⟨y1, y2, rfl, nT, rfl, e1, e2⟩ := hY
      cases e1
      rw [htll] at hi
      obtain ⟨v, hv, t, rfl, hT⟩ := pget hts0 (List.getElem?_eq_getElem hi)
      have e2 : ts[i]? = some y2 := e2
      rw [hv] at e2
      cases e2
      rw [← Df.atR_get hi] at hT
      have sT := same_upd nT (o := .tup [V.int (i : Int), V.ref t])
      refine ⟨T', _, rfl, sqt upd_same, rfl, _, _, rfl, _, _, rfl, rfl, ?_⟩
      have hfo2 := sT _ _ hfo2
      have s2 := s2.trans sT
      have hus : Paired (TabU (fun b => b ≠ fo) C (upd H9 T' (.tup [V.int (i : Int), V.ref t])) ns) us (((List.range i).filter fun k => !Df.covB ns Rs k).map (Df.atR Rs)) := pmono (fun _ _ q => q.mono sT) hus
      generalize upd H9 T' (.tup [V.int (i : Int), V.ref t]) = H2 at hfo2 s2 hus ⊢
      have hrg : (List.range (i + 1)).filter (fun k => !Df.covB ns Rs k) = (List.range i).filter (fun k => !Df.covB ns Rs k) ++ (if (!Df.covB ns Rs i) = true then [i] else []) := by
        rw [List.range_succ, List.filter_append, List.filter_cons, List.filter_nil]
      have hul : us.length ≤ i := by
        rw [plen hus, List.length_map]
        have := List.length_filter_le (fun k => !Df.covB ns Rs k) (List.range i)
        rw [List.length_range] at this
        exact this
      refine ⟨_, rfl, tl, _, rfl, sq (s2 _ _ htl), ?_⟩
      refine for_it (walk_enum (K := K) (a := tl) (xs := ts)) (fun j σ H' => ∃ x5 x6, σ = [some (.ref tl), some (.ref fo), some (.int (i : Int)), some (.ref t), some (.bl false), x5, x6] ∧ Same H2 H' ∧ ∀ k, k < j → Df.covK ns Rs i k = false)
        ⟨_, _, rfl, Same.refl _, fun k hk => absurd hk (Nat.not_lt_zero _)⟩ (fun j σ H' _ ⟨_, _, _, s, _⟩ => sq ((s2.trans s) _ _ htl)) ?_ ?_
      · rintro j x σ H9 H3 hj ⟨x5, x6, rfl, s3, hno⟩ hY
        cases hY with | intro T' hY =>
        obtain ⟨y1, y2, rfl, nT, rfl, e1, e2⟩ := hY
        cases e1
        rw [htll] at hj
        obtain ⟨v, hv', t2, rfl, hT2⟩ := pget hts0 (List.getElem?_eq_getElem hj)
        have e2 : ts[j]? = some y2 := e2
        rw [hv'] at e2
        cases e2
        rw [← Df.atR_get hj] at hT2
        have sT := same_upd nT (o := .tup [V.int (j : Int), V.ref t2])
        refine ⟨T', _, rfl, sqt upd_same, rfl, _, _, rfl, _, _, rfl, rfl, ?_⟩
        have s3 := s3.trans sT
        generalize upd H9 T' (.tup [V.int (j : Int), V.ref t2]) = H3 at s3 ⊢
        have s23 := s2.trans s3
        have hTT := (hT.weak (N' := fun _ => True) fun _ _ => True.intro)
        have hTT2 := (hT2.weak (N' := fun _ => True) fun _ _ => True.intro)
        have more : Df.covK ns Rs i j = false → ∀ k, k < j + 1 → Df.covK ns Rs i k = false := fun h k hk => by
          by_cases c : k = j
          · rw [c]; exact h
          · exact hno k (by omega)
        have hcov : Df.covK ns Rs i j = (decide (j ≠ i) && (Df.insB ns (Df.atR Rs i) (Df.atR Rs j) && (decide (j < i) || !Df.insB ns (Df.atR Rs j) (Df.atR Rs i)))) := rfl
        refine ⟨_, rfl, _, rfl, rfl, _, rfl, ?_⟩
        by_cases h1 : j = i
        · rw [show (!decide (V.int (j : Int) = V.int (i : Int))) = false by rw [h1, decide_eq_true rfl]; rfl]
          exact iteF (iteF ⟨_, _, rfl, s3, more (by rw [hcov, decide_eq_false (fun z => z h1)]; rfl)⟩)
        rw [show (!decide (V.int (j : Int) = V.int (i : Int))) = true by rw [decide_eq_false (show ¬ V.int (j : Int) = V.int (i : Int) from fun z => h1 (by injection z with z; omega))]; rfl]
        rw [decide_eq_true h1, Bool.true_and] at hcov
        refine iteT ⟨_, rfl, _, rfl, t, t2, ns, _, _, rfl, hTT.mono s23, hTT2.mono s23, hln, fun H4 s4 => ⟨_, rfl, ?_⟩⟩
        cases c1 : Df.insB ns (Df.atR Rs i) (Df.atR Rs j) with
        | false => exact iteF (iteF ⟨_, _, rfl, s3.trans s4, more (by rw [hcov, c1]; rfl)⟩)
        | true =>
          rw [c1, Bool.true_and] at hcov
          refine iteT ⟨_, rfl, _, rfl, _, _, rfl, rfl, _, rfl, ?_⟩
          by_cases c2 : j < i
          · rw [decide_eq_true (show (j : Int) < (i : Int) by omega)]
            rw [decide_eq_true c2, Bool.true_or] at hcov
            have hcb : Df.covB ns Rs i = true := List.any_eq_true.mpr ⟨j, List.mem_range.mpr hj, hcov⟩
            have s24 := s3.trans s4
            refine iteT (iteT ⟨_, rfl, _, rfl, iteF ⟨_, _, _, _, _, us, rfl, s2.trans s24, s24 _ _ hfo2, ?_⟩⟩)
            rw [hrg, hcb, if_neg (by decide), List.append_nil]
            exact pmono (fun _ _ q => q.mono s24) hus
          rw [decide_eq_false (show ¬ (j : Int) < (i : Int) by omega)]
          rw [decide_eq_false c2, Bool.false_or] at hcov
          refine iteF ⟨_, rfl, _, rfl, t2, t, ns, _, _, rfl, hTT2.mono (s23.trans s4), hTT.mono (s23.trans s4), hln, fun H5 s5 => ⟨_, rfl, ?_⟩⟩
          cases c3 : Df.insB ns (Df.atR Rs j) (Df.atR Rs i) with
          | true => exact iteF ⟨_, _, rfl, s3.trans (s4.trans s5), more (by rw [hcov, c3]; rfl)⟩
          | false =>
            rw [c3] at hcov
            have hcb : Df.covB ns Rs i = true := List.any_eq_true.mpr ⟨j, List.mem_range.mpr hj, hcov⟩
            have s25 := s3.trans (s4.trans s5)
            refine iteT ⟨_, rfl, _, rfl, iteF ⟨_, _, _, _, _, us, rfl, s2.trans s25, s25 _ _ hfo2, ?_⟩⟩
            rw [hrg, hcb, if_neg (by decide), List.append_nil]
            exact pmono (fun _ _ q => q.mono s25) hus
      rintro σ H3 ⟨x5, x6, rfl, s3, hno⟩
      have hcf : Df.covB ns Rs i = false := Bool.eq_false_iff.mpr fun z => by
        unfold Df.covB at z
        obtain ⟨k, hk, e⟩ := List.any_eq_true.mp z
        rw [hno k (by rw [htll]; exact List.mem_range.mp hk)] at e
        cases e
      have hfo3 := s3 _ _ hfo2
      have kp : ∀ b o, b ≠ fo → H3 b = some o → (upd H3 fo (.lst (us ++ [.ref t]))) b = some o := fun b o hb e => by rw [upd_ne hb]; exact e
      refine ⟨_, rfl, _, rfl, iteT ⟨_, rfl, .inl ⟨rfl, _, sq hfo3⟩, _, rfl, fo, us, _, rfl, rfl, hfo3, szlt (by omega), ?_⟩⟩
      refine ⟨_, _, _, _, _, us ++ [.ref t], rfl, same_mut (s2.trans s3) nfo, upd_same, ?_⟩
      rw [hrg, hcf, if_pos (show (!false) = true from rfl), List.map_append]
      exact (pmono (fun _ _ q => (q.mono s3).imp fun _ q => ⟨q.1, q.2.keep kp⟩) hus).snoc ⟨t, rfl, (hT.mono (s2.trans s3)).keep kp⟩
    rintro σ H2 ⟨x2, x3, x4, x5, x6, us, rfl, s2, hfo2, hus⟩
    rw [htll] at hus
    exact ⟨_, rfl, hk H2 fo s2 ⟨us, hfo2, pmono (fun _ _ q => q.imp fun _ q => ⟨q.1, q.2.weak fun _ _ => True.intro⟩) hus⟩⟩
end
end K1

namespace K1
open PySem PySem.Spec PyProof.Rows L2 Ls
/-! ### fewer names; like names -/
def spKept (C : Addr) : Sp := fun vs H Q _ => ∃ (N : Addr → Prop) (t nm : Addr) (ns names : List Str) (R : Df.Tab Str), vs = [.ref t, .ref nm] ∧ (∀ p, H p = none → N p) ∧ N nm ∧ TabAt (fun _ => True) C H t ns R ∧ ns.length ≤ 900 ∧ H nm = some (.tup (names.map V.str)) ∧ NamesOk names ∧ (∀ u ∈ ("0" : Str) :: names, u ∈ ns) ∧
  ∀ H' t', Same H H' → TabAt N C H' t' (("0" : Str) :: names) R → Q (.ref t') H'
def spFit (CR C : Addr) : Sp := fun vs H Q _ => ∃ (r1 r2 : Addr) (names : List Str) (Rs1 Rs2 : List (Df.Tab Str)), vs = [.ref r1, .ref r2] ∧ RegAt CR C H r1 names Rs1 ∧ RegAt CR C H r2 names Rs2 ∧ (∀ u ∈ names, PySem.PyData.strOk u = true) ∧ ∀ H', Same H H' → Q .non H'
theorem okStr {x : Str} (h : PySem.PyData.strOk x = true) : PyData.canLay0 (.str x) = true := by simp only [PyData.canLay0]; exact h
theorem shaped_strsT (l : List Str) (h : ∀ x ∈ l, PySem.PyData.strOk x = true) : SeqAt.shaped (.tuple (l.map PyData.str)) = true := by
  have h1 := depAll PyData.str 1 (fun x => by simp [PyData.depth]) l
  have h2 : PyData.depth (.tuple (l.map PyData.str)) ≤ 64 := by simp only [PyData.depth]; omega
  unfold SeqAt.shaped
  rw [Bool.and_eq_true]
  exact ⟨by simp only [PyData.canLay0]; exact canAllm PyData.str l fun x hx => okStr (h x hx), decide_eq_true h2⟩
theorem eqv_strsT (l : List Str) (h : ∀ x ∈ l, PySem.PyData.strOk x = true) : PyData.eqv (.tuple (l.map PyData.str)) (.tuple (l.map PyData.str)) = true := PySem.SeqAt.eqv_refl _ (by simp only [PyData.canLay0]; exact canAllm PyData.str l fun x hx => okStr (h x hx))
section
variable {P : Program} {w : World} {K : PySem.W.Frag} {mg : Str → Option Value} {base : Heap} {f C CR : Addr} {fd : FuncData} {k : Nat}
theorem sc_kept : FnScope ["table", "names", "told", "spots", "name", "v", "u"] ["table", "names"] (defScope s_kept) := ⟨rfl, rfl, rfl, by decide +kernel, rfl, by decide +kernel, by decide +kernel⟩
theorem ok_kept (F : FnP K "kept" s_kept [] f fd) (G : Facts mg) (T : TCls K C) (M_Table : Mak P w K mg base 1 "Table" C (spTable C) [.non]) : FnOk P w K mg base CX0 3 f fd ["table", "names"] (spKept C) := by
  refine F.ok sc_kept (fun vs H Q E h => ?_) (fun cdv A outer s H vs Q E hr h => ?_)
  · obtain ⟨N, t, nm, ns, names, R, rfl, _⟩ := h
    rfl
  · obtain ⟨N, t, nm, ns, names, R, rfl, hN, hNnm, ⟨dx, an, ar, asp, rs, shown, sp, hNs, ht, han, har, hrs, hsp, hspo, hsl, hss⟩, hlen, hnm, hok, hin, hk⟩ := h
    have hu := hu_of hr
    have hl := hok.len
    refine ⟨_, PSs.nox (pss_cons (ps_set (i := 2) sc_kept.nd rfl (.inl rfl) (pe_op kCatT (pe_tup (pa_cons pe_str pa_nil)) (pe_callTy kTuple (by rfl) G.tuple_ (by decide +kernel) (pa_cons (pv 1) pa_nil))))
      (pss_cons (ps_set (i := 3) sc_kept.nd rfl (.inr rfl) (pe_lc (own := [("name", 4)]) (g := gName 4) (tt := tYes) rfl sc_kept.nd  (kpi_tup K (pv 2)) (blkOk_by (by kernel_rfl)) (fun _ _ _ _ _ => (pg_name (i := 4) sc_kept.nd rfl (by first | exact .inl rfl | exact .inr rfl))) (fun _ _ _ _ _ => pts_nil) (fun _ _ _ _ _ => (pe_dget hu (kfld K (pv 0)) (pv 4) (fun _ _ => rfl)))))
      (pss_one (ps_ret (pe_mk M_Table hr (by decide) (by rfl) (pa_cons (pv 2) (pa_cons (pe_lc (own := [("u", 6)]) (g := gName 6) (tt := tYes) rfl sc_kept.nd  (kpi_list K (pv 3)) (blkOk_by (by kernel_rfl)) (fun _ _ _ _ _ => (pg_name (i := 6) sc_kept.nd rfl (by first | exact .inl rfl | exact .inr rfl))) (fun _ _ _ _ _ => pts_nil) (fun _ _ _ _ _ => (pe_lc (own := [("v", 5)]) (g := gName 5) (tt := tYes) rfl sc_kept.nd  (kpi_list K (pv 3)) (blkOk_by (by kernel_rfl)) (fun _ _ _ _ _ => (pg_name (i := 5) sc_kept.nd rfl (by first | exact .inl rfl | exact .inr rfl))) (fun _ _ _ _ _ => pts_nil) (fun _ _ _ _ _ => (pe_ix (kIxL K) (pe_ix (kIxL K) (kfld K (pv 0)) (pv 6) (fun _ _ => rfl)) (pv 5) (fun _ _ => rfl)))))) pa_nil))))))), ?_⟩
    refine ⟨by show 1 ≤ sizeLine; decide, fun p np => ?_⟩
    have s1 := same_upd np (o := .tup [.str "0"])
    refine ⟨_, rfl, nm, _, rfl, .inr (s1 _ _ hnm), fun H2 q s2 nq hq => ?_⟩
    refine ⟨p, q, [.str "0"], names.map V.str, rfl, rfl, s2 _ _ upd_same, hq, szl (by simp; omega), fun H3 tn s3 ntn htn => ?_⟩
    have htn : H3 tn = some (.tup ((("0" : Str) :: names).map V.str)) := htn
    have sA := s1.trans (s2.trans s3)
    have Ntn : N tn := by
      rcases ntn with e | e | e
      · exact hN _ ((s1.trans s2).free e)
      · rw [e]; exact hN _ np
      · rw [e]; exact nq.elim (fun e => hN _ (s1.free e)) fun e => by rw [e]; exact hNnm
    generalize hts : ("0" : Str) :: names = ts at htn hin
    have htl : ts.length ≤ 801 := by rw [← hts, List.length_cons]; omega
    have hnd : ts.Nodup := by rw [← hts]; exact List.nodup_cons.mpr ⟨fun z => (hok.ne _ z).2 rfl, hok.nd⟩
    have hne : ∀ u ∈ ts, u ≠ "" := fun u hu' => by
      rw [← hts] at hu'
      rcases List.mem_cons.mp hu' with rfl | h
      · decide +kernel
      · exact (hok.ne _ h).1
    -- the place of a name
    have hpl : ∀ u, ∃ i : Nat, u ∈ ts → ns[i]? = some u := fun u => by
      by_cases h : u ∈ ts
      · obtain ⟨i, hi, _⟩ := ix_of (hin u h)
        exact ⟨i, fun _ => hi⟩
      · exact ⟨0, fun z => absurd z h⟩
    obtain ⟨pl, hpl⟩ := Classical.axiomOfChoice hpl
    -- spots
    refine ⟨_, rfl, tn, rfl, ⟨_, sqt htn⟩, fun D hD => ?_⟩
    refine lc_it (walk_tup (K := K) (a := tn) (xs := ts.map V.str)) (fun i H' => Same H3 H' ∧ H' D = some (.lst ((ts.take i).map fun u => V.int (pl u : Int)))) ⟨same_upd hD, upd_same⟩ (fun i H' _ ⟨s4, _⟩ => sqt (s4 _ _ htn)) ?_ ?_
    · rintro i y H9 H' hi ⟨s4, d4⟩ ⟨rfl, ex⟩
      rw [List.length_map] at hi
      have ex : y = V.str ts[i] := by
        rw [List.getElem?_map, List.getElem?_eq_getElem hi] at ex
        exact (Option.some.inj ex).symm
      subst ex
      have hm := List.getElem_mem hi
      have sB := sA.trans s4
      have hget := dget (sB _ _ hsp) (hspo _ _ (hpl _ hm) (hne _ hm))
      refine ⟨rfl, _, rfl, t, C, dx, _, _, rfl, sB _ _ ht, T.cl, T.nS, flds_spots _ _ _, _, rfl, asp, _, rfl, hget, _, d4, ?_, same_mut s4 hD, ?_⟩
      · rw [List.length_map, List.length_take]
        exact szlt (by omega)
      · rw [upd_same, take_snoc hi, List.map_append]
        rfl
    rintro H4 ⟨s4, d4⟩
    rw [List.length_map, List.take_length] at d4
    have sB := sA.trans s4
    have htn4 := s4 _ _ htn
    -- rows
    refine ⟨_, rfl, _, rfl, D, rfl, ⟨_, sq d4⟩, fun D2 hD2 => ?_⟩
    have nDD : D ≠ D2 := ne_of_none d4 hD2
    have fD2 : H D2 = none := sB.free hD2
    refine lc_it (walk_list (K := K) (a := D) (xs := ts.map fun u => V.int (pl u : Int))) (fun i H' => Same H4 H' ∧ ∃ rs', H' D2 = some (.lst rs') ∧ Paired (fun v u => v ≠ V.ref D2 ∧ RowIs N H' ts R v u) rs' (ts.take i)) ⟨same_upd hD2, [], upd_same, .nil⟩ (fun i H' _ ⟨s5, _⟩ => sq (s5 _ _ d4)) ?_ ?_
    · rintro i x H9 H' hi ⟨s5, rs', r5, hp⟩ ⟨rfl, ex⟩
      have hil : i < ts.length := by simpa using hi
      have ex : x = V.int (pl ts[i] : Int) := by
        rw [List.getElem?_map, List.getElem?_eq_getElem hil] at ex
        exact (Option.some.inj ex).symm
      subst ex
      have sE := sB.trans s5
      have hmi := List.getElem_mem hil
      obtain ⟨vi, hvi, ri, rfl, _, hri⟩ := pget hrs (hpl _ hmi)
      refine ⟨rfl, _, rfl, D, rfl, ⟨_, sq (s5 _ _ d4)⟩, fun D3 hD3 => ?_⟩
      have n23 : D2 ≠ D3 := ne_of_none r5 hD3
      refine lc_it (walk_list (K := K) (a := D) (xs := ts.map fun u => V.int (pl u : Int))) (fun k H6 => Same H' H6 ∧ H6 D3 = some (.lst ((ts.take k).map fun v => V.int (R ts[i] v)))) ⟨same_upd hD3, upd_same⟩ (fun k H6 _ ⟨s7, _⟩ => sq (s7 _ _ (s5 _ _ d4))) ?_ ?_
      · rintro k y H7 H6 hk2 ⟨s7, d7⟩ ⟨rfl, ex⟩
        rw [List.length_map] at hk2
        have ex : y = V.int (pl ts[k] : Int) := by
          rw [List.getElem?_map, List.getElem?_eq_getElem hk2] at ex
          exact (Option.some.inj ex).symm
        subst ex
        have hmk := List.getElem_mem hk2
        have sF := sE.trans s7
        refine ⟨rfl, _, rfl, t, C, dx, _, _, rfl, sF _ _ ht, T.cl, T.nR, flds_rows _ _ _, _, rfl, ar, rs, _, _, rfl, rfl, sq (sF _ _ har), atI_nat hvi, _, rfl, ri, _, _, _, rfl, rfl, sq (sF _ _ hri), atI_nat (row_at (hpl _ hmk)), _, d7, ?_, same_mut s7 hD3, ?_⟩
        · rw [List.length_map, List.length_take]
          exact szlt (by omega)
        · rw [upd_same, take_snoc hk2, List.map_append]
          rfl
      rintro H7 ⟨s7, d7⟩
      rw [List.length_map, List.take_length] at d7
      refine ⟨rs', s7 _ _ r5, ?_, same_mut (s5.trans s7) hD2, rs' ++ [.ref D3], upd_same, ?_⟩
      · rw [plen hp, List.length_take]
        exact szlt (by omega)
      · rw [take_snoc hil]
        have sm : ∀ v u, (v ≠ V.ref D2 ∧ RowIs N H' ts R v u) → v ≠ V.ref D2 ∧ RowIs N (upd H7 D2 (.lst (rs' ++ [.ref D3]))) ts R v u := fun v u ⟨e0, r, e1, eN, e2⟩ =>
          ⟨e0, r, e1, eN, by rw [upd_ne (fun z => e0 (by rw [e1, z]))]; exact s7 _ _ e2⟩
        refine (pmono sm hp).snoc ⟨fun z => n23 (by injection z with z; exact z.symm), D3, rfl, hN _ (sE.free hD3), ?_⟩
        rw [upd_ne n23.symm, d7]
        rfl
    rintro H6 ⟨s6, rs', r6, hp⟩
    rw [List.length_map, List.take_length] at hp
    have n6 := s6 _ _ htn4
    intro x dx' nx ndx nex
    have s7 : Same H6 (upd (upd H6 dx' (.own x)) x (.ins C dx' [])) := fun b o e => by rw [upd_ne (ne_of_none e nx), upd_ne (ne_of_none e ndx)]; exact e
    refine ⟨x, dx', tn, D2, ts, .non, rfl, upd_same, s7 _ _ n6, by omega, .inl ⟨rfl, fun d H' nd hd' hx ho => ⟨rfl, ?_⟩⟩⟩
    have s8 : Same H6 H' := fun b o e => ho b o (s7 b o e) (ne_of_none e nx)
    have s06 := sB.trans s6
    have lab := Lab.of hnd
    subst hts
    exact hk H' x (s06.trans s8) ⟨dx', tn, D2, d, rs', _, _, ⟨hN _ (s06.free nx), Ntn, hN _ fD2, hN _ ((s06.trans s7).free nd)⟩, hx, s8 _ _ n6, s8 _ _ r6, pmono (fun _ _ q => RowIs.mono s8 q.2) hp, hd', lab.spots, lab.len, lab.same⟩
theorem sc_fit : FnScope ["one", "other"] ["one", "other"] (defScope s_fit) := ⟨rfl, rfl, rfl, by decide +kernel, rfl, by decide +kernel, by decide +kernel⟩
theorem ok_fit (F : FnP K "fit" s_fit [] f fd) (G : Facts mg) (RC : RCls K CR) : FnOk P w K mg base CX0 1 f fd ["one", "other"] (spFit CR C) := by
  refine F.ok sc_fit (fun vs H Q E h => ?_) (fun cdv A outer s H vs Q E hr h => ?_)
  · obtain ⟨r1, r2, names, Rs1, Rs2, rfl, _⟩ := h
    rfl
  · obtain ⟨r1, r2, names, Rs1, Rs2, rfl, ⟨dx, nm, tl, hr1, hnm, _⟩, ⟨dx', nm', tl', hr2, hnm', _⟩, hstr, hk⟩ := h
    have hu := hu_of hr
    refine ⟨_, PSs.nox (pss_one (ps_if (pt_cmpR (kNeD K hr.units) (kfld K (pv 0)) (kfld K (pv 1)) (nomark _)) (pss_one ps_never) pss_nil)), ?_⟩
    refine ⟨_, rfl, r1, CR, dx, _, _, rfl, hr1, RC.cl, RC.nN, rflds_names _ _, _, rfl, r2, CR, dx', _, _, rfl, hr2, RC.cl, RC.nN, rflds_names _ _, ?_⟩
    refine ⟨_, _, .tup (sqt hnm) (dpStrs K H names), .tup (sqt hnm') (dpStrs K H names), shaped_strsT _ hstr, shaped_strsT _ hstr, _, rfl, ?_⟩
    rw [eqv_strsT _ hstr]
    exact iteF (hk H (Same.refl _))
end
end K1

namespace K1
open PySem PySem.Spec PyProof.Rows L2 Ls
/-! ### regions of regions -/
def gVK : List V → List V → List V := fun vs zs => vs ++ zs
/-- Region(names, [], tables=l): what stands there then -/
theorem newRegK {K : PySem.W.Frag} {CR C : Addr} {H : Hp} {a sy tb x dx : Addr} {names : List Str} {Ts : List (Df.Tab Str)} (ha : H a = some (.tup (names.map V.str))) (hok : NamesOk names) (hsy : H sy = some (.lst [])) (ht : TabsAt (fun _ => True) C H tb (("0" : Str) :: names) Ts) (hl : Ts.length ≤ 900000)
    (nx : H x = none) (ndx : H dx = none) {Q : VK} {E : XK} (hk : ∀ H', Same H H' → RegAt CR C H' x names Ts → Q .non H') : spRegion K CR C [.ref x, .ref a, .ref sy, .ref tb] (upd (upd H dx (.own x)) x (.ins CR dx [])) Q E := by
  have s5 : Same H (upd (upd H dx (.own x)) x (.ins CR dx [])) := fun b o e => by rw [upd_ne (ne_of_none e nx), upd_ne (ne_of_none e ndx)]; exact e
  obtain ⟨us, htb, hus⟩ := ht
  exact ⟨H, x, dx, a, sy, tb, names, [], us, [], Ts, rfl, upd_same, s5, nx, ha, hok, hsy, .nil, fun H' s6 => .inl (sq (s6 _ _ htb)), hus, by simp; omega, fun nm tl H' s hx hn ht => hk H' s ⟨dx, nm, tl, hx, hn, by simpa [tabsOf] using ht⟩⟩
theorem rflds_no (nm tl : Addr) {m : Str} (h1 : (m == ("names" : Str)) = false) (h2 : (m == ("tables" : Str)) = false) : (rflds nm tl).lookup m = none := by
  have h3 : ¬ (("names" : Str) = "tables") := by decide +kernel
  simp [rflds, putF, h1, h2, h3, List.lookup]
def spPieces (CR C : Addr) : Sp := fun vs H Q _ => ∃ (r : Addr) (names : List Str) (Rs : List (Df.Tab Str)), vs = [.ref r] ∧ RegAt CR C H r names Rs ∧ NamesOk names ∧ names.length ≤ 3 ∧ Rs.length ≤ 900 ∧ (∀ R ∈ Rs, ∀ u ∈ ("0" : Str) :: names, R u u = 0) ∧
  ∀ H' b us Ss, Same H H' → H' b = some (.lst us) → Paired (fun v S => ∃ r, v = V.ref r ∧ SysAt H' r S) us Ss → Paired (fun R S => Df.LeanOf (("0" : Str) :: names) R S) Rs Ss → Q (.ref b) H'
def spOr (CR C : Addr) : Sp := fun vs H Q _ => ∃ (r1 r2 : Addr) (names : List Str) (Rs1 Rs2 : List (Df.Tab Str)), vs = [.ref r1, .ref r2] ∧ RegAt CR C H r1 names Rs1 ∧ RegAt CR C H r2 names Rs2 ∧ NamesOk names ∧ (∀ u ∈ names, PySem.PyData.strOk u = true) ∧ Rs1.length + Rs2.length ≤ 900 ∧
  ∀ H' r, Same H H' → RegAt CR C H' r names (Df.absR (("0" : Str) :: names) (Rs1 ++ Rs2)) → Q (.ref r) H'
def spSub (CR C : Addr) : Sp := fun vs H Q _ => ∃ (r1 r2 : Addr) (names : List Str) (Rs1 Rs2 : List (Df.Tab Str)), vs = [.ref r1, .ref r2] ∧ RegAt CR C H r1 names Rs1 ∧ RegAt CR C H r2 names Rs2 ∧ NamesOk names ∧ names.length ≤ 3 ∧ (∀ u ∈ names, PySem.PyData.strOk u = true) ∧ Rs1.length ≤ 4 ∧ Rs2.length ≤ 4 ∧ (∀ R ∈ Rs2, ∀ u ∈ ("0" : Str) :: names, R u u = 0) ∧
  ∀ H' r Ts, Same H H' → Df.LeftR (("0" : Str) :: names) Rs1 Rs2 Ts → RegAt CR C H' r names Ts → Q (.ref r) H'
def spInv (CR C : Addr) : Sp := fun vs H Q _ => ∃ (r : Addr) (names : List Str) (Rs : List (Df.Tab Str)), vs = [.ref r] ∧ RegAt CR C H r names Rs ∧ NamesOk names ∧ names.length ≤ 3 ∧ Rs.length ≤ 4 ∧ (∀ R ∈ Rs, ∀ u ∈ ("0" : Str) :: names, R u u = 0) ∧
  ∀ H' r Ts, Same H H' → Df.LeftR (("0" : Str) :: names) [Df.blankR] Rs Ts → RegAt CR C H' r names Ts → Q (.ref r) H'
def spBoolR (CR C : Addr) : Sp := fun vs H Q _ => ∃ (r : Addr) (names : List Str) (Rs : List (Df.Tab Str)), vs = [.ref r] ∧ RegAt CR C H r names Rs ∧ Q (.bl (!Rs.isEmpty)) H
def spWithin (CR C : Addr) : Sp := fun vs H Q _ => ∃ (r1 r2 : Addr) (names : List Str) (Rs1 Rs2 : List (Df.Tab Str)), vs = [.ref r1, .ref r2] ∧ RegAt CR C H r1 names Rs1 ∧ RegAt CR C H r2 names Rs2 ∧ NamesOk names ∧ names.length ≤ 3 ∧ (∀ u ∈ names, PySem.PyData.strOk u = true) ∧ Rs1.length ≤ 4 ∧ Rs2.length ≤ 4 ∧ (∀ R ∈ Rs2, ∀ u ∈ ("0" : Str) :: names, R u u = 0) ∧
  ∀ H' Ts, Same H H' → Df.LeftR (("0" : Str) :: names) Rs1 Rs2 Ts → Q (.bl Ts.isEmpty) H'
def spSame (CR C : Addr) : Sp := fun vs H Q _ => ∃ (r1 r2 : Addr) (names : List Str) (Rs1 Rs2 : List (Df.Tab Str)), vs = [.ref r1, .ref r2] ∧ RegAt CR C H r1 names Rs1 ∧ RegAt CR C H r2 names Rs2 ∧ NamesOk names ∧ names.length ≤ 3 ∧ (∀ u ∈ names, PySem.PyData.strOk u = true) ∧ Rs1.length ≤ 4 ∧ Rs2.length ≤ 4 ∧ (∀ R ∈ Rs1, ∀ u ∈ ("0" : Str) :: names, R u u = 0) ∧ (∀ R ∈ Rs2, ∀ u ∈ ("0" : Str) :: names, R u u = 0) ∧
  ∀ H' b, Same H H' → (∃ T1, Df.LeftR (("0" : Str) :: names) Rs1 Rs2 T1 ∧ ((T1 ≠ [] ∧ b = false) ∨ (T1 = [] ∧ ∃ T2, Df.LeftR (("0" : Str) :: names) Rs2 Rs1 T2 ∧ b = T2.isEmpty))) → Q (.bl b) H'
def spPointR (CR C : Addr) : Sp := fun vs H Q _ => ∃ (r : Addr) (names : List Str) (Rs : List (Df.Tab Str)), vs = [.ref r] ∧ RegAt CR C H r names Rs ∧ NamesOk names ∧
  ((Rs = [] ∧ Q .non H) ∨ ∃ R Rt R' x', Rs = R :: Rt ∧ Df.pts ("0" : Str) R (fun _ => 0) names = some (R', x') ∧ ∀ H' d, Same H H' → H' d = some (.dK (ptV names x')) → Q (.ref d) H')
section
variable {P : Program} {w : World} {K : PySem.W.Frag} {mg : Str → Option Value} {base : Heap} {f C CR TB : Addr} {fd : FuncData} {k : Nat}
theorem NamesOk.zne {names : List Str} (h : NamesOk names) {u : Str} (hu : u ∈ ("0" : Str) :: names) : u ≠ "" := by
  rcases List.mem_cons.mp hu with rfl | hu
  · decide
  · exact (h.ne u hu).1
theorem NamesOk.znd {names : List Str} (h : NamesOk names) : (("0" : Str) :: names).Nodup := List.nodup_cons.mpr ⟨fun z => (h.ne _ z).2 rfl, h.nd⟩
theorem sc_Region_pieces : FnScope ["self", "table"] ["self"] (defScope s_Region_pieces) := ⟨rfl, rfl, rfl, by decide +kernel, rfl, by decide +kernel, by decide +kernel⟩
theorem ok_pieces (F : FunD K "pieces" "Region.pieces" (defArgs s_Region_pieces) (defBody s_Region_pieces) (defScope s_Region_pieces) [] [] f fd) (G : Facts mg) (RC : RCls K CR) (C_lean_of : Cal P w K mg base 1 "lean_of" (spLean C) []) :
    FnOk P w K mg base CX0 2 f fd ["self"] (spPieces CR C) := by
  refine F.ok sc_Region_pieces (fun vs H Q E h => ?_) (fun cdv A outer s H vs Q E hr h => ?_)
  · obtain ⟨r, names, Rs, rfl, _⟩ := h
    rfl
  · obtain ⟨r, names, Rs, rfl, ⟨dx, nm, tl, hrr, hnm, ts, htl, hts⟩, hok, hl3, hRl, hdg, hk⟩ := h
    have hu := hu_of hr
    have htll := plen hts
    refine ⟨_, PSs.nox (pss_one (ps_ret (pe_lc (own := [("table", 1)]) (g := gName 1) (tt := tYes) rfl sc_Region_pieces.nd  (kpi_list K (kfld K (pv 0))) (blkOk_by (by kernel_rfl)) (fun _ _ _ _ _ => (pg_name (i := 1) sc_Region_pieces.nd rfl (by first | exact .inl rfl | exact .inr rfl))) (fun _ _ _ _ _ => pts_nil) (fun _ _ _ _ _ => (pe_c C_lean_of hr (by decide) (by rfl) (pa_cons (pv 1) pa_nil)))))), ?_⟩
    refine ⟨_, rfl, r, CR, dx, _, _, rfl, hrr, RC.cl, RC.nT, rflds_tables _ _, tl, rfl, ⟨_, sq htl⟩, fun D hD => ?_⟩
    refine lc_it (walk_list (K := K) (a := tl) (xs := ts)) (fun j H' => Same H H' ∧ ∃ us Ss, H' D = some (.lst us) ∧ Paired (fun v S => ∃ r, v = V.ref r ∧ r ≠ D ∧ SysAt H' r S) us Ss ∧ Paired (fun R S => Df.LeanOf (("0" : Str) :: names) R S) (Rs.take j) Ss) ⟨same_upd hD, [], [], upd_same, .nil, .nil⟩ (fun j H' _ ⟨s3, _⟩ => sq (s3 _ _ htl)) ?_ ?_
    · rintro j y H8 H' hj ⟨s3, us, Ss, dD, hp, hq⟩ ⟨rfl, ey⟩
      rw [htll] at hj
      obtain ⟨v, hv, t, rfl, ht⟩ := pget hts (List.getElem?_eq_getElem hj)
      rw [hv] at ey
      cases ey
      refine ⟨rfl, _, rfl, t, ("0" : Str) :: names, Rs[j], rfl, ht.mono s3, fun u hu => hok.zne hu, hok.znd, by rw [List.length_cons]; omega, hdg _ (List.getElem_mem hj), fun H5 b S s5 nb hb hlean => ?_⟩
      have dD5 := s5 _ _ dD
      have hul : us.length ≤ j := by
        have h1 := plen hp
        have h2 := plen hq
        rw [List.length_take] at h2
        omega
      have bD : b ≠ D := fun z => by rw [z, dD] at nb; cases nb
      have kl : ∀ r S, r ≠ D → SysAt H5 r S → SysAt (upd H5 D (.lst (us ++ [.ref b]))) r S := fun r S hr h => h.keep (fun l e => by rw [upd_ne hr]; exact e) (fun a t e => by rw [upd_ne (ne_of e dD5 (by intro z; cases z))]; exact e)
      refine ⟨us, dD5, szlt (by omega), same_mut (s3.trans s5) hD, us ++ [.ref b], Ss ++ [S], upd_same, ?_, ?_⟩
      · exact papp (pmono (fun _ _ ⟨r, e, n, h⟩ => ⟨r, e, n, kl _ _ n (h.mono s5)⟩) hp) (.cons ⟨b, rfl, bD, kl _ _ bD hb⟩ .nil)
      · rw [take_snoc hj]
        exact papp hq (.cons hlean .nil)
    rintro H2 ⟨s2, us, Ss, dD, hp, hq⟩
    rw [htll, List.take_length] at hq
    exact hk H2 D us Ss s2 dD (pmono (fun _ _ ⟨r, e, _, h⟩ => ⟨r, e, h⟩) hp) hq
theorem sc_Region___or__ : FnScope ["self", "other"] ["self", "other"] (defScope s_Region___or__) := ⟨rfl, rfl, rfl, by decide +kernel, rfl, by decide +kernel, by decide +kernel⟩
theorem ok_or (F : FunD K "__or__" "Region.__or__" (defArgs s_Region___or__) (defBody s_Region___or__) (defScope s_Region___or__) [] [] f fd) (G : Facts mg) (RC : RCls K CR) (C_fit : Cal P w K mg base 1 "fit" (spFit CR C) []) (C_absorbed : Cal P w K mg base 2 "absorbed" (spAbsorbed C) []) (M_RegionK : MakK P w K mg base 6 "Region" CR (spRegion K CR C) 2 ["tables"] gVK) :
    FnOk P w K mg base CX0 8 f fd ["self", "other"] (spOr CR C) := by
  refine F.ok sc_Region___or__ (fun vs H Q E h => ?_) (fun cdv A outer s H vs Q E hr h => ?_)
  · obtain ⟨r1, r2, names, Rs1, Rs2, rfl, _⟩ := h
    rfl
  · obtain ⟨r1, r2, names, Rs1, Rs2, rfl, hR1, hR2, hok, hstr, hl, hk⟩ := h
    have hu := hu_of hr
    have hln := hok.len
    refine ⟨_, PSs.nox (pss_cons (ps_expr (pe_c C_fit hr (by decide) (by rfl) (pa_cons (pv 0) (pa_cons (pv 1) pa_nil))))
      (pss_one (ps_ret (pe_mkK M_RegionK hr (by decide) (by rfl) (pa_cons (kfld K (pv 0)) (pa_cons (pe_lst pa_nil) pa_nil)) (pk_cons (pe_c C_absorbed hr (by decide) (by rfl) (pa_cons (pe_op op_cat (kfld K (pv 0)) (kfld K (pv 1))) pa_nil)) pk_nil))))), ?_⟩
    refine ⟨_, rfl, _, rfl, r1, r2, names, Rs1, Rs2, rfl, hR1, hR2, hstr, fun H1 s1 => ?_⟩
    obtain ⟨dx, nm, tl, hrr, hnm, ts, htl, hts⟩ := hR1.mono s1
    obtain ⟨dx2, nm2, tl2, hrr2, hnm2, ts2, htl2, hts2⟩ := hR2.mono s1
    have htll := plen hts
    have htll2 := plen hts2
    refine ⟨_, rfl, r1, CR, dx, _, _, rfl, hrr, RC.cl, RC.nN, rflds_names _ _, ?_⟩
    refine ⟨by show 0 ≤ sizeLine; decide, fun e ne => ?_⟩
    have s2 := same_upd ne (o := .lst [])
    have he : (upd H1 e (.lst [])) e = some (.lst []) := upd_same
    generalize upd H1 e (.lst []) = H2 at s2 he ⊢
    refine ⟨_, rfl, r1, CR, dx, _, _, rfl, s2 _ _ hrr, RC.cl, RC.nT, rflds_tables _ _, _, rfl, r2, CR, dx2, _, _, rfl, s2 _ _ hrr2, RC.cl, RC.nT, rflds_tables _ _, tl, tl2, ts, ts2, rfl, rfl, s2 _ _ htl, s2 _ _ htl2, szl (by omega), fun p np => ?_⟩
    have s3 := s2.trans (same_upd np (o := .lst (ts ++ ts2)))
    have s23 := same_upd np (o := .lst (ts ++ ts2))
    have hcat : TabsAt (fun _ => True) C (upd H2 p (.lst (ts ++ ts2))) p (("0" : Str) :: names) (Rs1 ++ Rs2) := ⟨_, upd_same, papp (pmono (fun _ _ q => q.mono s3) hts) (pmono (fun _ _ q => q.mono s3) hts2)⟩
    refine ⟨p, ("0" : Str) :: names, Rs1 ++ Rs2, rfl, hcat, by rw [List.length_cons]; omega, by rw [List.length_append]; omega, fun H4 b s4 hb => ?_⟩
    have s14 := s3.trans s4
    refine ⟨rfl, rfl, fun x dx' nx ndx nex => ?_⟩
    have hal := Df.absR_len (ns := ("0" : Str) :: names) (Rs := Rs1 ++ Rs2)
    rw [List.length_append] at hal
    refine newRegK (s14 _ _ hnm) hok (s4 _ _ (s23 _ _ he)) hb (by omega) nx ndx fun H5 s5 hReg => ⟨rfl, ?_⟩
    exact hk H5 x (s1.trans (s14.trans s5)) hReg
theorem sc_Region___sub__ : FnScope ["self", "other"] ["self", "other"] (defScope s_Region___sub__) := ⟨rfl, rfl, rfl, by decide +kernel, rfl, by decide +kernel, by decide +kernel⟩
theorem ok_sub (F : FunD K "__sub__" "Region.__sub__" (defArgs s_Region___sub__) (defBody s_Region___sub__) (defScope s_Region___sub__) [] [] f fd) (G : Facts mg) (RC : RCls K CR) (C_fit : Cal P w K mg base 1 "fit" (spFit CR C) []) (C_left_of : Cal P w K mg base 6 "left_of" (spLeft C) []) (M_RegionK : MakK P w K mg base 6 "Region" CR (spRegion K CR C) 2 ["tables"] gVK) :
    FnOk P w K mg base CX0 8 f fd ["self", "other"] (spSub CR C) := by
  refine F.ok sc_Region___sub__ (fun vs H Q E h => ?_) (fun cdv A outer s H vs Q E hr h => ?_)
  · obtain ⟨r1, r2, names, Rs1, Rs2, rfl, _⟩ := h
    rfl
  · obtain ⟨r1, r2, names, Rs1, Rs2, rfl, hR1, hR2, hok, hl3, hstr, hl1, hl2, hdg, hk⟩ := h
    have hu := hu_of hr
    refine ⟨_, PSs.nox (pss_cons (ps_expr (pe_c C_fit hr (by decide) (by rfl) (pa_cons (pv 0) (pa_cons (pv 1) pa_nil))))
      (pss_one (ps_ret (pe_mkK M_RegionK hr (by decide) (by rfl) (pa_cons (kfld K (pv 0)) (pa_cons (pe_lst pa_nil) pa_nil)) (pk_cons (pe_c C_left_of hr (by decide) (by rfl) (pa_cons (kfld K (pv 0)) (pa_cons (kfld K (pv 1)) pa_nil))) pk_nil))))), ?_⟩
    refine ⟨_, rfl, _, rfl, r1, r2, names, Rs1, Rs2, rfl, hR1, hR2, hstr, fun H1 s1 => ?_⟩
    obtain ⟨dx, nm, tl, hrr, hnm, hts⟩ := hR1.mono s1
    obtain ⟨dx2, nm2, tl2, hrr2, hnm2, hts2⟩ := hR2.mono s1
    refine ⟨_, rfl, r1, CR, dx, _, _, rfl, hrr, RC.cl, RC.nN, rflds_names _ _, ?_⟩
    refine ⟨by show 0 ≤ sizeLine; decide, fun e ne => ?_⟩
    have s2 := same_upd ne (o := .lst [])
    have he : (upd H1 e (.lst [])) e = some (.lst []) := upd_same
    generalize upd H1 e (.lst []) = H2 at s2 he ⊢
    refine ⟨_, rfl, r1, CR, dx, _, _, rfl, s2 _ _ hrr, RC.cl, RC.nT, rflds_tables _ _, _, rfl, r2, CR, dx2, _, _, rfl, s2 _ _ hrr2, RC.cl, RC.nT, rflds_tables _ _, ?_⟩
    have hn4 : (("0" : Str) :: names).length ≤ 4 := by rw [List.length_cons]; omega
    refine ⟨tl, tl2, ("0" : Str) :: names, Rs1, Rs2, rfl, hts.mono s2, hts2.mono s2, fun u hu => hok.zne hu, hok.znd, hn4, hl1, hl2, hdg, fun H4 b Ts s4 hL hb => ?_⟩
    have s14 := s2.trans s4
    have hal := hL.len4 hn4 hl1 hl2
    refine ⟨rfl, rfl, fun x dx' nx ndx nex => ?_⟩
    refine newRegK (s14 _ _ hnm) hok (s4 _ _ he) hb (by omega) nx ndx fun H5 s5 hReg => ⟨rfl, ?_⟩
    exact hk H5 x Ts (s1.trans (s14.trans s5)) hL hReg
theorem sc_Region___bool__ : FnScope ["self"] ["self"] (defScope s_Region___bool__) := ⟨rfl, rfl, rfl, by decide +kernel, rfl, by decide +kernel, by decide +kernel⟩
theorem ok_boolR (F : FunD K "__bool__" "Region.__bool__" (defArgs s_Region___bool__) (defBody s_Region___bool__) (defScope s_Region___bool__) [] [] f fd) (G : Facts mg) (RC : RCls K CR) :
    FnOk P w K mg base CX0 1 f fd ["self"] (spBoolR CR C) := by
  refine F.ok sc_Region___bool__ (fun vs H Q E h => ?_) (fun cdv A outer s H vs Q E hr h => ?_)
  · obtain ⟨r, names, Rs, rfl, _⟩ := h
    rfl
  · obtain ⟨r, names, Rs, rfl, ⟨dx, nm, tl, hrr, hnm, ts, htl, hts⟩, hk⟩ := h
    have hu := hu_of hr
    have htll := plen hts
    refine ⟨_, PSs.nox (pss_one (ps_ret (pe_cmpR op_gt (pe_callB (kLen K) (by rfl) G.len_ PySem.boot_len (pa_cons (kfld K (pv 0)) pa_nil)) pe_int (nomark _)))), ?_⟩
    refine ⟨_, rfl, r, CR, dx, _, _, rfl, hrr, RC.cl, RC.nT, rflds_tables _ _, tl, _, rfl, .inl (sq htl), _, _, rfl, rfl, ?_⟩
    show Q (V.bl (decide ((0 : Int) < (ts.length : Int)))) H
    rw [show decide ((0 : Int) < (ts.length : Int)) = !Rs.isEmpty by
      cases Rs with
      | nil => rw [htll]; rfl
      | cons _ _ => rw [htll]; exact decide_eq_true (by rw [List.length_cons]; omega)]
    exact hk
theorem sc_Region_within : FnScope ["self", "other"] ["self", "other"] (defScope s_Region_within) := ⟨rfl, rfl, rfl, by decide +kernel, rfl, by decide +kernel, by decide +kernel⟩
theorem ok_within (F : FunD K "within" "Region.within" (defArgs s_Region_within) (defBody s_Region_within) (defScope s_Region_within) [] [] f fd) (G : Facts mg) (RC : RCls K CR) (C_fit : Cal P w K mg base 1 "fit" (spFit CR C) []) (C_left_of : Cal P w K mg base 6 "left_of" (spLeft C) []) :
    FnOk P w K mg base CX0 7 f fd ["self", "other"] (spWithin CR C) := by
  refine F.ok sc_Region_within (fun vs H Q E h => ?_) (fun cdv A outer s H vs Q E hr h => ?_)
  · obtain ⟨r1, r2, names, Rs1, Rs2, rfl, _⟩ := h
    rfl
  · obtain ⟨r1, r2, names, Rs1, Rs2, rfl, hR1, hR2, hok, hl3, hstr, hl1, hl2, hdg, hk⟩ := h
    have hu := hu_of hr
    refine ⟨_, PSs.nox (pss_cons (ps_expr (pe_c C_fit hr (by decide) (by rfl) (pa_cons (pv 0) (pa_cons (pv 1) pa_nil))))
      (pss_one (ps_ret (pe_cmpR op_eq (pe_callB (kLen K) (by rfl) G.len_ PySem.boot_len (pa_cons (pe_c C_left_of hr (by decide) (by rfl) (pa_cons (kfld K (pv 0)) (pa_cons (kfld K (pv 1)) pa_nil))) pa_nil)) pe_int (nomark _))))), ?_⟩
    refine ⟨_, rfl, _, rfl, r1, r2, names, Rs1, Rs2, rfl, hR1, hR2, hstr, fun H1 s1 => ?_⟩
    obtain ⟨dx, nm, tl, hrr, hnm, hts⟩ := hR1.mono s1
    obtain ⟨dx2, nm2, tl2, hrr2, hnm2, hts2⟩ := hR2.mono s1
    refine ⟨_, rfl, r1, CR, dx, _, _, rfl, hrr, RC.cl, RC.nT, rflds_tables _ _, _, rfl, r2, CR, dx2, _, _, rfl, hrr2, RC.cl, RC.nT, rflds_tables _ _, ?_⟩
    have hn4 : (("0" : Str) :: names).length ≤ 4 := by rw [List.length_cons]; omega
    refine ⟨tl, tl2, ("0" : Str) :: names, Rs1, Rs2, rfl, hts, hts2, fun u hu => hok.zne hu, hok.znd, hn4, hl1, hl2, hdg, fun H4 b Ts s4 hL ⟨us, hb, hus⟩ => ?_⟩
    have hul := plen hus
    refine ⟨b, us, rfl, .inl (sq hb), rfl, ?_⟩
    have := hk H4 Ts (s1.trans s4) hL
    rw [show decide (V.int ((us.length : Nat) : Int) = V.int 0) = Ts.isEmpty by
      rw [hul]
      cases Ts with
      | nil => rfl
      | cons _ _ => exact decide_eq_false fun z => by injection z with z; rw [List.length_cons] at z; omega]
    exact this
theorem sc_Region_same : FnScope ["self", "other"] ["self", "other"] (defScope s_Region_same) := ⟨rfl, rfl, rfl, by decide +kernel, rfl, by decide +kernel, by decide +kernel⟩
theorem ok_same (F : FunD K "same" "Region.same" (defArgs s_Region_same) (defBody s_Region_same) (defScope s_Region_same) [] [] f fd) (G : Facts mg) (RC : RCls K CR) (R_within : MetR P w K mg base 7 CR "within" (spWithin CR C)) :
    FnOk P w K mg base CX0 8 f fd ["self", "other"] (spSame CR C) := by
  refine F.ok sc_Region_same (fun vs H Q E h => ?_) (fun cdv A outer s H vs Q E hr h => ?_)
  · obtain ⟨r1, r2, names, Rs1, Rs2, rfl, _⟩ := h
    rfl
  · obtain ⟨r1, r2, names, Rs1, Rs2, rfl, hR1, hR2, hok, hl3, hstr, hl1, hl2, hdg1, hdg2, hk⟩ := h
    have hu := hu_of hr
    refine ⟨_, PSs.nox (pss_one (ps_ret (pe_and (pe_mr R_within hr (by decide) (pv 0) (pa_cons (pv 1) pa_nil)) (pe_one (pe_mr R_within hr (by decide) (pv 1) (pa_cons (pv 0) pa_nil)))))), ?_⟩
    obtain ⟨dx, nm, tl, hrr, hrest⟩ := hR1
    refine ⟨_, rfl, r1, dx, _, rfl, hrr, rflds_no _ _ (by decide +kernel) (by decide +kernel), _, rfl, r1, r2, names, Rs1, Rs2, rfl, ⟨dx, nm, tl, hrr, hrest⟩, hR2, hok, hl3, hstr, hl1, hl2, hdg2, fun H1 T1 s1 hL1 => ⟨_, rfl, ?_⟩⟩
    have hR1' := RegAt.mono s1 ⟨dx, nm, tl, hrr, hrest⟩
    cases T1 with
    | cons T T1 => exact iteF (hk H1 false s1 ⟨_, hL1, .inl ⟨(by intro z; cases z), rfl⟩⟩)
    | nil =>
      refine iteT ?_
      obtain ⟨dx2, nm2, tl2, hrr2, hrest2⟩ := hR2.mono s1
      refine ⟨_, rfl, r2, dx2, _, rfl, hrr2, rflds_no _ _ (by decide +kernel) (by decide +kernel), _, rfl, r2, r1, names, Rs2, Rs1, rfl, ⟨dx2, nm2, tl2, hrr2, hrest2⟩, hR1', hok, hl3, hstr, hl2, hl1, hdg1, fun H2 T2 s2 hL2 => ?_⟩
      exact hk H2 _ (s1.trans s2) ⟨_, hL1, .inr ⟨rfl, T2, hL2, rfl⟩⟩
end
end K1

namespace K1
open PySem PySem.Spec PyProof.Rows L2 Ls
def gV0 (TB : Addr) : List V → List V → List V := fun vs zs => vs ++ ([V.ref TB] ++ zs)
/-- Region(names, systems): what stands there then -/
theorem newReg {K : PySem.W.Frag} {CR C TB : Addr} (hTB : ∀ H, SqT K H TB []) {H : Hp} {a sy x dx : Addr} {names : List Str} {qs : List V} {Ss : List (List Df3)} (ha : H a = some (.tup (names.map V.str))) (hok : NamesOk names) (hsy : H sy = some (.lst qs)) (hqs : Paired (SysOk H names) qs Ss) (hl : Ss.length ≤ 900)
    (nx : H x = none) (ndx : H dx = none) {Q : VK} {E : XK} (hk : ∀ H', Same H H' → RegAt CR C H' x names (tabsOf Ss) → Q .non H') : spRegion K CR C [.ref x, .ref a, .ref sy, .ref TB] (upd (upd H dx (.own x)) x (.ins CR dx [])) Q E := by
  have s5 : Same H (upd (upd H dx (.own x)) x (.ins CR dx [])) := fun b o e => by rw [upd_ne (ne_of_none e nx), upd_ne (ne_of_none e ndx)]; exact e
  exact ⟨H, x, dx, a, sy, TB, names, qs, [], Ss, [], rfl, upd_same, s5, nx, ha, hok, hsy, hqs, fun H' _ => .inr (hTB H'), .nil, by simp; omega, fun nm tl H' s hx hn ht => hk H' s ⟨dx, nm, tl, hx, hn, by simpa using ht⟩⟩
def spShadow (CR C : Addr) : Sp := fun vs H Q _ => ∃ (r a : Addr) (names ks : List Str) (Rs : List (Df.Tab Str)), vs = [.ref r, .ref a] ∧ RegAt CR C H r names Rs ∧ NamesOk names ∧ H a = some (.tup (ks.map V.str)) ∧ NamesOk ks ∧ (∀ u ∈ ks, u ∈ names) ∧ Rs.length ≤ 900 ∧
  ∀ H' r', Same H H' → RegAt CR C H' r' ks (Df.absR (("0" : Str) :: ks) Rs) → Q (.ref r') H'
section
variable {P : Program} {w : World} {K : PySem.W.Frag} {mg : Str → Option Value} {base : Heap} {f C CR TB : Addr} {fd : FuncData} {k : Nat}
theorem sc_Region___invert__ : FnScope ["self"] ["self"] (defScope s_Region___invert__) := ⟨rfl, rfl, rfl, by decide +kernel, rfl, by decide +kernel, by decide +kernel⟩
theorem ok_inv (F : FunD K "__invert__" "Region.__invert__" (defArgs s_Region___invert__) (defBody s_Region___invert__) (defScope s_Region___invert__) [] [] f fd) (G : Facts mg) (RC : RCls K CR) (hTB : ∀ H, SqT K H TB []) (C_left_of : Cal P w K mg base 6 "left_of" (spLeft C) []) (M_Region0 : MakK P w K mg base 6 "Region" CR (spRegion K CR C) 2 [] (gV0 TB)) (M_RegionK : MakK P w K mg base 6 "Region" CR (spRegion K CR C) 2 ["tables"] gVK) :
    FnOk P w K mg base CX0 8 f fd ["self"] (spInv CR C) := by
  refine F.ok sc_Region___invert__ (fun vs H Q E h => ?_) (fun cdv A outer s H vs Q E hr h => ?_)
  · obtain ⟨r, names, Rs, rfl, _⟩ := h
    rfl
  · obtain ⟨r, names, Rs, rfl, ⟨dx, nm, tl, hrr, hnm, hts⟩, hok, hl3, hl, hdg, hk⟩ := h
    have hu := hu_of hr
    have hn4 : (("0" : Str) :: names).length ≤ 4 := by rw [List.length_cons]; omega
    refine ⟨_, PSs.nox (pss_one (ps_ret (pe_mkK M_RegionK hr (by decide) (by rfl) (pa_cons (kfld K (pv 0)) (pa_cons (pe_lst pa_nil) pa_nil)) (pk_cons (pe_c C_left_of hr (by decide) (by rfl) (pa_cons (kfld K (pe_mkK M_Region0 hr (by decide) (by rfl) (pa_cons (kfld K (pv 0)) (pa_cons (pe_lst (pa_cons (pe_lst pa_nil) pa_nil)) pa_nil)) pk_nil)) (pa_cons (kfld K (pv 0)) pa_nil))) pk_nil)))), ?_⟩
    refine ⟨_, rfl, r, CR, dx, _, _, rfl, hrr, RC.cl, RC.nN, rflds_names _ _, ?_⟩
    refine ⟨by show 0 ≤ sizeLine; decide, fun e ne => ?_⟩
    have s2 := same_upd ne (o := .lst [])
    have he : (upd H e (.lst [])) e = some (.lst []) := upd_same
    generalize upd H e (.lst []) = H2 at s2 he ⊢
    refine ⟨_, rfl, r, CR, dx, _, _, rfl, s2 _ _ hrr, RC.cl, RC.nN, rflds_names _ _, ?_⟩
    refine ⟨by show 0 ≤ sizeLine; decide, fun l1 nl1 => ?_⟩
    have t1 := same_upd nl1 (o := .lst [])
    have g1 : (upd H2 l1 (.lst [])) l1 = some (.lst []) := upd_same
    refine ⟨by show 1 ≤ sizeLine; decide, fun l2 nl2 => ?_⟩
    have t2 := t1.trans (same_upd nl2 (o := .lst [.ref l1]))
    have g2 : (upd (upd H2 l1 (.lst [])) l2 (.lst [.ref l1])) l2 = some (.lst [.ref l1]) := upd_same
    have g1 := same_upd nl2 (o := .lst [.ref l1]) _ _ g1
    generalize upd (upd H2 l1 (.lst [])) l2 (.lst [.ref l1]) = H3 at t2 g1 g2 ⊢
    have s3 := s2.trans t2
    refine ⟨rfl, rfl, fun x dx' nx ndx nex => ?_⟩
    refine newReg (Ss := [[]]) hTB (s3 _ _ hnm) hok g2 (.cons ⟨l1, rfl, fun H' s => ⟨[], s _ _ g1, .nil⟩, fun e he => (by cases he), by decide, fun e he => (by cases he)⟩ .nil) (by decide) nx ndx fun H4 s4 hReg => ⟨rfl, ?_⟩
    obtain ⟨dx4, nm4, tl4, hrr4, hnm4, hts4⟩ := hReg
    have s34 := s3.trans s4
    refine ⟨x, CR, dx4, _, _, rfl, hrr4, RC.cl, RC.nT, rflds_tables _ _, _, rfl, r, CR, dx, _, _, rfl, s34 _ _ hrr, RC.cl, RC.nT, rflds_tables _ _, ?_⟩
    refine ⟨tl4, tl, ("0" : Str) :: names, [Df.blankR], Rs, rfl, hts4, hts.mono s34, fun u hu => hok.zne hu, hok.znd, hn4, by show 1 ≤ 4; decide, hl, hdg, fun H5 b Ts s5 hL hb => ?_⟩
    have hal := hL.len4 hn4 (by show 1 ≤ 4; decide) hl
    have s35 := s34.trans s5
    refine ⟨rfl, rfl, fun x dx' nx ndx nex => ?_⟩
    refine newRegK (s35 _ _ hnm) hok ((t2.trans (s4.trans s5)) _ _ he) hb (by omega) nx ndx fun H6 s6 hReg => ⟨rfl, ?_⟩
    exact hk H6 x Ts (s35.trans s6) hL hReg
theorem sc_Region_point : FnScope ["self"] ["self"] (defScope s_Region_point) := ⟨rfl, rfl, rfl, by decide +kernel, rfl, by decide +kernel, by decide +kernel⟩
theorem ok_pointR (F : FunD K "point" "Region.point" (defArgs s_Region_point) (defBody s_Region_point) (defScope s_Region_point) [] [] f fd) (G : Facts mg) (RC : RCls K CR) (C_point_of : Cal P w K mg base 5 "point_of" (spPoint C) []) :
    FnOk P w K mg base CX0 6 f fd ["self"] (spPointR CR C) := by
  refine F.ok sc_Region_point (fun vs H Q E h => ?_) (fun cdv A outer s H vs Q E hr h => ?_)
  · obtain ⟨r, names, Rs, rfl, _⟩ := h
    rfl
  · obtain ⟨r, names, Rs, rfl, ⟨dx, nm, tl, hrr, hnm, ts, htl, hts⟩, hok, h⟩ := h
    have hu := hu_of hr
    have hln := hok.len
    have htll := plen hts
    refine ⟨_, PSs.nox (pss_one (ps_ret (pe_ifExp (pt_truth (kfld K (pv 0)) (by intro _; rfl)) (pe_c C_point_of hr (by decide) (by rfl) (pa_cons (pe_ix (kIxL K) (kfld K (pv 0)) pe_int (fun _ _ => rfl)) pa_nil)) pe_non))), ?_⟩
    refine ⟨_, rfl, r, CR, dx, _, _, rfl, hrr, RC.cl, RC.nT, rflds_tables _ _, _, .inl ⟨_, sq htl, rfl⟩, ?_⟩
    rcases h with ⟨rfl, hk⟩ | ⟨R, Rt, R', x', rfl, hp, hk⟩
    · cases hts
      exact iteF hk
    · cases hts with | @cons v _ ts' _ hv hts =>
      obtain ⟨t, rfl, hT⟩ := hv
      refine iteT ⟨_, rfl, r, CR, dx, _, _, rfl, hrr, RC.cl, RC.nT, rflds_tables _ _, tl, _, _, _, rfl, rfl, sq htl, atI_nat (j := 0) rfl, ?_⟩
      refine ⟨_, t, names, R, R', x', rfl, hT, hok.znd, fun z => (hok.ne _ z).1 rfl, by omega, hp, fun H' d s _ hd => hk H' d s hd⟩
theorem sc_Region_shadow : FnScope ["self", "names", "name", "table"] ["self", "names"] (defScope s_Region_shadow) := ⟨rfl, rfl, rfl, by decide +kernel, rfl, by decide +kernel, by decide +kernel⟩
theorem body_shadow (G : Facts mg) (RC : RCls K CR) (C_checked_names : Cal P w K mg base 2 "checked_names" spChkNames []) (C_kept : Cal P w K mg base 3 "kept" (spKept C) []) (C_absorbed : Cal P w K mg base 2 "absorbed" (spAbsorbed C) []) (M_RegionK : MakK P w K mg base 6 "Region" CR (spRegion K CR C) 2 ["tables"] gVK)
    (f : Addr) (cdv : Value) (A : Around) (outer : List Env) (s : Shared) (H : Hp) (vs : List V) (Q : VK) (E : XK) (hr : Room 7 (A.deeper (envOfC "Region.shadow" (defScope s_Region_shadow) s.heap.objs.size f cdv))) (h : spShadow CR C vs H Q E) :
    ∃ t, PSs (cxOf CX0 P w K mg base ["self", "names", "name", "table"] "Region.shadow" (defScope s_Region_shadow) f cdv A outer s H E) (defBody s_Region_shadow) t ∧ t { nx := fun _ H' => Q .non H', rt := Q } (start ["self", "names", "name", "table"] vs) H := by
  obtain ⟨r, a, names, ks, Rs, rfl, ⟨dx, nm, tl, hrr, hnm, ts, htl, hts⟩, hok, ha, hko, hpm, hRl, hk⟩ := h
  have hu := hu_of hr
  have hl := hok.len
  have hlk := hko.len
  refine ⟨_, PSs.nox (pss_cons (ps_set (i := 1) sc_Region_shadow.nd rfl (.inr rfl) (pe_c C_checked_names hr (by decide) (by rfl) (pa_cons (pv 1) pa_nil)))
      (pss_cons (ps_for PassesOwn.never rfl (kpi_tup K (pv 1)) (pg_name (i := 2) sc_Region_shadow.nd rfl (by first | exact .inl rfl | exact .inr rfl))
        (pss_one (ps_if (pt_cmpR (kNotIn K) (pv 2) (kfld K (pv 0)) (by rfl)) (pss_one ps_never) pss_nil)))
      (pss_one (ps_ret (pe_mkK M_RegionK hr (by decide) (by rfl) (pa_cons (pv 1) (pa_cons (pe_lst pa_nil) pa_nil)) (pk_cons (pe_c C_absorbed hr (by decide) (by rfl) (pa_cons (pe_lc (own := [("table", 3)]) (g := gName 3) (tt := tYes) rfl sc_Region_shadow.nd  (kpi_list K (kfld K (pv 0))) (blkOk_by (by kernel_rfl)) (fun _ _ _ _ _ => (pg_name (i := 3) sc_Region_shadow.nd rfl (by first | exact .inl rfl | exact .inr rfl))) (fun _ _ _ _ _ => pts_nil) (fun _ _ _ _ _ => (pe_c C_kept hr (by decide) (by rfl) (pa_cons (pv 3) (pa_cons (pv 1) pa_nil))))) pa_nil)) pk_nil)))))), ?_⟩
  refine ⟨_, rfl, a, ks, rfl, ha, hko, fun H1 q s1 hq => ?_⟩
  refine ⟨_, rfl, q, rfl, ⟨_, sqt hq⟩, ?_⟩
  refine for_it (walk_tup (K := K) (a := q) (xs := ks.map V.str)) (fun i σ H' => ∃ x2 x3, σ = [some (.ref r), some (.ref q), x2, x3] ∧ H' = H1) ⟨_, _, rfl, rfl⟩ (fun i σ H' _ ⟨_, _, _, e⟩ => by rw [e]; exact sqt hq) ?_ ?_
  · rintro i x σ H9 H' hi ⟨x2, x3, rfl, rfl⟩ ⟨rfl, ex⟩
    rw [List.length_map] at hi
    have ex : x = V.str ks[i] := by
      rw [List.getElem?_map, List.getElem?_eq_getElem hi] at ex
      exact (Option.some.inj ex).symm
    subst ex
    refine ⟨_, rfl, _, rfl, r, CR, dx, _, _, rfl, s1 _ _ hrr, RC.cl, RC.nN, rflds_names _ _, nm, names.map V.str, rfl, .inr (sqt (s1 _ _ hnm)), rfl, flat_str _, _, rfl, ?_⟩
    rw [inV_str, decide_eq_true (hpm _ (List.getElem_mem hi))]
    refine iteF ?_
    exact ⟨_, _, rfl, rfl⟩
  rintro σ H2 ⟨x2, x3, rfl, rfl⟩
  refine ⟨_, rfl, by show 0 ≤ sizeLine; decide, fun e he => ?_⟩
  have s2 := s1.trans (same_upd he (o := .lst []))
  have hq2 : (upd H2 e (.lst [])) q = some (.tup (ks.map V.str)) := same_upd he _ _ hq
  have he2 : (upd H2 e (.lst [])) e = some (.lst []) := upd_same
  generalize upd H2 e (.lst []) = H3 at s2 hq2 he2 ⊢
  refine ⟨_, rfl, r, CR, dx, _, _, rfl, s2 _ _ hrr, RC.cl, RC.nT, rflds_tables _ _, tl, rfl, ⟨_, sq (s2 _ _ htl)⟩, fun D hD => ?_⟩
  refine lc_it (walk_list (K := K) (a := tl) (xs := ts)) (fun j H' => Same H3 H' ∧ ∃ us, H' D = some (.lst us) ∧ Paired (TabU (fun b => b ≠ D) C H' (("0" : Str) :: ks)) us (Rs.take j)) ⟨same_upd hD, [], upd_same, .nil⟩ (fun j H' _ ⟨s3, _⟩ => sq (s3 _ _ (s2 _ _ htl))) ?_ ?_
  · rintro j y H8 H' hj ⟨s3, us, dD, hp⟩ ⟨rfl, ey⟩
    rw [plen hts] at hj
    obtain ⟨v, hv, t, rfl, ht⟩ := pget hts (List.getElem?_eq_getElem hj)
    rw [hv] at ey
    cases ey
    have fD : H D = none := s2.free hD
    refine ⟨rfl, _, rfl, _, rfl, fun b => b ≠ D, t, q, ("0" : Str) :: names, ks, Rs[j], rfl, fun b nb => (ne_of_none dD nb).symm, ne_of_none hq2 hD, ht.mono (s2.trans s3), by rw [List.length_cons]; omega, s3 _ _ hq2, hko, fun u hu' => ?_, fun H5 t' s5 ht' => ?_⟩
    · rcases List.mem_cons.mp hu' with rfl | h
      · exact List.mem_cons_self
      · exact List.mem_cons_of_mem _ (hpm _ h)
    · have kp : ∀ b o, b ≠ D → H5 b = some o → (upd H5 D (.lst (us ++ [.ref t']))) b = some o := fun b o hb e => by rw [upd_ne hb]; exact e
      refine ⟨_, s5 _ _ dD, ?_, same_mut (s3.trans s5) hD, us ++ [.ref t'], upd_same, ?_⟩
      · rw [plen hp, List.length_take]
        exact szlt (by omega)
      · rw [take_snoc hj]
        exact (pmono (fun _ _ ⟨t, e, h⟩ => ⟨t, e, (h.mono s5).keep kp⟩) hp).snoc ⟨t', rfl, ht'.keep kp⟩
  rintro H4 ⟨s3, us, dD, hp⟩
  rw [plen hts, List.take_length] at hp
  have hal := Df.absR_len (ns := ("0" : Str) :: ks) (Rs := Rs)
  refine ⟨D, ("0" : Str) :: ks, Rs, rfl, ⟨us, dD, pmono (fun _ _ ⟨t, e, h⟩ => ⟨t, e, h.weak fun _ _ => True.intro⟩) hp⟩, by rw [List.length_cons]; omega, hRl, fun H5 b s5 hb => ?_⟩
  have s35 := s3.trans s5
  refine ⟨rfl, rfl, fun x dx' nx ndx nex => ?_⟩
  refine newRegK (s35 _ _ hq2) hko (s35 _ _ he2) hb (by omega) nx ndx fun H6 s6 hReg => ⟨rfl, ?_⟩
  exact hk H6 x (s2.trans (s35.trans s6)) hReg
theorem ok_shadow (F : FunD K "shadow" "Region.shadow" (defArgs s_Region_shadow) (defBody s_Region_shadow) (defScope s_Region_shadow) [] [] f fd) (G : Facts mg) (RC : RCls K CR) (C_checked_names : Cal P w K mg base 2 "checked_names" spChkNames []) (C_kept : Cal P w K mg base 3 "kept" (spKept C) []) (C_absorbed : Cal P w K mg base 2 "absorbed" (spAbsorbed C) []) (M_RegionK : MakK P w K mg base 6 "Region" CR (spRegion K CR C) 2 ["tables"] gVK) :
    FnR P w K mg base CX0 8 f (fun vs H Q E => ∃ v rest, vs = v :: rest ∧ rest.length ≤ 3 ∧ ∀ p, H p = none → spShadow CR C [v, .ref p] (upd H p (.tup rest)) Q E) :=
  FunD.okV F sc_Region_shadow (by decide) (fun kV doc pm an cdv ct u rest hl => by
    match rest, hl with
    | [], _ => rfl
    | [_], _ => rfl
    | [_, _], _ => rfl
    | [_, _, _], _ => rfl
    | _ :: _ :: _ :: _ :: _, h => simp at h) fun cdv A outer s H vs Q E hr h => body_shadow G RC C_checked_names C_kept C_absorbed M_RegionK f cdv A outer s H vs Q E hr h
end
end K1

/-! ### own operators: o op o', ~o, bool(o), methods without arguments -/
namespace Ls
open PySem PySem.Spec PyProof.Rows L2
section
open PySem.W
variable {prog : Program} {w : World} {A : Around} {E : Value → Shared → Prop} {s : Shared} {K : Frag} {x C f : Addr} {ox : Obj} {od : Option Obj}
theorem truthy_own {M : Model} {Q : Bool → Shared → Prop} (X : K.In s.heap) (I : InstAt s.heap x ox C od) (hs : findIn K (.ref C) "__bool__" = some (some (.ref f))) (hf : isFn K (.ref f) = true)
    (h : wpAny M A (call (.ref f) [.ref x]) (PySem.W.BoolBack Q) E s) : wpAny M A (truthy (.ref x)) Q E s := by
  unfold truthy
  refine wpAny_bind (m := callSpecial? (.ref x) (Str.ofString "__bool__")) (special_fn X I hs (beq_iff_eq.mp hf) (wpAny_mono h (fun r s' hr => ?_) fun _ _ y => y))
  cases r <;> first | exact hr.elim | skip
  exact wpAny_pure hr
theorem bool_in (v : Value) : MeetsIn prog w (Builtin.«bool.__new__» ⟨[.type "bool", v], []⟩) (fun A R s => wpAny (model prog w) A.in1 (truthy v) (fun b s' => R (.ok (.ret (.bool b))) s') (fun e s' => R (.error e) s') s) :=
  .of_wp fun A R s h => by
    obtain ⟨hp, g, d, tk, os⟩ := s
    have f1 := F.conv_sub_bool
    repeat (any_goals (first | assumption | (with_reducible refine wpAny_mono h ?_ ?_) | wp_step))
    all_goals first | exact fun _ _ z => z | exact fun b s' z => wpAny_pure ⟨_, rfl, z⟩ | skip
theorem inv_own {M : Model} {Q : Value → Shared → Prop} (X : K.In s.heap) (I : InstAt s.heap x ox C od) (hs : findIn K (.ref C) "__invert__" = some (some (.ref f))) (hf : isFn K (.ref f) = true)
    (h : wpAny M A (call (.ref f) [.ref x]) Q E s) : wpAny M A (unaryOp .Invert (.ref x)) Q E s := by
  unfold unaryOp
  refine wpAny_holding ?_
  exact wpAny_bind (special_fn X I hs (beq_iff_eq.mp hf) (wpAny_mono h (fun _ _ z => wpAny_pure z) fun _ _ z => z))
theorem bin_own {op : Operator} {b : Value} {Q : Value → Shared → Prop} (X : K.In s.heap) (I : InstAt s.heap x ox C od) (hb : Looks (model prog w) s.heap (typeOf b) (.ref C)) (hc : selfFirst K C = true)
    (hs : findIn K (.ref C) (PySem.dunder op.info.2) = some (some (.ref f))) (hf : isFn K (.ref f) = true)
    (h : wpAny (model prog w) A (call (.ref f) [.ref x, b]) (PySem.W.CmpBack Q) E s) : wpAny (model prog w) A (binaryOp op (.ref x) b) Q E s := by
  obtain ⟨cd, hcd, hm⟩ := any_some hc
  obtain ⟨rest, hm⟩ : ∃ rest, cd.mro = .ref C :: rest := by
    cases q : cd.mro with
    | nil => rw [q] at hm; cases hm
    | cons a r => rw [q] at hm; exact ⟨r, by rw [List.head?_cons] at hm; cases (beq_iff_eq.mp hm); rfl⟩
  unfold binaryOp
  refine wpAny_holding (wpAny_bind ?_)
  unfold binaryOp1
  refine wpAny_bind (I.type.here (wpAny_bind (hb.here (wpAny_bind ((fills_K X hcd hm hs).here ?_)))))
  simp only [beq_self_eq_true, if_true]
  refine wpAny_bind (wpAny_pure ?_)
  simp only [Bool.and_false, Bool.false_eq_true, if_false, Bool.false_and]
  refine wpAny_bind (wpAny_pure ?_)
  simp only [Bool.false_eq_true, if_false]
  refine wpAny_bind (m := tryMethod (.ref x) _ b) ?_
  unfold tryMethod
  refine wpAny_bind (special_fn X I hs (beq_iff_eq.mp hf) (wpAny_mono h (fun v s' hv => ?_) fun _ _ e => e))
  cases v <;> first | exact hv.elim | exact wpAny_pure (wpAny_pure (wpAny_pure hv))
end
section
variable {X : Cx} {CX : CXT} {k j : Nat} {g C : Addr} {fd : FuncData} {ps : List Str} {sp : Sp} {E : XK}
/-- bool(o) of an instance -/
def rBoolOwn (C : Addr) (sp : Sp) : List V → Hp → VK → Prop := fun xs H Q => ∃ a dx fs, xs = [V.ref a] ∧ H a = some (.ins C dx fs) ∧ sp [.ref a] H (fun z H' => ∃ b, z = .bl b ∧ Q (.bl b) H') E0
theorem kBoolOwn (c : MetS X.prog X.w X.K X.mg X.base k C "__bool__" sp) (hr : Room j X.A) (hk : k + 2 ≤ j) : CallR X (.type "bool") (rBoolOwn C sp) := by
  have ⟨f, fd, ps, hm, F, hb⟩ := c.ex
  intro pins s σ H xs us Q I r h
  obtain ⟨a, dx, fs, rfl, ea, q⟩ := h
  obtain ⟨u, rfl, ru⟩ := r.one
  cases (show u = Value.ref a from ru)
  obtain ⟨mA, O, _, _, _, _⟩ := ins_get I.hok ea
  obtain ⟨od, J, _⟩ := O.look
  have hr2 : Room k X.A.in1.in1 := (show Room (k + 1) X.A.in1 from Room.in1 (hr.mono hk)).in1
  have F' : FnR X.prog X.w X.K X.mg X.base CX0 k f sp := (FnOk.raw F hb .nil).imp fun vs H Q E h => by rw [List.append_nil]; exact h
  refine callType_newIn PySem.F.called_bool PySem.F.newNe_bool (PySem.F.typeCall_bool_1 _) (PySem.F.newCall_bool_1 _) (fun obj => PySem.F.args_object_init_2 obj _) PySem.F.entry_bool_new (bool_in _) ?_
  refine truthy_own I.kIn J hm.at_ hm.fn (wpAny_mono (wpAny_call (SlX.run_at (us := [.ref a]) (ws := [.ref a]) F' hr2 I.env0.in1.in1 pass0 I (.cons rfl .nil) q)) (fun v s' z => ?_) fun _ _ x => x)
  obtain ⟨z', H', I', rz, b, ei, qz⟩ := z
  subst ei
  obtain rfl : v = Value.bool b := rz
  exact ⟨rfl, .bl b, H', I', rfl, qz⟩
/-- ~o of an instance -/
def rUnOwn (C : Addr) (sp : Sp) : V → Hp → VK → Prop := fun x H Q => ∃ a dx fs, x = V.ref a ∧ H a = some (.ins C dx fs) ∧ sp [.ref a] H Q E0
theorem kInvOwn (c : MetS X.prog X.w X.K X.mg X.base k C "__invert__" sp) (hr : Room j X.A) (hk : k ≤ j) : UnR X (unaryOp .Invert) (rUnOwn C sp) := by
  have ⟨f, fd, ps, hm, F, hb⟩ := c.ex
  intro pins s σ H x v Q I rx h
  obtain ⟨a, dx, fs, rfl, ea, q⟩ := h
  obtain rfl : v = Value.ref a := rx
  obtain ⟨mA, O, _, _, _, _⟩ := ins_get I.hok ea
  obtain ⟨od, J, _⟩ := O.look
  exact inv_own I.kIn J hm.at_ hm.fn (run_fn (us := [.ref a]) (vs := [.ref a]) F (hr.mono hk) hb .nil pass0 I (.cons rfl .nil) q)
/-- o op o', both of the class -/
def rBinOwn (C : Addr) (sp : Sp) : R2 := fun x y H Q => ∃ a b dx fs dx' fs', x = V.ref a ∧ y = V.ref b ∧ H a = some (.ins C dx fs) ∧ H b = some (.ins C dx' fs') ∧ sp [.ref a, .ref b] H (fun z H' => ∃ r, z = .ref r ∧ Q (.ref r) H') E0
theorem kBinOwn {op : Operator} {nm : Str} (c : MetS X.prog X.w X.K X.mg X.base k C nm sp) (hc : PySem.W.selfFirst X.K C = true) (hnm : nm = PySem.dunder op.info.2) (hr : Room j X.A) (hk : k ≤ j) : OpR X (binaryOp op) (rBinOwn C sp) := by
  subst hnm
  have ⟨f, fd, ps, hm, F, hb⟩ := c.ex
  intro pins s σ H x y v u Q I rx ry h
  obtain ⟨a, b, dx, fs, dx', fs', rfl, rfl, ea, eb, q⟩ := h
  obtain rfl : v = Value.ref a := rx
  obtain rfl : u = Value.ref b := ry
  obtain ⟨mA, O, _, _, _, _⟩ := ins_get I.hok ea
  obtain ⟨od, J, _⟩ := O.look
  obtain ⟨mB, O2, _, _, _, _⟩ := ins_get I.hok eb
  obtain ⟨od2, J2, _⟩ := O2.look
  refine bin_own I.kIn J J2.type hc hm.at_ hm.fn (wpAny_mono (run_fn (us := [.ref a, .ref b]) (vs := [.ref a, .ref b]) F (hr.mono hk) hb .nil pass0 I (.cons rfl (.cons rfl .nil)) q) (fun r s' z => ?_) fun _ _ x => x)
  obtain ⟨z', H', I', rz, p, ei, qz⟩ := z
  subst ei
  obtain rfl : r = Value.ref p := rz
  exact ⟨.ref p, H', I', rfl, qz⟩
end
end Ls
namespace Ls
open PySem PySem.Spec PyProof.Rows L2
/-! ### properties and methods without arguments as callers need them -/
section
variable (P : Program) (w : World) (K : PySem.W.Frag) (mg : Str → Option Value) (base : Heap) (k : Nat) (C : Addr) (m : Str) (sp : Sp)
structure MetP : Prop where
  cl : Cls K C
  ex : ∃ (p g : Addr) (fd : FuncData) (ps : List Str), PropOf K C m p g ∧ FnOk P w K mg base CX0 k g fd ps sp ∧ Binds K fd ps []
end
section
variable {X : Cx} {k j : Nat} {C : Addr} {m : Str} {sp : Sp} {o : Expr} {ta : TE} {p pos apos : Pos} {pl : Sem Bool}
theorem pe_mp (c : MetP X.prog X.w X.K X.mg X.base k C m sp) (hr : Room j X.A) (hk : k + 1 ≤ j) (he : PE X o ta)
    (hab : attributeBase o m X.env (eval o X.env) = eval o X.env := by rfl) : PE X (.Attribute o m pos) (tProp C sp [] E0 ta) := by
  have ⟨p, g, fd, ps, hp, F, b⟩ := c.ex
  exact pe_prop he c.cl hp F (hr.mono hk) b .nil pass0 hab
theorem pe_ms0 (c : MetS X.prog X.w X.K X.mg X.base k C m sp) (hr : Room j X.A) (hk : k ≤ j) (he : PE X o ta)
    (ht : eval (.Call (.Attribute o m apos) [] [] pos) X.env = (do
      let ov ← eval o X.env
      standAt apos.atName
      let (f, first) ← holding [ov] (getMethod ov m pl)
      callWith pos f first (backTo pos (starEach [] X.env)) (backToKw pos (keywordEach [] X.env))) := by rfl) :
    PE X (.Call (.Attribute o m apos) [] [] pos) (tMeth C m sp [] E0 ta tNil) := by
  have ⟨f, fd, ps, hm, F, b⟩ := c.ex
  exact pe_meth0 he c.cl hm F (hr.mono hk) b .nil pass0 ht
/-- o.m() of a method by position -/
theorem pe_mr0 (c : MetR X.prog X.w X.K X.mg X.base k C m sp) (hr : Room j X.A) (hk : k ≤ j) (he : PE X o ta)
    (ht : eval (.Call (.Attribute o m apos) [] [] pos) X.env = (do
      let ov ← eval o X.env
      standAt apos.atName
      let (f, first) ← holding [ov] (getMethod ov m pl)
      callWith pos f first (backTo pos (starEach [] X.env)) (backToKw pos (keywordEach [] X.env))) := by rfl) :
    PE X (.Call (.Attribute o m apos) [] [] pos) (tMethR C m sp E0 ta tNil) := by
  have ⟨f, hm, F⟩ := c.ex
  refine ⟨fun pins s σ H Q I h => ?_⟩
  refine PySem.W.methodCall_KW (pl := pl) (thn (he.run pins s σ H _ I h) fun u s1 ⟨x, H1, I1, rx, a, dx, fs, ex, ea, l, q⟩ => ?_) ht
  subst ex
  obtain rfl : u = Value.ref a := rx
  refine getmeth_ok I1 ea c.cl hm l ?_
  exact PySem.W.callWith_K0 (first := [.ref a]) I1.kIn hm.kp (wpAny_call (run_fnR (us := [.ref a]) (vs := [.ref a]) F (hr.mono hk) pass0 I1 (.cons rfl .nil) q))
end
end Ls

namespace K1
open PySem PySem.Spec PyProof.Rows L2 Ls
/-! ### the law's own look at points -/
def SysE (H : Hp) : V → List Df3 → Prop := fun v S => ∃ r, v = .ref r ∧ SysAt H r S
theorem SysE.mono {H H' : Hp} (s : Same H H') {v : V} {S : List Df3} (h : SysE H v S) : SysE H' v S := h.imp fun _ q => ⟨q.1, q.2.mono s⟩
def SysLs (H : Hp) (a : Addr) (Ss : List (List Df3)) : Prop := ∃ us, H a = some (.lst us) ∧ Paired (SysE H) us Ss
theorem SysLs.mono {H H' : Hp} (s : Same H H') {a : Addr} {Ss : List (List Df3)} (h : SysLs H a Ss) : SysLs H' a Ss := h.imp fun _ q => ⟨s _ _ q.1, pmono (fun _ _ => SysE.mono s) q.2⟩
theorem ltOf {k : Nat} {A : Around} (h : Room k A) : A.units < cLine := by have := h.un; omega
/-- _law_table, whatever the limits are: None exactly if there is no solution -/
theorem ltabS {H : Hp} {n a : Addr} {nms : List Str} {S : List Df3} {Q : V → Hp → Prop} {E : XK} (hn : H n = some (.tup (nms.map V.str))) (hS : SysAt H a S) (hl : nms.length ≤ 9) (hin : ∀ e ∈ S, e.1 ∈ ("0" : Str) :: nms ∧ e.2.1 ∈ ("0" : Str) :: nms) (hSl : S.length ≤ 100)
    (hno : ¬ Df.Sv S → ∀ H', Same H H' → Q .non H') (hyes : Df.Sv S → ∀ H' q, Same H H' → Q (.ref q) H') : spLTable [.ref n, .ref a] H Q E := by
  refine ⟨n, a, nms, S, rfl, hn, hS, by rw [List.length_cons]; omega, hin, hSl, fun F fw => ⟨fun u _ d e hd => hno fun ⟨p, hp⟩ => fw.neg e hd p hp, fun z H' q kvs s hq ht => hyes ⟨_, (fw.cl z).solves fw.cmp hin⟩ H' q s⟩⟩
theorem nd_take {α : Type} : ∀ {l : List α}, l.Nodup → ∀ {i : Nat} (h : i < l.length), l[i] ∉ l.take i
  | a :: l, _, 0, _ => fun z => by cases z
  | a :: l, hn, i + 1, h => fun z => by
    rw [List.take_succ_cons] at z
    rcases List.mem_cons.mp z with e | e
    · have hm : l[i]'(by simp only [List.length_cons] at h; omega) ∈ l := List.getElem_mem _
      rw [List.getElem_cons_succ] at e
      rw [e] at hm
      exact (List.nodup_cons.mp hn).1 hm
    · exact nd_take (List.nodup_cons.mp hn).2 (by simp only [List.length_cons] at h; omega) e
def spLInside : Sp := fun vs H Q _ => ∃ (sl d : Addr) (Ss : List (List Df3)) (ks : List Str) (x : Str → Int), vs = [.ref sl, .ref d] ∧ SysLs H sl Ss ∧ H d = some (.dK (ptV ks x)) ∧ (∀ S ∈ Ss, ∀ e ∈ S, e.1 ∈ ("0" : Str) :: ks ∧ e.2.1 ∈ ("0" : Str) :: ks) ∧ Ss.length ≤ 900 ∧ ∀ H' b, Same H H' → (b = true ↔ ∃ S ∈ Ss, Df.Solves S (Df.pt0 ("0" : Str) x)) → Q (.bl b) H'
def spLPoint (K : PySem.W.Frag) : Sp := fun vs H Q _ => ∃ (a nl : Addr) (ns : List Int) (at_ : Int) (ks : List Str), vs = [.ref a, .int at_, .ref nl] ∧ Scr K H a ns ∧ H nl = some (.lst (ks.map V.str)) ∧ ks.Nodup ∧ ks.length ≤ 10 ∧
  ∀ H' d x, Same H H' → H' d = some (.dK (ptV ks x)) → (∀ k, -3000000000000000 ≤ x k ∧ x k ≤ 3000000000000000) → Q (.ref d) H'
section
variable {P : Program} {w : World} {K : PySem.W.Frag} {mg : Str → Option Value} {base : Heap} {f C CR TB : Addr} {fd : FuncData} {k : Nat}
theorem sc_u_law_inside : FnScope ["systems", "point", "system"] ["systems", "point"] (defScope s_u_law_inside) := ⟨rfl, rfl, rfl, by decide +kernel, rfl, by decide +kernel, by decide +kernel⟩
theorem ok_linside (F : FnP K "_law_inside" s_u_law_inside [] f fd) (G : Facts mg) (C_u_law_solves : Cal P w K mg base 2 "_law_solves" spSolves []) : FnOk P w K mg base CX0 3 f fd ["systems", "point"] spLInside := by
  refine F.ok sc_u_law_inside (fun vs H Q E h => ?_) (fun cdv A outer s H vs Q E hr h => ?_)
  · obtain ⟨sl, d, Ss, ks, x, rfl, _⟩ := h
    rfl
  · obtain ⟨sl, d, Ss, ks, x, rfl, ⟨us, hsl, hus⟩, hd, hin, hl, hk⟩ := h
    have hu := hu_of hr
    have hul := plen hus
    refine ⟨_, PSs.nox (pss_one (ps_ret (pe_callB (kAny K rfl) (by rfl) G.any_ (by decide +kernel) (pa_cons (pe_lc (own := [("system", 2)]) (g := gName 2) (tt := tYes) rfl sc_u_law_inside.nd  (kpi_list K (pv 0)) (blkOk_by (by kernel_rfl)) (fun _ _ _ _ _ => (pg_name (i := 2) sc_u_law_inside.nd rfl (by first | exact .inl rfl | exact .inr rfl))) (fun _ _ _ _ _ => pts_nil) (fun _ _ _ _ _ => (pe_c C_u_law_solves hr (by decide) (by rfl) (pa_cons (pv 2) (pa_cons (pv 1) pa_nil))))) pa_nil)))), ?_⟩
    refine ⟨_, rfl, sl, rfl, ⟨_, sq hsl⟩, fun D hD => ?_⟩
    refine lc_it (walk_list (K := K) (a := sl) (xs := us)) (fun j H' => Same H H' ∧ ∃ bs : List Bool, H' D = some (.lst (bs.map V.bl)) ∧ Paired (fun b S => b = true ↔ Df.Solves S (Df.pt0 ("0" : Str) x)) bs (Ss.take j)) ⟨same_upd hD, [], upd_same, .nil⟩ (fun j H' _ ⟨s2, _⟩ => sq (s2 _ _ hsl)) ?_ ?_
    · rintro j y H8 H' hj ⟨s2, bs, dD, hp⟩ ⟨rfl, ey⟩
      rw [hul] at hj
      obtain ⟨v, hv, r, rfl, hS⟩ := pget hus (List.getElem?_eq_getElem hj)
      rw [hv] at ey
      cases ey
      refine ⟨rfl, _, rfl, _, rfl, r, d, Ss[j], ks, x, rfl, hS.mono s2, s2 _ _ hd, hin _ (List.getElem_mem hj), fun b hb => ?_⟩
      refine ⟨_, dD, ?_, same_mut s2 hD, bs ++ [b], by rw [upd_same, List.map_append]; rfl, ?_⟩
      · rw [List.length_map, plen hp, List.length_take]
        exact szlt (by omega)
      · rw [take_snoc hj]
        exact hp.snoc hb
    rintro H2 ⟨s2, bs, dD, hp⟩
    rw [hul, List.take_length] at hp
    have hbl := plen hp
    refine ⟨D, bs, rfl, sq dD, ?_⟩
    refine hk H2 _ s2 ⟨fun h => ?_, fun ⟨S, hS, hin⟩ => ?_⟩
    · obtain ⟨b, hb, e⟩ := List.any_eq_true.mp h
      obtain ⟨j, hj, rfl⟩ := List.mem_iff_getElem.mp hb
      obtain ⟨b', hb', q⟩ := pget hp (List.getElem?_eq_getElem (show j < Ss.length by omega))
      rw [List.getElem?_eq_getElem hj] at hb'
      cases hb'
      exact ⟨_, List.getElem_mem _, q.mp e⟩
    · obtain ⟨j, hj, rfl⟩ := List.mem_iff_getElem.mp hS
      obtain ⟨b, hb, q⟩ := pget hp (List.getElem?_eq_getElem hj)
      exact List.any_eq_true.mpr ⟨b, List.mem_of_getElem? hb, q.mpr hin⟩
theorem sc_u_law_point : FnScope ["script", "at", "names", "far", "found", "spot", "name"] ["script", "at", "names"] (defScope s_u_law_point) := ⟨rfl, rfl, rfl, by decide +kernel, rfl, by decide +kernel, by decide +kernel⟩
theorem ok_lpoint (F : FnP K "_law_point" s_u_law_point [] f fd) (G : Facts mg) (C_u_law_draw : Cal P w K mg base 1 "_law_draw" (spDraw K) []) : FnOk P w K mg base CX0 2 f fd ["script", "at", "names"] (spLPoint K) := by
  refine F.ok sc_u_law_point (fun vs H Q E h => ?_) (fun cdv A outer s H vs Q E hr h => ?_)
  · obtain ⟨a, nl, ns, at_, ks, rfl, _⟩ := h
    rfl
  · obtain ⟨a, nl, ns, at_, ks, rfl, hS, hnl, hnd, hkl, hk⟩ := h
    have hu := hu_of hr
    refine ⟨_, PSs.nox (pss_cons (ps_set (i := 3) sc_u_law_point.nd rfl (.inl rfl) (pe_ix (kIxT K) (pe_tup (pa_cons pe_int (pa_cons pe_int (pa_cons pe_int (pa_cons (pe_op op_pow pe_int pe_int) pa_nil))))) (pe_c C_u_law_draw hr (by decide) (by rfl) (pa_cons (pv 0) (pa_cons (pv 1) (pa_cons pe_int pa_nil)))) (fun _ _ => rfl)))
      (pss_cons (ps_set (i := 4) sc_u_law_point.nd rfl (.inl rfl) pe_dnewK)
      (pss_cons (ps_for PassesOwn.never rfl (kpi_enum K (by rfl) G.enumerate_ (pa_cons (pv 2) pa_nil)) (kpg_tup K rfl (pgs_cons (pg_name (i := 5) sc_u_law_point.nd rfl (by first | exact .inl rfl | exact .inr rfl)) (pgs_cons (pg_name (i := 6) sc_u_law_point.nd rfl (by first | exact .inl rfl | exact .inr rfl)) pgs_nil)))
        (pss_one (ps_dput hu (pv 4) (pv 6) (pe_op op_add (pe_op op_sub (pe_c C_u_law_draw hr (by decide) (by rfl) (pa_cons (pv 0) (pa_cons (pe_op op_add (pe_op op_add (pv 1) pe_int) (pv 5)) (pa_cons pe_int pa_nil)))) pe_int) (pe_op op_mul (pv 3) (pe_op op_sub (pe_c C_u_law_draw hr (by decide) (by rfl) (pa_cons (pv 0) (pa_cons (pe_op op_add (pe_op op_add (pv 1) pe_int) (pv 5)) (pa_cons pe_int pa_nil)))) pe_int))) rfl)))
      (pss_one (ps_ret (pv 4)))))), ?_⟩
    refine ⟨10, 15, rfl, rfl, ⟨by decide, by decide, by decide⟩, by show 4 ≤ sizeLine; decide, fun p np => ?_⟩
    have s1 := same_upd np (o := .tup [.int 0, .int 0, .int 1000, .int (10 ^ 15)])
    have hp : (upd H p (.tup [.int 0, .int 0, .int 1000, .int (10 ^ 15)])) p = some (.tup [.int 0, .int 0, .int 1000, .int (10 ^ 15)]) := upd_same
    refine ⟨_, rfl, _, rfl, a, ns, at_, 4, rfl, hS.mono s1, by decide, fun H2 d s2 d0 d1 => ?_⟩
    obtain ⟨i, rfl, hi⟩ : ∃ i : Nat, d = (i : Int) ∧ i < 4 := ⟨d.toNat, by omega, by omega⟩
    obtain ⟨fr, hfr, hat⟩ : ∃ fr : Int, (0 ≤ fr ∧ fr ≤ 1000000000000000) ∧ atI [V.int 0, .int 0, .int 1000, .int (10 ^ 15)] (i : Int) = some (.int fr) := by
      match i, hi with
      | 0, _ => exact ⟨0, by decide, atI_nat (j := 0) rfl⟩
      | 1, _ => exact ⟨0, by decide, atI_nat (j := 1) rfl⟩
      | 2, _ => exact ⟨1000, by decide, atI_nat (j := 2) rfl⟩
      | 3, _ => exact ⟨1000000000000000, by decide, atI_nat (j := 3) rfl⟩
    refine ⟨p, _, _, _, rfl, rfl, sqt (s2 _ _ hp), hat, ?_⟩
    have s12 := s1.trans s2
    intro dd nd
    have nd0 := s12.free nd
    have s13 := s12.trans (same_upd nd (o := .dK []))
    have hd : (upd H2 dd (.dK [])) dd = some (.dK []) := upd_same
    generalize upd H2 dd (.dK []) = H3 at s13 hd ⊢
    refine ⟨_, rfl, nl, _, rfl, sq (s13 _ _ hnl), ?_⟩
    refine for_it (walk_enum (K := K) (a := nl) (xs := ks.map V.str)) (fun i σ H' => ∃ x5 x6 x, σ = [some (.ref a), some (.int at_), some (.ref nl), some (.int fr), some (.ref dd), x5, x6] ∧ Same H H' ∧ H' dd = some (.dK (ptV (ks.take i) x)) ∧ ∀ k, -3000000000000000 ≤ x k ∧ x k ≤ 3000000000000000)
      ⟨_, _, fun _ => 0, rfl, s13, hd, fun _ => ⟨(by decide : (-3000000000000000 : Int) ≤ 0), (by decide : (0 : Int) ≤ 3000000000000000)⟩⟩ (fun i σ H' _ ⟨_, _, _, _, s, _⟩ => sq (s _ _ hnl)) ?_ ?_
    · rintro i y σ H9 H4 hi ⟨x5, x6, x, rfl, s4, hd4, hx⟩ hY
      cases hY with | intro T' hY =>
      obtain ⟨y1, y2, rfl, nT, rfl, e1, e2⟩ := hY
      cases e1
      rw [List.length_map] at hi
      have e2 : (ks.map V.str)[i]? = some y2 := e2
      rw [List.getElem?_map, List.getElem?_eq_getElem hi] at e2
      cases e2
      have hno : ks[i] ∉ ks.take i := nd_take hnd hi
      have htk := take_snoc hi
      generalize ks[i] = u at hno htk nT ⊢
      have sT := same_upd nT (o := .tup [V.int (i : Int), V.str u])
      refine ⟨T', _, rfl, sqt upd_same, rfl, _, _, rfl, _, _, rfl, rfl, ?_⟩
      have hd4 := sT _ _ hd4
      have s4 := s4.trans sT
      generalize upd H9 T' (.tup [V.int (i : Int), V.str u]) = H4 at hd4 s4 ⊢
      refine ⟨_, rfl, _, rfl, _, _, rfl, rfl, _, rfl, _, _, rfl, rfl, a, ns, _, 13, rfl, hS.mono s4, by decide, fun H5 e1 s5 e10 e11 => ?_⟩
      refine ⟨_, _, rfl, rfl, _, rfl, _, rfl, _, rfl, _, _, rfl, rfl, _, rfl, _, _, rfl, rfl, a, ns, _, 5, rfl, hS.mono (s4.trans s5), by decide, fun H6 e2 s6 e20 e21 => ?_⟩
      have s56 := s5.trans s6
      refine ⟨_, _, rfl, rfl, fr, _, rfl, rfl, .inr ⟨by omega, by omega⟩, _, _, rfl, rfl, _, rfl, _, rfl, dd, _, rfl, DPut.k (k := (Sum.inr u : Key)) (s56 _ _ hd4) (by rw [show (ptV (ks.take i) x).length = (ks.take i).length from tabV_len _ _, List.length_take]; exact szlt (by omega)), ?_⟩
      have hm : -2000000000000000 ≤ fr * (e2 - 2) ∧ fr * (e2 - 2) ≤ 2000000000000000 := by
        have h1 := Int.mul_le_mul_of_nonneg_left (show e2 - 2 ≤ 2 by omega) hfr.1
        have h2 := Int.mul_le_mul_of_nonneg_left (show -2 ≤ e2 - 2 by omega) hfr.1
        omega
      refine ⟨_, _, Df.put x u (e1 - 6 + fr * (e2 - 2)), rfl, same_mut (s4.trans s56) nd0, ?_, fun k => ?_⟩
      · rw [upd_same]
        show some (HO.dK (putK (ptV (ks.take i) x) (Sum.inr u : Key) (V.int (e1 - 6 + fr * (e2 - 2))))) = _
        rw [ptV_put hno, htk]
      · unfold Df.put
        split
        · omega
        · exact hx k
    rintro σ H4 ⟨x5, x6, x, rfl, s4, hd4, hx⟩
    rw [List.length_map, List.take_length] at hd4
    exact ⟨_, rfl, hk H4 dd x s4 hd4 hx⟩
end
end K1

namespace K1
open PySem PySem.Spec PyProof.Rows L2 Ls
/-! ### the law's own look at points that can be completed -/
def spLCan : Sp := fun vs H Q _ => ∃ (sl d nt : Addr) (nm : Str) (Ss : List (List Df3)) (ks : List Str) (x : Str → Int), vs = [.ref sl, .ref d, .str nm, .ref nt] ∧ SysLs H sl Ss ∧ H d = some (.dK (ptV ks x)) ∧ nm ≠ "0" ∧ nm ∉ ks ∧
  (∀ S ∈ Ss, S.length ≤ 900 ∧ ∀ e ∈ S, (e.1 ∈ ("0" : Str) :: ks ∨ e.1 = nm) ∧ (e.2.1 ∈ ("0" : Str) :: ks ∨ e.2.1 = nm) ∧ e.1 ≠ e.2.1) ∧ ∀ H' b, Same H H' → (b = true ↔ ∃ S ∈ Ss, ∃ z, Df.Solves S (Df.put (Df.pt0 ("0" : Str) x) nm z)) → Q (.bl b) H'
section
variable {P : Program} {w : World} {K : PySem.W.Frag} {mg : Str → Option Value} {base : Heap} {f C CR TB : Addr} {fd : FuncData} {k : Nat}
theorem sc_u_law_can : FnScope ["systems", "point", "name", "names", "system", "rows", "row", "lows", "highs"] ["systems", "point", "name", "names"] (defScope s_u_law_can) := ⟨rfl, rfl, rfl, by decide +kernel, rfl, by decide +kernel, by decide +kernel⟩
theorem ok_lcan (F : FnP K "_law_can" s_u_law_can [] f fd) (G : Facts mg) (C_u_law_worth : Cal P w K mg base 1 "_law_worth" spWorth []) (C_u_law_solves : Cal P w K mg base 2 "_law_solves" spSolves []) : FnOk P w K mg base CX0 3 f fd ["systems", "point", "name", "names"] spLCan := by
  refine F.ok sc_u_law_can (fun vs H Q E h => ?_) (fun cdv A outer s H vs Q E hr h => ?_)
  · obtain ⟨sl, d, nt, nm, Ss, ks, x, rfl, _⟩ := h
    rfl
  · obtain ⟨sl, d, nt, nm, Ss, ks, x, rfl, ⟨us, hsl, hus⟩, hd, hn0, hnk, hin, hk⟩ := h
    have hu := hu_of hr
    have hul := plen hus
    refine ⟨_, PSs.nox (pss_cons (ps_for PassesOwn.never rfl (kpi_list K (pv 0)) (pg_name (i := 4) sc_u_law_can.nd rfl (by first | exact .inl rfl | exact .inr rfl))
        (pss_cons (ps_setLc (i := 5) (own := [("row", 6)]) (g := gName 6) rfl sc_u_law_can.nd rfl rfl (sw_true rfl rfl rfl (by decide +kernel)) (kpi_list K (pv 4)) (blkOk_by (by kernel_rfl)) (fun _ _ _ _ _ => (pg_name (i := 6) sc_u_law_can.nd rfl (by first | exact .inl rfl | exact .inr rfl))) (fun _ _ _ _ _ => (pts_one (pt_cmpR (kNotIn K) (pv 2) (pe_slice kSlT (pv 6) po_none (po_some pe_int)) (by rfl)))) (fun _ _ _ _ _ => (pv 6)))
        (pss_cons (ps_setLc (i := 7) (own := [("row", 6)]) (g := gName 6) rfl sc_u_law_can.nd rfl rfl (sw_true rfl rfl rfl (by decide +kernel)) (kpi_list K (pv 4)) (blkOk_by (by kernel_rfl)) (fun _ _ _ _ _ => (pg_name (i := 6) sc_u_law_can.nd rfl (by first | exact .inl rfl | exact .inr rfl))) (fun _ _ _ _ _ => (pts_one (pt_cmpR op_eq (pe_ix (kIxT K) (pv 6) pe_int (fun _ _ => rfl)) (pv 2) (nomark _)))) (fun _ _ _ _ _ => (pe_op op_sub (pe_c C_u_law_worth hr (by decide) (by rfl) (pa_cons (pe_ix (kIxT K) (pv 6) pe_int (fun _ _ => rfl)) (pa_cons (pv 1) pa_nil))) (pe_ix (kIxT K) (pv 6) pe_int (fun _ _ => rfl)))))
        (pss_cons (ps_setLc (i := 8) (own := [("row", 6)]) (g := gName 6) rfl sc_u_law_can.nd rfl rfl (sw_true rfl rfl rfl (by decide +kernel)) (kpi_list K (pv 4)) (blkOk_by (by kernel_rfl)) (fun _ _ _ _ _ => (pg_name (i := 6) sc_u_law_can.nd rfl (by first | exact .inl rfl | exact .inr rfl))) (fun _ _ _ _ _ => (pts_one (pt_cmpR op_eq (pe_ix (kIxT K) (pv 6) pe_int (fun _ _ => rfl)) (pv 2) (nomark _)))) (fun _ _ _ _ _ => (pe_op op_add (pe_c C_u_law_worth hr (by decide) (by rfl) (pa_cons (pe_ix (kIxT K) (pv 6) pe_int (fun _ _ => rfl)) (pa_cons (pv 1) pa_nil))) (pe_ix (kIxT K) (pv 6) pe_int (fun _ _ => rfl)))))
        (pss_one (ps_if (PW.pt (pw_and (pt_val (pe_c C_u_law_solves hr (by decide) (by rfl) (pa_cons (pv 5) (pa_cons (pv 1) pa_nil)))) (pw_and1 (PW.pt (pw_or (pt_cmpR (kEqN (K := K) (have e := ltOf hr; e)) (pv 7) (pe_lst pa_nil) (nomark _)) (pw_or (pt_cmpR (kEqN (K := K) (have e := ltOf hr; e)) (pv 8) (pe_lst pa_nil) (nomark _)) (pw_or1 (pt_cmpR op_le (pe_callB (kMax K rfl) (by rfl) G.max_ (by decide +kernel) (pa_cons (pv 7) pa_nil)) (pe_callB (kMin K rfl) (by rfl) G.min_ (by decide +kernel) (pa_cons (pv 8) pa_nil)) (nomark _))))))))) (pss_one (ps_ret pe_bl)) pss_nil))))))
      (pss_one (ps_ret pe_bl))), ?_⟩
    refine ⟨_, rfl, sl, rfl, ⟨_, sq hsl⟩, ?_⟩
    refine for_it (walk_list (K := K) (a := sl) (xs := us)) (fun i σ H' => ∃ x4 x5 x6 x7 x8, σ = [some (.ref sl), some (.ref d), some (.str nm), some (.ref nt), x4, x5, x6, x7, x8] ∧ Same H H' ∧ ∀ S ∈ Ss.take i, ¬ ∃ z, Df.Solves S (Df.put (Df.pt0 ("0" : Str) x) nm z)) ⟨_, _, _, _, _, rfl, Same.refl _, fun S hS => (by cases hS)⟩ (fun i σ H' _ ⟨_, _, _, _, _, _, s, _⟩ => sq (s _ _ hsl)) ?_ ?_
    · rintro i y σ H9 H1 hi ⟨x4, x5, x6, x7, x8, rfl, s1, hA⟩ ⟨rfl, ex⟩
      rw [hul] at hi
      obtain ⟨v, hv, r, rfl, ws, hr0, hws⟩ := pget hus (List.getElem?_eq_getElem hi)
      rw [hv] at ex
      cases ex
      have htk := take_snoc hi
      have hSm := List.getElem_mem hi
      obtain ⟨hSl, hSe⟩ := hin _ hSm
      generalize Ss[i] = S at hws htk hSm hSl hSe
      have hwl := plen hws
      have hr1 := s1 _ _ hr0
      have hws1 : Paired (RowT H1) ws S := pmono (fun _ _ q => q.imp fun _ q => ⟨q.1, s1 _ _ q.2⟩) hws
      -- rows
      refine ⟨_, rfl, r, rfl, ⟨_, sq hr1⟩, fun D hD => ?_⟩
      refine lc_it (walk_list (K := K) (a := r) (xs := ws)) (fun j H' => Same H1 H' ∧ ∃ out, H' D = some (.lst out) ∧ Paired (RowT H') out (Df.restS nm (S.take j))) ⟨same_upd hD, [], upd_same, .nil⟩ (fun j H' _ ⟨s2, _⟩ => sq (s2 _ _ hr1)) ?_ ?_
      · rintro j y H8 H' hj ⟨s2, out, dD, hp⟩ ⟨rfl, ey⟩
        rw [hwl] at hj
        obtain ⟨v, hv, q, rfl, hq⟩ := pget hws1 (List.getElem?_eq_getElem hj)
        rw [hv] at ey
        cases ey
        have hres : Df.restS nm (S.take (j + 1)) = Df.restS nm (S.take j) ++ (if (decide (S[j].1 ≠ nm) && decide (S[j].2.1 ≠ nm)) = true then [S[j]] else []) := by
          unfold Df.restS
          rw [take_snoc hj, List.filter_append, List.filter_cons, List.filter_nil]
        generalize S[j] = e at hq hres
        have hq2 := s2 _ _ hq
        refine ⟨rfl, _, rfl, _, rfl, _, rfl, q, _, rfl, hq2, fun H3 t s3 _ ht => ?_⟩
        have ht : H3 t = some (.tup ([e.1, e.2.1].map V.str)) := ht
        refine ⟨t, [e.1, e.2.1].map V.str, rfl, .inr (sqt ht), rfl, flat_str _, _, rfl, ?_⟩
        rw [inV_str]
        have hol : out.length ≤ 900 := by
          rw [plen hp]
          unfold Df.restS
          exact Nat.le_trans (List.length_filter_le _ _) (by rw [List.length_take]; omega)
        have dD3 := s3 _ _ dD
        by_cases c : e.1 ≠ nm ∧ e.2.1 ≠ nm
        · rw [show (!decide (nm ∈ [e.1, e.2.1])) = true by
            rw [decide_eq_false (show ¬ nm ∈ [e.1, e.2.1] from fun z => by
              rcases List.mem_cons.mp z with z | z
              · exact c.1 z.symm
              · exact c.2 (List.mem_singleton.mp z).symm)]; rfl]
          rw [if_pos (by rw [decide_eq_true c.1, decide_eq_true c.2]; rfl)] at hres
          have kt : ∀ b z, H3 b = some (.tup z) → (upd H3 D (.lst (out ++ [.ref q]))) b = some (.tup z) := fun b z e => by rw [upd_ne (ne_of e dD3 (by intro z; cases z))]; exact e
          refine iteT ⟨_, rfl, out, dD3, szlt (by omega), same_mut (s2.trans s3) hD, _, upd_same, ?_⟩
          rw [hres]
          exact (pmono (fun _ _ z => z.imp fun _ z => ⟨z.1, kt _ _ (s3 _ _ z.2)⟩) hp).snoc ⟨q, rfl, kt _ _ (s3 _ _ hq2)⟩
        · rw [show (!decide (nm ∈ [e.1, e.2.1])) = false by
            rw [decide_eq_true (show nm ∈ [e.1, e.2.1] from by
              by_cases c1 : e.1 = nm
              · rw [c1]; exact List.mem_cons_self
              · by_cases c2 : e.2.1 = nm
                · rw [c2]; exact List.mem_cons_of_mem _ List.mem_cons_self
                · exact absurd ⟨c1, c2⟩ c)]; rfl]
          rw [if_neg (fun z => c (by rw [Bool.and_eq_true, decide_eq_true_iff, decide_eq_true_iff] at z; exact z)), List.append_nil] at hres
          refine iteF ⟨s2.trans s3, out, dD3, ?_⟩
          rw [hres]
          exact pmono (fun _ _ z => z.imp fun _ z => ⟨z.1, s3 _ _ z.2⟩) hp
      rintro H2 ⟨s2, rws, dD, hrws⟩
      rw [hwl, List.take_length] at hrws
      have s12 := s1.trans s2
      have hws2 : Paired (RowT H2) ws S := pmono (fun _ _ q => q.imp fun _ q => ⟨q.1, s2 _ _ q.2⟩) hws1
      have hr2 := s2 _ _ hr1
      -- lows
      refine ⟨_, rfl, r, rfl, ⟨_, sq hr2⟩, fun D2 hD2 => ?_⟩
      refine lc_it (walk_list (K := K) (a := r) (xs := ws)) (fun j H' => Same H2 H' ∧ H' D2 = some (.lst ((Df.lowsS nm (Df.pt0 ("0" : Str) x) (S.take j)).map V.int))) ⟨same_upd hD2, upd_same⟩ (fun j H' _ ⟨s3, _⟩ => sq (s3 _ _ hr2)) ?_ ?_
      · rintro j y H8 H' hj ⟨s3, dD2⟩ ⟨rfl, ey⟩
        rw [hwl] at hj
        obtain ⟨v, hv, q, rfl, hq⟩ := pget hws2 (List.getElem?_eq_getElem hj)
        rw [hv] at ey
        cases ey
        have hres : Df.lowsS nm (Df.pt0 ("0" : Str) x) (S.take (j + 1)) = Df.lowsS nm (Df.pt0 ("0" : Str) x) (S.take j) ++ (if decide (S[j].2.1 = nm) = true then [Df.pt0 ("0" : Str) x S[j].1 - S[j].2.2] else []) := by
          unfold Df.lowsS
          rw [take_snoc hj, List.filter_append, List.map_append, List.filter_cons, List.filter_nil]
          split <;> rfl
        have hll : (Df.lowsS nm (Df.pt0 ("0" : Str) x) (S.take j)).length ≤ 900 := by
          unfold Df.lowsS
          rw [List.length_map]
          exact Nat.le_trans (List.length_filter_le _ _) (by rw [List.length_take]; omega)
        obtain ⟨he1, he2, he3⟩ := hSe _ (List.getElem_mem hj)
        generalize S[j] = e at hq hres he1 he2 he3
        have hq2 := s3 _ _ hq
        refine ⟨rfl, _, rfl, q, _, _, _, rfl, rfl, sqt hq2, atI_nat (j := 1) rfl, _, rfl, rfl, _, rfl, ?_⟩
        by_cases c : e.2.1 = nm
        · rw [decide_eq_true (show V.str e.2.1 = V.str nm by rw [c])]
          rw [if_pos (decide_eq_true c)] at hres
          have he1 := he1.resolve_right fun z => he3 (z.trans c.symm)
          refine iteT ⟨_, rfl, q, _, _, _, rfl, rfl, sqt hq2, atI_nat (j := 0) rfl, _, rfl, _, d, ks, x, rfl, (s12.trans s3) _ _ hd, he1, _, rfl, q, _, _, _, rfl, rfl, sqt hq2, atI_nat (j := 2) rfl, _, _, rfl, rfl, ?_⟩
          refine ⟨_, dD2, szlt (by rw [List.length_map]; omega), same_mut s3 hD2, ?_⟩
          rw [upd_same, hres, List.map_append]
          rfl
        · rw [decide_eq_false (show ¬ V.str e.2.1 = V.str nm from fun z => c (by injection z))]
          rw [if_neg (by rw [decide_eq_false c]; decide), List.append_nil] at hres
          exact iteF ⟨s3, by rw [hres]; exact dD2⟩
      rintro H3 ⟨s3, dD2⟩
      rw [hwl, List.take_length] at dD2
      have s13 := s12.trans s3
      have hws3 : Paired (RowT H3) ws S := pmono (fun _ _ q => q.imp fun _ q => ⟨q.1, s3 _ _ q.2⟩) hws2
      have hr3 := s3 _ _ hr2
      -- highs
      refine ⟨_, rfl, r, rfl, ⟨_, sq hr3⟩, fun D3 hD3 => ?_⟩
      refine lc_it (walk_list (K := K) (a := r) (xs := ws)) (fun j H' => Same H3 H' ∧ H' D3 = some (.lst ((Df.highsS nm (Df.pt0 ("0" : Str) x) (S.take j)).map V.int))) ⟨same_upd hD3, upd_same⟩ (fun j H' _ ⟨s4, _⟩ => sq (s4 _ _ hr3)) ?_ ?_
      · rintro j y H8 H' hj ⟨s4, dD3⟩ ⟨rfl, ey⟩
        rw [hwl] at hj
        obtain ⟨v, hv, q, rfl, hq⟩ := pget hws3 (List.getElem?_eq_getElem hj)
        rw [hv] at ey
        cases ey
        have hres : Df.highsS nm (Df.pt0 ("0" : Str) x) (S.take (j + 1)) = Df.highsS nm (Df.pt0 ("0" : Str) x) (S.take j) ++ (if decide (S[j].1 = nm) = true then [Df.pt0 ("0" : Str) x S[j].2.1 + S[j].2.2] else []) := by
          unfold Df.highsS
          rw [take_snoc hj, List.filter_append, List.map_append, List.filter_cons, List.filter_nil]
          split <;> rfl
        have hll : (Df.highsS nm (Df.pt0 ("0" : Str) x) (S.take j)).length ≤ 900 := by
          unfold Df.highsS
          rw [List.length_map]
          exact Nat.le_trans (List.length_filter_le _ _) (by rw [List.length_take]; omega)
        obtain ⟨he1, he2, he3⟩ := hSe _ (List.getElem_mem hj)
        generalize S[j] = e at hq hres he1 he2 he3
        have hq2 := s4 _ _ hq
        refine ⟨rfl, _, rfl, q, _, _, _, rfl, rfl, sqt hq2, atI_nat (j := 0) rfl, _, rfl, rfl, _, rfl, ?_⟩
        by_cases c : e.1 = nm
        · rw [decide_eq_true (show V.str e.1 = V.str nm by rw [c])]
          rw [if_pos (decide_eq_true c)] at hres
          have he2 := he2.resolve_right fun z => he3 (c.trans z.symm)
          refine iteT ⟨_, rfl, q, _, _, _, rfl, rfl, sqt hq2, atI_nat (j := 1) rfl, _, rfl, _, d, ks, x, rfl, (s13.trans s4) _ _ hd, he2, _, rfl, q, _, _, _, rfl, rfl, sqt hq2, atI_nat (j := 2) rfl, _, _, rfl, rfl, ?_⟩
          refine ⟨_, dD3, szlt (by rw [List.length_map]; omega), same_mut s4 hD3, ?_⟩
          rw [upd_same, hres, List.map_append]
          rfl
        · rw [decide_eq_false (show ¬ V.str e.1 = V.str nm from fun z => c (by injection z))]
          rw [if_neg (by rw [decide_eq_false c]; decide), List.append_nil] at hres
          exact iteF ⟨s4, by rw [hres]; exact dD3⟩
      rintro H4 ⟨s4, dD3⟩
      rw [hwl, List.take_length] at dD3
      have s14 := s13.trans s4
      have s24 := s3.trans s4
      have hrw4 : SysAt H4 D (Df.restS nm S) := ⟨rws, s24 _ _ dD, pmono (fun _ _ q => q.imp fun _ q => ⟨q.1, s24 _ _ q.2⟩) hrws⟩
      have dD24 := s4 _ _ dD2
      have hci := Df.can_iff (d := nm) (w := Df.pt0 ("0" : Str) x) (S := S) fun e he => (hSe e he).2.2
      refine ⟨_, rfl, _, rfl, D, d, Df.restS nm S, ks, x, rfl, hrw4, s14 _ _ hd, fun e he => ?_, fun b hb => ⟨_, rfl, ?_⟩⟩
      · obtain ⟨h1, h2⟩ := List.mem_filter.mp he
        rw [Bool.and_eq_true, decide_eq_true_iff, decide_eq_true_iff] at h2
        obtain ⟨a1, a2, _⟩ := hSe e h1
        exact ⟨a1.resolve_right h2.1, a2.resolve_right h2.2⟩
      have no : (¬ ∃ z, Df.Solves S (Df.put (Df.pt0 ("0" : Str) x) nm z)) → ∀ T ∈ Ss.take (i + 1), ¬ ∃ z, Df.Solves T (Df.put (Df.pt0 ("0" : Str) x) nm z) := fun h T hT => by
        rw [htk] at hT
        rcases List.mem_append.mp hT with hT | hT
        · exact hA T hT
        · rw [List.mem_singleton.mp hT]; exact h
      have yes : ∀ H5, Same H4 H5 → (∃ z, Df.Solves S (Df.put (Df.pt0 ("0" : Str) x) nm z)) → Q (.bl true) H5 := fun H5 s5 h => hk H5 true (s14.trans s5) ⟨fun _ => ⟨S, hSm, h⟩, fun _ => rfl⟩
      cases b with
      | false => exact iteF (iteF ⟨_, _, _, _, _, rfl, s14, no fun z => by have := hb.mpr (hci.mp z).1; cases this⟩)
      | true =>
        have hsol := hb.mp rfl
        refine iteT ?_
        generalize Df.lowsS nm (Df.pt0 ("0" : Str) x) S = lo at dD24 hci
        generalize Df.highsS nm (Df.pt0 ("0" : Str) x) S = hi' at dD3 hci
        refine ⟨_, rfl, by show 0 ≤ sizeLine; decide, fun p np => ?_⟩
        have t1 := same_upd np (o := .lst [])
        refine ⟨D2, p, _, rfl, rfl, sq (t1 _ _ dD24), sq upd_same, _, rfl, ?_⟩
        cases lo with
        | nil => exact iteT (iteT (yes _ t1 (hci.mpr ⟨hsol, fun a ha => (by cases ha)⟩)))
        | cons l0 lo =>
          refine iteF ⟨_, rfl, by show 0 ≤ sizeLine; decide, fun p2 np2 => ?_⟩
          have t2 := t1.trans (same_upd np2 (o := .lst []))
          refine ⟨D3, p2, _, rfl, rfl, sq (t2 _ _ dD3), sq upd_same, _, rfl, ?_⟩
          cases hi' with
          | nil => exact iteT (iteT (yes _ t2 (hci.mpr ⟨hsol, fun a _ b hb => (by cases hb)⟩)))
          | cons h0 hi' =>
            refine iteF ⟨_, rfl, D2, _, rfl, sq (t2 _ _ dD24), Nat.succ_pos _, fun m1 hm1 hm2 => ?_⟩
            refine ⟨_, rfl, D3, _, rfl, sq (t2 _ _ dD3), Nat.succ_pos _, fun m2 hn1 hn2 => ?_⟩
            refine ⟨_, _, rfl, rfl, _, rfl, ?_⟩
            by_cases c : m1 ≤ m2
            · rw [decide_eq_true c]
              refine iteT (yes _ t2 (hci.mpr ⟨hsol, fun a ha b hb => ?_⟩))
              have := hm2 a ha
              have := hn2 b hb
              omega
            · rw [decide_eq_false c]
              exact iteF ⟨_, _, _, _, _, rfl, s14.trans t2, no fun z => c ((hci.mp z).2 m1 hm1 m2 hn1)⟩
    rintro σ H1 ⟨x4, x5, x6, x7, x8, rfl, s1, hA⟩
    rw [hul, List.take_length] at hA
    exact hk H1 false s1 ⟨fun z => (by cases z), fun ⟨S, hS, q⟩ => absurd q (hA S hS)⟩
end
end K1

namespace K1
open PySem PySem.Spec PyProof.Rows L2 Ls
/-! ### whether all points of some systems are points of others -/
def SysN (fl : Addr) (H : Hp) : V → List Df3 → Prop := fun v S => ∃ r, v = .ref r ∧ r ≠ fl ∧ SysAt H r S
theorem SysN.mono {fl : Addr} {H H' : Hp} (s : Same H H') {v : V} {S : List Df3} (h : SysN fl H v S) : SysN fl H' v S := have ⟨r, e, n, q⟩ := h; ⟨r, e, n, q.mono s⟩
theorem SysAt.not {H : Hp} {r fl : Addr} {S : List Df3} (h : SysAt H r S) (n : H fl = none) : r ≠ fl := fun z => by
  obtain ⟨ws, e, _⟩ := h
  rw [z, n] at e
  cases e
theorem SysN.keep {fl : Addr} {H : Hp} {l : List V} (hf : H fl = some (.lst l)) {l' : List V} {v : V} {S : List Df3} (h : SysN fl H v S) : SysN fl (upd H fl (.lst l')) v S := by
  obtain ⟨r, e, n, q⟩ := h
  exact ⟨r, e, n, q.keep (fun l e => by rw [upd_ne n]; exact e) fun a t e => by rw [upd_ne (ne_of e hf (by intro z; cases z))]; exact e⟩
def spLLack : Sp := fun vs H Q _ => ∃ (nt sl ol : Addr) (nms : List Str) (Ss Os : List (List Df3)), vs = [.ref nt, .ref sl, .ref ol] ∧ H nt = some (.tup (nms.map V.str)) ∧ nms.length ≤ 9 ∧ SysLs H sl Ss ∧ SysLs H ol Os ∧ Ss.length ≤ 4 ∧ Os.length ≤ 4 ∧ (∀ S ∈ Ss, S.length ≤ 7 ∧ ∀ e ∈ S, e.1 ∈ ("0" : Str) :: nms ∧ e.2.1 ∈ ("0" : Str) :: nms) ∧ (∀ S ∈ Os, S.length ≤ 16 ∧ ∀ e ∈ S, e.1 ∈ ("0" : Str) :: nms ∧ e.2.1 ∈ ("0" : Str) :: nms) ∧
  ∀ H' b, Same H H' → (b = true ↔ ∀ p, (∃ S ∈ Ss, Df.Solves S p) → ∃ O ∈ Os, Df.Solves O p) → Q (.bl b) H'
section
variable {P : Program} {w : World} {K : PySem.W.Frag} {mg : Str → Option Value} {base : Heap} {f C CR TB : Addr} {fd : FuncData} {k : Nat}
theorem sc_u_law_lack : FnScope ["names", "systems", "others", "left", "system", "other", "late", "told", "one", "two", "limit", "part"] ["names", "systems", "others"] (defScope s_u_law_lack) := ⟨rfl, rfl, rfl, by decide +kernel, rfl, by decide +kernel, by decide +kernel⟩
theorem ok_llack (F : FnP K "_law_lack" s_u_law_lack [] f fd) (G : Facts mg) (C_u_law_table : Cal P w K mg base 1 "_law_table" spLTable []) : FnOk P w K mg base CX0 2 f fd ["names", "systems", "others"] spLLack := by
  refine F.ok sc_u_law_lack (fun vs H Q E h => ?_) (fun cdv A outer s H vs Q E hr h => ?_)
  · obtain ⟨nt, sl, ol, nms, Ss, Os, rfl, _⟩ := h
    rfl
  · obtain ⟨nt, sl, ol, nms, Ss, Os, rfl, hnt, hnl, ⟨us, hsl, hus⟩, ⟨os, hol, hos⟩, hSl, hOl, hSi, hOi, hk⟩ := h
    have hu := hu_of hr
    have hul := plen hus
    have hosl := plen hos
    refine ⟨_, PSs.nox (pss_cons (ps_setLc (i := 3) (own := [("system", 4)]) (g := gName 4) rfl sc_u_law_lack.nd rfl rfl (sw_true rfl rfl rfl (by decide +kernel)) (kpi_list K (pv 1)) (blkOk_by (by kernel_rfl)) (fun _ _ _ _ _ => (pg_name (i := 4) sc_u_law_lack.nd rfl (by first | exact .inl rfl | exact .inr rfl))) (fun _ _ _ _ _ => (pts_one (pt_cmpR op_notN (pe_c C_u_law_table hr (by decide) (by rfl) (pa_cons (pv 0) (pa_cons (pv 4) pa_nil))) pe_non (nomark _)))) (fun _ _ _ _ _ => (pv 4)))
      (pss_cons (ps_for PassesOwn.never rfl (kpi_list K (pv 2)) (pg_name (i := 5) sc_u_law_lack.nd rfl (by first | exact .inl rfl | exact .inr rfl))
        (pss_cons (ps_set (i := 6) sc_u_law_lack.nd rfl (.inl rfl) (pe_lst pa_nil))
        (pss_cons (ps_for PassesOwn.never rfl (kpi_list K (pv 3)) (pg_name (i := 4) sc_u_law_lack.nd rfl (by first | exact .inl rfl | exact .inr rfl))
          (pss_cons (ps_set (i := 7) sc_u_law_lack.nd rfl (.inl rfl) (pe_callTy (kList K) (by rfl) G.list_ (by decide +kernel) (pa_cons (pv 4) pa_nil)))
          (pss_one (ps_for PassesOwn.never rfl (kpi_list K (pv 5)) (kpg_tup K rfl (pgs_cons (pg_name (i := 8) sc_u_law_lack.nd rfl (by first | exact .inl rfl | exact .inr rfl)) (pgs_cons (pg_name (i := 9) sc_u_law_lack.nd rfl (by first | exact .inl rfl | exact .inr rfl)) (pgs_cons (pg_name (i := 10) sc_u_law_lack.nd rfl (by first | exact .inl rfl | exact .inr rfl)) pgs_nil))))
            (pss_cons (ps_set (i := 11) sc_u_law_lack.nd rfl (.inl rfl) (pe_op op_cat (pv 7) (pe_lst (pa_cons (pe_tup (pa_cons (pv 9) (pa_cons (pv 8) (pa_cons (pe_op op_sub (pe_op op_sub pe_int (pv 10)) pe_int) pa_nil)))) pa_nil))))
            (pss_cons (ps_if (pt_cmpR op_notN (pe_c C_u_law_table hr (by decide) (by rfl) (pa_cons (pv 0) (pa_cons (pv 11) pa_nil))) pe_non (nomark _)) (pss_one (ps_expr (pe_bm PySem.F.plainAttrs_list PySem.F.slot_list_append PySem.F.type_list_append mt_append (pv 6) (pa_cons (pv 11) pa_nil)))) pss_nil)
            (pss_one (ps_set (i := 7) sc_u_law_lack.nd rfl (.inl rfl) (pe_op op_cat (pv 7) (pe_lst (pa_cons (pe_tup (pa_cons (pv 8) (pa_cons (pv 9) (pa_cons (pv 10) pa_nil)))) pa_nil)))))))))))
        (pss_one (ps_set (i := 3) sc_u_law_lack.nd rfl (.inl rfl) (pe_callTy (kList K) (by rfl) G.list_ (by decide +kernel) (pa_cons (pv 6) pa_nil)))))))
      (pss_one (ps_ret (pe_cmpR (kEqN (K := K) (have e := ltOf hr; e)) (pv 3) (pe_lst pa_nil) (nomark _)))))), ?_⟩
    -- left
    refine ⟨_, rfl, sl, rfl, ⟨_, sq hsl⟩, fun D hD => ?_⟩
    refine lc_it (walk_list (K := K) (a := sl) (xs := us)) (fun j H' => Same H H' ∧ ∃ out, H' D = some (.lst out) ∧ Paired (SysN D H') out ((Ss.take j).filter fun S => decide (Df.Sv S))) ⟨same_upd hD, [], upd_same, .nil⟩ (fun j H' _ ⟨s2, _⟩ => sq (s2 _ _ hsl)) ?_ ?_
    · rintro j y H8 H' hj ⟨s2, out, dD, hp⟩ ⟨rfl, ey⟩
      rw [hul] at hj
      obtain ⟨v, hv, r, rfl, hS⟩ := pget hus (List.getElem?_eq_getElem hj)
      rw [hv] at ey
      cases ey
      have hfl : (Ss.take (j + 1)).filter (fun S => decide (Df.Sv S)) = (Ss.take j).filter (fun S => decide (Df.Sv S)) ++ (if decide (Df.Sv Ss[j]) = true then [Ss[j]] else []) := by
        rw [take_snoc hj, List.filter_append, List.filter_cons, List.filter_nil]
      obtain ⟨hl7, hends⟩ := hSi _ (List.getElem_mem hj)
      generalize Ss[j] = S at hS hfl hl7 hends
      have rD : r ≠ D := fun z => by
        obtain ⟨ws, e, _⟩ := hS
        rw [z, hD] at e
        cases e
      refine ⟨rfl, _, rfl, _, rfl, ?_⟩
      unfold tNil
      dsimp only
      refine ltabS (s2 _ _ hnt) (hS.mono s2) hnl hends (by omega) (fun hno H3 s3 => ?_) (fun hyes H3 q s3 => ?_)
      · refine ⟨rfl, _, rfl, ?_⟩
        rw [show (!decide (V.non = V.non)) = false by rw [decide_eq_true rfl]; rfl]
        rw [if_neg (by rw [decide_eq_false hno]; decide), List.append_nil] at hfl
        exact iteF ⟨s2.trans s3, out, s3 _ _ dD, by rw [hfl]; exact pmono (fun _ _ => SysN.mono s3) hp⟩
      · refine ⟨rfl, _, rfl, ?_⟩
        rw [show (!decide (V.ref q = V.non)) = true by rw [decide_eq_false (fun z => by cases z)]; rfl]
        rw [if_pos (decide_eq_true hyes)] at hfl
        have dD3 := s3 _ _ dD
        refine iteT ⟨_, rfl, out, dD3, szlt (by rw [plen hp]; exact Nat.lt_of_le_of_lt (List.length_filter_le _ _) (by rw [List.length_take]; omega)), same_mut (s2.trans s3) hD, _, upd_same, ?_⟩
        rw [hfl]
        exact (pmono (fun _ _ h => SysN.keep dD3 (h.mono s3)) hp).snoc (SysN.keep dD3 ⟨r, rfl, rD, hS.mono (s2.trans s3)⟩)
    rintro H1 ⟨s1, out1, dD1, hp1⟩
    rw [hul, List.take_length] at hp1
    have hL0 : SysLs H1 D (Ss.filter fun S => decide (Df.Sv S)) := ⟨out1, dD1, pmono (fun _ _ ⟨r, e, _, q⟩ => ⟨r, e, q⟩) hp1⟩
    have hsv0 : ∀ S ∈ Ss.filter (fun S => decide (Df.Sv S)), Df.Sv S := fun S hS => of_decide_eq_true (List.mem_filter.mp hS).2
    have hS0 : (Ss.filter fun S => decide (Df.Sv S)).length ≤ 4 := Nat.le_trans (List.length_filter_le _ _) hSl
    have hS00 : ∀ S ∈ Ss.filter (fun S => decide (Df.Sv S)), S.length ≤ 7 ∧ ∀ e ∈ S, e.1 ∈ ("0" : Str) :: nms ∧ e.2.1 ∈ ("0" : Str) :: nms := fun S hS => hSi S (List.mem_filter.mp hS).1
    have hin0 : ∀ p, (∃ S ∈ Ss.filter (fun S => decide (Df.Sv S)), Df.Solves S p) ↔ ∃ S ∈ Ss, Df.Solves S p := fun p => ⟨fun ⟨S, hS, q⟩ => ⟨S, (List.mem_filter.mp hS).1, q⟩, fun ⟨S, hS, q⟩ => ⟨S, List.mem_filter.mpr ⟨hS, decide_eq_true ⟨p, q⟩⟩, q⟩⟩
    generalize Ss.filter (fun S => decide (Df.Sv S)) = L0 at hL0 hsv0 hS0 hS00 hin0
    clear hp1 dD1
    refine ⟨_, rfl, ol, rfl, ⟨_, sq (s1 _ _ hol)⟩, ?_⟩
    refine for_it (walk_list (K := K) (a := ol) (xs := os)) (fun i σ H' => ∃ la x4 x5 x6 x7 x8 x9 x10 x11, σ = [some (.ref nt), some (.ref sl), some (.ref ol), some (.ref la), x4, x5, x6, x7, x8, x9, x10, x11] ∧ Same H H' ∧ SysLs H' la (Df.lackL L0 (Os.take i)) ∧ (Df.lackL L0 (Os.take i)).length ≤ 4 * 16 ^ i ∧ ∀ S ∈ Df.lackL L0 (Os.take i), S.length ≤ 7 + 16 * i ∧ ∀ e ∈ S, e.1 ∈ ("0" : Str) :: nms ∧ e.2.1 ∈ ("0" : Str) :: nms)
      ⟨D, _, _, _, _, _, _, _, _, rfl, s1, hL0, by simpa [Df.lackL] using hS0, hS00⟩ (fun i σ H' _ ⟨_, _, _, _, _, _, _, _, _, _, s, _⟩ => sq (s _ _ hol)) ?_ ?_
    · rintro i y σ H9 H2 hi ⟨la, x4, x5, x6, x7, x8, x9, x10, x11, rfl, s2, ⟨lus, hla, hlus⟩, hLl, hLe⟩ ⟨rfl, ey⟩
      rw [hosl] at hi
      obtain ⟨v, hv, ro, rfl, ows, hro, hows⟩ := pget hos (List.getElem?_eq_getElem hi)
      rw [hv] at ey
      cases ey
      have hsnoc : Df.lackL L0 (Os.take (i + 1)) = Df.lackS (Df.lackL L0 (Os.take i)) Os[i] := by rw [take_snoc hi, Df.lackL_snoc]
      obtain ⟨hO16, hOe⟩ := hOi _ (List.getElem_mem hi)
      generalize Os[i] = O at hows hsnoc hO16 hOe
      generalize Df.lackL L0 (Os.take i) = Ls at hlus hLl hLe hsnoc
      have howl := plen hows
      have hlul := plen hlus
      have h16 : (16 : Nat) ^ i ≤ 16 ^ 3 := Nat.pow_le_pow_right (by decide) (by omega)
      have h163 : (16 : Nat) ^ 3 = 4096 := rfl
      refine ⟨by show 0 ≤ sizeLine; decide, fun fl nfl => ?_⟩
      have s3 := s2.trans (same_upd nfl (o := .lst []))
      have hfl3 : (upd H2 fl (.lst [])) fl = some (.lst []) := upd_same
      have nfl0 := s2.free nfl
      have hla3 := same_upd nfl (o := .lst []) _ _ hla
      have nla : la ≠ fl := ne_of_none hla nfl
      have hlus3 : Paired (SysN fl (upd H2 fl (.lst []))) lus Ls := pmono (fun v S h => by
        obtain ⟨r, e, q⟩ := h
        exact ⟨r, e, SysAt.not q nfl, SysAt.mono (same_upd nfl (o := .lst [])) q⟩) hlus
      have s23 := same_upd nfl (o := .lst [])
      generalize upd H2 fl (.lst []) = H3 at s3 hfl3 hla3 hlus3 s23 ⊢
      refine ⟨_, rfl, la, rfl, ⟨_, sq hla3⟩, ?_⟩
      refine for_it (walk_list (K := K) (a := la) (xs := lus)) (fun j σ H' => ∃ x4 x7 x8 x9 x10 x11 ps, σ = [some (.ref nt), some (.ref sl), some (.ref ol), some (.ref la), x4, some (.ref ro), some (.ref fl), x7, x8, x9, x10, x11] ∧ Same H2 H' ∧ H' fl = some (.lst ps) ∧ Paired (SysN fl H') ps (Df.lackS (Ls.take j) O) ∧ Paired (SysN fl H') lus Ls)
        ⟨_, _, _, _, _, _, [], rfl, s23, hfl3, .nil, hlus3⟩ (fun j σ H' _ ⟨_, _, _, _, _, _, _, _, s, _⟩ => sq (s _ _ hla)) ?_ ?_
      · rintro j y σ H9 H4 hj ⟨x4, x7, x8, x9, x10, x11, ps, rfl, s4, hfl4, hps, hlus4⟩ ⟨rfl, ey⟩
        rw [hlul] at hj
        obtain ⟨v, hv, r, rfl, nr, ws, hr4, hws⟩ := pget hlus4 (List.getElem?_eq_getElem hj)
        rw [hv] at ey
        cases ey
        have hstep := Df.lackS_step (O := O) hj
        have hsz := Df.lackS_size (left := Ls.take j) (O := O) (m := 16) (b := 7 + 16 * i) hO16 fun S hS => (hLe S (List.mem_of_mem_take hS)).1
        obtain ⟨hS7, hSe⟩ := hLe _ (List.getElem_mem hj)
        generalize Ls[j] = S at hws hstep hS7 hSe
        generalize Df.lackS (Ls.take j) O = before at hps hstep hsz
        have hbl : before.length ≤ 16384 * 16 := Nat.le_trans hsz.1 (Nat.mul_le_mul_right _ (by rw [List.length_take]; omega))
        have hwl := plen hws
        refine ⟨_, rfl, r, ws, rfl, .inl (sq hr4), fun tl ntl => ?_⟩
        have s5 := same_upd ntl (o := .lst ws)
        have htl : (upd H4 tl (.lst ws)) tl = some (.lst ws) := upd_same
        have ntf : tl ≠ fl := (ne_of_none hfl4 ntl).symm
        have hfl5 := s5 _ _ hfl4
        have hps5 : Paired (SysN fl (upd H4 tl (.lst ws))) ps before := pmono (fun _ _ => SysN.mono s5) hps
        have hlus5 : Paired (SysN fl (upd H4 tl (.lst ws))) lus Ls := pmono (fun _ _ => SysN.mono s5) hlus4
        have hws5 : Paired (RowT (upd H4 tl (.lst ws))) ws S := pmono (fun _ _ q => q.imp fun _ q => ⟨q.1, s5 _ _ q.2⟩) hws
        have s25 := s4.trans s5
        generalize upd H4 tl (.lst ws) = H5 at htl hfl5 hps5 hlus5 hws5 s25 ⊢
        have s05 := s2.trans s25
        refine ⟨_, rfl, ro, rfl, ⟨_, sq (s05 _ _ hro)⟩, ?_⟩
        refine for_it (walk_list (K := K) (a := ro) (xs := ows)) (fun m σ H' => ∃ tl' x8 x9 x10 x11 ps ws', σ = [some (.ref nt), some (.ref sl), some (.ref ol), some (.ref la), some (.ref r), some (.ref ro), some (.ref fl), some (.ref tl'), x8, x9, x10, x11] ∧ Same H2 H' ∧ H' fl = some (.lst ps) ∧ Paired (SysN fl H') ps (before ++ ((Df.partsS S O).take m).filter fun S => decide (Df.Sv S)) ∧ Paired (SysN fl H') lus Ls ∧ tl' ≠ fl ∧ H' tl' = some (.lst ws') ∧ Paired (RowT H') ws' (S ++ O.take m))
          ⟨tl, _, _, _, _, ps, ws, rfl, s25, hfl5, by simpa using hps5, hlus5, ntf, htl, by simpa using hws5⟩ (fun m σ H' _ ⟨_, _, _, _, _, _, _, _, s, _⟩ => sq ((s2.trans s) _ _ hro)) ?_ ?_
        · rintro m y σ H9 H6 hm ⟨tl', x8, x9, x10, x11, ps, ws', rfl, s6, hfl6, hps6, hlus6, nt', htl6, hws6⟩ ⟨rfl, ey⟩
          rw [howl] at hm
          obtain ⟨v, hv, q, rfl, hq⟩ := pget hows (List.getElem?_eq_getElem hm)
          rw [hv] at ey
          cases ey
          have hpa := Df.partsS_at O S hm
          have htk := take_snoc hm
          obtain ⟨he1, he2⟩ := hOe _ (List.getElem_mem hm)
          generalize O[m] = e at hq hpa htk he1 he2
          obtain ⟨l, r', c⟩ := e
          have s06 := s2.trans s6
          have hq6 := s06 _ _ hq
          have hwl6 := plen hws6
          have hpl6 := plen hps6
          have hfle : (((Df.partsS S O).take m).filter fun S => decide (Df.Sv S)).length ≤ 16 := Nat.le_trans (List.length_filter_le _ _) (by rw [List.length_take]; omega)
          have hTe : ∀ e ∈ S ++ O.take m, e.1 ∈ ("0" : Str) :: nms ∧ e.2.1 ∈ ("0" : Str) :: nms := fun e he => by
            rcases List.mem_append.mp he with he | he
            · exact hSe e he
            · exact hOe e (List.mem_of_mem_take he)
          have hTl : (S ++ O.take m).length ≤ 7 + 16 * i + 16 := by rw [List.length_append, List.length_take]; omega
          generalize hTT : S ++ O.take m = T at hws6 hpa hTe hTl hwl6
          refine ⟨q, _, rfl, sqt hq6, rfl, _, _, rfl, _, _, rfl, _, _, rfl, rfl, ?_⟩
          -- part
          refine ⟨_, rfl, _, rfl, _, rfl, _, rfl, 0, c, rfl, rfl, 0 - c, 1, rfl, rfl, by show 3 ≤ sizeLine; decide, fun q1 nq1 => ?_⟩
          have t1 := same_upd nq1 (o := .tup (rowT (r', l, 0 - c - 1)))
          have g1 : (upd H6 q1 (.tup (rowT (r', l, 0 - c - 1)))) q1 = some (.tup (rowT (r', l, 0 - c - 1))) := upd_same
          refine ⟨by show 1 ≤ sizeLine; decide, fun q2 nq2 => ?_⟩
          have t2 : Same H6 (upd (upd H6 q1 (.tup (rowT (r', l, 0 - c - 1)))) q2 (.lst [.ref q1])) := t1.trans (same_upd nq2)
          have g1b : (upd (upd H6 q1 (.tup (rowT (r', l, 0 - c - 1)))) q2 (.lst [.ref q1])) q1 = some (.tup (rowT (r', l, 0 - c - 1))) := same_upd nq2 _ _ g1
          refine ⟨tl', q2, ws', _, rfl, rfl, t2 _ _ htl6, upd_same, szl (by simp only [List.length_cons, List.length_nil]; omega), fun q3 nq3 => ?_⟩
          have u3 : Same (upd (upd H6 q1 (.tup (rowT (r', l, 0 - c - 1)))) q2 (.lst [.ref q1])) (upd (upd (upd H6 q1 (.tup (rowT (r', l, 0 - c - 1)))) q2 (.lst [.ref q1])) q3 (.lst (ws' ++ [.ref q1]))) := same_upd nq3
          have t3 := t2.trans u3
          have hpart : SysAt (upd (upd (upd H6 q1 (.tup (rowT (r', l, 0 - c - 1)))) q2 (.lst [.ref q1])) q3 (.lst (ws' ++ [.ref q1]))) q3 (T ++ [(r', l, 0 - c - 1)]) := ⟨_, upd_same, papp (pmono (fun _ _ q => q.imp fun _ q => ⟨q.1, t3 _ _ q.2⟩) hws6) (.cons ⟨q1, rfl, u3 _ _ g1b⟩ .nil)⟩
          have nq3f : q3 ≠ fl := (ne_of_none (t2 _ _ hfl6) nq3).symm
          obtain ⟨H7, e7⟩ : ∃ H7, upd (upd (upd H6 q1 (.tup (rowT (r', l, 0 - c - 1)))) q2 (.lst [.ref q1])) q3 (.lst (ws' ++ [.ref q1])) = H7 := ⟨_, rfl⟩
          rw [e7] at hpart t3
          show gName 11 (.ref q3) _ (upd (upd (upd H6 q1 (.tup (rowT (r', l, 0 - c - 1)))) q2 (.lst [.ref q1])) q3 (.lst (ws' ++ [.ref q1]))) _
          rw [e7]
          clear e7
          have hft : (((Df.partsS S O).take (m + 1)).filter fun S => decide (Df.Sv S)) = (((Df.partsS S O).take m).filter fun S => decide (Df.Sv S)) ++ (if decide (Df.Sv (T ++ [(r', l, 0 - c - 1)])) = true then [T ++ [(r', l, 0 - c - 1)]] else []) := by
            rw [hpa, List.filter_append, List.filter_cons, List.filter_nil]
          have hto : S ++ O.take (m + 1) = T ++ [(l, r', c)] := by rw [htk, ← List.append_assoc, hTT]
          have hpe : ∀ e ∈ T ++ [(r', l, 0 - c - 1)], e.1 ∈ ("0" : Str) :: nms ∧ e.2.1 ∈ ("0" : Str) :: nms := fun e he => by
            rcases List.mem_append.mp he with he | he
            · exact hTe e he
            · rw [List.mem_singleton.mp he]; exact ⟨he2, he1⟩
          have s27 := s6.trans t3
          refine ⟨_, rfl, _, rfl, ?_⟩
          unfold tNil
          dsimp only
          refine ltabS ((s06.trans t3) _ _ hnt) hpart hnl hpe (by rw [List.length_append, List.length_singleton]; omega) (fun hno H8 s8 => ?_) (fun hyes H8 qd s8 => ?_)
          · rw [if_neg (by rw [decide_eq_false hno]; decide), List.append_nil] at hft
            obtain ⟨H8, ps8, e8, s28, hfl8, hps8, hlus8, htl8, hws8⟩ : ∃ H8' ps8, H8 = H8' ∧ Same H2 H8' ∧ H8' fl = some (.lst ps8) ∧ Paired (SysN fl H8') ps8 (before ++ ((Df.partsS S O).take (m + 1)).filter fun S => decide (Df.Sv S)) ∧ Paired (SysN fl H8') lus Ls ∧ H8' tl' = some (.lst ws') ∧ Paired (RowT H8') ws' T :=
              ⟨_, ps, rfl, s27.trans s8, s8 _ _ (t3 _ _ hfl6), by rw [hft]; exact pmono (fun _ _ => SysN.mono (t3.trans s8)) hps6, pmono (fun _ _ => SysN.mono (t3.trans s8)) hlus6, s8 _ _ (t3 _ _ htl6), pmono (fun _ _ q => q.imp fun _ q => ⟨q.1, s8 _ _ (t3 _ _ q.2)⟩) hws6⟩
            rw [e8]
            refine ⟨rfl, _, rfl, ?_⟩
            rw [show (!decide (V.non = V.non)) = false by rw [decide_eq_true rfl]; rfl]
            refine iteF ?_
            refine ⟨_, rfl, _, rfl, _, rfl, _, rfl, by show 3 ≤ sizeLine; decide, fun q4 nq4 => ?_⟩
            have r1 := same_upd nq4 (o := .tup (rowT (l, r', c)))
            have g4 : (upd H8 q4 (.tup (rowT (l, r', c)))) q4 = some (.tup (rowT (l, r', c))) := upd_same
            refine ⟨by show 1 ≤ sizeLine; decide, fun q5 nq5 => ?_⟩
            have r2 := r1.trans (same_upd nq5 (o := .lst [.ref q4]))
            have g4 := same_upd nq5 (o := .lst [.ref q4]) _ _ g4
            refine ⟨tl', q5, ws', _, rfl, rfl, r2 _ _ htl8, upd_same, szl (by simp only [List.length_cons, List.length_nil]; omega), fun q6 nq6 => ?_⟩
            have r3 := r2.trans (same_upd nq6 (o := .lst (ws' ++ [.ref q4])))
            have nq6f : q6 ≠ fl := (ne_of_none (r2 _ _ hfl8) nq6).symm
            refine ⟨q6, _, _, _, _, ps8, ws' ++ [.ref q4], rfl, s28.trans r3, r3 _ _ hfl8, pmono (fun _ _ => SysN.mono r3) hps8, pmono (fun _ _ => SysN.mono r3) hlus8, nq6f, upd_same, ?_⟩
            rw [hto]
            exact papp (pmono (fun _ _ q => q.imp fun _ q => ⟨q.1, r3 _ _ q.2⟩) hws8) (.cons ⟨q4, rfl, same_upd nq6 (o := .lst (ws' ++ [.ref q4])) _ _ g4⟩ .nil)
          · rw [if_pos (decide_eq_true hyes)] at hft
            have hfl8 := s8 _ _ (t3 _ _ hfl6)
            have kt : ∀ b z, H8 b = some (.tup z) → (upd H8 fl (.lst (ps ++ [.ref q3]))) b = some (.tup z) := fun b z e => by rw [upd_ne (ne_of e hfl8 (by intro z; cases z))]; exact e
            refine ⟨rfl, _, rfl, ?_⟩
            rw [show (!decide (V.ref qd = V.non)) = true by rw [decide_eq_false (fun z => by cases z)]; rfl]
            refine iteT ⟨_, rfl, .inl ⟨rfl, _, sq hfl8⟩, _, rfl, fl, ps, _, rfl, rfl, hfl8, szlt (by rw [hpl6, List.length_append]; omega), ?_⟩
            obtain ⟨H9, ps8, e8, s28, hfl8, hps8, hlus8, htl8, hws8⟩ : ∃ H8' ps8, (upd H8 fl (.lst (ps ++ [.ref q3]))) = H8' ∧ Same H2 H8' ∧ H8' fl = some (.lst ps8) ∧ Paired (SysN fl H8') ps8 (before ++ ((Df.partsS S O).take (m + 1)).filter fun S => decide (Df.Sv S)) ∧ Paired (SysN fl H8') lus Ls ∧ H8' tl' = some (.lst ws') ∧ Paired (RowT H8') ws' T :=
              ⟨_, ps ++ [.ref q3], rfl, same_mut (s27.trans s8) nfl, upd_same, by
                rw [hft, ← List.append_assoc]
                exact (pmono (fun _ _ h => SysN.keep hfl8 (h.mono (t3.trans s8))) hps6).snoc (SysN.keep hfl8 ⟨q3, rfl, nq3f, hpart.mono s8⟩), pmono (fun _ _ h => SysN.keep hfl8 (h.mono (t3.trans s8))) hlus6, by rw [upd_ne nt']; exact s8 _ _ (t3 _ _ htl6), pmono (fun _ _ q => q.imp fun _ q => ⟨q.1, kt _ _ (s8 _ _ (t3 _ _ q.2))⟩) hws6⟩
            rw [e8]
            refine ⟨_, rfl, _, rfl, _, rfl, _, rfl, by show 3 ≤ sizeLine; decide, fun q4 nq4 => ?_⟩
            have r1 := same_upd nq4 (o := .tup (rowT (l, r', c)))
            have g4 : (upd H9 q4 (.tup (rowT (l, r', c)))) q4 = some (.tup (rowT (l, r', c))) := upd_same
            refine ⟨by show 1 ≤ sizeLine; decide, fun q5 nq5 => ?_⟩
            have r2 := r1.trans (same_upd nq5 (o := .lst [.ref q4]))
            have g4 := same_upd nq5 (o := .lst [.ref q4]) _ _ g4
            refine ⟨tl', q5, ws', _, rfl, rfl, r2 _ _ htl8, upd_same, szl (by simp only [List.length_cons, List.length_nil]; omega), fun q6 nq6 => ?_⟩
            have r3 := r2.trans (same_upd nq6 (o := .lst (ws' ++ [.ref q4])))
            have nq6f : q6 ≠ fl := (ne_of_none (r2 _ _ hfl8) nq6).symm
            refine ⟨q6, _, _, _, _, ps8, ws' ++ [.ref q4], rfl, s28.trans r3, r3 _ _ hfl8, pmono (fun _ _ => SysN.mono r3) hps8, pmono (fun _ _ => SysN.mono r3) hlus8, nq6f, upd_same, ?_⟩
            rw [hto]
            exact papp (pmono (fun _ _ q => q.imp fun _ q => ⟨q.1, r3 _ _ q.2⟩) hws8) (.cons ⟨q4, rfl, same_upd nq6 (o := .lst (ws' ++ [.ref q4])) _ _ g4⟩ .nil)
        rintro σ H6 ⟨tl', x8, x9, x10, x11, ps, ws', rfl, s6, hfl6, hps6, hlus6, nt', htl6, hws6⟩
        rw [howl, List.take_of_length_le (by rw [(Df.partsS_len O S).1]; exact Nat.le_refl _), ← hstep] at hps6
        exact ⟨_, _, _, _, _, _, ps, rfl, s6, hfl6, hps6, hlus6⟩
      · rintro σ H4 ⟨x4, x7, x8, x9, x10, x11, ps, rfl, s4, hfl4, hps, hlus4⟩
        rw [hlul, List.take_length, ← hsnoc] at hps
        refine ⟨_, rfl, fl, ps, rfl, .inl (sq hfl4), fun nl nnl => ?_⟩
        have s5 := same_upd nnl (o := .lst ps)
        have hsz := Df.lackS_size (left := Ls) (O := O) (m := 16) (b := 7 + 16 * i) hO16 fun S hS => (hLe S hS).1
        have hen := Df.lackS_ends (E := fun e => e.1 ∈ ("0" : Str) :: nms ∧ e.2.1 ∈ ("0" : Str) :: nms) (fun l r c d h => ⟨h.2, h.1⟩) hOe fun S hS => (hLe S hS).2
        rw [← hsnoc] at hsz hen
        refine ⟨nl, _, _, _, _, _, _, _, _, rfl, s2.trans (s4.trans s5), ⟨ps, upd_same, pmono (fun v S h => ?_) hps⟩, ?_, fun S hS => ⟨by have := hsz.2 S hS; omega, hen S hS⟩⟩
        · obtain ⟨r, e, _, q⟩ := h
          exact ⟨r, e, SysAt.mono s5 q⟩
        · have h2 : Ls.length * 16 ≤ 4 * 16 ^ i * 16 := Nat.mul_le_mul_right _ hLl
          rw [Nat.pow_succ, ← Nat.mul_assoc]
          omega
    rintro σ H2 ⟨la, x4, x5, x6, x7, x8, x9, x10, x11, rfl, s2, ⟨lus, hla, hlus⟩, hLl, hLe⟩
    rw [hosl, List.take_length] at hlus
    have hnil := Df.lackL_nil (Os := Os) hsv0
    refine ⟨_, rfl, by show 0 ≤ sizeLine; decide, fun p np => ?_⟩
    have t1 := same_upd np (o := .lst [])
    refine ⟨la, p, _, rfl, rfl, sq (t1 _ _ hla), sq upd_same, ?_⟩
    refine hk _ _ (s2.trans t1) ?_
    rw [show lus.isEmpty = (Df.lackL L0 Os).isEmpty by have := plen hlus; cases lus <;> cases h : Df.lackL L0 Os <;> rw [h] at this <;> simp_all]
    rw [List.isEmpty_iff, hnil]
    exact ⟨fun h p hp => h p ((hin0 p).mpr hp), fun h p hp => h p ((hin0 p).mp hp)⟩
end
end K1

namespace K1
open PySem PySem.Spec PyProof.Rows L2 Ls
/-! ### drawn systems, their tables and their points -/
/-- small systems over the names -/
def Dr (nms : List Str) (Ss : List (List Df3)) : Prop := ∀ S ∈ Ss, Sys9 (("0" : Str) :: nms) 6000000000000000 7 S
theorem nm_of {nms : List Str} (hnd : (("0" : Str) :: nms).Nodup) (hl : nms.length ≤ 3) : Df.Nm (("0" : Str) :: nms) := ⟨hnd, by rw [List.length_cons]; omega, by intro z; cases z⟩
section
variable {nms : List Str} {Ss : List (List Df3)}
theorem Dr.fit (h : Dr nms Ss) (hl : nms.length ≤ 3) {S : List Df3} (hS : S ∈ Ss) : Df.Fit (("0" : Str) :: nms) S 6000000000000000 := (h S hS).fit (by rw [List.length_cons]; omega) (by decide) (by decide) (by decide)
theorem Dr.gd (h : Dr nms Ss) (hl : nms.length ≤ 3) {R : Df.Tab Str} (hR : R ∈ tabsOf Ss) : ∃ S ∈ Ss, Df.Gd (("0" : Str) :: nms) 50 S R := by
  obtain ⟨S, hS, e⟩ := mem_tabsOf.mp hR
  refine ⟨S, hS, Df.Gd.start (h.fit hl hS) (by decide) e ?_⟩
  have h7 := (h S hS).len
  have h3 : (3 : Int) ^ S.length ≤ 3 ^ 7 := by
    have : (3 : Nat) ^ S.length ≤ 3 ^ 7 := Nat.pow_le_pow_right (by decide) h7
    have h2 : ((3 ^ S.length : Nat) : Int) ≤ ((3 ^ 7 : Nat) : Int) := by omega
    simpa using h2
  have := Int.mul_le_mul_of_nonneg_right h3 (show (0 : Int) ≤ 6000000000000000 by decide)
  rw [Df.KK_eq]
  omega
theorem Dr.gdr (h : Dr nms Ss) (hl : nms.length ≤ 3) : ∀ R ∈ tabsOf Ss, Df.GdR (("0" : Str) :: nms) 50 R := fun R hR => (h.gd hl hR).imp fun _ q => q.2
theorem Dr.in_ (h : Dr nms Ss) (hl : nms.length ≤ 3) (p : Str → Int) : (∃ R ∈ tabsOf Ss, Df.InT (("0" : Str) :: nms) R p) ↔ ∃ S ∈ Ss, Df.Solves S p := by
  constructor
  · rintro ⟨R, hR, q⟩
    obtain ⟨S, hS, g⟩ := h.gd hl hR
    exact ⟨S, hS, (g.iff_ p).mp q⟩
  · rintro ⟨S, hS, q⟩
    cases e : Df.addedR Df.blankR S with
    | none => exact absurd q ((h.fit hl hS).none e p)
    | some R =>
      have hR : R ∈ tabsOf Ss := mem_tabsOf.mpr ⟨S, hS, e⟩
      refine ⟨R, hR, fun u hu v hv hf => ?_⟩
      exact ((h.fit hl hS).some e).1.sound p q u hu v hv hf
theorem Dr.tiny (h : Dr nms Ss) (hnd : (("0" : Str) :: nms).Nodup) (hl : nms.length ≤ 3) : ∀ R ∈ tabsOf Ss, Df.Tiny (("0" : Str) :: nms) R := fun R hR u hu v hv hf => by
  obtain ⟨S, hS, e⟩ := mem_tabsOf.mp hR
  have fit := h.fit hl hS
  obtain ⟨p, hp⟩ := fit.solvable rfl hnd e
  obtain ⟨f1, f2⟩ := Sys9.four (ns := ("0" : Str) :: nms) (L := 6000000000000000) (by rw [List.length_cons]; omega) (by decide) (by decide)
  have := fit.bound e hp hu hv hf f1
  rw [Df.LL_eq]
  omega
theorem Dr.diag (h : Dr nms Ss) (hl : nms.length ≤ 3) : ∀ R ∈ tabsOf Ss, ∀ u ∈ ("0" : Str) :: nms, R u u = 0 := fun R hR u hu => by
  obtain ⟨S, _, g⟩ := h.gd hl hR
  exact g.ok.diag u hu
end
/-- nothing is left exactly if all points are points of the others -/
theorem left_nil {nms : List Str} {A B : List (List Df3)} (hnd : (("0" : Str) :: nms).Nodup) (hl : nms.length ≤ 3) (hA : Dr nms A) (hB : Dr nms B) (hBl : B.length ≤ 4) {Ts : List (Df.Tab Str)} (h : Df.LeftR (("0" : Str) :: nms) (tabsOf A) (tabsOf B) Ts) :
    (Ts = [] ↔ ∀ p, (∃ S ∈ A, Df.Solves S p) → ∃ S ∈ B, Df.Solves S p) ∧ (∀ T ∈ Ts, Df.GdR (("0" : Str) :: nms) 114 T) ∧ ∀ p, (∃ T ∈ Ts, Df.InT (("0" : Str) :: nms) T p) ↔ (∃ S ∈ A, Df.Solves S p) ∧ ¬ ∃ S ∈ B, Df.Solves S p := by
  have hn := nm_of hnd hl
  have hbl : (tabsOf B).length ≤ 4 := Nat.le_trans (List.length_filterMap_le _ _) hBl
  obtain ⟨s1, s2, _⟩ := h.spec hn (k := 50) (hA.gdr hl) (hB.tiny hnd hl) (by omega)
  have s2 : ∀ p, (∃ T ∈ Ts, Df.InT (("0" : Str) :: nms) T p) ↔ (∃ S ∈ A, Df.Solves S p) ∧ ¬ ∃ S ∈ B, Df.Solves S p := fun p => by rw [s2 p, hA.in_ hl p, hB.in_ hl p]
  have s1 : ∀ T ∈ Ts, Df.GdR (("0" : Str) :: nms) 114 T := fun T hT => (s1 T hT).mono (by omega)
  refine ⟨⟨fun e p hp => ?_, fun hp => ?_⟩, s1, s2⟩
  · refine Classical.byContradiction fun hn => ?_
    obtain ⟨T, hT, _⟩ := (s2 p).mpr ⟨hp, hn⟩
    rw [e] at hT
    cases hT
  · cases e : Ts with
    | nil => rfl
    | cons T r =>
      exfalso
      have hT : T ∈ Ts := by rw [e]; exact List.mem_cons_self
      obtain ⟨S, g⟩ := s1 T hT
      obtain ⟨p, q⟩ := g.point hn (by decide)
      obtain ⟨a, b⟩ := (s2 p).mp ⟨T, hT, q⟩
      exact b (hp p a)
/-- the point of a table -/
theorem pts_in {nms : List Str} (hnd : (("0" : Str) :: nms).Nodup) (hl : nms.length ≤ 3) {k : Nat} (hk : k ≤ 1000) {T : Df.Tab Str} (h : Df.GdR (("0" : Str) :: nms) k T) :
    ∃ R' x', Df.pts ("0" : Str) T (fun _ => 0) nms = some (R', x') ∧ Df.InT (("0" : Str) :: nms) T (Df.pt0 ("0" : Str) x') ∧ ∀ u, -(10 ^ 27) ≤ Df.pt0 ("0" : Str) x' u ∧ Df.pt0 ("0" : Str) x' u ≤ 10 ^ 27 := by
  obtain ⟨S, g⟩ := h
  have hnd' := List.nodup_cons.mp hnd
  have h1 := Df.kk_le hk
  have h0 := Df.kk_pos k
  rw [Df.KK_eq] at h1 h0
  have hb : (9 : Int) ^ nms.length ≤ 9 ^ 3 := by
    rcases (show nms.length = 0 ∨ nms.length = 1 ∨ nms.length = 2 ∨ nms.length = 3 by omega) with e | e | e | e <;> rw [e] <;> decide
  have h2 := Int.mul_le_mul_of_nonneg_right hb (show 0 ≤ ((k + 1 : Nat) : Int) * Df.KK by rw [Df.KK_eq]; omega)
  have hB : 9 ^ nms.length * (((k + 1 : Nat) : Int) * Df.KK) ≤ 10 ^ 27 := by
    rw [Df.KK_eq] at h2 ⊢
    omega
  obtain ⟨R', x', T', p1, p2, p3, p4⟩ := Df.Ok.pts (ns := ("0" : Str) :: nms) List.mem_cons_self nms (fun _ => 0) g.ok hnd'.2 (fun k hk => List.mem_cons_of_mem _ hk) (by rw [Df.KK_eq]; omega) (by omega)
  have hs : Df.Solves S (Df.pt0 ("0" : Str) x') := p2.solves (by omega) List.mem_cons_self (fun e he => ⟨(g.rows e he).1, (g.rows e he).2.1, by have := (g.rows e he).2.2.2; rw [Df.LL_eq] at this; omega⟩) fun k hk hkz => by
    rcases List.mem_cons.mp hk with rfl | hk
    · exact absurd rfl hkz
    · exact ⟨(p4 k hk).1, (p4 k hk).2.1, (p4 k hk).2.2⟩
  refine ⟨R', x', p1, (g.iff_ _).mpr hs, fun u => ?_⟩
  unfold Df.pt0
  split
  · decide
  · by_cases hu : u ∈ nms
    · have := (p4 u hu).2.2
      omega
    · rw [p3 u hu]
      decide
/-- in a table, point by point -/
theorem inR_iff {ns : List Str} {k : Nat} (hk : k ≤ 1000) {R : Df.Tab Str} (h : Df.GdR ns k R) {x : Str → Int} (hx : ∀ u, -(10 ^ 27) ≤ Df.pt0 ("0" : Str) x u ∧ Df.pt0 ("0" : Str) x u ≤ 10 ^ 27) : InR ns R x ↔ Df.InT ns R (Df.pt0 ("0" : Str) x) := by
  obtain ⟨S, g⟩ := h
  constructor
  · exact fun q u hu v hv _ => q u hu v hv
  · intro q u hu v hv
    by_cases c : R u v ≤ Df.HALFI
    · exact q u hu v hv c
    · have h1 := g.ok.inf (g.small hk) hu hv (by omega)
      have h2 := Df.kk_le hk
      rw [Df.KK_eq] at h1 h2
      have := hx u
      have := hx v
      rw [Df.FARI_eq] at h1
      omega
/-- the tables over fewer names -/
theorem Dr.kept {nms ks : List Str} {Ss : List (List Df3)} (h : Dr nms Ss) (hnd : (("0" : Str) :: nms).Nodup) (hl : nms.length ≤ 3) (hs : ∀ u ∈ ks, u ∈ nms) : ∀ R ∈ tabsOf Ss, Df.GdR (("0" : Str) :: ks) 50 R := fun R hR =>
  Df.kept_gd (h.gdr hl R hR) (h.tiny hnd hl R hR) fun u hu => by
    rcases List.mem_cons.mp hu with rfl | hu
    · exact List.mem_cons_self
    · exact List.mem_cons_of_mem _ (hs u hu)
theorem shadow_nil {nms ks : List Str} {Ss : List (List Df3)} (h : Dr nms Ss) (hnd : (("0" : Str) :: nms).Nodup) (hl : nms.length ≤ 3) (hk : (("0" : Str) :: ks).Nodup) (hkl : ks.length ≤ 3) (hs : ∀ u ∈ ks, u ∈ nms) : Df.absR (("0" : Str) :: ks) (tabsOf Ss) = [] ↔ tabsOf Ss = [] :=
  Df.absR_nil (nm_of hk hkl) (k := 50) (by decide) (h.kept hnd hl hs)
theorem shadow_in {nms ks : List Str} {Ss : List (List Df3)} (h : Dr nms Ss) (hnd : (("0" : Str) :: nms).Nodup) (hl : nms.length ≤ 3) (hk : (("0" : Str) :: ks).Nodup) (hkl : ks.length ≤ 3) {d : Str} (hd : d ∈ nms) (hdk : d ∉ ks) (hs : ∀ u, u ∈ nms ↔ u ∈ ks ∨ u = d) {x : Str → Int} (hx : ∀ u, -(10 ^ 27) ≤ Df.pt0 ("0" : Str) x u ∧ Df.pt0 ("0" : Str) x u ≤ 10 ^ 27) :
    (∃ T ∈ Df.absR (("0" : Str) :: ks) (tabsOf Ss), InR (("0" : Str) :: ks) T x) ↔ ∃ S ∈ Ss, ∃ z, Df.Solves S (Df.put (Df.pt0 ("0" : Str) x) d z) := by
  have hsub : ∀ u ∈ ks, u ∈ nms := fun u hu => (hs u).mpr (.inl hu)
  have hkept := h.kept hnd hl hsub
  have d0 : d ≠ "0" := fun z => (List.nodup_cons.mp hnd).1 (z ▸ hd)
  have hin := Df.absR_in (nm_of hk hkl) (k := 50) (by decide) hkept (Df.pt0 ("0" : Str) x)
  have one : (∃ T ∈ Df.absR (("0" : Str) :: ks) (tabsOf Ss), InR (("0" : Str) :: ks) T x) ↔ ∃ T ∈ Df.absR (("0" : Str) :: ks) (tabsOf Ss), Df.InT (("0" : Str) :: ks) T (Df.pt0 ("0" : Str) x) :=
    ⟨fun ⟨T, hT, q⟩ => ⟨T, hT, (inR_iff (by decide) (hkept T (Df.absR_sub hT)) hx).mp q⟩, fun ⟨T, hT, q⟩ => ⟨T, hT, (inR_iff (by decide) (hkept T (Df.absR_sub hT)) hx).mpr q⟩⟩
  rw [one, hin]
  have kin : ∀ R ∈ tabsOf Ss, (Df.InT (("0" : Str) :: ks) R (Df.pt0 ("0" : Str) x) ↔ ∃ z, Df.InT (("0" : Str) :: nms) R (Df.put (Df.pt0 ("0" : Str) x) d z)) := fun R hR =>
    Df.kept_in (k := 50) (by decide) (h.gdr hl R hR) (List.mem_cons_of_mem _ hd) (fun z => (List.mem_cons.mp z).elim d0 hdk) (fun u => by rw [List.mem_cons, List.mem_cons, hs u, or_assoc]) _
  constructor
  · rintro ⟨R, hR, q⟩
    obtain ⟨z, q⟩ := (kin R hR).mp q
    obtain ⟨S, hS, q⟩ := (h.in_ hl _).mp ⟨R, hR, q⟩
    exact ⟨S, hS, z, q⟩
  · rintro ⟨S, hS, z, q⟩
    obtain ⟨R, hR, q⟩ := (h.in_ hl _).mpr ⟨S, hS, q⟩
    exact ⟨R, hR, (kin R hR).mpr ⟨z, q⟩⟩
/-- a point of the whole is one of the shadow -/
theorem shadow_of {nms ks : List Str} {Ss : List (List Df3)} (h : Dr nms Ss) (hnd : (("0" : Str) :: nms).Nodup) (hl : nms.length ≤ 3) (hk : (("0" : Str) :: ks).Nodup) (hkl : ks.length ≤ 3) (hs : ∀ u ∈ ks, u ∈ nms) {x : Str → Int} (hx : ∀ u, -(10 ^ 27) ≤ Df.pt0 ("0" : Str) x u ∧ Df.pt0 ("0" : Str) x u ≤ 10 ^ 27) {R : Df.Tab Str} (hR : R ∈ tabsOf Ss)
    (q : Df.InT (("0" : Str) :: nms) R (Df.pt0 ("0" : Str) x)) : ∃ T ∈ Df.absR (("0" : Str) :: ks) (tabsOf Ss), InR (("0" : Str) :: ks) T x := by
  have hkept := h.kept hnd hl hs
  have hm : ∀ u ∈ ("0" : Str) :: ks, u ∈ ("0" : Str) :: nms := fun u hu => by
    rcases List.mem_cons.mp hu with rfl | hu
    · exact List.mem_cons_self
    · exact List.mem_cons_of_mem _ (hs u hu)
  obtain ⟨T, hT, q⟩ := (Df.absR_in (nm_of hk hkl) (k := 50) (by decide) hkept (Df.pt0 ("0" : Str) x)).mpr ⟨R, hR, fun u hu v hv hf => q u (hm u hu) v (hm v hv) hf⟩
  exact ⟨T, hT, (inR_iff (by decide) (hkept T (Df.absR_sub hT)) hx).mpr q⟩
end K1

namespace K1
open PySem PySem.Spec PyProof.Rows L2 Ls
theorem pools_strs : ∀ ks ∈ pools, ∀ x ∈ ks, PySem.PyData.strOk x = true := by decide +kernel
theorem cut_names (ks : List Str) (n : Int) (h : 0 ≤ n) : cutV (ks.map V.str) none (some n) = (ks.take n.toNat).map V.str := by
  have := cut_upto (ks.map V.str) n.toNat
  rw [show ((n.toNat : Nat) : Int) = n by omega, ← List.map_take] at this
  exact this
theorem pools_zero : ∀ ks ∈ pools, ("0" : Str) ∉ ks := by decide +kernel
theorem pmapL {α β : Type} {F : α → β → Prop} {G : V → β → Prop} {g : α → V} : ∀ {xs : List α} {ys : List β}, Paired F xs ys → (∀ x y, y ∈ ys → F x y → G (g x) y) → Paired G (xs.map g) ys
  | _, _, .nil, _ => .nil
  | _, _, .cons h t, k => .cons (k _ _ (List.mem_cons_self ..) h) (pmapL t fun x y hy => k x y (List.mem_cons_of_mem _ hy))
theorem pmemR {α β : Type} {F G : α → β → Prop} : ∀ {xs : List α} {ys : List β}, Paired F xs ys → (∀ x y, y ∈ ys → F x y → G x y) → Paired G xs ys
  | _, _, .nil, _ => .nil
  | _, _, .cons h t, k => .cons (k _ _ (List.mem_cons_self ..) h) (pmemR t fun x y hy => k x y (List.mem_cons_of_mem _ hy))
theorem DrawnS.good {names : List Str} (hn : NamesOk names) {S : List Df3} (h : DrawnS names S) : GoodS S := fun e he => by
  obtain ⟨h1, h2, h3⟩ := h.ends e he
  have ne : ∀ u ∈ ("0" : Str) :: names, u ≠ "" := fun u hu => hn.zne hu
  have := h.lim e he
  exact ⟨ne _ h1, ne _ h2, h3, by omega, by omega⟩
theorem DrawnS.sys {names : List Str} {S : List Df3} (h : DrawnS names S) (hl : S.length ≤ 7) : Sys9 (("0" : Str) :: names) 6000000000000000 7 S := ⟨fun e he => ⟨(h.ends e he).1, (h.ends e he).2.1⟩, fun e he => by have := h.lim e he; omega, hl⟩
/-- lists of systems as data -/
theorem dpSyss {K : PySem.W.Frag} {H : Hp} : ∀ {vs : List V} {Ss : List (List Df3)}, Paired (SysE H) vs Ss → DpAll K H vs (Ss.map fun S => PyData.list (S.map rowD))
  | _, _, .nil => .nil
  | _, _, .cons ⟨r, e, ws, h1, h2⟩ t => by
    subst e
    exact .cons (.lst (sq h1) (dpSys h2)) (dpSyss t)
theorem sysD_dep (S : List Df3) : PyData.depth (.list (S.map rowD)) ≤ 7 := by
  have := depAll rowD 5 rowD_dep S
  simp only [PyData.depth]
  omega
theorem shaped_syss {Ss : List (List Df3)} (h : ∀ S ∈ Ss, OkN S) : SeqAt.shaped (.list (Ss.map fun S => PyData.list (S.map rowD))) = true := shaped_list (fun S => PyData.list (S.map rowD)) 7 (by decide) sysD_dep Ss fun S hS => by
  simp only [PyData.canLay0]
  exact canAllm rowD S fun e he => rowD_ok (h S hS e he)
theorem eqv_syss (Ss : List (List Df3)) : PyData.eqv (.list (Ss.map fun S => PyData.list (S.map rowD))) (.list []) = Ss.isEmpty := by
  cases Ss <;> rfl
theorem shaped_nil : SeqAt.shaped (.list []) = true := by decide +kernel
theorem isE {α : Type} {l : List α} {b : Bool} {P : Prop} (h1 : l = [] ↔ P) (h2 : b = true ↔ P) : l.isEmpty = b := by
  cases l with
  | nil => exact (h2.mpr (h1.mp rfl)).symm
  | cons x r =>
    cases b with
    | false => rfl
    | true => exact absurd (h1.mpr (h2.mp rfl)) (by simp)
/-- what stands there when the law asks -/
structure LC (K : PySem.W.Frag) (CR C : Addr) (H : Hp) (a nm b rg : Addr) (ns : List Int) (names : List Str) (Ss : List (List Df3)) : Prop where
  scr : Scr K H a ns
  hnm : H nm = some (.tup (names.map V.str))
  ok : NamesOk names
  str : ∀ u ∈ names, PySem.PyData.strOk u = true
  l2 : 2 ≤ names.length
  l3 : names.length ≤ 3
  e1 : SysLs H b Ss
  d1 : ∀ S ∈ Ss, DrawnS names S ∧ S.length ≤ 4
  n1 : Ss.length ≤ 3
  r1 : RegAt CR C H rg names (tabsOf Ss)
theorem LC.mono {K : PySem.W.Frag} {CR C : Addr} {H H' : Hp} (s : Same H H') {a nm b rg : Addr} {ns : List Int} {names : List Str} {Ss : List (List Df3)} (h : LC K CR C H a nm b rg ns names Ss) : LC K CR C H' a nm b rg ns names Ss :=
  ⟨h.scr.mono s, s _ _ h.hnm, h.ok, h.str, h.l2, h.l3, h.e1.mono s, h.d1, h.n1, h.r1.mono s⟩
theorem tabsOf_len (Ss : List (List Df3)) : (tabsOf Ss).length ≤ Ss.length := List.length_filterMap_le _ _
theorem LC.dr {K : PySem.W.Frag} {CR C : Addr} {H : Hp} {a nm b rg : Addr} {ns : List Int} {names : List Str} {Ss : List (List Df3)} (h : LC K CR C H a nm b rg ns names Ss) : Dr names Ss := fun S hS => (h.d1 S hS).1.sys (by have := (h.d1 S hS).2; omega)
theorem LC.tl {K : PySem.W.Frag} {CR C : Addr} {H : Hp} {a nm b rg : Addr} {ns : List Int} {names : List Str} {Ss : List (List Df3)} (h : LC K CR C H a nm b rg ns names Ss) : (tabsOf Ss).length ≤ 4 := by have := tabsOf_len Ss; have := h.n1; omega
theorem tabsOf_blank : tabsOf [[]] = [Df.blankR] := rfl
theorem dr_nil : Dr [] [[]] := fun S hS => by
  rw [List.mem_singleton.mp hS]
  exact ⟨fun e he => (by cases he), fun e he => (by cases he), by decide⟩
/-- ~ of a region without names -/
theorem inv_nil {names : List Str} {Ss : List (List Df3)} (h : Dr names Ss) (hnd : (("0" : Str) :: names).Nodup) (hl : names.length ≤ 3) (hSs : Ss.length ≤ 4) {Ts : List (Df.Tab Str)}
    (hL : Df.LeftR [("0" : Str)] [Df.blankR] (Df.absR [("0" : Str)] (tabsOf Ss)) Ts) : Ts = [] ↔ tabsOf Ss ≠ [] := by
  have hn := nm_of (nms := []) (by decide) (by decide)
  have hk := h.kept (ks := []) hnd hl (fun u hu => by cases hu)
  have hz : ∀ R ∈ tabsOf Ss, R "0" "0" = 0 := fun R hR => h.diag hl R hR _ List.mem_cons_self
  have hlen : (Df.absR [("0" : Str)] (tabsOf Ss)).length ≤ 4 := Nat.le_trans Df.absR_len (Nat.le_trans (tabsOf_len Ss) hSs)
  have hg : ∀ R ∈ [Df.blankR], Df.GdR [("0" : Str)] 50 R := fun R hR => dr_nil.gdr (by decide) R (by rw [tabsOf_blank]; exact hR)
  have ht : ∀ O ∈ Df.absR [("0" : Str)] (tabsOf Ss), Df.Tiny [("0" : Str)] O := fun O hO u hu v hv hf => by
    rw [List.mem_singleton.mp hu, List.mem_singleton.mp hv, hz O (Df.absR_sub hO), Df.LL_eq]
    omega
  obtain ⟨s1, s2, _⟩ := hL.spec hn (k := 50) hg ht (by omega)
  have all : ∀ O ∈ tabsOf Ss, ∀ p, Df.InT [("0" : Str)] O p := fun O hO p u hu v hv hf => by
    rw [List.mem_singleton.mp hu, List.mem_singleton.mp hv, hz O hO]
    omega
  have blank : ∀ p, Df.InT [("0" : Str)] (Df.blankR : Df.Tab Str) p := fun p => by
    obtain ⟨R, hR, q⟩ := (dr_nil.in_ (by decide) p).mpr ⟨[], List.mem_cons_self, fun e he => (by cases he)⟩
    rw [tabsOf_blank] at hR
    rw [List.mem_singleton.mp hR] at q
    exact q
  constructor
  · intro e z
    have e0 := (shadow_nil h hnd hl (ks := []) (by decide) (by decide) (fun u hu => by cases hu)).mpr z
    obtain ⟨T, hT, _⟩ := (s2 fun _ => 0).mpr ⟨⟨_, List.mem_cons_self, blank _⟩, fun ⟨O, hO, _⟩ => by rw [e0] at hO; cases hO⟩
    rw [e] at hT
    cases hT
  · intro z
    cases e : Ts with
    | nil => rfl
    | cons T r =>
      exfalso
      have hT : T ∈ Ts := by rw [e]; exact List.mem_cons_self
      obtain ⟨S, g⟩ := s1 T hT
      obtain ⟨p, q⟩ := g.point hn (by omega)
      obtain ⟨_, no⟩ := (s2 p).mp ⟨T, hT, q⟩
      cases e2 : tabsOf Ss with
      | nil => exact z e2
      | cons O r2 =>
        have hO : O ∈ tabsOf Ss := by rw [e2]; exact List.mem_cons_self
        exact no ((Df.absR_in hn (k := 50) (by decide) hk p).mpr ⟨O, hO, all O hO p⟩)
theorem isEmpty_eq {α β : Type} {l : List α} {m : List β} (h : l = [] ↔ m = []) : l.isEmpty = m.isEmpty := by
  cases l <;> cases m <;> simp_all
theorem isEmpty_ne {α β : Type} {l : List α} {m : List β} (h : l = [] ↔ m ≠ []) : l.isEmpty = !m.isEmpty := by
  cases l <;> cases m <;> simp_all
theorem okNil : NamesOk [] := ⟨List.nodup_nil, fun x hx => (by cases hx), by decide⟩
abbrev lawN : List Str := ["script", "names", "systems", "others", "system", "one", "other", "due", "back", "point", "at", "rest", "shadow", "turn", "wide"]
def spLaw (K : PySem.W.Frag) : Sp := fun vs H Q _ => ∃ (a : Addr) (ns : List Int), vs = [.ref a] ∧ Scr K H a ns ∧ ∀ H', Q (.bl true) H'
def spShV (CR C : Addr) : Sp := fun vs H Q E => ∃ v rest, vs = v :: rest ∧ rest.length ≤ 3 ∧ ∀ p, H p = none → spShadow CR C [v, .ref p] (upd H p (.tup rest)) Q E
section
variable {P : Program} {w : World} {K : PySem.W.Frag} {mg : Str → Option Value} {base : Heap} {f C CN CR TB : Addr} {fd : FuncData} {k : Nat}
theorem sc_law : FnScope ["script", "names", "systems", "others", "system", "one", "other", "due", "back", "point", "at", "rest", "shadow", "turn", "wide"] ["script"] (defScope s_law) := ⟨rfl, rfl, rfl, by decide +kernel, rfl, by decide +kernel, by decide +kernel⟩
theorem law18 (G : Facts mg) (RC : RCls K CR) (R_shadow : MetR P w K mg base 8 CR "shadow" (spShV CR C)) (O_invert : MetS P w K mg base 8 CR "__invert__" (spInv CR C)) (O_bool : MetS P w K mg base 1 CR "__bool__" (spBoolR CR C))
    {f : Addr} {cdv : Value} {A : Around} {outer : List Env} {s : Shared} {H0 : Hp} {E : XK} (hr : Room 8 (A.deeper (envOfC "law" (defScope s_law) s.heap.objs.size f cdv))) :
    ∃ t, PSs (cxOf CX0 P w K mg base lawN "law" (defScope s_law) f cdv A outer s H0 E).nox ((defBody s_law).drop 18) t ∧
      ∀ (D : Ends) (H : Hp) (a nm b rg : Addr) (ns : List Int) (names : List Str) (Ss : List (List Df3)) (y0 y1 y2 y3 y4 y6 y7 y8 y9 y10 y11 y12 y13 y14 : Option V), LC K CR C H a nm b rg ns names Ss → (∀ H', D.rt (.bl true) H') →
        t D [y0, y1, y2, y3, y4, some (.ref rg), y6, y7, y8, y9, y10, y11, y12, y13, y14] H := by
  have hu := hu_of hr
  refine ⟨_, (pss_one (ps_ret (pe_and (pe_cmpR op_eq (pe_callTy (kBoolOwn O_bool hr (by decide)) (by rfl) G.bool_ (by decide +kernel) (pa_cons (pe_mr0 R_shadow hr (by decide) (pv 5)) pa_nil)) (pe_callTy (kBoolOwn O_bool hr (by decide)) (by rfl) G.bool_ (by decide +kernel) (pa_cons (pv 5) pa_nil)) (nomark _)) (pe_one (pe_cmpR op_ne (pe_callTy (kBoolOwn O_bool hr (by decide)) (by rfl) G.bool_ (by decide +kernel) (pa_cons (pe_un (kInvOwn O_invert hr (by decide)) (pe_mr0 R_shadow hr (by decide) (pv 5))) pa_nil)) (pe_callTy (kBoolOwn O_bool hr (by decide)) (by rfl) G.bool_ (by decide +kernel) (pa_cons (pv 5) pa_nil)) (nomark _)))))), ?_⟩
  intro D H a nm b rg ns names Ss y0 y1 y2 y3 y4 y6 y7 y8 y9 y10 y11 y12 y13 y14 c hD
  have r1 := c.r1
  have ctl := c.tl
  have e0 := shadow_nil c.dr c.ok.znd c.l3 (ks := []) (by decide) (by decide) (fun u hu => by cases hu)
  obtain ⟨dx, nm0, tl, hrr, hnm0, hts⟩ := c.r1
  refine ⟨_, rfl, rg, dx, _, rfl, hrr, rflds_no nm0 tl rfl rfl, _, [], rfl, by decide, fun p np => ?_⟩
  have s1 := same_upd np (o := .tup [])
  refine ⟨rg, p, names, [], tabsOf Ss, rfl, r1.mono s1, c.ok, upd_same, okNil, fun u hu => (by cases hu), by omega, fun H2 r2 s2 hR2 => ?_⟩
  have s12 := s1.trans s2
  have q2 := hR2
  obtain ⟨dx2, nm2, tl2, hrr2, _, _⟩ := q2
  refine ⟨r2, dx2, _, rfl, hrr2, r2, [], _, rfl, hR2, _, rfl, ?_⟩
  refine ⟨_, rfl, rg, dx, _, rfl, s12 _ _ hrr, rg, names, tabsOf Ss, rfl, r1.mono s12, _, rfl, ?_⟩
  refine ⟨rfl, _, rfl, ?_⟩
  rw [isEmpty_eq e0, decide_eq_true rfl]
  refine iteT ?_
  refine ⟨_, rfl, rg, dx, _, rfl, s12 _ _ hrr, rflds_no nm0 tl rfl rfl, _, [], rfl, by decide, fun p3 np3 => ?_⟩
  have s3 := s12.trans (same_upd np3 (o := .tup []))
  refine ⟨rg, p3, names, [], tabsOf Ss, rfl, r1.mono s3, c.ok, upd_same, okNil, fun u hu => (by cases hu), by omega, fun H4 r4 s4 hR4 => ?_⟩
  have s14 := s3.trans s4
  have q4 := hR4
  obtain ⟨dx4, nm4, tl4, hrr4, _, _⟩ := q4
  refine ⟨r4, dx4, _, rfl, hrr4, r4, [], _, rfl, hR4, okNil, by decide, Nat.le_trans Df.absR_len ctl, fun R hR u hu => ?_, fun H5 r5 Ts s5 hL hR5 => ?_⟩
  · rw [List.mem_singleton.mp hu]
    exact c.dr.diag c.l3 R (Df.absR_sub hR) _ List.mem_cons_self
  have q5 := hR5
  obtain ⟨dx5, nm5, tl5, hrr5, _, _⟩ := q5
  refine ⟨r5, dx5, _, rfl, hrr5, r5, [], _, rfl, hR5, _, rfl, ?_⟩
  have s15 := s14.trans s5
  refine ⟨_, rfl, rg, dx, _, rfl, s15 _ _ hrr, rg, names, tabsOf Ss, rfl, r1.mono s15, _, rfl, ?_⟩
  refine ⟨rfl, ?_⟩
  rw [isEmpty_ne (inv_nil c.dr c.ok.znd c.l3 (by have := c.n1; omega) hL)]
  cases (tabsOf Ss).isEmpty <;> exact hD _
theorem law16 (G : Facts mg) (RC : RCls K CR) (R_shadow : MetR P w K mg base 8 CR "shadow" (spShV CR C)) (O_invert : MetS P w K mg base 8 CR "__invert__" (spInv CR C)) (O_bool : MetS P w K mg base 1 CR "__bool__" (spBoolR CR C)) (O_contains : MetS P w K mg base 2 CR "__contains__" (spContains CR C)) (S_point : MetS P w K mg base 6 CR "point" (spPointR CR C))
    {f : Addr} {cdv : Value} {A : Around} {outer : List Env} {s : Shared} {H0 : Hp} {E : XK} (hr : Room 8 (A.deeper (envOfC "law" (defScope s_law) s.heap.objs.size f cdv))) :
    ∃ t, PSs (cxOf CX0 P w K mg base lawN "law" (defScope s_law) f cdv A outer s H0 E).nox ((defBody s_law).drop 16) t ∧
      ∀ (D : Ends) (H : Hp) (a nm b rg sh : Addr) (ns : List Int) (names ks : List Str) (Ss : List (List Df3)) (y0 y1 y2 y3 y4 y6 y7 y8 y9 y10 y11 y13 y14 : Option V), LC K CR C H a nm b rg ns names Ss → RegAt CR C H sh ks (Df.absR (("0" : Str) :: ks) (tabsOf Ss)) → NamesOk ks → ks.length ≤ 3 → (∀ u ∈ ks, u ∈ names) → (∀ H', D.rt (.bl true) H') →
        t D [y0, y1, y2, y3, y4, some (.ref rg), y6, y7, y8, y9, y10, y11, some (.ref sh), y13, y14] H := by
  have hu := hu_of hr
  obtain ⟨t18, p18, h18⟩ := law18 (CR := CR) (C := C) G RC R_shadow O_invert O_bool (outer := outer) (H0 := H0) (E := E) hr
  refine ⟨_, (pss_cons (ps_set (i := 9) sc_law.nd rfl (.inl rfl) (pe_ms0 S_point hr (by decide) (pv 5)))
      (pss_cons (ps_if (PW.pt (pw_and (pt_cmpR op_notN (pv 9) pe_non (nomark _)) (pw_and1 (pt_cmpR (kNiOwn O_contains hr (by decide)) (pv 9) (pv 12) (by rfl))))) (pss_one (ps_ret pe_bl)) pss_nil)
      p18)), ?_⟩
  intro D H a nm b rg sh ns names ks Ss y0 y1 y2 y3 y4 y6 y7 y8 y9 y10 y11 y13 y14 c hsh hok hkl hsub hD
  have r1 := c.r1
  have ctl := c.tl
  obtain ⟨dx, nm0, tl, hrr, hnm0, hts⟩ := c.r1
  refine ⟨_, rfl, rg, dx, _, rfl, hrr, rflds_no nm0 tl rfl rfl, rg, names, tabsOf Ss, rfl, r1, c.ok, ?_⟩
  cases eT : tabsOf Ss with
  | nil =>
    refine .inl ⟨rfl, ?_⟩
    refine ⟨_, rfl, rfl, _, rfl, iteF (iteF ?_)⟩
    exact h18 D H a nm b rg ns names Ss _ _ _ _ _ _ _ _ _ _ _ _ _ _ c hD
  | cons R Rt =>
    have hR : R ∈ tabsOf Ss := by rw [eT]; exact List.mem_cons_self
    obtain ⟨R', x', e1, hin, hx⟩ := pts_in c.ok.znd c.l3 (by decide) (c.dr.gdr c.l3 R hR)
    refine .inr ⟨R, Rt, R', x', rfl, e1, fun H2 d s2 hd => ?_⟩
    refine ⟨_, rfl, rfl, _, rfl, iteT ?_⟩
    have hsh2 := hsh.mono s2
    have q2 := hsh2
    obtain ⟨dx2, nm2, tl2, hrr2, _, _⟩ := q2
    refine ⟨_, rfl, _, rfl, sh, dx2, _, rfl, hrr2, sh, d, ks, names, _, x', rfl, hsh2, hok, Nat.le_trans Df.absR_len (by omega), hd, hsub, fun H3 bb s3 hb => ?_⟩
    have : bb = true := hb.mpr (shadow_of c.dr c.ok.znd c.l3 hok.znd hkl hsub hx hR hin)
    subst this
    refine ⟨_, rfl, _, rfl, iteF ?_⟩
    exact h18 D H3 a nm b rg ns names Ss _ _ _ _ _ _ _ _ _ _ _ _ _ _ (c.mono (s2.trans s3)) hD
end
end K1

namespace K1
open PySem PySem.Spec PyProof.Rows L2 Ls
theorem pfindL {α β : Type} {F : α → β → Prop} : ∀ {xs : List α} {ys : List β} {x : α}, Paired F xs ys → x ∈ xs → ∃ y ∈ ys, F x y
  | _, _, _, .nil, h => by cases h
  | _, _, _, .cons r t, h => by
    rcases List.mem_cons.mp h with rfl | h
    · exact ⟨_, List.mem_cons_self, r⟩
    · obtain ⟨y, hy, q⟩ := pfindL t h
      exact ⟨y, List.mem_cons_of_mem _ hy, q⟩
theorem pfindR {α β : Type} {F : α → β → Prop} : ∀ {xs : List α} {ys : List β} {y : β}, Paired F xs ys → y ∈ ys → ∃ x ∈ xs, F x y
  | _, _, _, .nil, h => by cases h
  | _, _, _, .cons r t, h => by
    rcases List.mem_cons.mp h with rfl | h
    · exact ⟨_, List.mem_cons_self, r⟩
    · obtain ⟨y, hy, q⟩ := pfindR t h
      exact ⟨y, List.mem_cons_of_mem _ hy, q⟩
theorem tabsOf_app (A B : List (List Df3)) : tabsOf (A ++ B) = tabsOf A ++ tabsOf B := List.filterMap_append
/-- the points of a system are points of the pieces of the whole with it -/
theorem wide_in {names : List Str} {Ss Os : List (List Df3)} {S : List Df3} (hnd : (("0" : Str) :: names).Nodup) (hl : names.length ≤ 3) (h : Dr names (Ss ++ [S])) (hO : Paired (fun R S => Df.LeanOf (("0" : Str) :: names) R S) (Df.absR (("0" : Str) :: names) (tabsOf Ss ++ tabsOf [S])) Os) (p : Str → Int)
    (hp : ∃ T ∈ [S], Df.Solves T p) : ∃ O ∈ Os, Df.Solves O p := by
  obtain ⟨T, hT, q⟩ := hp
  rw [List.mem_singleton.mp hT] at q
  obtain ⟨R, hR, q⟩ := (h.in_ hl p).mpr ⟨S, List.mem_append_right _ List.mem_cons_self, q⟩
  rw [tabsOf_app] at hR
  obtain ⟨T, hT, q⟩ := (Df.absR_in (nm_of hnd hl) (k := 50) (by decide) (fun R hR => h.gdr hl R (by rw [tabsOf_app]; exact hR)) p).mpr ⟨R, hR, q⟩
  obtain ⟨O, hO, e⟩ := pfindL hO hT
  exact ⟨O, hO, (e.iff_ p).mpr q⟩
section
variable {P : Program} {w : World} {K : PySem.W.Frag} {mg : Str → Option Value} {base : Heap} {f C CN CR TB : Addr} {fd : FuncData} {k : Nat}
theorem law15 (G : Facts mg) (RC : RCls K CR) (hTB : ∀ H, SqT K H TB []) (SF : PySem.W.selfFirst K CR = true) (M_Region0 : MakK P w K mg base 6 "Region" CR (spRegion K CR C) 2 [] (gV0 TB)) (R_shadow : MetR P w K mg base 8 CR "shadow" (spShV CR C)) (O_invert : MetS P w K mg base 8 CR "__invert__" (spInv CR C)) (O_bool : MetS P w K mg base 1 CR "__bool__" (spBoolR CR C)) (O_contains : MetS P w K mg base 2 CR "__contains__" (spContains CR C)) (S_point : MetS P w K mg base 6 CR "point" (spPointR CR C))
    (O_or : MetS P w K mg base 8 CR "__or__" (spOr CR C)) (Pr_pieces : MetP P w K mg base 2 CR "pieces" (spPieces CR C)) (C_u_law_lack : Cal P w K mg base 2 "_law_lack" spLLack [])
    {f : Addr} {cdv : Value} {A : Around} {outer : List Env} {s : Shared} {H0 : Hp} {E : XK} (hr : Room 8 (A.deeper (envOfC "law" (defScope s_law) s.heap.objs.size f cdv))) :
    ∃ t, PSs (cxOf CX0 P w K mg base lawN "law" (defScope s_law) f cdv A outer s H0 E).nox ((defBody s_law).drop 15) t ∧
      ∀ (D : Ends) (H : Hp) (a nm b rg sh : Addr) (ns : List Int) (names ks : List Str) (Ss : List (List Df3)) (y0 y3 y4 y6 y7 y8 y9 y10 y11 y13 y14 : Option V), LC K CR C H a nm b rg ns names Ss → RegAt CR C H sh ks (Df.absR (("0" : Str) :: ks) (tabsOf Ss)) → NamesOk ks → ks.length ≤ 3 → (∀ u ∈ ks, u ∈ names) → (∀ H', D.rt (.bl true) H') →
        t D [y0, some (.ref nm), some (.ref b), y3, y4, some (.ref rg), y6, y7, y8, y9, y10, y11, some (.ref sh), y13, y14] H := by
  have hu := hu_of hr
  obtain ⟨t16, p16, h16⟩ := law16 (CR := CR) (C := C) G RC R_shadow O_invert O_bool O_contains S_point (outer := outer) (H0 := H0) (E := E) hr
  refine ⟨_, (pss_cons (ps_for PassesOwn.never rfl (kpi_list K (pv 2)) (pg_name (i := 4) sc_law.nd rfl (by first | exact .inl rfl | exact .inr rfl))
        (pss_one (ps_if (pt_cmpR (kNeD K hr.units) (pv 4) (pe_lst pa_nil) (nomark _)) (pss_cons (ps_set (i := 14) sc_law.nd rfl (.inl rfl) (pe_op op_cat (pe_lst (pa_cons (pe_tup (pa_cons (pe_ix (kIxT K) (pe_ix (kIxL K) (pv 4) pe_int (fun _ _ => rfl)) pe_int (fun _ _ => rfl)) (pa_cons (pe_ix (kIxT K) (pe_ix (kIxL K) (pv 4) pe_int (fun _ _ => rfl)) pe_int (fun _ _ => rfl)) (pa_cons (pe_op op_add (pe_ix (kIxT K) (pe_ix (kIxL K) (pv 4) pe_int (fun _ _ => rfl)) pe_int (fun _ _ => rfl)) pe_int) pa_nil)))) pa_nil)) (pe_slice (kSlL K) (pv 4) (po_some pe_int) po_none)))
          (pss_one (ps_if (pt_not (pt_val (pe_c C_u_law_lack hr (by decide) (by rfl) (pa_cons (pv 1) (pa_cons (pe_lst (pa_cons (pv 14) pa_nil)) (pa_cons (pe_mp Pr_pieces hr (by decide) (pe_op (kBinOwn O_or SF rfl hr (by decide)) (pv 5) (pe_mkK M_Region0 hr (by decide) (by rfl) (pa_cons (pv 1) (pa_cons (pe_lst (pa_cons (pv 14) pa_nil)) pa_nil)) pk_nil))) pa_nil)))))) (pss_one (ps_ret pe_bl)) pss_nil))) pss_nil)))
      p16), ?_⟩
  intro D H a nm b rg sh ns names ks Ss y0 y3 y4 y6 y7 y8 y9 y10 y11 y13 y14 c hsh hok hkl hsub hD
  have hon : ∀ u ∈ ("0" : Str) :: names, PySem.PyData.strOk u = true := fun u hu => by
    rcases List.mem_cons.mp hu with rfl | hu
    · decide +kernel
    · exact c.str u hu
  obtain ⟨us, hb, hus⟩ := c.e1
  have hul := plen hus
  refine ⟨_, rfl, b, rfl, ⟨_, sq hb⟩, ?_⟩
  refine for_it (walk_list (K := K) (a := b) (xs := us)) (fun i σ H' => ∃ z4 z14, σ = [y0, some (.ref nm), some (.ref b), y3, z4, some (.ref rg), y6, y7, y8, y9, y10, y11, some (.ref sh), y13, z14] ∧ Same H H') ⟨_, _, rfl, Same.refl H⟩ (fun i σ H' _ ⟨_, _, _, s⟩ => sq (s _ _ hb)) ?_ ?_
  · rintro i x σ H9 H1 hi ⟨z4, z14, rfl, s1⟩ ⟨rfl, ex⟩
    rw [hul] at hi
    obtain ⟨v, hv, hse⟩ := pget hus (List.getElem?_eq_getElem hi)
    rw [hv] at ex
    cases ex
    obtain ⟨r, rfl, hSA⟩ := hse.mono s1
    obtain ⟨hdS, hSl⟩ := c.d1 _ (List.getElem_mem hi)
    have cc := c.mono s1
    have hSA2 := hSA
    obtain ⟨ws, hr1, hws⟩ := hSA2
    have hOkS : OkN Ss[i] := fun e he => ⟨hon _ (hdS.ends e he).1, hon _ (hdS.ends e he).2.1⟩
    refine ⟨_, rfl, by show 0 ≤ sizeLine; decide, fun p np => ?_⟩
    have t1 := same_upd np (o := .lst [])
    refine ⟨_, _, .lst (sq (t1 _ _ hr1)) (dpSys (pmono (fun _ _ q => q.imp fun _ q => ⟨q.1, t1 _ _ q.2⟩) hws)), .lst (sq upd_same) .nil, shaped_sys hOkS, shaped_nil, _, rfl, ?_⟩
    rw [eqv_none]
    have cc := cc.mono t1
    have s2 := s1.trans t1
    have hSA := hSA.mono t1
    clear hr1 hws hOkS
    generalize upd H1 p (.lst []) = H2 at t1 cc s2 hSA ⊢
    generalize hS0 : Ss[i] = S0 at *
    cases S0 with
    | nil => exact iteF ⟨_, _, rfl, s2⟩
    | cons e0 Sr =>
      obtain ⟨l0, r0, c0⟩ := e0
      obtain ⟨ws, hr2, hws⟩ := hSA
      cases hws with | @cons v0 _ ws' _ hv0 hws' =>
      obtain ⟨q0, rfl, hq0⟩ := hv0
      have hwl := plen hws'
      rw [List.length_cons] at hSl
      refine iteT ?_
      -- wide
      refine ⟨_, rfl, r, _, _, _, rfl, rfl, sq hr2, atI_nat (j := 0) rfl, q0, _, _, _, rfl, rfl, sqt hq0, atI_nat (j := 0) rfl, ?_⟩
      refine ⟨_, rfl, r, _, _, _, rfl, rfl, sq hr2, atI_nat (j := 0) rfl, q0, _, _, _, rfl, rfl, sqt hq0, atI_nat (j := 1) rfl, ?_⟩
      refine ⟨_, rfl, r, _, _, _, rfl, rfl, sq hr2, atI_nat (j := 0) rfl, q0, _, _, _, rfl, rfl, sqt hq0, atI_nat (j := 2) rfl, ?_⟩
      refine ⟨_, _, rfl, rfl, by show 3 ≤ sizeLine; decide, fun q nq => ?_⟩
      have u1 := same_upd nq (o := .tup [V.str l0, .str r0, .int (c0 + 1)])
      have hq : (upd H2 q (.tup [V.str l0, .str r0, .int (c0 + 1)])) q = some (.tup [V.str l0, .str r0, .int (c0 + 1)]) := upd_same
      generalize upd H2 q (.tup [V.str l0, .str r0, .int (c0 + 1)]) = H3 at u1 hq ⊢
      refine ⟨by show 1 ≤ sizeLine; decide, fun l nl => ?_⟩
      have u2 := same_upd nl (o := .lst [.ref q])
      have hl : (upd H3 l (.lst [.ref q])) l = some (.lst [.ref q]) := upd_same
      generalize upd H3 l (.lst [.ref q]) = H4 at u2 hl ⊢
      have u12 := u1.trans u2
      refine ⟨_, rfl, _, rfl, r, _, rfl, sq (u12 _ _ hr2), fun l2 nl2 => ?_⟩
      rw [show cutV (V.ref q0 :: ws') (some 1) none = ws' from cut_from _ 1]
      have u3 := same_upd nl2 (o := .lst ws')
      have hl2 : (upd H4 l2 (.lst ws')) l2 = some (.lst ws') := upd_same
      generalize upd H4 l2 (.lst ws') = H5 at u3 hl2 ⊢
      refine ⟨l, l2, _, _, rfl, rfl, u3 _ _ hl, hl2, szl (by rw [List.length_singleton]; omega), fun wd nwd => ?_⟩
      have u4 := same_upd nwd (o := .lst ([V.ref q] ++ ws'))
      have u24 := u2.trans (u3.trans u4)
      have u14 := u1.trans u24
      have hwd : SysAt (upd H5 wd (.lst ([V.ref q] ++ ws'))) wd ((l0, r0, c0 + 1) :: Sr) := ⟨_, upd_same, .cons ⟨q, rfl, u24 _ _ hq⟩ (pmono (fun _ _ q => q.imp fun _ q => ⟨q.1, u14 _ _ q.2⟩) hws')⟩
      generalize upd H5 wd (.lst ([V.ref q] ++ ws')) = H6 at u4 u24 u14 hwd ⊢
      have cc := cc.mono u14
      have s6 := s2.trans u14
      -- what the wide system is
      have hE : ∀ e ∈ (l0, r0, c0 + 1) :: Sr, e.1 ∈ ("0" : Str) :: names ∧ e.2.1 ∈ ("0" : Str) :: names := fun e he => by
        rcases List.mem_cons.mp he with rfl | he
        · exact ⟨(hdS.ends _ List.mem_cons_self).1, (hdS.ends _ List.mem_cons_self).2.1⟩
        · exact ⟨(hdS.ends _ (List.mem_cons_of_mem _ he)).1, (hdS.ends _ (List.mem_cons_of_mem _ he)).2.1⟩
      have hlim : ∀ e ∈ (l0, r0, c0 + 1) :: Sr, -6000000000000000 ≤ e.2.2 ∧ e.2.2 ≤ 6000000000000000 := fun e he => by
        rcases List.mem_cons.mp he with rfl | he
        · have h2 : -5000000000000000 ≤ c0 ∧ c0 ≤ 5000000000000000 := hdS.lim _ List.mem_cons_self
          show -6000000000000000 ≤ c0 + 1 ∧ c0 + 1 ≤ 6000000000000000
          omega
        · have := hdS.lim _ (List.mem_cons_of_mem _ he)
          omega
      have hgood : GoodS ((l0, r0, c0 + 1) :: Sr) := fun e he => by
        have ne : ∀ u ∈ ("0" : Str) :: names, u ≠ "" := fun u hu => c.ok.zne hu
        have := hlim e he
        refine ⟨ne _ (hE e he).1, ne _ (hE e he).2, ?_, by omega, by omega⟩
        rcases List.mem_cons.mp he with rfl | he
        · exact (hdS.ends _ List.mem_cons_self).2.2
        · exact (hdS.ends _ (List.mem_cons_of_mem _ he)).2.2
      have hDr : Dr names (Ss ++ [(l0, r0, c0 + 1) :: Sr]) := fun S hS => by
        rcases List.mem_append.mp hS with hS | hS
        · exact c.dr S hS
        · rw [List.mem_singleton.mp hS]
          exact ⟨hE, hlim, by rw [List.length_cons]; omega⟩
      have hDr1 : Dr names [(l0, r0, c0 + 1) :: Sr] := fun S hS => hDr S (List.mem_append_right _ hS)
      -- the lack
      refine ⟨_, rfl, _, rfl, by show 1 ≤ sizeLine; decide, fun l3 nl3 => ?_⟩
      have v1 := same_upd nl3 (o := .lst [.ref wd])
      have hl3 : (upd H6 l3 (.lst [.ref wd])) l3 = some (.lst [.ref wd]) := upd_same
      generalize upd H6 l3 (.lst [.ref wd]) = H7 at v1 hl3 ⊢
      refine ⟨_, rfl, _, rfl, _, rfl, by show 1 ≤ sizeLine; decide, fun l4 nl4 => ?_⟩
      have v2 := same_upd nl4 (o := .lst [.ref wd])
      have hl4 : (upd H7 l4 (.lst [.ref wd])) l4 = some (.lst [.ref wd]) := upd_same
      generalize upd H7 l4 (.lst [.ref wd]) = H8 at v2 hl4 ⊢
      have v12 := v1.trans v2
      refine ⟨rfl, rfl, fun rn dn nrn ndn _ => ?_⟩
      refine newReg (Ss := [(l0, r0, c0 + 1) :: Sr]) hTB ((cc.mono v12).hnm) c.ok hl4 (.cons ⟨wd, rfl, fun H' s => (hwd.mono (v12.trans s)).q, hgood, by rw [List.length_cons]; omega, hE⟩ .nil) (by rw [List.length_singleton]; decide) nrn ndn fun H10 v3 hRn => ⟨rfl, ?_⟩
      have v13 := v12.trans v3
      have cc3 := cc.mono v13
      obtain ⟨dxr, nmr, tlr, hrr, _, _⟩ := cc3.r1
      have hRn2 := hRn
      obtain ⟨dxn, nmn, tln, hrn, _, _⟩ := hRn2
      have ht1 : (tabsOf [(l0, r0, c0 + 1) :: Sr]).length ≤ 1 := tabsOf_len _
      have ht0 := tabsOf_len Ss
      have hn1 := c.n1
      refine ⟨rg, rn, dxr, _, dxn, _, rfl, rfl, hrr, hrn, rg, rn, names, _, _, rfl, cc3.r1, hRn, c.ok, c.str, by omega, fun H11 ro v4 hRo => ⟨ro, rfl, ?_⟩⟩
      have hRo2 := hRo
      obtain ⟨dxo, nmo, tlo, hro, _, _⟩ := hRo2
      have hal := Df.absR_len (ns := ("0" : Str) :: names) (Rs := tabsOf Ss ++ tabsOf [(l0, r0, c0 + 1) :: Sr])
      rw [List.length_append] at hal
      refine ⟨ro, dxo, _, rfl, hro, ro, names, _, rfl, hRo, c.ok, c.l3, by omega, fun R hR u hu => ?_, fun H12 bp us2 Os v5 hbp hus2 hlean => ?_⟩
      · have hR := Df.absR_sub hR
        rw [← tabsOf_app] at hR
        exact hDr.diag c.l3 R hR u hu
      have v35 := v3.trans (v4.trans v5)
      have v15 := v12.trans v35
      have hOl := plen hlean
      have cc5 := cc.mono v15
      refine ⟨nm, l3, bp, names, [(l0, r0, c0 + 1) :: Sr], Os, rfl, cc5.hnm, by have := c.l3; omega, ⟨_, (v2.trans v35) _ _ hl3, .cons ⟨wd, rfl, hwd.mono v15⟩ .nil⟩, ⟨_, hbp, hus2⟩, by rw [List.length_singleton]; decide, by omega, fun S hS => ?_, fun O hO => ?_, fun H13 bb v6 hbb => ?_⟩
      · rw [List.mem_singleton.mp hS]
        exact ⟨by rw [List.length_cons]; omega, hE⟩
      · obtain ⟨R, hR, q⟩ := pfindR hlean hO
        have h1 := q.len
        have h2 : (("0" : Str) :: names).length ≤ 4 := by rw [List.length_cons]; have := c.l3; omega
        have h3 := Nat.mul_le_mul h2 h2
        exact ⟨by omega, fun e he => ⟨(q.sub e he).1, (q.sub e he).2.1⟩⟩
      · have : bb = true := hbb.mpr fun p hp => wide_in c.ok.znd c.l3 hDr hlean p hp
        subst this
        exact ⟨_, rfl, iteF ⟨_, _, rfl, s6.trans (v15.trans v6)⟩⟩
  rintro σ H1 ⟨z4, z14, rfl, s1⟩
  exact h16 D H1 a nm b rg sh ns names ks Ss _ _ _ _ _ _ _ _ _ _ _ _ _ (c.mono s1) (hsh.mono s1) hok hkl hsub hD
end
end K1

namespace K1
open PySem PySem.Spec PyProof.Rows L2 Ls
/-- the names that are left when one is dropped -/
structure Drop1 (names ks : List Str) (d : Str) : Prop where
  ok : NamesOk ks
  mem : d ∈ names
  no : d ∉ ks
  iff_ : ∀ u, u ∈ names ↔ u ∈ ks ∨ u = d
  l1 : 1 ≤ ks.length
  l2 : ks.length ≤ 2
section
variable {P : Program} {w : World} {K : PySem.W.Frag} {mg : Str → Option Value} {base : Heap} {f C CN CR TB : Addr} {fd : FuncData} {k : Nat}
theorem law14 (G : Facts mg) (RC : RCls K CR) (hTB : ∀ H, SqT K H TB []) (SF : PySem.W.selfFirst K CR = true) (M_Region0 : MakK P w K mg base 6 "Region" CR (spRegion K CR C) 2 [] (gV0 TB)) (R_shadow : MetR P w K mg base 8 CR "shadow" (spShV CR C)) (O_invert : MetS P w K mg base 8 CR "__invert__" (spInv CR C)) (O_bool : MetS P w K mg base 1 CR "__bool__" (spBoolR CR C)) (O_contains : MetS P w K mg base 2 CR "__contains__" (spContains CR C)) (S_point : MetS P w K mg base 6 CR "point" (spPointR CR C))
    (O_or : MetS P w K mg base 8 CR "__or__" (spOr CR C)) (Pr_pieces : MetP P w K mg base 2 CR "pieces" (spPieces CR C)) (C_u_law_lack : Cal P w K mg base 2 "_law_lack" spLLack []) (C_u_law_draw : Cal P w K mg base 1 "_law_draw" (spDraw K) []) (C_u_law_point : Cal P w K mg base 2 "_law_point" (spLPoint K) []) (C_u_law_can : Cal P w K mg base 3 "_law_can" spLCan [])
    {f : Addr} {cdv : Value} {A : Around} {outer : List Env} {s : Shared} {H0 : Hp} {E : XK} (hr : Room 8 (A.deeper (envOfC "law" (defScope s_law) s.heap.objs.size f cdv))) :
    ∃ t, PSs (cxOf CX0 P w K mg base lawN "law" (defScope s_law) f cdv A outer s H0 E).nox ((defBody s_law).drop 14) t ∧
      ∀ (D : Ends) (H : Hp) (a nm b rg sh rs : Addr) (i : Nat) (d : Str) (ns : List Int) (names ks : List Str) (Ss : List (List Df3)) (y3 y4 y6 y7 y8 y9 y13 y14 : Option V), LC K CR C H a nm b rg ns names Ss → RegAt CR C H sh ks (Df.absR (("0" : Str) :: ks) (tabsOf Ss)) → Drop1 names ks d → names[i]? = some d → H rs = some (.lst (ks.map V.str)) → (∀ H', D.rt (.bl true) H') →
        t D [some (.ref a), some (.ref nm), some (.ref b), y3, y4, some (.ref rg), y6, y7, y8, y9, some (.int i), some (.ref rs), some (.ref sh), y13, y14] H := by
  have hu := hu_of hr
  obtain ⟨t15, p15, h15⟩ := law15 (CR := CR) (C := C) (TB := TB) G RC hTB SF M_Region0 R_shadow O_invert O_bool O_contains S_point O_or Pr_pieces C_u_law_lack (outer := outer) (H0 := H0) (E := E) hr
  refine ⟨_, (pss_cons (ps_for PassesOwn.never rfl (pi_range1 (by rfl) G.range_ (pa_cons pe_int pa_nil)) (pg_name (i := 13) sc_law.nd rfl (by first | exact .inl rfl | exact .inr rfl))
        (pss_cons (ps_set (i := 9) sc_law.nd rfl (.inl rfl) (pe_c C_u_law_point hr (by decide) (by rfl) (pa_cons (pv 0) (pa_cons (pe_op op_add pe_int (pe_op op_mul pe_int (pv 13))) (pa_cons (pv 11) pa_nil)))))
        (pss_one (ps_if (pt_cmpR op_ne (pe_cmpR (kInOwn O_contains hr (by decide)) (pv 9) (pv 12) (by rfl)) (pe_c C_u_law_can hr (by decide) (by rfl) (pa_cons (pv 2) (pa_cons (pv 9) (pa_cons (pe_ix (kIxT K) (pv 1) (pv 10) (fun _ _ => rfl)) (pa_cons (pv 1) pa_nil))))) (nomark _)) (pss_one (ps_ret pe_bl)) pss_nil))))
      p15), ?_⟩
  intro D H a nm b rg sh rs i d ns names ks Ss y3 y4 y6 y7 y8 y9 y13 y14 c hsh pk hid hrs hD
  have hkl : ks.length ≤ 3 := by have := pk.l2; omega
  have hsub : ∀ u ∈ ks, u ∈ names := fun u hu => (pk.iff_ u).mpr (.inl hu)
  have d0 : d ≠ "0" := fun z => (c.ok.ne _ pk.mem).2 z
  refine ⟨10, rfl, by decide, by decide, ?_⟩
  refine for_it (walk_range (lo := 0) (n := (10 : Int).toNat)) (fun j σ H' => ∃ z9 z13, σ = [some (.ref a), some (.ref nm), some (.ref b), y3, y4, some (.ref rg), y6, y7, y8, z9, some (.int i), some (.ref rs), some (.ref sh), z13, y14] ∧ Same H H') ⟨_, _, rfl, Same.refl H⟩ (fun _ _ _ _ _ => True.intro) ?_ ?_
  · rintro j x σ H9 H1 hj ⟨z9, z13, rfl, s1⟩ ⟨rfl, rfl⟩
    have cc := c.mono s1
    refine ⟨_, rfl, _, rfl, _, _, rfl, rfl, .inl ⟨by decide, by omega⟩, _, _, rfl, rfl, _, rfl, a, rs, ns, _, ks, rfl, cc.scr, s1 _ _ hrs, pk.ok.nd, by omega, fun H2 pt x s2 hpt hx => ?_⟩
    have s12 := s1.trans s2
    have cc := c.mono s12
    have hsh2 := hsh.mono s12
    have q2 := hsh2
    obtain ⟨dx2, nm2, tl2, hrr2, _, _⟩ := q2
    have hx0 : ∀ u, -(10 ^ 27) ≤ Df.pt0 ("0" : Str) x u ∧ Df.pt0 ("0" : Str) x u ≤ 10 ^ 27 := fun u => by
      unfold Df.pt0
      split
      · decide
      · have := hx u
        omega
    refine ⟨_, rfl, _, rfl, sh, dx2, _, rfl, hrr2, sh, pt, ks, ks, _, x, rfl, hsh2, pk.ok, Nat.le_trans Df.absR_len (by have := c.tl; omega), hpt, fun u hu => hu, fun H3 b1 s3 hb1 => ?_⟩
    have cc := cc.mono s3
    refine ⟨_, rfl, _, rfl, _, rfl, _, rfl, _, rfl, nm, _, _, _, rfl, rfl, sqt cc.hnm, atI_nat (j := i) (by rw [List.getElem?_map, hid]; rfl), _, rfl, ?_⟩
    refine ⟨b, pt, nm, d, Ss, ks, x, rfl, cc.e1, s3 _ _ hpt, d0, pk.no, fun S hS => ⟨by have := (c.d1 S hS).2; omega, fun e he => ?_⟩, fun H4 b2 s4 hb2 => ?_⟩
    · obtain ⟨e1, e2, e3⟩ := (c.d1 S hS).1.ends e he
      have m : ∀ u ∈ ("0" : Str) :: names, u ∈ ("0" : Str) :: ks ∨ u = d := fun u hu => by
        rcases List.mem_cons.mp hu with rfl | hu
        · exact .inl List.mem_cons_self
        · rcases (pk.iff_ u).mp hu with h | h
          · exact .inl (List.mem_cons_of_mem _ h)
          · exact .inr h
      exact ⟨m _ e1, m _ e2, e3⟩
    · have e : b1 = b2 := by
        have := hb1.trans ((shadow_in c.dr c.ok.znd c.l3 pk.ok.znd hkl pk.mem pk.no pk.iff_ hx0).trans hb2.symm)
        cases b1 <;> cases b2 <;> simp_all
      subst e
      refine ⟨rfl, _, rfl, ?_⟩
      rw [decide_eq_true rfl]
      exact iteF ⟨_, _, rfl, s12.trans (s3.trans s4)⟩
  rintro σ H1 ⟨z9, z13, rfl, s1⟩
  exact h15 D H1 a nm b rg sh ns names ks Ss _ _ _ _ _ _ _ _ _ _ _ (c.mono s1) (hsh.mono s1) pk.ok hkl hsub hD
theorem law13 (G : Facts mg) (RC : RCls K CR) (hTB : ∀ H, SqT K H TB []) (SF : PySem.W.selfFirst K CR = true) (M_Region0 : MakK P w K mg base 6 "Region" CR (spRegion K CR C) 2 [] (gV0 TB)) (R_shadow : MetR P w K mg base 8 CR "shadow" (spShV CR C)) (O_invert : MetS P w K mg base 8 CR "__invert__" (spInv CR C)) (O_bool : MetS P w K mg base 1 CR "__bool__" (spBoolR CR C)) (O_contains : MetS P w K mg base 2 CR "__contains__" (spContains CR C)) (S_point : MetS P w K mg base 6 CR "point" (spPointR CR C))
    (O_or : MetS P w K mg base 8 CR "__or__" (spOr CR C)) (Pr_pieces : MetP P w K mg base 2 CR "pieces" (spPieces CR C)) (C_u_law_lack : Cal P w K mg base 2 "_law_lack" spLLack []) (C_u_law_draw : Cal P w K mg base 1 "_law_draw" (spDraw K) []) (C_u_law_point : Cal P w K mg base 2 "_law_point" (spLPoint K) []) (C_u_law_can : Cal P w K mg base 3 "_law_can" spLCan [])
    {f : Addr} {cdv : Value} {A : Around} {outer : List Env} {s : Shared} {H0 : Hp} {E : XK} (hr : Room 8 (A.deeper (envOfC "law" (defScope s_law) s.heap.objs.size f cdv))) :
    ∃ t, PSs (cxOf CX0 P w K mg base lawN "law" (defScope s_law) f cdv A outer s H0 E).nox ((defBody s_law).drop 13) t ∧
      ∀ (D : Ends) (H : Hp) (a nm b rg sh rs : Addr) (i : Nat) (d : Str) (ns : List Int) (names ks : List Str) (Ss : List (List Df3)) (y3 y4 y6 y7 y8 y9 y13 y14 : Option V), LC K CR C H a nm b rg ns names Ss → RegAt CR C H sh ks (Df.absR (("0" : Str) :: ks) (tabsOf Ss)) → Drop1 names ks d → names[i]? = some d → H rs = some (.lst (ks.map V.str)) → (∀ H', D.rt (.bl true) H') →
        t D [some (.ref a), some (.ref nm), some (.ref b), y3, y4, some (.ref rg), y6, y7, y8, y9, some (.int i), some (.ref rs), some (.ref sh), y13, y14] H := by
  have hu := hu_of hr
  obtain ⟨t14, p14, h14⟩ := law14 (CR := CR) (C := C) (TB := TB) G RC hTB SF M_Region0 R_shadow O_invert O_bool O_contains S_point O_or Pr_pieces C_u_law_lack C_u_law_draw C_u_law_point C_u_law_can (outer := outer) (H0 := H0) (E := E) hr
  refine ⟨_, (pss_cons (ps_if (PW.pt (pw_or (pt_cmpR (kNeD K hr.units) (kfld K (pv 12)) (pe_callTy kTuple (by rfl) G.tuple_ (by decide +kernel) (pa_cons (pv 11) pa_nil)) (nomark _)) (pw_or1 (pt_cmpR op_ne (pe_callTy (kBoolOwn O_bool hr (by decide)) (by rfl) G.bool_ (by decide +kernel) (pa_cons (pv 12) pa_nil)) (pe_callTy (kBoolOwn O_bool hr (by decide)) (by rfl) G.bool_ (by decide +kernel) (pa_cons (pv 5) pa_nil)) (nomark _))))) (pss_one (ps_ret pe_bl)) pss_nil)
      p14), ?_⟩
  intro D H a nm b rg sh rs i d ns names ks Ss y3 y4 y6 y7 y8 y9 y13 y14 c hsh pk hid hrs hD
  have hkl : ks.length ≤ 3 := by have := pk.l2; omega
  have hsub : ∀ u ∈ ks, u ∈ names := fun u hu => (pk.iff_ u).mpr (.inl hu)
  have hstr : ∀ u ∈ ks, PySem.PyData.strOk u = true := fun u hu => c.str u (hsub u hu)
  have ctl := c.tl
  have r1 := c.r1
  obtain ⟨dx, nm0, tl, hrr, _, _⟩ := c.r1
  have q2 := hsh
  obtain ⟨dx2, nm2, tl2, hrr2, hnm2, _⟩ := q2
  refine ⟨_, rfl, sh, CR, dx2, _, _, rfl, hrr2, RC.cl, RC.nN, rflds_names _ _, _, rfl, rs, _, rfl, .inl hrs, fun H1 l s1 _ hl => ?_⟩
  refine ⟨_, _, .tup (sqt (s1 _ _ hnm2)) (dpStrs K H1 ks), .tup (sqt hl) (dpStrs K H1 ks), shaped_strsT _ hstr, shaped_strsT _ hstr, _, rfl, ?_⟩
  rw [eqv_strsT _ hstr]
  refine iteF ?_
  refine ⟨_, rfl, sh, dx2, _, rfl, s1 _ _ hrr2, sh, ks, _, rfl, hsh.mono s1, _, rfl, _, rfl, rg, dx, _, rfl, s1 _ _ hrr, rg, names, _, rfl, r1.mono s1, _, rfl, rfl, _, rfl, ?_⟩
  rw [isEmpty_eq (shadow_nil c.dr c.ok.znd c.l3 pk.ok.znd hkl hsub), decide_eq_true rfl]
  refine iteF ?_
  exact h14 D H1 a nm b rg sh rs i d ns names ks Ss _ _ _ _ _ _ _ _ (c.mono s1) (hsh.mono s1) pk hid (s1 _ _ hrs) hD
theorem law12 (G : Facts mg) (RC : RCls K CR) (hTB : ∀ H, SqT K H TB []) (SF : PySem.W.selfFirst K CR = true) (M_Region0 : MakK P w K mg base 6 "Region" CR (spRegion K CR C) 2 [] (gV0 TB)) (R_shadow : MetR P w K mg base 8 CR "shadow" (spShV CR C)) (O_invert : MetS P w K mg base 8 CR "__invert__" (spInv CR C)) (O_bool : MetS P w K mg base 1 CR "__bool__" (spBoolR CR C)) (O_contains : MetS P w K mg base 2 CR "__contains__" (spContains CR C)) (S_point : MetS P w K mg base 6 CR "point" (spPointR CR C))
    (O_or : MetS P w K mg base 8 CR "__or__" (spOr CR C)) (Pr_pieces : MetP P w K mg base 2 CR "pieces" (spPieces CR C)) (C_u_law_lack : Cal P w K mg base 2 "_law_lack" spLLack []) (C_u_law_draw : Cal P w K mg base 1 "_law_draw" (spDraw K) []) (C_u_law_point : Cal P w K mg base 2 "_law_point" (spLPoint K) []) (C_u_law_can : Cal P w K mg base 3 "_law_can" spLCan [])
    {f : Addr} {cdv : Value} {A : Around} {outer : List Env} {s : Shared} {H0 : Hp} {E : XK} (hr : Room 8 (A.deeper (envOfC "law" (defScope s_law) s.heap.objs.size f cdv))) :
    ∃ t, PSs (cxOf CX0 P w K mg base lawN "law" (defScope s_law) f cdv A outer s H0 E).nox ((defBody s_law).drop 12) t ∧
      ∀ (D : Ends) (H : Hp) (a nm b rg rs : Addr) (i : Nat) (d : Str) (ns : List Int) (names ks : List Str) (Ss : List (List Df3)) (y3 y4 y6 y7 y8 y9 y12 y13 y14 : Option V), LC K CR C H a nm b rg ns names Ss → Drop1 names ks d → names[i]? = some d → H rs = some (.lst (ks.map V.str)) → (∀ H', D.rt (.bl true) H') →
        t D [some (.ref a), some (.ref nm), some (.ref b), y3, y4, some (.ref rg), y6, y7, y8, y9, some (.int i), some (.ref rs), y12, y13, y14] H := by
  have hu := hu_of hr
  obtain ⟨t13, p13, h13⟩ := law13 (CR := CR) (C := C) (TB := TB) G RC hTB SF M_Region0 R_shadow O_invert O_bool O_contains S_point O_or Pr_pieces C_u_law_lack C_u_law_draw C_u_law_point C_u_law_can (outer := outer) (H0 := H0) (E := E) hr
  refine ⟨_, (pss_cons (ps_set (i := 12) sc_law.nd rfl (.inl rfl) (pe_ifExp (pt_cmpR op_eq (pe_callB (kLen K) (by rfl) G.len_ PySem.boot_len (pa_cons (pv 11) pa_nil)) pe_int (nomark _)) (pe_mr R_shadow hr (by decide) (pv 5) (pa_cons (pe_ix (kIxL K) (pv 11) pe_int (fun _ _ => rfl)) pa_nil)) (pe_mr R_shadow hr (by decide) (pv 5) (pa_cons (pe_ix (kIxL K) (pv 11) pe_int (fun _ _ => rfl)) (pa_cons (pe_ix (kIxL K) (pv 11) pe_int (fun _ _ => rfl)) pa_nil)))))
      p13), ?_⟩
  intro D H a nm b rg rs i d ns names ks Ss y3 y4 y6 y7 y8 y9 y12 y13 y14 c pk hid hrs hD
  have hkl : ks.length ≤ 3 := by have := pk.l2; omega
  have hsub : ∀ u ∈ ks, u ∈ names := fun u hu => (pk.iff_ u).mpr (.inl hu)
  have hstr : ∀ u ∈ ks, PySem.PyData.strOk u = true := fun u hu => c.str u (hsub u hu)
  have ctl := c.tl
  have r1 := c.r1
  obtain ⟨dx, nm0, tl, hrr, _, _⟩ := c.r1
  refine ⟨_, rfl, rs, _, rfl, .inl (sq hrs), rfl, _, rfl, ?_⟩
  rw [List.length_map]
  have l1 := pk.l1
  have l2 := pk.l2
  match hks : ks, l1, l2 with
  | [k0], _, _ =>
    refine iteT ?_
    refine ⟨_, rfl, rg, dx, _, rfl, hrr, rflds_no nm0 tl rfl rfl, _, rfl, rs, _, _, _, rfl, rfl, sq hrs, atI_nat (j := 0) rfl, _, [V.str k0], rfl, by simp, fun p np => ?_⟩
    have s1 := same_upd np (o := .tup [V.str k0])
    refine ⟨rg, p, names, [k0], tabsOf Ss, rfl, r1.mono s1, c.ok, upd_same, pk.ok, hsub, by omega, fun H2 sh s2 hsh => ?_⟩
    have s12 := s1.trans s2
    exact h13 D H2 a nm b rg sh rs i d ns names [k0] Ss _ _ _ _ _ _ _ _ (c.mono s12) hsh pk hid (s12 _ _ hrs) hD
  | [k0, k1], _, _ =>
    refine iteF ?_
    refine ⟨_, rfl, rg, dx, _, rfl, hrr, rflds_no nm0 tl rfl rfl, _, rfl, rs, _, _, _, rfl, rfl, sq hrs, atI_nat (j := 0) rfl, _, rfl, rs, _, _, _, rfl, rfl, sq hrs, atI_nat (j := 1) rfl, _, [V.str k0, V.str k1], rfl, by simp, fun p np => ?_⟩
    have s1 := same_upd np (o := .tup [V.str k0, V.str k1])
    refine ⟨rg, p, names, [k0, k1], tabsOf Ss, rfl, r1.mono s1, c.ok, upd_same, pk.ok, hsub, by omega, fun H2 sh s2 hsh => ?_⟩
    have s12 := s1.trans s2
    exact h13 D H2 a nm b rg sh rs i d ns names [k0, k1] Ss _ _ _ _ _ _ _ _ (c.mono s12) hsh pk hid (s12 _ _ hrs) hD
end
end K1

namespace K1
open PySem PySem.Spec PyProof.Rows L2 Ls
theorem cut_drop (ks : List Str) (n : Int) (h : 0 ≤ n) : cutV (ks.map V.str) (some n) none = (ks.drop n.toNat).map V.str := by
  have := cut_from (ks.map V.str) n.toNat
  rw [show ((n.toNat : Nat) : Int) = n by omega, ← List.map_drop] at this
  exact this
theorem pk_of {names : List Str} (hok : NamesOk names) (h2 : 2 ≤ names.length) (h3 : names.length ≤ 3) {i : Nat} {d : Str} (hi : names[i]? = some d) : Drop1 names (names.take i ++ names.drop (i + 1)) d := by
  obtain ⟨hl, e⟩ := List.getElem?_eq_some_iff.mp hi
  have es : names = names.take i ++ (d :: names.drop (i + 1)) := by rw [← e, List.getElem_cons_drop, List.take_append_drop]
  have hnd := hok.nd
  rw [es] at hnd
  obtain ⟨n1, n2, n3⟩ := List.nodup_append.mp hnd
  obtain ⟨n4, n5⟩ := List.nodup_cons.mp n2
  have hm : ∀ u, u ∈ names ↔ u ∈ names.take i ++ names.drop (i + 1) ∨ u = d := fun u => by
    constructor
    · intro h
      rw [es] at h
      rcases List.mem_append.mp h with h | h
      · exact .inl (List.mem_append_left _ h)
      · rcases List.mem_cons.mp h with h | h
        · exact .inr h
        · exact .inl (List.mem_append_right _ h)
    · rintro (h | h)
      · rcases List.mem_append.mp h with h | h
        · exact List.mem_of_mem_take h
        · exact List.mem_of_mem_drop h
      · rw [h]
        exact List.mem_of_getElem? hi
  have hlen : (names.take i ++ names.drop (i + 1)).length = names.length - 1 := by
    rw [List.length_append, List.length_take, List.length_drop]
    omega
  refine ⟨⟨List.nodup_append.mpr ⟨n1, n5, fun x hx y hy => n3 x hx y (List.mem_cons_of_mem _ hy)⟩, fun x hx => hok.ne x ((hm x).mpr (.inl hx)), by omega⟩, (hm d).mpr (.inr rfl), fun h => ?_, hm, by omega, by omega⟩
  rcases List.mem_append.mp h with h | h
  · exact n3 d h d List.mem_cons_self rfl
  · exact n4 h
theorem pk_swap {names : List Str} {k0 k1 d : Str} (h : Drop1 names [k0, k1] d) : Drop1 names [k1, k0] d := by
  have hm : ∀ u, u ∈ [k1, k0] ↔ u ∈ [k0, k1] := fun u => by simp [or_comm]
  have nd := h.ok.nd
  refine ⟨⟨?_, fun x hx => h.ok.ne x ((hm x).mp hx), by simp⟩, h.mem, fun q => h.no ((hm d).mp q), fun u => by rw [h.iff_ u, hm u], by simp, by simp⟩
  simp only [List.nodup_cons, List.mem_singleton, List.not_mem_nil, not_false_eq_true, List.nodup_nil, and_self, and_true] at nd ⊢
  exact fun z => nd z.symm
section
variable {P : Program} {w : World} {K : PySem.W.Frag} {mg : Str → Option Value} {base : Heap} {f C CN CR TB : Addr} {fd : FuncData} {k : Nat}
theorem law9 (G : Facts mg) (RC : RCls K CR) (hTB : ∀ H, SqT K H TB []) (SF : PySem.W.selfFirst K CR = true) (M_Region0 : MakK P w K mg base 6 "Region" CR (spRegion K CR C) 2 [] (gV0 TB)) (R_shadow : MetR P w K mg base 8 CR "shadow" (spShV CR C)) (O_invert : MetS P w K mg base 8 CR "__invert__" (spInv CR C)) (O_bool : MetS P w K mg base 1 CR "__bool__" (spBoolR CR C)) (O_contains : MetS P w K mg base 2 CR "__contains__" (spContains CR C)) (S_point : MetS P w K mg base 6 CR "point" (spPointR CR C))
    (O_or : MetS P w K mg base 8 CR "__or__" (spOr CR C)) (Pr_pieces : MetP P w K mg base 2 CR "pieces" (spPieces CR C)) (C_u_law_lack : Cal P w K mg base 2 "_law_lack" spLLack []) (C_u_law_draw : Cal P w K mg base 1 "_law_draw" (spDraw K) []) (C_u_law_point : Cal P w K mg base 2 "_law_point" (spLPoint K) []) (C_u_law_can : Cal P w K mg base 3 "_law_can" spLCan [])
    {f : Addr} {cdv : Value} {A : Around} {outer : List Env} {s : Shared} {H0 : Hp} {E : XK} (hr : Room 8 (A.deeper (envOfC "law" (defScope s_law) s.heap.objs.size f cdv))) :
    ∃ t, PSs (cxOf CX0 P w K mg base lawN "law" (defScope s_law) f cdv A outer s H0 E).nox ((defBody s_law).drop 9) t ∧
      ∀ (D : Ends) (H : Hp) (a nm b rg : Addr) (ns : List Int) (names : List Str) (Ss : List (List Df3)) (y3 y4 y6 y7 y8 y9 y10 y11 y12 y13 y14 : Option V), LC K CR C H a nm b rg ns names Ss → (∀ H', D.rt (.bl true) H') →
        t D [some (.ref a), some (.ref nm), some (.ref b), y3, y4, some (.ref rg), y6, y7, y8, y9, y10, y11, y12, y13, y14] H := by
  have hu := hu_of hr
  obtain ⟨t12, p12, h12⟩ := law12 (CR := CR) (C := C) (TB := TB) G RC hTB SF M_Region0 R_shadow O_invert O_bool O_contains S_point O_or Pr_pieces C_u_law_lack C_u_law_draw C_u_law_point C_u_law_can (outer := outer) (H0 := H0) (E := E) hr
  refine ⟨_, (pss_cons (ps_set (i := 10) sc_law.nd rfl (.inl rfl) (pe_c C_u_law_draw hr (by decide) (by rfl) (pa_cons (pv 0) (pa_cons pe_int (pa_cons (pe_callB (kLen K) (by rfl) G.len_ PySem.boot_len (pa_cons (pv 1) pa_nil)) pa_nil)))))
      (pss_cons (ps_set (i := 11) sc_law.nd rfl (.inl rfl) (pe_callTy (kList K) (by rfl) G.list_ (by decide +kernel) (pa_cons (pe_op kCatT (pe_slice kSlT (pv 1) po_none (po_some (pv 10))) (pe_slice kSlT (pv 1) (po_some (pe_op op_add (pv 10) pe_int)) po_none)) pa_nil)))
      (pss_cons (ps_if (PW.pt (pw_and (pt_cmpR op_eq (pe_callB (kLen K) (by rfl) G.len_ PySem.boot_len (pa_cons (pv 11) pa_nil)) pe_int (nomark _)) (pw_and1 (pt_cmpR op_eq (pe_c C_u_law_draw hr (by decide) (by rfl) (pa_cons (pv 0) (pa_cons pe_int (pa_cons pe_int pa_nil)))) pe_int (nomark _))))) (pss_one (ps_set (i := 11) sc_law.nd rfl (.inl rfl) (pe_lst (pa_cons (pe_ix (kIxL K) (pv 11) pe_int (fun _ _ => rfl)) (pa_cons (pe_ix (kIxL K) (pv 11) pe_int (fun _ _ => rfl)) pa_nil))))) pss_nil)
      p12))), ?_⟩
  intro D H a nm b rg ns names Ss y3 y4 y6 y7 y8 y9 y10 y11 y12 y13 y14 c hD
  have hl2 := c.l2
  have hl3 := c.l3
  refine ⟨_, rfl, _, rfl, nm, _, rfl, .inr (sqt c.hnm), a, ns, _, _, rfl, c.scr, by rw [List.length_map]; omega, fun H1 e s1 e0 e1 => ?_⟩
  rw [List.length_map] at e1
  obtain ⟨i, rfl, hi⟩ : ∃ i : Nat, e = (i : Int) ∧ i < names.length := ⟨e.toNat, by omega, by omega⟩
  have hid := List.getElem?_eq_getElem hi
  have pk := pk_of c.ok hl2 hl3 hid
  have cc := c.mono s1
  -- the names that are left
  refine ⟨_, rfl, _, rfl, _, rfl, nm, _, rfl, cc.hnm, fun H2 p1 s2 _ hp1 => ?_⟩
  rw [cut_names names i (by omega)] at hp1
  refine ⟨_, rfl, _, rfl, _, _, rfl, rfl, _, rfl, nm, _, rfl, s2 _ _ cc.hnm, fun H3 p2 s3 _ hp2 => ?_⟩
  rw [cut_drop names _ (by omega)] at hp2
  rw [show ((i : Int) + 1).toNat = i + 1 by omega] at hp2
  rw [show ((i : Int)).toNat = i by omega] at hp1
  refine ⟨p1, p2, _, _, rfl, rfl, s3 _ _ hp1, hp2, szl (by rw [List.length_map, List.length_map, List.length_take, List.length_drop]; omega), fun H4 p3 s4 _ hp3 => ?_⟩
  rw [← List.map_append] at hp3
  refine ⟨p3, _, rfl, .inr (sqt hp3), fun rs nrs => ?_⟩
  have s5 := s2.trans (s3.trans (s4.trans (same_upd nrs (o := .lst ((names.take i ++ names.drop (i + 1)).map V.str)))))
  have hrs : (upd H4 rs (.lst ((names.take i ++ names.drop (i + 1)).map V.str))) rs = some (.lst ((names.take i ++ names.drop (i + 1)).map V.str)) := upd_same
  generalize upd H4 rs (.lst ((names.take i ++ names.drop (i + 1)).map V.str)) = H5 at s5 hrs ⊢
  generalize names.take i ++ names.drop (i + 1) = ks at pk hrs
  have cc := cc.mono s5
  have l1 := pk.l1
  have l2 := pk.l2
  refine ⟨_, rfl, rs, _, rfl, .inl (sq hrs), rfl, _, rfl, ?_⟩
  rw [List.length_map]
  match hks : ks, l1, l2 with
  | [k0], _, _ => exact iteF (iteF (h12 D H5 a nm b rg rs i _ ns names [k0] Ss _ _ _ _ _ _ _ _ _ cc pk hid hrs hD))
  | [k0, k1], _, _ =>
    refine iteT ?_
    refine ⟨_, rfl, a, ns, _, 2, rfl, cc.scr, by decide, fun H6 g s6 g0 g1 => ?_⟩
    refine ⟨rfl, _, rfl, ?_⟩
    have cc6 := cc.mono s6
    by_cases hg : g = 1
    · rw [decide_eq_true (show V.int g = V.int 1 by rw [hg])]
      refine iteT ?_
      refine ⟨_, rfl, rs, _, _, _, rfl, rfl, sq (s6 _ _ hrs), atI_nat (j := 1) rfl, _, rfl, rs, _, _, _, rfl, rfl, sq (s6 _ _ hrs), atI_nat (j := 0) rfl, by show 2 ≤ sizeLine; decide, fun r2 n2 => ?_⟩
      have s7 := same_upd n2 (o := .lst [V.str k1, .str k0])
      exact h12 D _ a nm b rg r2 i _ ns names [k1, k0] Ss _ _ _ _ _ _ _ _ _ (cc6.mono s7) (pk_swap pk) hid upd_same hD
    · rw [decide_eq_false (show ¬ V.int g = V.int 1 from fun z => hg (by injection z))]
      exact iteF (h12 D H6 a nm b rg rs i _ ns names [k0, k1] Ss _ _ _ _ _ _ _ _ _ cc6 pk hid (s6 _ _ hrs) hD)
end
end K1

namespace K1
open PySem PySem.Spec PyProof.Rows L2 Ls
/-- the other region -/
structure LC2 (CR C : Addr) (H : Hp) (b rg : Addr) (names : List Str) (Ss : List (List Df3)) : Prop where
  e1 : SysLs H b Ss
  d1 : ∀ S ∈ Ss, DrawnS names S ∧ S.length ≤ 4
  n1 : Ss.length ≤ 4
  r1 : RegAt CR C H rg names (tabsOf Ss)
theorem LC2.mono {CR C : Addr} {H H' : Hp} (s : Same H H') {b rg : Addr} {names : List Str} {Ss : List (List Df3)} (h : LC2 CR C H b rg names Ss) : LC2 CR C H' b rg names Ss := ⟨h.e1.mono s, h.d1, h.n1, h.r1.mono s⟩
theorem LC2.dr {CR C : Addr} {H : Hp} {b rg : Addr} {names : List Str} {Ss : List (List Df3)} (h : LC2 CR C H b rg names Ss) : Dr names Ss := fun S hS => (h.d1 S hS).1.sys (by have := (h.d1 S hS).2; omega)
theorem LC2.tl {CR C : Addr} {H : Hp} {b rg : Addr} {names : List Str} {Ss : List (List Df3)} (h : LC2 CR C H b rg names Ss) : (tabsOf Ss).length ≤ 4 := by have := tabsOf_len Ss; have := h.n1; omega
def Cov (A B : List (List Df3)) : Prop := ∀ p, (∃ S ∈ A, Df.Solves S p) → ∃ O ∈ B, Df.Solves O p
section
variable {P : Program} {w : World} {K : PySem.W.Frag} {mg : Str → Option Value} {base : Heap} {f C CN CR TB : Addr} {fd : FuncData} {k : Nat}
theorem law8 (G : Facts mg) (RC : RCls K CR) (hTB : ∀ H, SqT K H TB []) (SF : PySem.W.selfFirst K CR = true) (M_Region0 : MakK P w K mg base 6 "Region" CR (spRegion K CR C) 2 [] (gV0 TB)) (R_shadow : MetR P w K mg base 8 CR "shadow" (spShV CR C)) (O_invert : MetS P w K mg base 8 CR "__invert__" (spInv CR C)) (O_bool : MetS P w K mg base 1 CR "__bool__" (spBoolR CR C)) (O_contains : MetS P w K mg base 2 CR "__contains__" (spContains CR C)) (S_point : MetS P w K mg base 6 CR "point" (spPointR CR C))
    (O_or : MetS P w K mg base 8 CR "__or__" (spOr CR C)) (Pr_pieces : MetP P w K mg base 2 CR "pieces" (spPieces CR C)) (C_u_law_lack : Cal P w K mg base 2 "_law_lack" spLLack []) (C_u_law_draw : Cal P w K mg base 1 "_law_draw" (spDraw K) []) (C_u_law_point : Cal P w K mg base 2 "_law_point" (spLPoint K) []) (C_u_law_can : Cal P w K mg base 3 "_law_can" spLCan []) (C_u_law_inside : Cal P w K mg base 3 "_law_inside" spLInside []) (R_within : MetR P w K mg base 7 CR "within" (spWithin CR C)) (R_same : MetR P w K mg base 8 CR "same" (spSame CR C)) (O_sub : MetS P w K mg base 8 CR "__sub__" (spSub CR C))
    {f : Addr} {cdv : Value} {A : Around} {outer : List Env} {s : Shared} {H0 : Hp} {E : XK} (hr : Room 8 (A.deeper (envOfC "law" (defScope s_law) s.heap.objs.size f cdv))) :
    ∃ t, PSs (cxOf CX0 P w K mg base lawN "law" (defScope s_law) f cdv A outer s H0 E).nox ((defBody s_law).drop 8) t ∧
      ∀ (D : Ends) (H : Hp) (a nm b b3 rg : Addr) (due : Bool) (v9 : V) (ns : List Int) (names : List Str) (Ss Ss3 : List (List Df3)) (y4 y6 y8 y10 y11 y12 y13 y14 : Option V), LC K CR C H a nm b rg ns names Ss → SysLs H b3 Ss3 → (∀ S ∈ Ss3, DrawnS names S ∧ S.length ≤ 4) → Ss3.length ≤ 4 →
        (due = true ∨ ∃ d x, v9 = .ref d ∧ H d = some (.dK (ptV names x)) ∧ (∃ S ∈ Ss, Df.Solves S (Df.pt0 ("0" : Str) x)) ∧ ¬ ∃ S ∈ Ss3, Df.Solves S (Df.pt0 ("0" : Str) x)) → (∀ H', D.rt (.bl true) H') →
        t D [some (.ref a), some (.ref nm), some (.ref b), some (.ref b3), y4, some (.ref rg), y6, some (.bl due), y8, some v9, y10, y11, y12, y13, y14] H := by
  have hu := hu_of hr
  obtain ⟨t9, p9, h9⟩ := law9 (CR := CR) (C := C) (TB := TB) G RC hTB SF M_Region0 R_shadow O_invert O_bool O_contains S_point O_or Pr_pieces C_u_law_lack C_u_law_draw C_u_law_point C_u_law_can (outer := outer) (H0 := H0) (E := E) hr
  refine ⟨_, (pss_cons (ps_if (PW.pt (pw_and (pt_not (pt_val (pv 7))) (pw_and1 (PW.pt (pw_or (pt_not (pt_val (pe_c C_u_law_inside hr (by decide) (by rfl) (pa_cons (pv 2) (pa_cons (pv 9) pa_nil))))) (pw_or1 (pt_val (pe_c C_u_law_inside hr (by decide) (by rfl) (pa_cons (pv 3) (pa_cons (pv 9) pa_nil)))))))))) (pss_one (ps_ret pe_bl)) pss_nil)
      p9), ?_⟩
  intro D H a nm b b3 rg due v9 ns names Ss Ss3 y4 y6 y8 y10 y11 y12 y13 y14 c e3 d3 n3 hv hD
  rcases hv with rfl | ⟨d, x, rfl, hd, hin, hno⟩
  · refine ⟨_, rfl, _, rfl, iteF (iteF ?_)⟩
    exact h9 D H a nm b rg ns names Ss _ _ _ _ _ _ _ _ _ _ _ c hD
  · cases due with
    | true =>
      refine ⟨_, rfl, _, rfl, iteF (iteF ?_)⟩
      exact h9 D H a nm b rg ns names Ss _ _ _ _ _ _ _ _ _ _ _ c hD
    | false =>
      refine ⟨_, rfl, _, rfl, iteT ?_⟩
      refine ⟨_, rfl, _, rfl, b, d, Ss, names, x, rfl, c.e1, hd, fun S hS e he => ⟨((c.d1 S hS).1.ends e he).1, ((c.d1 S hS).1.ends e he).2.1⟩, by have := c.n1; omega, fun H1 b1 s1 hb1 => ?_⟩
      have : b1 = true := hb1.mpr hin
      subst this
      refine ⟨_, rfl, iteF ?_⟩
      refine ⟨_, rfl, _, rfl, b3, d, Ss3, names, x, rfl, e3.mono s1, s1 _ _ hd, fun S hS e he => ⟨((d3 S hS).1.ends e he).1, ((d3 S hS).1.ends e he).2.1⟩, by omega, fun H2 b2 s2 hb2 => ?_⟩
      have : b2 = false := by
        cases b2 with
        | false => rfl
        | true => exact absurd (hb2.mp rfl) hno
      subst this
      refine ⟨_, rfl, iteF ?_⟩
      exact h9 D H2 a nm b rg ns names Ss _ _ _ _ _ _ _ _ _ _ _ (c.mono (s1.trans s2)) hD
theorem law7 (G : Facts mg) (RC : RCls K CR) (hTB : ∀ H, SqT K H TB []) (SF : PySem.W.selfFirst K CR = true) (M_Region0 : MakK P w K mg base 6 "Region" CR (spRegion K CR C) 2 [] (gV0 TB)) (R_shadow : MetR P w K mg base 8 CR "shadow" (spShV CR C)) (O_invert : MetS P w K mg base 8 CR "__invert__" (spInv CR C)) (O_bool : MetS P w K mg base 1 CR "__bool__" (spBoolR CR C)) (O_contains : MetS P w K mg base 2 CR "__contains__" (spContains CR C)) (S_point : MetS P w K mg base 6 CR "point" (spPointR CR C))
    (O_or : MetS P w K mg base 8 CR "__or__" (spOr CR C)) (Pr_pieces : MetP P w K mg base 2 CR "pieces" (spPieces CR C)) (C_u_law_lack : Cal P w K mg base 2 "_law_lack" spLLack []) (C_u_law_draw : Cal P w K mg base 1 "_law_draw" (spDraw K) []) (C_u_law_point : Cal P w K mg base 2 "_law_point" (spLPoint K) []) (C_u_law_can : Cal P w K mg base 3 "_law_can" spLCan []) (C_u_law_inside : Cal P w K mg base 3 "_law_inside" spLInside []) (R_within : MetR P w K mg base 7 CR "within" (spWithin CR C)) (R_same : MetR P w K mg base 8 CR "same" (spSame CR C)) (O_sub : MetS P w K mg base 8 CR "__sub__" (spSub CR C))
    {f : Addr} {cdv : Value} {A : Around} {outer : List Env} {s : Shared} {H0 : Hp} {E : XK} (hr : Room 8 (A.deeper (envOfC "law" (defScope s_law) s.heap.objs.size f cdv))) :
    ∃ t, PSs (cxOf CX0 P w K mg base lawN "law" (defScope s_law) f cdv A outer s H0 E).nox ((defBody s_law).drop 7) t ∧
      ∀ (D : Ends) (H : Hp) (a nm b b3 rg rg2 : Addr) (due : Bool) (ns : List Int) (names : List Str) (Ss Ss3 : List (List Df3)) (y4 y8 y9 y10 y11 y12 y13 y14 : Option V), LC K CR C H a nm b rg ns names Ss → LC2 CR C H b3 rg2 names Ss3 → (due = true ↔ Cov Ss Ss3) → (∀ H', D.rt (.bl true) H') →
        t D [some (.ref a), some (.ref nm), some (.ref b), some (.ref b3), y4, some (.ref rg), some (.ref rg2), some (.bl due), y8, y9, y10, y11, y12, y13, y14] H := by
  have hu := hu_of hr
  obtain ⟨t8, p8, h8⟩ := law8 (CR := CR) (C := C) (TB := TB) G RC hTB SF M_Region0 R_shadow O_invert O_bool O_contains S_point O_or Pr_pieces C_u_law_lack C_u_law_draw C_u_law_point C_u_law_can C_u_law_inside R_within R_same O_sub (outer := outer) (H0 := H0) (E := E) hr
  refine ⟨_, (pss_cons (ps_set (i := 9) sc_law.nd rfl (.inl rfl) (pe_ms0 S_point hr (by decide) (pe_op (kBinOwn O_sub SF rfl hr (by decide)) (pv 5) (pv 6))))
      p8), ?_⟩
  intro D H a nm b b3 rg rg2 due ns names Ss Ss3 y4 y8 y9 y10 y11 y12 y13 y14 c c2 hdue hD
  obtain ⟨dx, nm0, tl, hrr, _, _⟩ := c.r1
  obtain ⟨dx2, nm2, tl2, hrr2, _, _⟩ := c2.r1
  refine ⟨_, rfl, _, rfl, rg, rg2, dx, _, dx2, _, rfl, rfl, hrr, hrr2, rg, rg2, names, _, _, rfl, c.r1, c2.r1, c.ok, c.l3, c.str, c.tl, c2.tl, fun R hR u hu => c2.dr.diag c.l3 R hR u hu, fun H1 r1 Ts s1 hL hR1 => ⟨r1, rfl, ?_⟩⟩
  obtain ⟨hnil, hgd, hin⟩ := left_nil c.ok.znd c.l3 c.dr c2.dr c2.n1 hL
  have q1 := hR1
  obtain ⟨dx3, nm3, tl3, hrr3, _, _⟩ := q1
  refine ⟨r1, dx3, _, rfl, hrr3, rflds_no nm3 tl3 rfl rfl, r1, names, Ts, rfl, hR1, c.ok, ?_⟩
  have cc := c.mono s1
  have cc2 := c2.mono s1
  cases eT : Ts with
  | nil => exact .inl ⟨rfl, h8 D H1 a nm b b3 rg due _ ns names Ss Ss3 _ _ _ _ _ _ _ _ cc cc2.e1 cc2.d1 cc2.n1 (.inl (hdue.mpr (hnil.mp eT))) hD⟩
  | cons R Rt =>
    have hR : R ∈ Ts := by rw [eT]; exact List.mem_cons_self
    obtain ⟨R', x', e1, hi, hx⟩ := pts_in c.ok.znd c.l3 (by decide) (hgd R hR)
    obtain ⟨i1, i2⟩ := (hin _).mp ⟨R, hR, hi⟩
    refine .inr ⟨R, Rt, R', x', rfl, e1, fun H2 d s2 hd => ?_⟩
    exact h8 D H2 a nm b b3 rg due _ ns names Ss Ss3 _ _ _ _ _ _ _ _ (cc.mono s2) (cc2.mono s2).e1 cc2.d1 cc2.n1 (.inr ⟨d, x', rfl, hd, i1, i2⟩) hD
theorem law6 (G : Facts mg) (RC : RCls K CR) (hTB : ∀ H, SqT K H TB []) (SF : PySem.W.selfFirst K CR = true) (M_Region0 : MakK P w K mg base 6 "Region" CR (spRegion K CR C) 2 [] (gV0 TB)) (R_shadow : MetR P w K mg base 8 CR "shadow" (spShV CR C)) (O_invert : MetS P w K mg base 8 CR "__invert__" (spInv CR C)) (O_bool : MetS P w K mg base 1 CR "__bool__" (spBoolR CR C)) (O_contains : MetS P w K mg base 2 CR "__contains__" (spContains CR C)) (S_point : MetS P w K mg base 6 CR "point" (spPointR CR C))
    (O_or : MetS P w K mg base 8 CR "__or__" (spOr CR C)) (Pr_pieces : MetP P w K mg base 2 CR "pieces" (spPieces CR C)) (C_u_law_lack : Cal P w K mg base 2 "_law_lack" spLLack []) (C_u_law_draw : Cal P w K mg base 1 "_law_draw" (spDraw K) []) (C_u_law_point : Cal P w K mg base 2 "_law_point" (spLPoint K) []) (C_u_law_can : Cal P w K mg base 3 "_law_can" spLCan []) (C_u_law_inside : Cal P w K mg base 3 "_law_inside" spLInside []) (R_within : MetR P w K mg base 7 CR "within" (spWithin CR C)) (R_same : MetR P w K mg base 8 CR "same" (spSame CR C)) (O_sub : MetS P w K mg base 8 CR "__sub__" (spSub CR C))
    {f : Addr} {cdv : Value} {A : Around} {outer : List Env} {s : Shared} {H0 : Hp} {E : XK} (hr : Room 8 (A.deeper (envOfC "law" (defScope s_law) s.heap.objs.size f cdv))) :
    ∃ t, PSs (cxOf CX0 P w K mg base lawN "law" (defScope s_law) f cdv A outer s H0 E).nox ((defBody s_law).drop 6) t ∧
      ∀ (D : Ends) (H : Hp) (a nm b b3 rg rg2 : Addr) (due back : Bool) (ns : List Int) (names : List Str) (Ss Ss3 : List (List Df3)) (y4 y9 y10 y11 y12 y13 y14 : Option V), LC K CR C H a nm b rg ns names Ss → LC2 CR C H b3 rg2 names Ss3 → (due = true ↔ Cov Ss Ss3) → (back = true ↔ Cov Ss3 Ss) → (∀ H', D.rt (.bl true) H') →
        t D [some (.ref a), some (.ref nm), some (.ref b), some (.ref b3), y4, some (.ref rg), some (.ref rg2), some (.bl due), some (.bl back), y9, y10, y11, y12, y13, y14] H := by
  have hu := hu_of hr
  obtain ⟨t7, p7, h7⟩ := law7 (CR := CR) (C := C) (TB := TB) G RC hTB SF M_Region0 R_shadow O_invert O_bool O_contains S_point O_or Pr_pieces C_u_law_lack C_u_law_draw C_u_law_point C_u_law_can C_u_law_inside R_within R_same O_sub (outer := outer) (H0 := H0) (E := E) hr
  refine ⟨_, (pss_cons (ps_if (PW.pt (pw_or (pt_cmpR op_ne (pe_callTy (kBoolOwn O_bool hr (by decide)) (by rfl) G.bool_ (by decide +kernel) (pa_cons (pe_op (kBinOwn O_sub SF rfl hr (by decide)) (pv 5) (pv 6)) pa_nil)) (pe_not (pv 7)) (nomark _)) (pw_or1 (pt_cmpR op_ne (pe_mr R_same hr (by decide) (pv 6) (pa_cons (pv 5) pa_nil)) (pe_and (pv 7) (pe_one (pv 8))) (nomark _))))) (pss_one (ps_ret pe_bl)) pss_nil)
      p7), ?_⟩
  intro D H a nm b b3 rg rg2 due back ns names Ss Ss3 y4 y9 y10 y11 y12 y13 y14 c c2 hdue hback hD
  have n3 : Ss.length ≤ 4 := by have := c.n1; omega
  obtain ⟨dx, nm0, tl, hrr, _, _⟩ := c.r1
  obtain ⟨dx2, nm2, tl2, hrr2, _, _⟩ := c2.r1
  refine ⟨_, rfl, _, rfl, rg, rg2, dx, _, dx2, _, rfl, rfl, hrr, hrr2, rg, rg2, names, _, _, rfl, c.r1, c2.r1, c.ok, c.l3, c.str, c.tl, c2.tl, fun R hR u hu => c2.dr.diag c.l3 R hR u hu, fun H1 r1 Ts s1 hL hR1 => ⟨r1, rfl, ?_⟩⟩
  have hnil := (left_nil c.ok.znd c.l3 c.dr c2.dr c2.n1 hL).1
  have q1 := hR1
  obtain ⟨dx3, nm3, tl3, hrr3, _, _⟩ := q1
  refine ⟨r1, dx3, _, rfl, hrr3, r1, names, Ts, rfl, hR1, _, rfl, _, rfl, due, rfl, rfl, _, rfl, ?_⟩
  rw [isE hnil hdue, decide_eq_true rfl]
  refine iteF ?_
  have cc := c.mono s1
  have cc2 := c2.mono s1
  have hb : ∀ {T1 T2 : List (Df.Tab Str)} {bb : Bool}, Df.LeftR (("0" : Str) :: names) (tabsOf Ss3) (tabsOf Ss) T1 → ((T1 ≠ [] ∧ bb = false) ∨ (T1 = [] ∧ ∃ T2, Df.LeftR (("0" : Str) :: names) (tabsOf Ss) (tabsOf Ss3) T2 ∧ bb = T2.isEmpty)) → bb = (due && back) := fun {T1 T2 bb} hL1 h => by
    have e1 := isE (left_nil c.ok.znd c.l3 c2.dr c.dr n3 hL1).1 hback
    rcases h with ⟨h1, rfl⟩ | ⟨rfl, T2, hL2, rfl⟩
    · cases T1 with
      | nil => exact absurd rfl h1
      | cons x r => rw [← e1]; simp
    · rw [isE (left_nil c.ok.znd c.l3 c.dr c2.dr c2.n1 hL2).1 hdue, ← e1]; simp
  refine ⟨_, rfl, rg2, dx2, _, rfl, s1 _ _ hrr2, rflds_no nm2 tl2 rfl rfl, _, rfl, rg2, rg, names, _, _, rfl, cc2.r1, cc.r1, c.ok, c.l3, c.str, c2.tl, c.tl, fun R hR u hu => c2.dr.diag c.l3 R hR u hu, fun R hR u hu => c.dr.diag c.l3 R hR u hu, fun H2 bb s2 ⟨T1, hL1, h⟩ => ?_⟩
  have hbb := hb (T2 := []) hL1 h
  have fin := h7 D H2 a nm b b3 rg rg2 due ns names Ss Ss3 y4 (some (.bl back)) y9 y10 y11 y12 y13 y14 (cc.mono s2) (cc2.mono s2) hdue hD
  subst hbb
  cases due with
  | false => exact ⟨_, rfl, _, rfl, iteF ⟨rfl, _, rfl, iteF fin⟩⟩
  | true => 
    refine ⟨_, rfl, _, rfl, iteT ⟨_, rfl, rfl, _, rfl, ?_⟩⟩
    rw [Bool.true_and, decide_eq_true rfl]
    exact iteF fin
theorem law5 (G : Facts mg) (RC : RCls K CR) (hTB : ∀ H, SqT K H TB []) (SF : PySem.W.selfFirst K CR = true) (M_Region0 : MakK P w K mg base 6 "Region" CR (spRegion K CR C) 2 [] (gV0 TB)) (R_shadow : MetR P w K mg base 8 CR "shadow" (spShV CR C)) (O_invert : MetS P w K mg base 8 CR "__invert__" (spInv CR C)) (O_bool : MetS P w K mg base 1 CR "__bool__" (spBoolR CR C)) (O_contains : MetS P w K mg base 2 CR "__contains__" (spContains CR C)) (S_point : MetS P w K mg base 6 CR "point" (spPointR CR C))
    (O_or : MetS P w K mg base 8 CR "__or__" (spOr CR C)) (Pr_pieces : MetP P w K mg base 2 CR "pieces" (spPieces CR C)) (C_u_law_lack : Cal P w K mg base 2 "_law_lack" spLLack []) (C_u_law_draw : Cal P w K mg base 1 "_law_draw" (spDraw K) []) (C_u_law_point : Cal P w K mg base 2 "_law_point" (spLPoint K) []) (C_u_law_can : Cal P w K mg base 3 "_law_can" spLCan []) (C_u_law_inside : Cal P w K mg base 3 "_law_inside" spLInside []) (R_within : MetR P w K mg base 7 CR "within" (spWithin CR C)) (R_same : MetR P w K mg base 8 CR "same" (spSame CR C)) (O_sub : MetS P w K mg base 8 CR "__sub__" (spSub CR C))
    {f : Addr} {cdv : Value} {A : Around} {outer : List Env} {s : Shared} {H0 : Hp} {E : XK} (hr : Room 8 (A.deeper (envOfC "law" (defScope s_law) s.heap.objs.size f cdv))) :
    ∃ t, PSs (cxOf CX0 P w K mg base lawN "law" (defScope s_law) f cdv A outer s H0 E).nox ((defBody s_law).drop 5) t ∧
      ∀ (D : Ends) (H : Hp) (a nm b b3 rg rg2 : Addr) (due back : Bool) (ns : List Int) (names : List Str) (Ss Ss3 : List (List Df3)) (y4 y9 y10 y11 y12 y13 y14 : Option V), LC K CR C H a nm b rg ns names Ss → LC2 CR C H b3 rg2 names Ss3 → (due = true ↔ Cov Ss Ss3) → (back = true ↔ Cov Ss3 Ss) → (∀ H', D.rt (.bl true) H') →
        t D [some (.ref a), some (.ref nm), some (.ref b), some (.ref b3), y4, some (.ref rg), some (.ref rg2), some (.bl due), some (.bl back), y9, y10, y11, y12, y13, y14] H := by
  have hu := hu_of hr
  obtain ⟨t6, p6, h6⟩ := law6 (CR := CR) (C := C) (TB := TB) G RC hTB SF M_Region0 R_shadow O_invert O_bool O_contains S_point O_or Pr_pieces C_u_law_lack C_u_law_draw C_u_law_point C_u_law_can C_u_law_inside R_within R_same O_sub (outer := outer) (H0 := H0) (E := E) hr
  refine ⟨_, (pss_cons (ps_if (PW.pt (pw_or (pt_cmpR op_ne (pe_mr R_within hr (by decide) (pv 5) (pa_cons (pv 6) pa_nil)) (pv 7) (nomark _)) (pw_or (pt_cmpR op_ne (pe_mr R_within hr (by decide) (pv 6) (pa_cons (pv 5) pa_nil)) (pv 8) (nomark _)) (pw_or1 (pt_cmpR op_ne (pe_mr R_same hr (by decide) (pv 5) (pa_cons (pv 6) pa_nil)) (pe_and (pv 7) (pe_one (pv 8))) (nomark _)))))) (pss_one (ps_ret pe_bl)) pss_nil)
      p6), ?_⟩
  intro D H a nm b b3 rg rg2 due back ns names Ss Ss3 y4 y9 y10 y11 y12 y13 y14 c c2 hdue hback hD
  have n3 : Ss.length ≤ 4 := by have := c.n1; omega
  obtain ⟨dx, nm0, tl, hrr, _, _⟩ := c.r1
  obtain ⟨dx2, nm2, tl2, hrr2, _, _⟩ := c2.r1
  refine ⟨_, rfl, rg, dx, _, rfl, hrr, rflds_no nm0 tl rfl rfl, _, rfl, rg, rg2, names, _, _, rfl, c.r1, c2.r1, c.ok, c.l3, c.str, c.tl, c2.tl, fun R hR u hu => c2.dr.diag c.l3 R hR u hu, fun H1 T1 s1 hL1 => ?_⟩
  refine ⟨_, rfl, rfl, _, rfl, ?_⟩
  rw [isE (left_nil c.ok.znd c.l3 c.dr c2.dr c2.n1 hL1).1 hdue, decide_eq_true rfl]
  refine iteF ?_
  have cc := c.mono s1
  have cc2 := c2.mono s1
  refine ⟨_, rfl, rg2, dx2, _, rfl, s1 _ _ hrr2, rflds_no nm2 tl2 rfl rfl, _, rfl, rg2, rg, names, _, _, rfl, cc2.r1, cc.r1, c.ok, c.l3, c.str, c2.tl, c.tl, fun R hR u hu => c.dr.diag c.l3 R hR u hu, fun H2 T2 s2 hL2 => ?_⟩
  refine ⟨_, rfl, rfl, _, rfl, ?_⟩
  rw [isE (left_nil c.ok.znd c.l3 c2.dr c.dr n3 hL2).1 hback, decide_eq_true rfl]
  refine iteF ?_
  have s12 := s1.trans s2
  have cc := c.mono s12
  have cc2 := c2.mono s12
  refine ⟨_, rfl, rg, dx, _, rfl, s12 _ _ hrr, rflds_no nm0 tl rfl rfl, _, rfl, rg, rg2, names, _, _, rfl, cc.r1, cc2.r1, c.ok, c.l3, c.str, c.tl, c2.tl, fun R hR u hu => c.dr.diag c.l3 R hR u hu, fun R hR u hu => c2.dr.diag c.l3 R hR u hu, fun H3 bb s3 ⟨T1, hL1, h⟩ => ?_⟩
  have hbb : bb = (due && back) := by
    have e1 := isE (left_nil c.ok.znd c.l3 c.dr c2.dr c2.n1 hL1).1 hdue
    rcases h with ⟨h1, rfl⟩ | ⟨rfl, T2, hL2, rfl⟩
    · cases T1 with
      | nil => exact absurd rfl h1
      | cons x r => rw [← e1]; simp
    · rw [isE (left_nil c.ok.znd c.l3 c2.dr c.dr n3 hL2).1 hback, ← e1]; simp
  have fin := h6 D H3 a nm b b3 rg rg2 due back ns names Ss Ss3 y4 y9 y10 y11 y12 y13 y14 (cc.mono s3) (cc2.mono s3) hdue hback hD
  subst hbb
  cases due with
  | false => exact ⟨_, rfl, _, rfl, iteF ⟨rfl, _, rfl, iteF fin⟩⟩
  | true => 
    refine ⟨_, rfl, _, rfl, iteT ⟨_, rfl, rfl, _, rfl, ?_⟩⟩
    rw [Bool.true_and, decide_eq_true rfl]
    exact iteF fin
end
end K1

namespace K1
open PySem PySem.Spec PyProof.Rows L2 Ls
/-- what is behind a branch, proved once -/
theorem share {D : Ends} {T : Ends → Prop} (R : L2.St → Hp → Prop) (h1 : ∀ σ H, R σ H → D.nx σ H) (h2 : (∀ σ H, R σ H → D.nx σ H) → T D) : T D := h2 h1
section
variable {P : Program} {w : World} {K : PySem.W.Frag} {mg : Str → Option Value} {base : Heap} {f C CN CR TB : Addr} {fd : FuncData} {k : Nat}
theorem ok_law (F : FnP K "law" s_law [] f fd) (G : Facts mg) (RC : RCls K CR) (hTB : ∀ H, SqT K H TB []) (SF : PySem.W.selfFirst K CR = true) (M_Region0 : MakK P w K mg base 6 "Region" CR (spRegion K CR C) 2 [] (gV0 TB))
    (R_within : MetR P w K mg base 7 CR "within" (spWithin CR C)) (R_same : MetR P w K mg base 8 CR "same" (spSame CR C)) (R_shadow : MetR P w K mg base 8 CR "shadow" (spShV CR C))
    (O_sub : MetS P w K mg base 8 CR "__sub__" (spSub CR C)) (O_or : MetS P w K mg base 8 CR "__or__" (spOr CR C)) (O_invert : MetS P w K mg base 8 CR "__invert__" (spInv CR C)) (O_bool : MetS P w K mg base 1 CR "__bool__" (spBoolR CR C)) (O_contains : MetS P w K mg base 2 CR "__contains__" (spContains CR C)) (S_point : MetS P w K mg base 6 CR "point" (spPointR CR C)) (Pr_pieces : MetP P w K mg base 2 CR "pieces" (spPieces CR C))
    (C_u_law_draw : Cal P w K mg base 1 "_law_draw" (spDraw K) []) (C_u_law_pool : Cal P w K mg base 2 "_law_pool" (spPool K) []) (C_u_law_parts : Cal P w K mg base 3 "_law_parts" (spParts K) []) (C_u_law_inside : Cal P w K mg base 3 "_law_inside" spLInside []) (C_u_law_point : Cal P w K mg base 2 "_law_point" (spLPoint K) []) (C_u_law_lack : Cal P w K mg base 2 "_law_lack" spLLack []) (C_u_law_can : Cal P w K mg base 3 "_law_can" spLCan []) :
    FnOk P w K mg base CX0 9 f fd ["script"] (spLaw K) := by
  refine F.ok sc_law (fun vs H Q E h => ?_) (fun cdv A outer s H vs Q E hr h => ?_)
  · obtain ⟨a, ns, rfl, _⟩ := h
    rfl
  · obtain ⟨a, ns, rfl, hS, hk⟩ := h
    have hu := hu_of hr
    obtain ⟨t5, p5, h5⟩ := law5 (CR := CR) (C := C) (TB := TB) G RC hTB SF M_Region0 R_shadow O_invert O_bool O_contains S_point O_or Pr_pieces C_u_law_lack C_u_law_draw C_u_law_point C_u_law_can C_u_law_inside R_within R_same O_sub (cdv := cdv) (outer := outer) (H0 := H) (E := E) hr
    refine ⟨_, PSs.nox (pss_cons (ps_set (i := 1) sc_law.nd rfl (.inl rfl) (pe_slice kSlT (pe_c C_u_law_pool hr (by decide) (by rfl) (pa_cons (pv 0) (pa_cons pe_int pa_nil))) po_none (po_some (pe_op op_add pe_int (pe_c C_u_law_draw hr (by decide) (by rfl) (pa_cons (pv 0) (pa_cons pe_int (pa_cons pe_int pa_nil))))))))
      (pss_cons (ps_par (i := 2) (j := 3) (by rfl) sc_law.nd rfl rfl (by decide) rfl rfl (pa_cons (pe_c C_u_law_parts hr (by decide) (by rfl) (pa_cons (pv 0) (pa_cons pe_int (pa_cons (pv 1) (pa_cons pe_int pa_nil))))) (pa_cons (pe_c C_u_law_parts hr (by decide) (by rfl) (pa_cons (pv 0) (pa_cons pe_int (pa_cons (pv 1) (pa_cons pe_int pa_nil))))) pa_nil)) (by rfl))
      (pss_cons (ps_if (PW.pt (pw_and (pt_cmpR op_eq (pe_c C_u_law_draw hr (by decide) (by rfl) (pa_cons (pv 0) (pa_cons pe_int (pa_cons pe_int pa_nil)))) pe_int (nomark _)) (pw_and1 (pt_cmpR (kNeD K hr.units) (pv 2) (pe_lst pa_nil) (nomark _))))) (pss_one (ps_set (i := 3) sc_law.nd rfl (.inl rfl) (pe_op op_cat (pv 3) (pe_lc (own := [("system", 4)]) (g := gName 4) (tt := tYes) rfl sc_law.nd  (kpi_list K (pe_slice (kSlL K) (pv 2) po_none (po_some pe_int))) (blkOk_by (by kernel_rfl)) (fun _ _ _ _ _ => (pg_name (i := 4) sc_law.nd rfl (by first | exact .inl rfl | exact .inr rfl))) (fun _ _ _ _ _ => pts_nil) (fun _ _ _ _ _ => (pe_slice (kSlL K) (pv 4) (po_some pe_int) po_none)))))) pss_nil)
      (pss_cons (ps_par (i := 5) (j := 6) (by rfl) sc_law.nd rfl rfl (by decide) rfl rfl (pa_cons (pe_mkK M_Region0 hr (by decide) (by rfl) (pa_cons (pv 1) (pa_cons (pv 2) pa_nil)) pk_nil) (pa_cons (pe_mkK M_Region0 hr (by decide) (by rfl) (pa_cons (pv 1) (pa_cons (pv 3) pa_nil)) pk_nil) pa_nil)) (by rfl))
      (pss_cons (ps_par (i := 7) (j := 8) (by rfl) sc_law.nd rfl rfl (by decide) rfl rfl (pa_cons (pe_c C_u_law_lack hr (by decide) (by rfl) (pa_cons (pv 1) (pa_cons (pv 2) (pa_cons (pv 3) pa_nil)))) (pa_cons (pe_c C_u_law_lack hr (by decide) (by rfl) (pa_cons (pv 1) (pa_cons (pv 3) (pa_cons (pv 2) pa_nil)))) pa_nil)) (by rfl))
      p5))))), ?_⟩
    -- names
    refine ⟨_, rfl, a, ns, _, rfl, hS, fun H2 t ks s2 hks ht => ?_⟩
    obtain ⟨hnd, hne, hkl⟩ := pools_ok ks hks
    refine ⟨_, rfl, a, ns, _, 2, rfl, hS.mono s2, by decide, fun H3 d3 s3 d30 d33 => ?_⟩
    refine ⟨_, _, rfl, rfl, _, rfl, t, _, rfl, s3 _ _ ht, fun H4 nm s4 nnm hnm => ?_⟩
    rw [cut_names ks (2 + d3) (by omega)] at hnm
    have hl2 : (ks.take (2 + d3).toNat).length = (2 + d3).toNat := by rw [List.length_take]; omega
    have hndn : (("0" : Str) :: ks.take (2 + d3).toNat).Nodup := hnd.sublist (List.Sublist.cons_cons _ ((List.take_sublist _ _).trans (List.sublist_append_left _ _)))
    have hokn : NamesOk (ks.take (2 + d3).toNat) := ⟨(List.nodup_cons.mp hndn).2, fun x hx => ⟨fun z => hne (z ▸ List.mem_of_mem_take hx), fun z => pools_zero ks hks (z ▸ List.mem_of_mem_take hx)⟩, by omega⟩
    have hstr : ∀ x ∈ ks.take (2 + d3).toNat, PySem.PyData.strOk x = true := fun x hx => pools_strs ks hks x (List.mem_of_mem_take hx)
    have hl23 : 2 ≤ (ks.take (2 + d3).toNat).length ∧ (ks.take (2 + d3).toNat).length ≤ 3 := by omega
    obtain ⟨hl2', hl3⟩ := hl23
    generalize ks.take (2 + d3).toNat = names at hnm hl2 hndn hokn hstr hl2' hl3
    clear hl2
    have sA := s2.trans (s3.trans s4)
    -- systems, others
    refine ⟨_, rfl, _, rfl, a, nm, ns, _, 3, names, rfl, hS.mono sA, hnm, hndn, by omega, by omega, by decide, by decide, fun H5 b Ss ls s5 ⟨hb, _, _, _, hb4⟩ hSl => ?_⟩
    have hnm5 := s5 _ _ hnm
    refine ⟨_, rfl, _, rfl, a, nm, ns, _, 2, names, rfl, hS.mono (sA.trans s5), hnm5, hndn, by omega, by omega, by decide, by decide, fun H6 b2 Ss2 ls2 s6 ⟨hb2, _, _, _, hb42⟩ hSl2 => ?_⟩
    have sB := sA.trans (s5.trans s6)
    have hE1 : SysLs H6 b Ss := ⟨_, s6 _ _ hb, pmapL hb4 fun r S _ ⟨q1, q2, q3⟩ => ⟨r, rfl, q1.mono s6⟩⟩
    have hE2 : SysLs H6 b2 Ss2 := ⟨_, hb2, pmapL hb42 fun r S _ ⟨q1, q2, q3⟩ => ⟨r, rfl, q1⟩⟩
    have hD1 : ∀ S ∈ Ss, DrawnS names S ∧ S.length ≤ 4 := fun S hS => by
      obtain ⟨i, hi⟩ := List.mem_iff_getElem?.mp hS
      obtain ⟨_, _, _, q1, q2⟩ := pget hb4 hi
      exact ⟨q1, q2⟩
    have hD2 : ∀ S ∈ Ss2, DrawnS names S ∧ S.length ≤ 4 := fun S hS => by
      obtain ⟨i, hi⟩ := List.mem_iff_getElem?.mp hS
      obtain ⟨_, _, _, q1, q2⟩ := pget hb42 hi
      exact ⟨q1, q2⟩
    have hnm6 := s6 _ _ hnm5
    have hS6 := hS.mono sB
    have hl1 : Ss.length ≤ 3 := by omega
    have hl2 : Ss2.length ≤ 2 := by omega
    clear hb4 hb42 hb hb2 hnm hnm5 s5 s6 sA s2 s3 s4
    refine ⟨_, _, rfl, ?_⟩
    have hon : ∀ u ∈ ("0" : Str) :: names, PySem.PyData.strOk u = true := fun u hu => by
      rcases List.mem_cons.mp hu with rfl | hu
      · decide +kernel
      · exact hstr u hu
    have hOkN : ∀ S ∈ Ss, OkN S := fun S hS e he => ⟨hon _ ((hD1 S hS).1.ends e he).1, hon _ ((hD1 S hS).1.ends e he).2.1⟩
    -- more others
    dsimp only
    unfold tSeq
    dsimp only
    refine share (T := fun D => tIfS _ _ _ D _ _) (fun σ H' => ∃ b3 Ss3 x4, σ = [some (.ref a), some (.ref nm), some (.ref b), some (.ref b3), x4, none, none, none, none, none, none, none, none, none, none] ∧ Same H6 H' ∧ SysLs H' b3 Ss3 ∧ Ss3.length ≤ 4 ∧ ∀ S ∈ Ss3, DrawnS names S ∧ S.length ≤ 4) ?_ fun key => ?_
    rotate_left
    · refine ⟨_, rfl, a, ns, _, 2, rfl, hS6, by decide, fun H7 e s7 e0 e1 => ?_⟩
      refine ⟨rfl, _, rfl, ?_⟩
      by_cases he : e = 1
      · rw [decide_eq_true (show V.int e = V.int 1 by rw [he])]
        refine iteT ⟨_, rfl, by show 0 ≤ sizeLine; decide, fun p np => ?_⟩
        have t1 := same_upd np (o := .lst [])
        obtain ⟨us, hbs, hus⟩ := hE1.mono (s7.trans t1)
        refine ⟨_, _, .lst (sq hbs) (dpSyss hus), .lst (sq upd_same) .nil, shaped_syss hOkN, shaped_nil, _, rfl, ?_⟩
        rw [eqv_syss]
        cases Ss with
        | nil => exact iteF (key _ _ ⟨b2, Ss2, _, rfl, s7.trans t1, hE2.mono (s7.trans t1), by omega, hD2⟩)
        | cons S0 Sr =>
          refine iteT ?_
          obtain ⟨us2, hb2', hus2⟩ := hE2.mono (s7.trans t1)
          refine ⟨_, rfl, _, rfl, _, rfl, b, us, rfl, sq hbs, fun l2 nl2 => ?_⟩
          have ec : cutV us none (some 2) = us.take 2 := cut_upto us 2
          rw [ec]
          have t2 := (s7.trans t1).trans (same_upd nl2 (o := .lst (us.take 2)))
          have hl2' : (upd (upd H7 p (.lst [])) l2 (.lst (us.take 2))) l2 = some (.lst (us.take 2)) := upd_same
          have hus4 : Paired (SysE (upd (upd H7 p (.lst [])) l2 (.lst (us.take 2)))) (us.take 2) ((S0 :: Sr).take 2) := ptake 2 (pmono (fun _ _ => SysE.mono (same_upd nl2 (o := .lst (us.take 2)))) hus)
          have hE24 := hE2.mono t2
          generalize upd (upd H7 p (.lst [])) l2 (.lst (us.take 2)) = H8 at t2 hl2' hus4 hE24 ⊢
          have hul := plen hus4
          refine ⟨l2, rfl, ⟨_, sq hl2'⟩, fun D hD => ?_⟩
          refine lc_it (walk_list (K := K) (a := l2) (xs := us.take 2)) (fun j H' => Same H8 H' ∧ ∃ out, H' D = some (.lst out) ∧ Paired (SysN D H') out ((((S0 :: Sr).take 2).take j).map fun S => S.drop 1)) ⟨same_upd hD, [], upd_same, .nil⟩ (fun j H' _ ⟨s9, _⟩ => sq (s9 _ _ hl2')) ?_ ?_
          · rintro j y H9 H' hj ⟨s9, out, dD, hp⟩ ⟨rfl, ey⟩
            rw [hul] at hj
            obtain ⟨v, hv, r, rfl, ws, hr9, hws⟩ := pget hus4 (List.getElem?_eq_getElem hj)
            rw [hv] at ey
            cases ey
            refine ⟨rfl, _, rfl, _, rfl, r, ws, rfl, sq (s9 _ _ hr9), fun l3 nl3 => ?_⟩
            have ed : cutV ws (some 1) none = ws.drop 1 := cut_from ws 1
            rw [ed]
            have u3 := same_upd nl3 (o := .lst (ws.drop 1))
            have dD3 := u3 _ _ dD
            refine ⟨out, dD3, szlt (by rw [plen hp, List.length_map, List.length_take, List.length_take]; omega), same_mut (s9.trans u3) hD, _, upd_same, ?_⟩
            rw [take_snoc hj, List.map_append]
            exact (pmono (fun _ _ h => SysN.keep dD3 (h.mono u3)) hp).snoc (SysN.keep dD3 ⟨l3, rfl, (ne_of_none dD nl3).symm, _, upd_same, pdrop 1 (pmono (fun _ _ q => q.imp fun _ q => ⟨q.1, u3 _ _ (s9 _ _ q.2)⟩) hws)⟩)
          rintro H9 ⟨s9, out, dD, hp⟩
          rw [hul, List.take_length] at hp
          obtain ⟨us3, hb24, hus24⟩ := hE24
          have hp0 := plen hp
          rw [List.length_map, List.length_take] at hp0
          have hu0 := plen hus24
          refine ⟨b2, D, us3, out, rfl, rfl, s9 _ _ hb24, dD, szl (by omega), fun q nq => ?_⟩
          have u1 := same_upd nq (o := .lst (us3 ++ out))
          refine key _ _ ⟨q, Ss2 ++ (((S0 :: Sr).take 2).map fun S => S.drop 1), _, rfl, t2.trans (s9.trans u1), ⟨_, upd_same, papp (pmono (fun _ _ => SysE.mono (s9.trans u1)) hus24) (pmono (fun v S h => ?_) hp)⟩, ?_, fun S hS => ?_⟩
          · obtain ⟨r, e, _, q⟩ := h
            exact ⟨r, e, SysAt.mono u1 q⟩
          · rw [List.length_append, List.length_map, List.length_take]
            omega
          · rcases List.mem_append.mp hS with hS | hS
            · exact hD2 S hS
            · obtain ⟨S', hS', rfl⟩ := List.mem_map.mp hS
              obtain ⟨d1, d2⟩ := hD1 S' (List.mem_of_mem_take hS')
              exact ⟨⟨fun e he => d1.ends e (List.mem_of_mem_drop he), fun e he => d1.lim e (List.mem_of_mem_drop he)⟩, by rw [List.length_drop]; omega⟩
      · rw [decide_eq_false (show ¬ V.int e = V.int 1 from fun z => he (by injection z))]
        exact iteF (iteF (key _ _ ⟨b2, Ss2, _, rfl, s7, hE2.mono s7, by omega, hD2⟩))
    rintro σ H7 ⟨b3, Ss3, x4, rfl, s7, hE3, hl3', hD3⟩
    have hnm7 := s7 _ _ hnm6
    have hE17 := hE1.mono s7
    have sysOk : ∀ {H : Hp} {us : List V} {Xs : List (List Df3)}, (∀ S ∈ Xs, DrawnS names S ∧ S.length ≤ 4) → Paired (SysE H) us Xs → Paired (SysOk H names) us Xs := fun hX h => pmemR h fun v S hS hv => by
      obtain ⟨r, e, q⟩ := hv
      obtain ⟨d1, d2⟩ := hX S hS
      exact ⟨r, e, fun H' s => (SysAt.mono s q).q, d1.good hokn, by omega, fun e he => ⟨(d1.ends e he).1, (d1.ends e he).2.1⟩⟩
    obtain ⟨us7, hb7, hus7⟩ := hE17
    refine ⟨_, rfl, _, rfl, rfl, rfl, fun rg dx nx ndx nex => ?_⟩
    refine newReg hTB hnm7 hokn hb7 (sysOk hD1 hus7) (by omega) nx ndx fun H8 s8 hReg1 => ⟨rfl, ?_⟩
    obtain ⟨us8, hb8, hus8⟩ := hE3.mono s8
    refine ⟨_, rfl, _, rfl, rfl, rfl, fun rg2 dx2 nx2 ndx2 nex2 => ?_⟩
    refine newReg hTB (s8 _ _ hnm7) hokn hb8 (sysOk hD3 hus8) (by omega) nx2 ndx2 fun H9 s9 hReg2 => ⟨rfl, ?_⟩
    refine ⟨_, _, rfl, ?_⟩
    have s79 := s8.trans s9
    have hReg1 := hReg1.mono s9
    have hnm9 := s79 _ _ hnm7
    have hE19 : SysLs H9 b Ss := SysLs.mono s79 ⟨us7, hb7, hus7⟩
    have hE39 : SysLs H9 b3 Ss3 := hE3.mono s79
    have sz : ∀ {Xs : List (List Df3)}, (∀ S ∈ Xs, DrawnS names S ∧ S.length ≤ 4) → ∀ n, 4 ≤ n → ∀ S ∈ Xs, S.length ≤ n ∧ ∀ e ∈ S, e.1 ∈ ("0" : Str) :: names ∧ e.2.1 ∈ ("0" : Str) :: names := fun hX n hn S hS => ⟨by have := (hX S hS).2; omega, fun e he => ⟨((hX S hS).1.ends e he).1, ((hX S hS).1.ends e he).2.1⟩⟩
    refine ⟨_, rfl, _, rfl, _, rfl, nm, b, b3, names, Ss, Ss3, rfl, hnm9, by omega, hE19, hE39, by omega, hl3', sz hD1 7 (by decide), sz hD3 16 (by decide), fun H10 due s10 hdue => ?_⟩
    refine ⟨_, rfl, _, rfl, _, rfl, nm, b3, b, names, Ss3, Ss, rfl, s10 _ _ hnm9, by omega, hE39.mono s10, hE19.mono s10, hl3', by omega, sz hD3 7 (by decide), sz hD1 16 (by decide), fun H11 back s11 hback => ?_⟩
    refine ⟨_, _, rfl, ?_⟩
    have s911 := s10.trans s11
    exact h5 _ H11 a nm b b3 rg rg2 due back ns names Ss Ss3 x4 _ _ _ _ _ _ ⟨(hS6.mono (s7.trans s79)).mono s911, s911 _ _ hnm9, hokn, hstr, hl2', hl3, hE19.mono s911, hD1, hl1, hReg1.mono s911⟩ ⟨hE39.mono s911, hD3, hl3', hReg2.mono s911⟩ hdue hback hk
end
end K1

/-! ### the head's facts: defs at any address, own exceptions with an __init__, classmethods, empty tuples as defaults -/
namespace Ls
open PySem PySem.Spec PyProof.Rows L2 NdefX He ClX
structure CmD where
  cls : Str
  m : Str
def CmD.ok (K : PySem.W.Frag) (c : CmD) : Bool := He5.wrapB K (ga K c.cls) "classmethod" "classmethod.__get__" c.m && (PySem.W.fnIn K (He5.wf K (ga K c.cls) "classmethod" c.m) && (PySem.W.readsIn K (ga K c.cls) (.type "type") && eqO (PySem.W.specialIn K (.ref (ga K c.cls)) "__getattribute__") (some (some (.builtin "type.__getattribute__")))))
theorem CmD.read {K : PySem.W.Frag} {c : CmD} (h : c.ok K = true) : CRead K (ga K c.cls) (.type "type") := by
  obtain ⟨h1, h⟩ := ba h
  obtain ⟨h2, h⟩ := ba h
  obtain ⟨h3, h4⟩ := ba h
  exact ⟨h3, eqO_ok h4⟩
theorem CmD.met {K : PySem.W.Frag} {c : CmD} (h : c.ok K = true) : CMet K (ga K c.cls) (.type "type") c.m (ma K (ga K c.cls) c.m) (He5.wf K (ga K c.cls) "classmethod" c.m) := by
  obtain ⟨h1, h⟩ := ba h
  obtain ⟨h2, h⟩ := ba h
  exact He5.cmet_of h1 h2
/-- the keyword-only default x of the def at p, if it is an object -/
def kwdAt (p : PySem.W.Frag → Addr) (x : Str) (K : PySem.W.Frag) : Addr := match K.lookup (p K) with
  | some ⟨_, _, .func fd, _⟩ => (match fd.kwdefaults with
    | .ref D => (match PySem.W.nsIn K D x with
      | some (some (.ref a)) => a
      | _ => 0)
    | _ => 0)
  | _ => 0
def tup0B (K : PySem.W.Frag) (a : Addr) : Bool := match K.lookup a with
  | some ⟨.type c, _, .seq its _, _⟩ => (c == "tuple") && (its.size == 0)
  | _ => false
theorem tup0_ok {K : PySem.W.Frag} {a : Addr} (h : tup0B K a = true) (H : Hp) : SqT K H a [] := by
  unfold tup0B at h
  split at h
  · rename_i c od its n sl ho
    obtain ⟨h1, h2⟩ := ba h
    have e1 := eq_of_beq h1
    have e2 := eq_of_beq h2
    refine .inr ⟨_, its, n, ho, by rw [e1], rfl, by rw [e2]; exact Nat.zero_le _, ?_⟩
    obtain ⟨l⟩ := its
    have : l = [] := List.length_eq_zero_iff.mp e2
    subst this
    exact .nil
  · cases h
/-- m of the class c is a property -/
def prB (c m : Str) (K : PySem.W.Frag) : Bool := eqO (PySem.W.findIn K (.ref (ga K c)) m) (some (some (.ref (ma K (ga K c) m)))) && (eqO (PySem.W.specialIn K (.ref (ma K (ga K c) m)) "__get__") (some (some (.builtin "property.__get__"))) && (decide (PySem.W.takesIn K (.ref (ma K (ga K c) m)) = some true) && (match PySem.W.recIn K (ma K (ga K c) m) "property" with
    | some (.ref _ :: _) => true
    | _ => false)))
theorem prB_ok {K : PySem.W.Frag} {c m : Str} (h : prB c m K = true) : PropOf K (ga K c) m (ma K (ga K c) m) (He5.wf K (ga K c) "property" m) := by
  obtain ⟨h1, h⟩ := ba h
  obtain ⟨h2, h⟩ := ba h
  obtain ⟨h3, h4⟩ := ba h
  refine ⟨eqO_ok h1, eqO_ok h2, of_decide_eq_true h3, ?_⟩
  unfold He5.wf
  split at h4
  · rename_i f r e
    exact ⟨r, by rw [e]⟩
  · cases h4
structure Hd2 where
  fa : List Fa
  fn : List He5.DefA
  fx : List Fx
  su : List SupD
  cm : List CmD
  t0 : List (PySem.W.Frag → Addr)
  bs : List (PySem.W.Frag → Bool)
  file : Str
abbrev AlS2 : Type := AlD × Bool × List FnS
def obsS2 (d : Hd2) (K : PySem.W.Frag) : AlS2 := (He5.obsA d.fa d.fn K, (d.fx.all fun f => f.ok K) && ((d.su.all fun u => u.ok K d.file) && ((d.cm.all fun c => c.ok K) && ((d.t0.all fun t => tup0B K (t K)) && (d.bs.all fun b => b K)))), d.su.map fun u => fnS K u.cls)
def valS2 (d : Hd2) : AlS2 := (He5.valA d.fn, true, d.su.map SupD.val)
def obsSG2 (n : Nat) (d : Hd2) (g : Addr → Option Obj) : AlS2 := obsS2 d (frG g (asS g n))
def SaysS2 (d : Hd2) (K : PySem.W.Frag) : Prop := obsS2 d K = valS2 d
def hookS2 (n : Nat) (d : Hd2) : PySem.W.Hook where
  α := AlS2
  obs := fun s => obsSG2 n d s.heap.get?
  val := fun _ => valS2 d
  says := fun _ h => ∃ K : PySem.W.Frag, K.In h ∧ SaysS2 d K
  of := fun _ _ e => ⟨_, frG_in, e⟩
  keeps := fun _ _ _ ⟨K, hK, c⟩ k => ⟨K, hK.keeps k, c⟩
theorem obsSG2_eq {n : Nat} {d : Hd2} {g : Addr → Option Obj} {s : Shared} (h : ∀ a, g a = s.heap.get? a) : obsSG2 n d g = (hookS2 n d).obs s := by
  rw [show g = s.heap.get? from funext h]; rfl
section
variable {d : Hd2} {K : PySem.W.Frag}
theorem SaysS2.d_ (c : SaysS2 d K) : He5.SaysA d.fa d.fn K := congrArg (fun z : AlS2 => z.1) c
theorem SaysS2.b_ (c : SaysS2 d K) : ((d.fx.all fun f => f.ok K) && ((d.su.all fun u => u.ok K d.file) && ((d.cm.all fun c => c.ok K) && ((d.t0.all fun t => tup0B K (t K)) && (d.bs.all fun b => b K))))) = true := congrArg (fun z : AlS2 => z.2.1) c
theorem SaysS2.x (c : SaysS2 d K) (i : Nat) {f : Fx} (h : d.fx[i]? = some f := by rfl) : f.ok K = true := List.all_eq_true.mp (ba c.b_).1 f (List.mem_of_getElem? h)
theorem SaysS2.c_ (c : SaysS2 d K) (i : Nat) {f : CmD} (h : d.cm[i]? = some f := by rfl) : f.ok K = true := List.all_eq_true.mp (ba (ba (ba c.b_).2).2).1 f (List.mem_of_getElem? h)
theorem SaysS2.t_ (c : SaysS2 d K) (i : Nat) {t : PySem.W.Frag → Addr} (h : d.t0[i]? = some t := by rfl) (H : Hp) : SqT K H (t K) [] := tup0_ok (List.all_eq_true.mp (ba (ba (ba (ba c.b_).2).2).2).1 t (List.mem_of_getElem? h)) H
theorem SaysS2.bs_ (c : SaysS2 d K) (i : Nat) {b : PySem.W.Frag → Bool} (h : d.bs[i]? = some b := by rfl) : b K = true := List.all_eq_true.mp (ba (ba (ba (ba c.b_).2).2).2).2 b (List.mem_of_getElem? h)
theorem SaysS2.u (c : SaysS2 d K) (i : Nat) {u : SupD} {P : Program} (hf : ((P.main.file : Str) == d.file) = true) (ht : (P.main.scope.names.lookup ("super" : Str)).isSome = false) (h : d.su[i]? = some u := by rfl) :
    ∃ (fd : FuncData) (cc cf : Addr), SupC P K (ga K u.cls) (fIn K u.cls) cc ⟨"__init__", u.qual, u.params, u.body, u.scope, [(("__class__" : Str), cc)], cf⟩ fd := by
  have c2 := List.all_eq_true.mp (ba (ba c.b_).2).1 u (List.mem_of_getElem? h)
  have e : d.su.map (fun u => fnS K u.cls) = d.su.map SupD.val := congrArg (fun z : AlS2 => z.2.2) c
  have e2 : (d.su.map fun u => fnS K u.cls)[i]? = (d.su.map SupD.val)[i]? := by rw [e]
  rw [List.getElem?_map, List.getElem?_map, h] at e2
  exact SupD.supC (Option.some.inj e2) c2 hf ht
end
end Ls

namespace K1
open PySem PySem.Spec PyProof.Rows L2 Ls NdefX
/-- the default of Region's tables -/
def tbA (K : PySem.W.Frag) : Addr := kwdAt (fun K => He.fAd K ("Region", some "__init__")) "tables" K
end K1

namespace K1
open PySem PySem.Spec PyProof.Rows L2 Ls
def d_Table___init__ : He5.DefA := ⟨fun K => He.fAd K ("Table", some "__init__"), "__init__", "Table.__init__", defArgs s_Table___init__, defBody s_Table___init__, defScope s_Table___init__, [.non], []⟩
def d_blank : He5.DefA := ⟨fun K => He.fAd K ("blank", none), "blank", "blank", defArgs s_blank, defBody s_blank, defScope s_blank, [], []⟩
def d_more : He5.DefA := ⟨fun K => He.fAd K ("more", none), "more", "more", defArgs s_more, defBody s_more, defScope s_more, [], []⟩
def d_added : He5.DefA := ⟨fun K => He.fAd K ("added", none), "added", "added", defArgs s_added, defBody s_added, defScope s_added, [], []⟩
def d_table_of : He5.DefA := ⟨fun K => He.fAd K ("table_of", none), "table_of", "table_of", defArgs s_table_of, defBody s_table_of, defScope s_table_of, [], []⟩
def d_upper : He5.DefA := ⟨fun K => He.fAd K ("upper", none), "upper", "upper", defArgs s_upper, defBody s_upper, defScope s_upper, [], []⟩
def d_set_to : He5.DefA := ⟨fun K => He.fAd K ("set_to", none), "set_to", "set_to", defArgs s_set_to, defBody s_set_to, defScope s_set_to, [], []⟩
def d_point_of : He5.DefA := ⟨fun K => He.fAd K ("point_of", none), "point_of", "point_of", defArgs s_point_of, defBody s_point_of, defScope s_point_of, [], []⟩
def d_is_limit : He5.DefA := ⟨fun K => He.fAd K ("is_limit", none), "is_limit", "is_limit", defArgs s_is_limit, defBody s_is_limit, defScope s_is_limit, [], []⟩
def d_u_is_end : He5.DefA := ⟨fun K => He.fAd K ("_is_end", none), "_is_end", "_is_end", defArgs s_u_is_end, defBody s_u_is_end, defScope s_u_is_end, [], []⟩
def d_checked_system : He5.DefA := ⟨fun K => He.fAd K ("checked_system", none), "checked_system", "checked_system", defArgs s_checked_system, defBody s_checked_system, defScope s_checked_system, [.non], []⟩
def d_is_name : He5.DefA := ⟨fun K => He.fAd K ("is_name", none), "is_name", "is_name", defArgs s_is_name, defBody s_is_name, defScope s_is_name, [], []⟩
def d_checked_names : He5.DefA := ⟨fun K => He.fAd K ("checked_names", none), "checked_names", "checked_names", defArgs s_checked_names, defBody s_checked_names, defScope s_checked_names, [], []⟩
def d_at_point : He5.DefA := ⟨fun K => He.fAd K ("at_point", none), "at_point", "at_point", defArgs s_at_point, defBody s_at_point, defScope s_at_point, [], []⟩
def d_Region___contains__ : He5.DefA := ⟨fun K => He.fAd K ("Region", some "__contains__"), "__contains__", "Region.__contains__", defArgs s_Region___contains__, defBody s_Region___contains__, defScope s_Region___contains__, [], []⟩
def d_Region___init__ : He5.DefA := ⟨fun K => He.fAd K ("Region", some "__init__"), "__init__", "Region.__init__", defArgs s_Region___init__, defBody s_Region___init__, defScope s_Region___init__, [], [("tables", .adr tbA)]⟩
def d_u_law_draw : He5.DefA := ⟨fun K => He.fAd K ("_law_draw", none), "_law_draw", "_law_draw", defArgs s_u_law_draw, defBody s_u_law_draw, defScope s_u_law_draw, [], []⟩
def d_u_law_pool : He5.DefA := ⟨fun K => He.fAd K ("_law_pool", none), "_law_pool", "_law_pool", defArgs s_u_law_pool, defBody s_u_law_pool, defScope s_u_law_pool, [], []⟩
def d_u_law_worth : He5.DefA := ⟨fun K => He.fAd K ("_law_worth", none), "_law_worth", "_law_worth", defArgs s_u_law_worth, defBody s_u_law_worth, defScope s_u_law_worth, [], []⟩
def d_u_law_solves : He5.DefA := ⟨fun K => He.fAd K ("_law_solves", none), "_law_solves", "_law_solves", defArgs s_u_law_solves, defBody s_u_law_solves, defScope s_u_law_solves, [], []⟩
def d_u_law_system : He5.DefA := ⟨fun K => He.fAd K ("_law_system", none), "_law_system", "_law_system", defArgs s_u_law_system, defBody s_u_law_system, defScope s_u_law_system, [], []⟩
def d_u_law_table : He5.DefA := ⟨fun K => He.fAd K ("_law_table", none), "_law_table", "_law_table", defArgs s_u_law_table, defBody s_u_law_table, defScope s_u_law_table, [], []⟩
def d_u_law_parts : He5.DefA := ⟨fun K => He.fAd K ("_law_parts", none), "_law_parts", "_law_parts", defArgs s_u_law_parts, defBody s_u_law_parts, defScope s_u_law_parts, [], []⟩
def d_holds : He5.DefA := ⟨fun K => He.fAd K ("holds", none), "holds", "holds", defArgs s_holds, defBody s_holds, defScope s_holds, [], []⟩
def d_outside : He5.DefA := ⟨fun K => He.fAd K ("outside", none), "outside", "outside", defArgs s_outside, defBody s_outside, defScope s_outside, [], []⟩
def d_lean_of : He5.DefA := ⟨fun K => He.fAd K ("lean_of", none), "lean_of", "lean_of", defArgs s_lean_of, defBody s_lean_of, defScope s_lean_of, [], []⟩
def d_without : He5.DefA := ⟨fun K => He.fAd K ("without", none), "without", "without", defArgs s_without, defBody s_without, defScope s_without, [], []⟩
def d_left_of : He5.DefA := ⟨fun K => He.fAd K ("left_of", none), "left_of", "left_of", defArgs s_left_of, defBody s_left_of, defScope s_left_of, [], []⟩
def d_u_inside : He5.DefA := ⟨fun K => He.fAd K ("_inside", none), "_inside", "_inside", defArgs s_u_inside, defBody s_u_inside, defScope s_u_inside, [], []⟩
def d_absorbed : He5.DefA := ⟨fun K => He.fAd K ("absorbed", none), "absorbed", "absorbed", defArgs s_absorbed, defBody s_absorbed, defScope s_absorbed, [], []⟩
def d_kept : He5.DefA := ⟨fun K => He.fAd K ("kept", none), "kept", "kept", defArgs s_kept, defBody s_kept, defScope s_kept, [], []⟩
def d_fit : He5.DefA := ⟨fun K => He.fAd K ("fit", none), "fit", "fit", defArgs s_fit, defBody s_fit, defScope s_fit, [], []⟩
def d_Region_pieces : He5.DefA := ⟨fun K => He5.wf K (He.ga K "Region") "property" "pieces", "pieces", "Region.pieces", defArgs s_Region_pieces, defBody s_Region_pieces, defScope s_Region_pieces, [], []⟩
def d_Region___or__ : He5.DefA := ⟨fun K => He.fAd K ("Region", some "__or__"), "__or__", "Region.__or__", defArgs s_Region___or__, defBody s_Region___or__, defScope s_Region___or__, [], []⟩
def d_Region___sub__ : He5.DefA := ⟨fun K => He.fAd K ("Region", some "__sub__"), "__sub__", "Region.__sub__", defArgs s_Region___sub__, defBody s_Region___sub__, defScope s_Region___sub__, [], []⟩
def d_Region___bool__ : He5.DefA := ⟨fun K => He.fAd K ("Region", some "__bool__"), "__bool__", "Region.__bool__", defArgs s_Region___bool__, defBody s_Region___bool__, defScope s_Region___bool__, [], []⟩
def d_Region_within : He5.DefA := ⟨fun K => He.fAd K ("Region", some "within"), "within", "Region.within", defArgs s_Region_within, defBody s_Region_within, defScope s_Region_within, [], []⟩
def d_Region_same : He5.DefA := ⟨fun K => He.fAd K ("Region", some "same"), "same", "Region.same", defArgs s_Region_same, defBody s_Region_same, defScope s_Region_same, [], []⟩
def d_Region___invert__ : He5.DefA := ⟨fun K => He.fAd K ("Region", some "__invert__"), "__invert__", "Region.__invert__", defArgs s_Region___invert__, defBody s_Region___invert__, defScope s_Region___invert__, [], []⟩
def d_Region_point : He5.DefA := ⟨fun K => He.fAd K ("Region", some "point"), "point", "Region.point", defArgs s_Region_point, defBody s_Region_point, defScope s_Region_point, [], []⟩
def d_Region_shadow : He5.DefA := ⟨fun K => He.fAd K ("Region", some "shadow"), "shadow", "Region.shadow", defArgs s_Region_shadow, defBody s_Region_shadow, defScope s_Region_shadow, [], []⟩
def d_u_law_inside : He5.DefA := ⟨fun K => He.fAd K ("_law_inside", none), "_law_inside", "_law_inside", defArgs s_u_law_inside, defBody s_u_law_inside, defScope s_u_law_inside, [], []⟩
def d_u_law_point : He5.DefA := ⟨fun K => He.fAd K ("_law_point", none), "_law_point", "_law_point", defArgs s_u_law_point, defBody s_u_law_point, defScope s_u_law_point, [], []⟩
def d_u_law_can : He5.DefA := ⟨fun K => He.fAd K ("_law_can", none), "_law_can", "_law_can", defArgs s_u_law_can, defBody s_u_law_can, defScope s_u_law_can, [], []⟩
def d_u_law_lack : He5.DefA := ⟨fun K => He.fAd K ("_law_lack", none), "_law_lack", "_law_lack", defArgs s_u_law_lack, defBody s_u_law_lack, defScope s_u_law_lack, [], []⟩
def d_law : He5.DefA := ⟨fun K => He.fAd K ("law", none), "law", "law", defArgs s_law, defBody s_law, defScope s_law, [], []⟩
def fn : List He5.DefA := [d_Table___init__, d_blank, d_more, d_added, d_table_of, d_upper, d_set_to, d_point_of, d_is_limit, d_u_is_end, d_checked_system, d_is_name, d_checked_names, d_at_point, d_Region___contains__, d_Region___init__, d_u_law_draw, d_u_law_pool, d_u_law_worth, d_u_law_solves, d_u_law_system, d_u_law_table, d_u_law_parts, d_holds, d_outside, d_lean_of, d_without, d_left_of, d_u_inside, d_absorbed, d_kept, d_fit, d_Region_pieces, d_Region___or__, d_Region___sub__, d_Region___bool__, d_Region_within, d_Region_same, d_Region___invert__, d_Region_point, d_Region_shadow, d_u_law_inside, d_u_law_point, d_u_law_can, d_u_law_lack, d_law]
def fa : List He.Fa := [.glo "blank", .glo "more", .glo "added", .glo "table_of", .glo "upper", .glo "set_to", .glo "point_of", .glo "is_limit", .glo "_is_end", .glo "checked_system", .glo "is_name", .glo "checked_names", .glo "at_point", .glo "_law_draw", .glo "_law_pool", .glo "_law_worth", .glo "_law_solves", .glo "_law_system", .glo "_law_table", .glo "_law_parts", .glo "holds", .glo "outside", .glo "lean_of", .glo "without", .glo "left_of", .glo "_inside", .glo "absorbed", .glo "kept", .glo "fit", .glo "_law_inside", .glo "_law_point", .glo "_law_can", .glo "_law_lack", .glo "law", .free "len", .free "range", .free "zip", .free "enumerate", .free "isinstance", .free "tuple", .free "list", .free "int", .free "bool", .free "str", .free "any", .free "max", .free "min", .free "ValueError", .int "FAR" 1000000000000000000000000000000, .int "HALF" 100000000000000000000000000000, .int "MOST" 1000000000000000000, .glo "Table", .cls "Table", .noat "Table" "names", .noat "Table" "rows", .noat "Table" "spots", .mkr "Table", .glo "Region", .cls "Region", .noat "Region" "names", .noat "Region" "tables", .mkr "Region", .meth "Region" "__sub__", .meth "Region" "__or__", .meth "Region" "__invert__", .meth "Region" "__bool__", .meth "Region" "__contains__", .meth "Region" "within", .meth "Region" "same", .meth "Region" "shadow", .meth "Region" "point"]
abbrev R : PySem.W.OpenRow := PySem.W.OpenLaw.row PySem.Challenge.rw_loopsheds_k07_whole_within
def names : List Str := (["_wall", "FAR", "HALF", "Table", "blank", "_through", "closed", "more", "added", "table_of", "both", "kept", "wider", "upper", "holds", "lean_of"] : List Str) ++ (["at_point", "set_to", "point_of", "LoopshedsError", "BadName", "BadDifference", "Unlike", "MOST", "is_name", "checked_names", "is_limit", "_is_end", "checked_system", "_inside", "absorbed", "outside"] : List Str) ++ (["without", "left_of", "joined", "Region", "fit", "_law_draw", "_law_pool", "_law_system", "_law_table", "_law_worth", "_law_solves", "_law_parts", "_law_point", "_law_inside", "_law_lack", "_law_can"] : List Str)
def fx : List Fx := []
def su : List SupD := []
def cm : List CmD := []
def t0 : List (PySem.W.Frag → Addr) := [tbA]
def bs : List (PySem.W.Frag → Bool) := [fun K => PySem.W.selfFirst K (He.ga K "Region"), prB "Region" "pieces"]
def hd : Hd2 := ⟨fa, fn, fx, su, cm, t0, bs, "/claim/cut.py"⟩
abbrev hk : PySem.W.Hook := hookS2 5 hd
def ob (s : PySem.W.SharedT) : AlS2 := obsSG2 5 hd (HandSHeadRun.getT s)
theorem ob_eq (s : PySem.W.SharedT) : ob s = hk.obs s.abs := obsSG2_eq (HandSHeadRun.getT_eq s)
theorem run (w : World) : HandSHeadRun.RunEq R (PySem.W.view R.prog [53]) hk ob 4000 names w := by
  intro os
  kernel_rfl
theorem facts {P : Program} {w : World} {K : PySem.W.Frag} {h : Heap} {mg : Str → Option Value} {f : Addr} (X : K.In h) (N : h.Ns mainGlobals mg) (hfa : mg ("law" : Str) = some (.ref f)) (cS : SaysS2 hd K) (hPf : ((P.main.file : Str) == hd.file) = true) (hPs : (P.main.scope.names.lookup ("super" : Str)).isSome = false) :
    ∃ fd : FuncData, (∀ (s : Shared) (v : Value), BindsTo s fd ⟨[v], []⟩ [("script", v)]) ∧ ∀ base : Heap, K.In base → base.Ns mainGlobals mg → FnOk P w K mg base CX0 9 f fd ["script"] (spLaw K) := by
  have c : He5.SaysA fa fn K := cS.d_
  obtain ⟨fd_Table___init__, F_Table___init__⟩ := c.def_ 0 (d := d_Table___init__) rfl
  obtain ⟨fd_blank, F_blank⟩ := c.def_ 1 (d := d_blank) rfl
  obtain ⟨fd_more, F_more⟩ := c.def_ 2 (d := d_more) rfl
  obtain ⟨fd_added, F_added⟩ := c.def_ 3 (d := d_added) rfl
  obtain ⟨fd_table_of, F_table_of⟩ := c.def_ 4 (d := d_table_of) rfl
  obtain ⟨fd_upper, F_upper⟩ := c.def_ 5 (d := d_upper) rfl
  obtain ⟨fd_set_to, F_set_to⟩ := c.def_ 6 (d := d_set_to) rfl
  obtain ⟨fd_point_of, F_point_of⟩ := c.def_ 7 (d := d_point_of) rfl
  obtain ⟨fd_is_limit, F_is_limit⟩ := c.def_ 8 (d := d_is_limit) rfl
  obtain ⟨fd_u_is_end, F_u_is_end⟩ := c.def_ 9 (d := d_u_is_end) rfl
  obtain ⟨fd_checked_system, F_checked_system⟩ := c.def_ 10 (d := d_checked_system) rfl
  obtain ⟨fd_is_name, F_is_name⟩ := c.def_ 11 (d := d_is_name) rfl
  obtain ⟨fd_checked_names, F_checked_names⟩ := c.def_ 12 (d := d_checked_names) rfl
  obtain ⟨fd_at_point, F_at_point⟩ := c.def_ 13 (d := d_at_point) rfl
  obtain ⟨fd_Region___contains__, F_Region___contains__⟩ := c.def_ 14 (d := d_Region___contains__) rfl
  obtain ⟨fd_Region___init__, F_Region___init__⟩ := c.def_ 15 (d := d_Region___init__) rfl
  obtain ⟨fd_u_law_draw, F_u_law_draw⟩ := c.def_ 16 (d := d_u_law_draw) rfl
  obtain ⟨fd_u_law_pool, F_u_law_pool⟩ := c.def_ 17 (d := d_u_law_pool) rfl
  obtain ⟨fd_u_law_worth, F_u_law_worth⟩ := c.def_ 18 (d := d_u_law_worth) rfl
  obtain ⟨fd_u_law_solves, F_u_law_solves⟩ := c.def_ 19 (d := d_u_law_solves) rfl
  obtain ⟨fd_u_law_system, F_u_law_system⟩ := c.def_ 20 (d := d_u_law_system) rfl
  obtain ⟨fd_u_law_table, F_u_law_table⟩ := c.def_ 21 (d := d_u_law_table) rfl
  obtain ⟨fd_u_law_parts, F_u_law_parts⟩ := c.def_ 22 (d := d_u_law_parts) rfl
  obtain ⟨fd_holds, F_holds⟩ := c.def_ 23 (d := d_holds) rfl
  obtain ⟨fd_outside, F_outside⟩ := c.def_ 24 (d := d_outside) rfl
  obtain ⟨fd_lean_of, F_lean_of⟩ := c.def_ 25 (d := d_lean_of) rfl
  obtain ⟨fd_without, F_without⟩ := c.def_ 26 (d := d_without) rfl
  obtain ⟨fd_left_of, F_left_of⟩ := c.def_ 27 (d := d_left_of) rfl
  obtain ⟨fd_u_inside, F_u_inside⟩ := c.def_ 28 (d := d_u_inside) rfl
  obtain ⟨fd_absorbed, F_absorbed⟩ := c.def_ 29 (d := d_absorbed) rfl
  obtain ⟨fd_kept, F_kept⟩ := c.def_ 30 (d := d_kept) rfl
  obtain ⟨fd_fit, F_fit⟩ := c.def_ 31 (d := d_fit) rfl
  obtain ⟨fd_Region_pieces, F_Region_pieces⟩ := c.def_ 32 (d := d_Region_pieces) rfl
  obtain ⟨fd_Region___or__, F_Region___or__⟩ := c.def_ 33 (d := d_Region___or__) rfl
  obtain ⟨fd_Region___sub__, F_Region___sub__⟩ := c.def_ 34 (d := d_Region___sub__) rfl
  obtain ⟨fd_Region___bool__, F_Region___bool__⟩ := c.def_ 35 (d := d_Region___bool__) rfl
  obtain ⟨fd_Region_within, F_Region_within⟩ := c.def_ 36 (d := d_Region_within) rfl
  obtain ⟨fd_Region_same, F_Region_same⟩ := c.def_ 37 (d := d_Region_same) rfl
  obtain ⟨fd_Region___invert__, F_Region___invert__⟩ := c.def_ 38 (d := d_Region___invert__) rfl
  obtain ⟨fd_Region_point, F_Region_point⟩ := c.def_ 39 (d := d_Region_point) rfl
  obtain ⟨fd_Region_shadow, F_Region_shadow⟩ := c.def_ 40 (d := d_Region_shadow) rfl
  obtain ⟨fd_u_law_inside, F_u_law_inside⟩ := c.def_ 41 (d := d_u_law_inside) rfl
  obtain ⟨fd_u_law_point, F_u_law_point⟩ := c.def_ 42 (d := d_u_law_point) rfl
  obtain ⟨fd_u_law_can, F_u_law_can⟩ := c.def_ 43 (d := d_u_law_can) rfl
  obtain ⟨fd_u_law_lack, F_u_law_lack⟩ := c.def_ 44 (d := d_u_law_lack) rfl
  obtain ⟨fd_law, F_law⟩ := c.def_ 45 (d := d_law) rfl
  have G : Facts mg := ⟨He.free_ok X N (c.fact 34 (f := .free "len") rfl), He.free_ok X N (c.fact 35 (f := .free "range") rfl), He.free_ok X N (c.fact 36 (f := .free "zip") rfl), He.free_ok X N (c.fact 37 (f := .free "enumerate") rfl), He.free_ok X N (c.fact 38 (f := .free "isinstance") rfl), He.free_ok X N (c.fact 39 (f := .free "tuple") rfl), He.free_ok X N (c.fact 40 (f := .free "list") rfl), He.free_ok X N (c.fact 41 (f := .free "int") rfl), He.free_ok X N (c.fact 42 (f := .free "bool") rfl), He.free_ok X N (c.fact 43 (f := .free "str") rfl), He.free_ok X N (c.fact 44 (f := .free "any") rfl), He.free_ok X N (c.fact 45 (f := .free "max") rfl), He.free_ok X N (c.fact 46 (f := .free "min") rfl), He.free_ok X N (c.fact 47 (f := .free "ValueError") rfl), He.int_ok X N (c.fact 48 (f := .int "FAR" 1000000000000000000000000000000) rfl), He.int_ok X N (c.fact 49 (f := .int "HALF" 100000000000000000000000000000) rfl), He.int_ok X N (c.fact 50 (f := .int "MOST" 1000000000000000000) rfl)⟩
  have T : TCls K (He.ga K "Table") := ⟨He.cls_ok (c.fact 52 (f := .cls "Table") rfl), He.noat_ok (c.fact 53 (f := .noat "Table" "names") rfl), He.noat_ok (c.fact 54 (f := .noat "Table" "rows") rfl), He.noat_ok (c.fact 55 (f := .noat "Table" "spots") rfl)⟩
  have RC : RCls K (He.ga K "Region") := ⟨He.cls_ok (c.fact 58 (f := .cls "Region") rfl), He.noat_ok (c.fact 59 (f := .noat "Region" "names") rfl), He.noat_ok (c.fact 60 (f := .noat "Region" "tables") rfl)⟩
  have hTB : ∀ H, SqT K H (tbA K) [] := cS.t_ 0 (t := tbA) rfl
  have gR : mg "Region" = some (.ref (He.ga K "Region")) := He.glo_ok X N (c.fact 57 (f := .glo "Region") rfl)
  have SF : PySem.W.selfFirst K (He.ga K "Region") = true := cS.bs_ 0 rfl
  have PP := prB_ok (cS.bs_ 1 (b := prB "Region" "pieces") rfl)
  have e := hfa.symm.trans (He.glo_ok X N (c.fact 33 (f := .glo "law") rfl))
  cases e
  have b := FunD.bindsA (ps := ["script"]) F_law fun _ _ _ _ _ _ us hl => match us, hl with | [_], _ => rfl
  refine ⟨fd_law, fun s v => b s [v] rfl, fun base _ _ => ?_⟩
  have O_Table___init__ : FnOk P w K mg base CX0 1 (He.fAd K ("Table", some "__init__")) fd_Table___init__ ["self", "names", "rows", "spots"] (spTable (He.ga K "Table")) := ok_init F_Table___init__ G T
  obtain ⟨ds_M_Table, v_M_Table, b_M_Table⟩ := FunD.binds1 (ps := ["self", "names", "rows", "spots"]) F_Table___init__ 3 0 (List.cons_ne_nil _ _) rfl fun _ _ _ _ _ _ _ us its h1 h2 => match us, h1, its, h2 with | [_, _, _], _, [_], _ => ⟨_, rfl, rfl⟩
  have M_Table : Mak P w K mg base 1 "Table" (He.ga K "Table") (spTable (He.ga K "Table")) [.non] := ⟨_, fd_Table___init__, ["self", "names", "rows", "spots"], ds_M_Table, He.mkr_ok (c.fact 56 (f := .mkr "Table") rfl), O_Table___init__, He.glo_ok X N (c.fact 51 (f := .glo "Table") rfl), b_M_Table, v_M_Table⟩
  obtain ⟨ds_M_Table_1, v_M_Table_1, b_M_Table_1⟩ := FunD.binds1 (ps := ["self", "names", "rows", "spots"]) F_Table___init__ 4 1 (List.cons_ne_nil _ _) rfl fun _ _ _ _ _ _ _ us its h1 h2 => match us, h1, its, h2 with | [_, _, _, _], _, [_], _ => ⟨_, rfl, rfl⟩
  have M_Table_1 : Mak P w K mg base 1 "Table" (He.ga K "Table") (spTable (He.ga K "Table")) [] := ⟨_, fd_Table___init__, ["self", "names", "rows", "spots"], ds_M_Table_1, He.mkr_ok (c.fact 56 (f := .mkr "Table") rfl), O_Table___init__, He.glo_ok X N (c.fact 51 (f := .glo "Table") rfl), b_M_Table_1, v_M_Table_1⟩
  have O_blank : FnOk P w K mg base CX0 3 (He.fAd K ("blank", none)) fd_blank ["names"] (spBlank (He.ga K "Table")) := ok_blank F_blank G M_Table
  have b_C_blank : Binds K fd_blank ["names"] [] := FunD.bindsN F_blank fun _ _ _ _ _ _ us hl => match us, hl with | [_], _ => rfl
  have C_blank : Cal P w K mg base 3 "blank" (spBlank (He.ga K "Table")) [] := ⟨_, fd_blank, ["names"], [], O_blank, He.glo_ok X N (c.fact 0 (f := .glo "blank") rfl), F_blank.kp, b_C_blank, .nil⟩
  have O_more : FnOk P w K mg base CX0 3 (He.fAd K ("more", none)) fd_more ["table", "left", "right", "limit"] (spMore (He.ga K "Table")) := ok_more F_more G T M_Table_1
  have b_C_more : Binds K fd_more ["table", "left", "right", "limit"] [] := FunD.bindsN F_more fun _ _ _ _ _ _ us hl => match us, hl with | [_, _, _, _], _ => rfl
  have C_more : Cal P w K mg base 3 "more" (spMore (He.ga K "Table")) [] := ⟨_, fd_more, ["table", "left", "right", "limit"], [], O_more, He.glo_ok X N (c.fact 1 (f := .glo "more") rfl), F_more.kp, b_C_more, .nil⟩
  have O_added : FnOk P w K mg base CX0 4 (He.fAd K ("added", none)) fd_added ["table", "system"] (spAdded (He.ga K "Table")) := ok_added F_added G C_more
  have b_C_added : Binds K fd_added ["table", "system"] [] := FunD.bindsN F_added fun _ _ _ _ _ _ us hl => match us, hl with | [_, _], _ => rfl
  have C_added : Cal P w K mg base 4 "added" (spAdded (He.ga K "Table")) [] := ⟨_, fd_added, ["table", "system"], [], O_added, He.glo_ok X N (c.fact 2 (f := .glo "added") rfl), F_added.kp, b_C_added, .nil⟩
  have O_table_of : FnOk P w K mg base CX0 5 (He.fAd K ("table_of", none)) fd_table_of ["names", "system"] (spTableOf (He.ga K "Table")) := ok_table_of F_table_of G C_added C_blank
  have b_C_table_of : Binds K fd_table_of ["names", "system"] [] := FunD.bindsN F_table_of fun _ _ _ _ _ _ us hl => match us, hl with | [_, _], _ => rfl
  have C_table_of : Cal P w K mg base 5 "table_of" (spTableOf (He.ga K "Table")) [] := ⟨_, fd_table_of, ["names", "system"], [], O_table_of, He.glo_ok X N (c.fact 3 (f := .glo "table_of") rfl), F_table_of.kp, b_C_table_of, .nil⟩
  have O_upper : FnOk P w K mg base CX0 1 (He.fAd K ("upper", none)) fd_upper ["table", "left", "right"] (spUpper (He.ga K "Table")) := ok_upper F_upper G T
  have b_C_upper : Binds K fd_upper ["table", "left", "right"] [] := FunD.bindsN F_upper fun _ _ _ _ _ _ us hl => match us, hl with | [_, _, _], _ => rfl
  have C_upper : Cal P w K mg base 1 "upper" (spUpper (He.ga K "Table")) [] := ⟨_, fd_upper, ["table", "left", "right"], [], O_upper, He.glo_ok X N (c.fact 4 (f := .glo "upper") rfl), F_upper.kp, b_C_upper, .nil⟩
  have O_set_to : FnOk P w K mg base CX0 4 (He.fAd K ("set_to", none)) fd_set_to ["table", "name", "worth"] (spSetTo (He.ga K "Table")) := ok_set_to F_set_to G C_more
  have b_C_set_to : Binds K fd_set_to ["table", "name", "worth"] [] := FunD.bindsN F_set_to fun _ _ _ _ _ _ us hl => match us, hl with | [_, _, _], _ => rfl
  have C_set_to : Cal P w K mg base 4 "set_to" (spSetTo (He.ga K "Table")) [] := ⟨_, fd_set_to, ["table", "name", "worth"], [], O_set_to, He.glo_ok X N (c.fact 5 (f := .glo "set_to") rfl), F_set_to.kp, b_C_set_to, .nil⟩
  have O_point_of : FnOk P w K mg base CX0 5 (He.fAd K ("point_of", none)) fd_point_of ["table"] (spPoint (He.ga K "Table")) := ok_point_of F_point_of G T C_upper C_set_to
  have b_C_point_of : Binds K fd_point_of ["table"] [] := FunD.bindsN F_point_of fun _ _ _ _ _ _ us hl => match us, hl with | [_], _ => rfl
  have C_point_of : Cal P w K mg base 5 "point_of" (spPoint (He.ga K "Table")) [] := ⟨_, fd_point_of, ["table"], [], O_point_of, He.glo_ok X N (c.fact 6 (f := .glo "point_of") rfl), F_point_of.kp, b_C_point_of, .nil⟩
  have O_is_limit : FnOk P w K mg base CX0 1 (He.fAd K ("is_limit", none)) fd_is_limit ["thing"] (spIsLimit) := ok_is_limit F_is_limit G
  have b_C_is_limit : Binds K fd_is_limit ["thing"] [] := FunD.bindsN F_is_limit fun _ _ _ _ _ _ us hl => match us, hl with | [_], _ => rfl
  have C_is_limit : Cal P w K mg base 1 "is_limit" (spIsLimit) [] := ⟨_, fd_is_limit, ["thing"], [], O_is_limit, He.glo_ok X N (c.fact 7 (f := .glo "is_limit") rfl), F_is_limit.kp, b_C_is_limit, .nil⟩
  have O_u_is_end : FnOk P w K mg base CX0 1 (He.fAd K ("_is_end", none)) fd_u_is_end ["thing", "known"] (spIsEnd) := ok_is_end F_u_is_end G
  have b_C_u_is_end : Binds K fd_u_is_end ["thing", "known"] [] := FunD.bindsN F_u_is_end fun _ _ _ _ _ _ us hl => match us, hl with | [_, _], _ => rfl
  have C_u_is_end : Cal P w K mg base 1 "_is_end" (spIsEnd) [] := ⟨_, fd_u_is_end, ["thing", "known"], [], O_u_is_end, He.glo_ok X N (c.fact 8 (f := .glo "_is_end") rfl), F_u_is_end.kp, b_C_u_is_end, .nil⟩
  have O_checked_system : FnOk P w K mg base CX0 2 (He.fAd K ("checked_system", none)) fd_checked_system ["system", "names"] (spChecked) := ok_checked F_checked_system G C_is_limit C_u_is_end
  obtain ⟨ds_C_checked_system, v_C_checked_system, b_C_checked_system⟩ := FunD.binds1 (ps := ["system", "names"]) F_checked_system 2 1 (List.cons_ne_nil _ _) rfl fun _ _ _ _ _ _ _ us its h1 h2 => match us, h1, its, h2 with | [_, _], _, [_], _ => ⟨_, rfl, rfl⟩
  have C_checked_system : Cal P w K mg base 2 "checked_system" (spChecked) [] := ⟨_, fd_checked_system, ["system", "names"], ds_C_checked_system, O_checked_system, He.glo_ok X N (c.fact 9 (f := .glo "checked_system") rfl), F_checked_system.kp, b_C_checked_system, v_C_checked_system⟩
  have O_is_name : FnOk P w K mg base CX0 1 (He.fAd K ("is_name", none)) fd_is_name ["thing"] (spIsName) := ok_is_name F_is_name G
  have b_C_is_name : Binds K fd_is_name ["thing"] [] := FunD.bindsN F_is_name fun _ _ _ _ _ _ us hl => match us, hl with | [_], _ => rfl
  have C_is_name : Cal P w K mg base 1 "is_name" (spIsName) [] := ⟨_, fd_is_name, ["thing"], [], O_is_name, He.glo_ok X N (c.fact 10 (f := .glo "is_name") rfl), F_is_name.kp, b_C_is_name, .nil⟩
  have O_checked_names : FnOk P w K mg base CX0 2 (He.fAd K ("checked_names", none)) fd_checked_names ["names"] (spChkNames) := ok_chknames F_checked_names G C_is_name
  have b_C_checked_names : Binds K fd_checked_names ["names"] [] := FunD.bindsN F_checked_names fun _ _ _ _ _ _ us hl => match us, hl with | [_], _ => rfl
  have C_checked_names : Cal P w K mg base 2 "checked_names" (spChkNames) [] := ⟨_, fd_checked_names, ["names"], [], O_checked_names, He.glo_ok X N (c.fact 11 (f := .glo "checked_names") rfl), F_checked_names.kp, b_C_checked_names, .nil⟩
  have O_at_point : FnOk P w K mg base CX0 1 (He.fAd K ("at_point", none)) fd_at_point ["table", "values"] (spAtPoint (He.ga K "Table")) := ok_at_point F_at_point G T
  have b_C_at_point : Binds K fd_at_point ["table", "values"] [] := FunD.bindsN F_at_point fun _ _ _ _ _ _ us hl => match us, hl with | [_, _], _ => rfl
  have C_at_point : Cal P w K mg base 1 "at_point" (spAtPoint (He.ga K "Table")) [] := ⟨_, fd_at_point, ["table", "values"], [], O_at_point, He.glo_ok X N (c.fact 12 (f := .glo "at_point") rfl), F_at_point.kp, b_C_at_point, .nil⟩
  have O_Region___contains__ : FnOk P w K mg base CX0 2 (He.fAd K ("Region", some "__contains__")) fd_Region___contains__ ["self", "point"] (spContains (He.ga K "Region") (He.ga K "Table")) := ok_contains F_Region___contains__ G RC C_at_point
  have b_Region___contains__ : Binds K fd_Region___contains__ ["self", "point"] [] := FunD.bindsN F_Region___contains__ fun _ _ _ _ _ _ us hl => match us, hl with | [_, _], _ => rfl
  have O_contains : MetS P w K mg base 2 (He.ga K "Region") "__contains__" (spContains (He.ga K "Region") (He.ga K "Table")) := ⟨RC.cl, _, fd_Region___contains__, ["self", "point"], He.meth_ok (c.fact 66 (f := .meth "Region" "__contains__") rfl), O_Region___contains__, b_Region___contains__⟩
  have O_Region___init__ : FnOk P w K mg base CX0 6 (He.fAd K ("Region", some "__init__")) fd_Region___init__ ["self", "names", "systems", "tables"] (spRegion K (He.ga K "Region") (He.ga K "Table")) := ok_reginit F_Region___init__ G RC C_checked_names C_table_of C_checked_system
  obtain ⟨_, b_M_RegionK⟩ := FunD.kbinds0 (ps := ["self", "names", "systems", "tables"]) F_Region___init__ 3 ["tables"] [] (fun vs mz zs => vs ++ (mz ++ zs)) (List.cons_ne_nil _ _) (fun q h => (by cases h)) (fun a b c => a.append (b.append c)) (fun _ _ _ _ _ _ us mv ws h1 h2 h3 => match us, h1, mv, h2, ws, h3 with | [_, _, _], _, [], _, [_], _ => rfl)
  have M_RegionK : MakK P w K mg base 6 "Region" (He.ga K "Region") (spRegion K (He.ga K "Region") (He.ga K "Table")) 2 ["tables"] gVK := ⟨_, fd_Region___init__, ["self", "names", "systems", "tables"], _, He.mkr_ok (c.fact 61 (f := .mkr "Region") rfl), O_Region___init__, gR, b_M_RegionK⟩
  obtain ⟨_, b_M_Region0⟩ := FunD.kbinds0 (ps := ["self", "names", "systems", "tables"]) F_Region___init__ 3 [] [("tables", V.ref (tbA K))] (fun vs mz zs => vs ++ (mz ++ zs)) (List.cons_ne_nil _ _) (fun q h => h) (fun a b c => a.append (b.append c)) (fun _ _ _ _ _ _ us mv ws h1 h2 h3 => match us, h1, mv, h2, ws, h3 with | [_, _, _], _, [_], _, [], _ => ⟨_, _, _, _, _, _, rfl, rfl, rfl⟩)
  have M_Region0 : MakK P w K mg base 6 "Region" (He.ga K "Region") (spRegion K (He.ga K "Region") (He.ga K "Table")) 2 [] (gV0 (tbA K)) := ⟨_, fd_Region___init__, ["self", "names", "systems", "tables"], _, He.mkr_ok (c.fact 61 (f := .mkr "Region") rfl), O_Region___init__, gR, b_M_Region0⟩
  have O_u_law_draw : FnOk P w K mg base CX0 1 (He.fAd K ("_law_draw", none)) fd_u_law_draw ["script", "at", "many"] (spDraw K) := ok_draw F_u_law_draw G
  have b_C_u_law_draw : Binds K fd_u_law_draw ["script", "at", "many"] [] := FunD.bindsN F_u_law_draw fun _ _ _ _ _ _ us hl => match us, hl with | [_, _, _], _ => rfl
  have C_u_law_draw : Cal P w K mg base 1 "_law_draw" (spDraw K) [] := ⟨_, fd_u_law_draw, ["script", "at", "many"], [], O_u_law_draw, He.glo_ok X N (c.fact 13 (f := .glo "_law_draw") rfl), F_u_law_draw.kp, b_C_u_law_draw, .nil⟩
  have O_u_law_pool : FnOk P w K mg base CX0 2 (He.fAd K ("_law_pool", none)) fd_u_law_pool ["script", "at"] (spPool K) := ok_pool F_u_law_pool G C_u_law_draw
  have b_C_u_law_pool : Binds K fd_u_law_pool ["script", "at"] [] := FunD.bindsN F_u_law_pool fun _ _ _ _ _ _ us hl => match us, hl with | [_, _], _ => rfl
  have C_u_law_pool : Cal P w K mg base 2 "_law_pool" (spPool K) [] := ⟨_, fd_u_law_pool, ["script", "at"], [], O_u_law_pool, He.glo_ok X N (c.fact 14 (f := .glo "_law_pool") rfl), F_u_law_pool.kp, b_C_u_law_pool, .nil⟩
  have O_u_law_worth : FnOk P w K mg base CX0 1 (He.fAd K ("_law_worth", none)) fd_u_law_worth ["name", "point"] (spWorth) := ok_worth F_u_law_worth G
  have b_C_u_law_worth : Binds K fd_u_law_worth ["name", "point"] [] := FunD.bindsN F_u_law_worth fun _ _ _ _ _ _ us hl => match us, hl with | [_, _], _ => rfl
  have C_u_law_worth : Cal P w K mg base 1 "_law_worth" (spWorth) [] := ⟨_, fd_u_law_worth, ["name", "point"], [], O_u_law_worth, He.glo_ok X N (c.fact 15 (f := .glo "_law_worth") rfl), F_u_law_worth.kp, b_C_u_law_worth, .nil⟩
  have O_u_law_solves : FnOk P w K mg base CX0 2 (He.fAd K ("_law_solves", none)) fd_u_law_solves ["system", "point"] (spSolves) := ok_solves F_u_law_solves G C_u_law_worth
  have b_C_u_law_solves : Binds K fd_u_law_solves ["system", "point"] [] := FunD.bindsN F_u_law_solves fun _ _ _ _ _ _ us hl => match us, hl with | [_, _], _ => rfl
  have C_u_law_solves : Cal P w K mg base 2 "_law_solves" (spSolves) [] := ⟨_, fd_u_law_solves, ["system", "point"], [], O_u_law_solves, He.glo_ok X N (c.fact 16 (f := .glo "_law_solves") rfl), F_u_law_solves.kp, b_C_u_law_solves, .nil⟩
  have O_u_law_system : FnOk P w K mg base CX0 2 (He.fAd K ("_law_system", none)) fd_u_law_system ["script", "at", "names", "most"] (spSystem K) := ok_system F_u_law_system G C_u_law_draw
  have b_C_u_law_system : Binds K fd_u_law_system ["script", "at", "names", "most"] [] := FunD.bindsN F_u_law_system fun _ _ _ _ _ _ us hl => match us, hl with | [_, _, _, _], _ => rfl
  have C_u_law_system : Cal P w K mg base 2 "_law_system" (spSystem K) [] := ⟨_, fd_u_law_system, ["script", "at", "names", "most"], [], O_u_law_system, He.glo_ok X N (c.fact 17 (f := .glo "_law_system") rfl), F_u_law_system.kp, b_C_u_law_system, .nil⟩
  have O_u_law_table : FnOk P w K mg base CX0 1 (He.fAd K ("_law_table", none)) fd_u_law_table ["names", "system"] (spLTable) := ok_ltable F_u_law_table G
  have b_C_u_law_table : Binds K fd_u_law_table ["names", "system"] [] := FunD.bindsN F_u_law_table fun _ _ _ _ _ _ us hl => match us, hl with | [_, _], _ => rfl
  have C_u_law_table : Cal P w K mg base 1 "_law_table" (spLTable) [] := ⟨_, fd_u_law_table, ["names", "system"], [], O_u_law_table, He.glo_ok X N (c.fact 18 (f := .glo "_law_table") rfl), F_u_law_table.kp, b_C_u_law_table, .nil⟩
  have O_u_law_parts : FnOk P w K mg base CX0 3 (He.fAd K ("_law_parts", none)) fd_u_law_parts ["script", "at", "names", "most"] (spParts K) := ok_parts F_u_law_parts G C_u_law_draw C_u_law_system
  have b_C_u_law_parts : Binds K fd_u_law_parts ["script", "at", "names", "most"] [] := FunD.bindsN F_u_law_parts fun _ _ _ _ _ _ us hl => match us, hl with | [_, _, _, _], _ => rfl
  have C_u_law_parts : Cal P w K mg base 3 "_law_parts" (spParts K) [] := ⟨_, fd_u_law_parts, ["script", "at", "names", "most"], [], O_u_law_parts, He.glo_ok X N (c.fact 19 (f := .glo "_law_parts") rfl), F_u_law_parts.kp, b_C_u_law_parts, .nil⟩
  have O_holds : FnOk P w K mg base CX0 1 (He.fAd K ("holds", none)) fd_holds ["table", "left", "right", "limit"] (spHolds (He.ga K "Table")) := ok_holds F_holds G T
  have b_C_holds : Binds K fd_holds ["table", "left", "right", "limit"] [] := FunD.bindsN F_holds fun _ _ _ _ _ _ us hl => match us, hl with | [_, _, _, _], _ => rfl
  have C_holds : Cal P w K mg base 1 "holds" (spHolds (He.ga K "Table")) [] := ⟨_, fd_holds, ["table", "left", "right", "limit"], [], O_holds, He.glo_ok X N (c.fact 20 (f := .glo "holds") rfl), F_holds.kp, b_C_holds, .nil⟩
  have O_outside : FnOk P w K mg base CX0 4 (He.fAd K ("outside", none)) fd_outside ["table", "system"] (spOutside (He.ga K "Table")) := ok_outside F_outside G C_holds C_more
  have b_C_outside : Binds K fd_outside ["table", "system"] [] := FunD.bindsN F_outside fun _ _ _ _ _ _ us hl => match us, hl with | [_, _], _ => rfl
  have C_outside : Cal P w K mg base 4 "outside" (spOutside (He.ga K "Table")) [] := ⟨_, fd_outside, ["table", "system"], [], O_outside, He.glo_ok X N (c.fact 21 (f := .glo "outside") rfl), F_outside.kp, b_C_outside, .nil⟩
  have O_lean_of : FnOk P w K mg base CX0 1 (He.fAd K ("lean_of", none)) fd_lean_of ["table"] (spLean (He.ga K "Table")) := ok_lean F_lean_of G T
  have b_C_lean_of : Binds K fd_lean_of ["table"] [] := FunD.bindsN F_lean_of fun _ _ _ _ _ _ us hl => match us, hl with | [_], _ => rfl
  have C_lean_of : Cal P w K mg base 1 "lean_of" (spLean (He.ga K "Table")) [] := ⟨_, fd_lean_of, ["table"], [], O_lean_of, He.glo_ok X N (c.fact 22 (f := .glo "lean_of") rfl), F_lean_of.kp, b_C_lean_of, .nil⟩
  have O_without : FnOk P w K mg base CX0 5 (He.fAd K ("without", none)) fd_without ["tables", "table"] (spWithout (He.ga K "Table")) := ok_without F_without G C_lean_of C_outside
  have b_C_without : Binds K fd_without ["tables", "table"] [] := FunD.bindsN F_without fun _ _ _ _ _ _ us hl => match us, hl with | [_, _], _ => rfl
  have C_without : Cal P w K mg base 5 "without" (spWithout (He.ga K "Table")) [] := ⟨_, fd_without, ["tables", "table"], [], O_without, He.glo_ok X N (c.fact 23 (f := .glo "without") rfl), F_without.kp, b_C_without, .nil⟩
  have O_left_of : FnOk P w K mg base CX0 6 (He.fAd K ("left_of", none)) fd_left_of ["tables", "others"] (spLeft (He.ga K "Table")) := ok_left F_left_of G C_without
  have b_C_left_of : Binds K fd_left_of ["tables", "others"] [] := FunD.bindsN F_left_of fun _ _ _ _ _ _ us hl => match us, hl with | [_, _], _ => rfl
  have C_left_of : Cal P w K mg base 6 "left_of" (spLeft (He.ga K "Table")) [] := ⟨_, fd_left_of, ["tables", "others"], [], O_left_of, He.glo_ok X N (c.fact 24 (f := .glo "left_of") rfl), F_left_of.kp, b_C_left_of, .nil⟩
  have O_u_inside : FnOk P w K mg base CX0 1 (He.fAd K ("_inside", none)) fd_u_inside ["one", "two"] (spInside (He.ga K "Table")) := ok_inside F_u_inside G T
  have b_C_u_inside : Binds K fd_u_inside ["one", "two"] [] := FunD.bindsN F_u_inside fun _ _ _ _ _ _ us hl => match us, hl with | [_, _], _ => rfl
  have C_u_inside : Cal P w K mg base 1 "_inside" (spInside (He.ga K "Table")) [] := ⟨_, fd_u_inside, ["one", "two"], [], O_u_inside, He.glo_ok X N (c.fact 25 (f := .glo "_inside") rfl), F_u_inside.kp, b_C_u_inside, .nil⟩
  have O_absorbed : FnOk P w K mg base CX0 2 (He.fAd K ("absorbed", none)) fd_absorbed ["tables"] (spAbsorbed (He.ga K "Table")) := ok_absorbed F_absorbed G C_u_inside
  have b_C_absorbed : Binds K fd_absorbed ["tables"] [] := FunD.bindsN F_absorbed fun _ _ _ _ _ _ us hl => match us, hl with | [_], _ => rfl
  have C_absorbed : Cal P w K mg base 2 "absorbed" (spAbsorbed (He.ga K "Table")) [] := ⟨_, fd_absorbed, ["tables"], [], O_absorbed, He.glo_ok X N (c.fact 26 (f := .glo "absorbed") rfl), F_absorbed.kp, b_C_absorbed, .nil⟩
  have O_kept : FnOk P w K mg base CX0 3 (He.fAd K ("kept", none)) fd_kept ["table", "names"] (spKept (He.ga K "Table")) := ok_kept F_kept G T M_Table
  have b_C_kept : Binds K fd_kept ["table", "names"] [] := FunD.bindsN F_kept fun _ _ _ _ _ _ us hl => match us, hl with | [_, _], _ => rfl
  have C_kept : Cal P w K mg base 3 "kept" (spKept (He.ga K "Table")) [] := ⟨_, fd_kept, ["table", "names"], [], O_kept, He.glo_ok X N (c.fact 27 (f := .glo "kept") rfl), F_kept.kp, b_C_kept, .nil⟩
  have O_fit : FnOk P w K mg base CX0 1 (He.fAd K ("fit", none)) fd_fit ["one", "other"] (spFit (He.ga K "Region") (He.ga K "Table")) := ok_fit F_fit G RC
  have b_C_fit : Binds K fd_fit ["one", "other"] [] := FunD.bindsN F_fit fun _ _ _ _ _ _ us hl => match us, hl with | [_, _], _ => rfl
  have C_fit : Cal P w K mg base 1 "fit" (spFit (He.ga K "Region") (He.ga K "Table")) [] := ⟨_, fd_fit, ["one", "other"], [], O_fit, He.glo_ok X N (c.fact 28 (f := .glo "fit") rfl), F_fit.kp, b_C_fit, .nil⟩
  have O_Region_pieces : FnOk P w K mg base CX0 2 (He5.wf K (He.ga K "Region") "property" "pieces") fd_Region_pieces ["self"] (spPieces (He.ga K "Region") (He.ga K "Table")) := ok_pieces F_Region_pieces G RC C_lean_of
  have b_Region_pieces : Binds K fd_Region_pieces ["self"] [] := FunD.bindsN F_Region_pieces fun _ _ _ _ _ _ us hl => match us, hl with | [_], _ => rfl
  have Pr_pieces : MetP P w K mg base 2 (He.ga K "Region") "pieces" (spPieces (He.ga K "Region") (He.ga K "Table")) := ⟨RC.cl, _, _, fd_Region_pieces, ["self"], PP, O_Region_pieces, b_Region_pieces⟩
  have O_Region___or__ : FnOk P w K mg base CX0 8 (He.fAd K ("Region", some "__or__")) fd_Region___or__ ["self", "other"] (spOr (He.ga K "Region") (He.ga K "Table")) := ok_or F_Region___or__ G RC C_fit C_absorbed M_RegionK
  have b_Region___or__ : Binds K fd_Region___or__ ["self", "other"] [] := FunD.bindsN F_Region___or__ fun _ _ _ _ _ _ us hl => match us, hl with | [_, _], _ => rfl
  have O_or : MetS P w K mg base 8 (He.ga K "Region") "__or__" (spOr (He.ga K "Region") (He.ga K "Table")) := ⟨RC.cl, _, fd_Region___or__, ["self", "other"], He.meth_ok (c.fact 63 (f := .meth "Region" "__or__") rfl), O_Region___or__, b_Region___or__⟩
  have O_Region___sub__ : FnOk P w K mg base CX0 8 (He.fAd K ("Region", some "__sub__")) fd_Region___sub__ ["self", "other"] (spSub (He.ga K "Region") (He.ga K "Table")) := ok_sub F_Region___sub__ G RC C_fit C_left_of M_RegionK
  have b_Region___sub__ : Binds K fd_Region___sub__ ["self", "other"] [] := FunD.bindsN F_Region___sub__ fun _ _ _ _ _ _ us hl => match us, hl with | [_, _], _ => rfl
  have O_sub : MetS P w K mg base 8 (He.ga K "Region") "__sub__" (spSub (He.ga K "Region") (He.ga K "Table")) := ⟨RC.cl, _, fd_Region___sub__, ["self", "other"], He.meth_ok (c.fact 62 (f := .meth "Region" "__sub__") rfl), O_Region___sub__, b_Region___sub__⟩
  have O_Region___bool__ : FnOk P w K mg base CX0 1 (He.fAd K ("Region", some "__bool__")) fd_Region___bool__ ["self"] (spBoolR (He.ga K "Region") (He.ga K "Table")) := ok_boolR F_Region___bool__ G RC
  have b_Region___bool__ : Binds K fd_Region___bool__ ["self"] [] := FunD.bindsN F_Region___bool__ fun _ _ _ _ _ _ us hl => match us, hl with | [_], _ => rfl
  have O_bool : MetS P w K mg base 1 (He.ga K "Region") "__bool__" (spBoolR (He.ga K "Region") (He.ga K "Table")) := ⟨RC.cl, _, fd_Region___bool__, ["self"], He.meth_ok (c.fact 65 (f := .meth "Region" "__bool__") rfl), O_Region___bool__, b_Region___bool__⟩
  have O_Region_within : FnOk P w K mg base CX0 7 (He.fAd K ("Region", some "within")) fd_Region_within ["self", "other"] (spWithin (He.ga K "Region") (He.ga K "Table")) := ok_within F_Region_within G RC C_fit C_left_of
  have b_Region_within : Binds K fd_Region_within ["self", "other"] [] := FunD.bindsN F_Region_within fun _ _ _ _ _ _ us hl => match us, hl with | [_, _], _ => rfl
  have R_within : MetR P w K mg base 7 (He.ga K "Region") "within" (spWithin (He.ga K "Region") (He.ga K "Table")) := ⟨RC.cl, _, He.meth_ok (c.fact 67 (f := .meth "Region" "within") rfl), (FnOk.raw O_Region_within b_Region_within .nil).imp fun vs H Q E h => by rw [List.append_nil]; exact h⟩
  have O_Region_same : FnOk P w K mg base CX0 8 (He.fAd K ("Region", some "same")) fd_Region_same ["self", "other"] (spSame (He.ga K "Region") (He.ga K "Table")) := ok_same F_Region_same G RC R_within
  have b_Region_same : Binds K fd_Region_same ["self", "other"] [] := FunD.bindsN F_Region_same fun _ _ _ _ _ _ us hl => match us, hl with | [_, _], _ => rfl
  have R_same : MetR P w K mg base 8 (He.ga K "Region") "same" (spSame (He.ga K "Region") (He.ga K "Table")) := ⟨RC.cl, _, He.meth_ok (c.fact 68 (f := .meth "Region" "same") rfl), (FnOk.raw O_Region_same b_Region_same .nil).imp fun vs H Q E h => by rw [List.append_nil]; exact h⟩
  have O_Region___invert__ : FnOk P w K mg base CX0 8 (He.fAd K ("Region", some "__invert__")) fd_Region___invert__ ["self"] (spInv (He.ga K "Region") (He.ga K "Table")) := ok_inv F_Region___invert__ G RC hTB C_left_of M_Region0 M_RegionK
  have b_Region___invert__ : Binds K fd_Region___invert__ ["self"] [] := FunD.bindsN F_Region___invert__ fun _ _ _ _ _ _ us hl => match us, hl with | [_], _ => rfl
  have O_invert : MetS P w K mg base 8 (He.ga K "Region") "__invert__" (spInv (He.ga K "Region") (He.ga K "Table")) := ⟨RC.cl, _, fd_Region___invert__, ["self"], He.meth_ok (c.fact 64 (f := .meth "Region" "__invert__") rfl), O_Region___invert__, b_Region___invert__⟩
  have O_Region_point : FnOk P w K mg base CX0 6 (He.fAd K ("Region", some "point")) fd_Region_point ["self"] (spPointR (He.ga K "Region") (He.ga K "Table")) := ok_pointR F_Region_point G RC C_point_of
  have b_Region_point : Binds K fd_Region_point ["self"] [] := FunD.bindsN F_Region_point fun _ _ _ _ _ _ us hl => match us, hl with | [_], _ => rfl
  have S_point : MetS P w K mg base 6 (He.ga K "Region") "point" (spPointR (He.ga K "Region") (He.ga K "Table")) := ⟨RC.cl, _, fd_Region_point, ["self"], He.meth_ok (c.fact 70 (f := .meth "Region" "point") rfl), O_Region_point, b_Region_point⟩
  have O_Region_shadow : FnR P w K mg base CX0 8 (He.fAd K ("Region", some "shadow")) (fun vs H Q E => ∃ v rest, vs = v :: rest ∧ rest.length ≤ 3 ∧ ∀ p, H p = none → spShadow (He.ga K "Region") (He.ga K "Table") [v, .ref p] (upd H p (.tup rest)) Q E) := ok_shadow F_Region_shadow G RC C_checked_names C_kept C_absorbed M_RegionK
  have R_shadow : MetR P w K mg base 8 (He.ga K "Region") "shadow" (fun vs H Q E => ∃ v rest, vs = v :: rest ∧ rest.length ≤ 3 ∧ ∀ p, H p = none → spShadow (He.ga K "Region") (He.ga K "Table") [v, .ref p] (upd H p (.tup rest)) Q E) := ⟨RC.cl, _, He.meth_ok (c.fact 69 (f := .meth "Region" "shadow") rfl), O_Region_shadow⟩
  have O_u_law_inside : FnOk P w K mg base CX0 3 (He.fAd K ("_law_inside", none)) fd_u_law_inside ["systems", "point"] (spLInside) := ok_linside F_u_law_inside G C_u_law_solves
  have b_C_u_law_inside : Binds K fd_u_law_inside ["systems", "point"] [] := FunD.bindsN F_u_law_inside fun _ _ _ _ _ _ us hl => match us, hl with | [_, _], _ => rfl
  have C_u_law_inside : Cal P w K mg base 3 "_law_inside" (spLInside) [] := ⟨_, fd_u_law_inside, ["systems", "point"], [], O_u_law_inside, He.glo_ok X N (c.fact 29 (f := .glo "_law_inside") rfl), F_u_law_inside.kp, b_C_u_law_inside, .nil⟩
  have O_u_law_point : FnOk P w K mg base CX0 2 (He.fAd K ("_law_point", none)) fd_u_law_point ["script", "at", "names"] (spLPoint K) := ok_lpoint F_u_law_point G C_u_law_draw
  have b_C_u_law_point : Binds K fd_u_law_point ["script", "at", "names"] [] := FunD.bindsN F_u_law_point fun _ _ _ _ _ _ us hl => match us, hl with | [_, _, _], _ => rfl
  have C_u_law_point : Cal P w K mg base 2 "_law_point" (spLPoint K) [] := ⟨_, fd_u_law_point, ["script", "at", "names"], [], O_u_law_point, He.glo_ok X N (c.fact 30 (f := .glo "_law_point") rfl), F_u_law_point.kp, b_C_u_law_point, .nil⟩
  have O_u_law_can : FnOk P w K mg base CX0 3 (He.fAd K ("_law_can", none)) fd_u_law_can ["systems", "point", "name", "names"] (spLCan) := ok_lcan F_u_law_can G C_u_law_worth C_u_law_solves
  have b_C_u_law_can : Binds K fd_u_law_can ["systems", "point", "name", "names"] [] := FunD.bindsN F_u_law_can fun _ _ _ _ _ _ us hl => match us, hl with | [_, _, _, _], _ => rfl
  have C_u_law_can : Cal P w K mg base 3 "_law_can" (spLCan) [] := ⟨_, fd_u_law_can, ["systems", "point", "name", "names"], [], O_u_law_can, He.glo_ok X N (c.fact 31 (f := .glo "_law_can") rfl), F_u_law_can.kp, b_C_u_law_can, .nil⟩
  have O_u_law_lack : FnOk P w K mg base CX0 2 (He.fAd K ("_law_lack", none)) fd_u_law_lack ["names", "systems", "others"] (spLLack) := ok_llack F_u_law_lack G C_u_law_table
  have b_C_u_law_lack : Binds K fd_u_law_lack ["names", "systems", "others"] [] := FunD.bindsN F_u_law_lack fun _ _ _ _ _ _ us hl => match us, hl with | [_, _, _], _ => rfl
  have C_u_law_lack : Cal P w K mg base 2 "_law_lack" (spLLack) [] := ⟨_, fd_u_law_lack, ["names", "systems", "others"], [], O_u_law_lack, He.glo_ok X N (c.fact 32 (f := .glo "_law_lack") rfl), F_u_law_lack.kp, b_C_u_law_lack, .nil⟩
  have O_law : FnOk P w K mg base CX0 9 (He.fAd K ("law", none)) fd_law ["script"] (spLaw K) := ok_law F_law G RC hTB SF M_Region0 R_within R_same R_shadow O_sub O_or O_invert O_bool O_contains S_point Pr_pieces C_u_law_draw C_u_law_pool C_u_law_parts C_u_law_inside C_u_law_point C_u_law_lack C_u_law_can
  exact O_law
end K1
open PySem PySem.W PySem.Calls PyProof.Rows
theorem PySem.Challenge.cw_loopsheds_k07_whole_within_holds : PySem.Challenge.rw_loopsheds_k07_whole_within.Holds := by
  w_on; o_law
  refine HandSHeadRun.head_any (r := OpenLaw.row PySem.Challenge.rw_loopsheds_k07_whole_within) (q := view (OpenLaw.row PySem.Challenge.rw_loopsheds_k07_whole_within).prog [53]) (H := K1.hk) (ob := K1.ob) (M := 4000) (loose := K1.names) (d := HandSHeadRun.topDef (OpenLaw.row PySem.Challenge.rw_loopsheds_k07_whole_within).prog 53) (kwd := []) K1.ob_eq
    (by kernel_rfl) (fun s => by kernel_rfl) K1.run (by kernel_rfl) (by kernel_rfl) (by kernel_rfl) (by rfl) (by first | assumption | decide +kernel) (by decide +kernel) ⟨rfl, rfl, rfl, rfl, rfl, by decide +kernel⟩ ?hw ?hc
  case hw => w_witness2
  case hc =>
    refine L2.walk_ofE (l := PySem.Challenge.rw_loopsheds_k07_whole_within) (n := 63) (k := 9) (x := "script") (CX := L2.CX0) rfl (by decide) (by kernel_rfl) ⟨rfl, by decide, by decide⟩ ?F (fun _ _ _ _ z => z)
    intro w mg fa h Y G hmg0
    obtain ⟨K, KX, c⟩ := Y
    have hmg : mg ("law" : PySem.Str) = some (.ref fa) := by
      have e : (HandSHeadRun.topDef (OpenLaw.row PySem.Challenge.rw_loopsheds_k07_whole_within).prog 53).name = ("law" : PySem.Str) := by kernel_rfl
      rw [← e]
      exact hmg0
    obtain ⟨fd, hb, hF⟩ := K1.facts (P := (PySem.Challenge.rw_loopsheds_k07_whole_within).prog) (w := w) KX G hmg c (by kernel_rfl) (by kernel_rfl)
    exact ⟨K, fd, K1.spLaw K, KX, hb, fun H a ns hl _ hS => ⟨a, ns, rfl, ⟨hS, Nat.le_trans hl (by decide)⟩, fun _ => rfl⟩, hF⟩

