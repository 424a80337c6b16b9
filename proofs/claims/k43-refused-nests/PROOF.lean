import PyProof.Rows.All
import Wide.All
import OpenK.AllK
import Wide.FinOn
import KE.KStateDown
import KE.GoesEnum
import HandS.ForMost
import HandS.Defaults
import HandS.DictComp
import HandS.IsInst
import HandS.TupAny
import HandS.Wide
import HandS.Conv
import HandS.Flow
import HandS.Sort
import HandS.HeadHook1
import HandS.HeadHook2
import HandS.Walk
import OpenK.KEqL
import PyProof.Rows.StrMeet
import PyProof.Rows.TmSorted
import PyProof.P3Eq
import HandS.CallLocal
import PySem.Challenge.RW_loopsheds_k43_refused_nests
import HandS.TupLen
import KE.KDictLaws
import HandS.Dict
import HandS.More
import HandS.Exc
import HandS.ExcOwn
import HandS.TryOnly
import HandS.WordsExc
import HandS.CallSlots
import HandS.ExcInit
import HandS.Nested
import KE.KExcSuper
import HandS.ExcField
import HandS.ExcIs
import HandS.Codes
import HandS.Style
import HandS.TupMul
import PyProof.ListIndex
import HandS.Property
import HandS.SlotsOwn
import HandS.MakeKwOnly
import HandS.ClsMeth
import HandS.Rev
import PyProof.MeetsIn
import PyProof.Rows.Range3
import HandS.HeadNt
import HandS.Head0
import HandS.Head1
import HandS.Head2
import HandS.HeadEnd
set_option Elab.async false
set_option linter.all false
set_option maxRecDepth 100000
set_option maxHeartbeats 0
/-! ### rules of our own -/
namespace Ls
open PySem PySem.Spec PyProof.Rows L2
/-! a def of the module, a class, as callers need them -/
structure Cal (P : Program) (w : World) (K : PySem.W.Frag) (mg : Str → Option Value) (base : Heap) (k : Nat) (x : Str) (sp : Sp) (dvs : List V) : Prop where
  ex : ∃ (f : Addr) (fd : FuncData) (ps : List Str) (ds : List Value), FnOk P w K mg base CX0 k f fd ps sp ∧ mg x = some (.ref f) ∧ PySem.W.keepIn K (.ref f) = true ∧ Binds K fd ps ds ∧ Vals dvs ds
structure Mak (P : Program) (w : World) (K : PySem.W.Frag) (mg : Str → Option Value) (base : Heap) (k : Nat) (x : Str) (C : Addr) (sp : Sp) (dvs : List V) : Prop where
  ex : ∃ (f : Addr) (fd : FuncData) (ps : List Str) (ds : List Value), Mk K C f ∧ FnOk P w K mg base CX0 k f fd ps sp ∧ mg x = some (.ref C) ∧ Binds K fd ps ds ∧ Vals dvs ds
section
variable {X : Cx} {e : Expr} {es : List Expr} {t : TA} {p pos : Pos} {x : Str} {k j : Nat} {sp : Sp} {dvs : List V} {C : Addr}
theorem pe_c (c : Cal X.prog X.w X.K X.mg X.base k x sp dvs) (hr : Room j X.A) (hk : k ≤ j) (hg : Gl X x) (ha : PA X (e :: es) t) (hdb : (x == ("__debug__" : Str)) = false := by decide)
    (he : starEach (e :: es) X.env = (false, eval e X.env) :: starEach es X.env := by rfl) (hpl : (backTo pos (starEach es X.env)).any (·.1) = false := by rfl) : PE X (.Call (.Name x p) (e :: es) [] pos) (tCall sp dvs E0 t) := by
  have ⟨f, fd, ps, ds, F, hm, kp, b, d⟩ := c.ex
  exact pe_call F (hr.mono hk) hg hm kp b d pass0 ha hdb he hpl
theorem pe_mk (c : Mak X.prog X.w X.K X.mg X.base k x C sp dvs) (hr : Room j X.A) (hk : k + 1 ≤ j) (hg : Gl X x) (ha : PA X (e :: es) t) (hdb : (x == ("__debug__" : Str)) = false := by decide)
    (he : starEach (e :: es) X.env = (false, eval e X.env) :: starEach es X.env := by rfl) (hpl : (backTo pos (starEach es X.env)).any (·.1) = false := by rfl) : PE X (.Call (.Name x p) (e :: es) [] pos) (tMake C sp dvs E0 t) := by
  have ⟨f, fd, ps, ds, M, F, hm, b, d⟩ := c.ex
  exact pe_make M F (hr.mono hk) hg hm b d pass0 ha hdb he hpl
/-- a module's constant -/
theorem pe_gi {i : Int} (hg : Gl X x) (h : ∃ t, X.mg x = some (.int i t)) (hdb : (x == ("__debug__" : Str)) = false := by decide) : PE X (.Name x pos) (tC (.int i)) := by
  have ⟨t, ht⟩ := h
  exact pe_glob (v := .int i) hg ht ⟨t, rfl⟩ hdb
end
/-! x = {k: v for ..} on one line, x a local -/
section
variable {X : Cx}
theorem ps_setDc {i : Nat} {y : Str} {py : Pos} {kx vx tg iter : Expr} {ifs : List Expr} {scope : Scope} {own : List (Str × Nat)} {pos spos : Pos} {wi : TI} {g : TG} {tt : TT} {tk tv : TE} (hc : X.calm = true) (hN : X.N.Nodup) (hy : X.N[i]? = some y) (hyl : X.env.scope.names.lookup y = some .local)
    (hsw : swapsWith (.DictComp kx vx [⟨tg, iter, ifs, 0⟩] scope pos) (some (.Name y py)) spos.line X.env = pure true) (hi : PI X tg iter wi) (ok : BlkOk X.N X.env.scope scope own)
    (hg : ∀ (s : Shared) (H : Hp) (C : Addr) (cl : List (Str × Addr)) (fp : List Addr), PG (X.blk s H scope (compEnvC scope cl C X.env) fp) tg g) (ht : ∀ (s : Shared) (H : Hp) (C : Addr) (cl : List (Str × Addr)) (fp : List Addr), PTs (X.blk s H scope (compEnvC scope cl C X.env) fp) ifs tt)
    (hk : ∀ (s : Shared) (H : Hp) (C : Addr) (cl : List (Str × Addr)) (fp : List Addr), PE (X.blk s H scope (compEnvC scope cl C X.env) fp) kx tk)
    (he : ∀ (s : Shared) (H : Hp) (C : Addr) (cl : List (Str × Addr)) (fp : List Addr), PE (X.blk s H scope (compEnvC scope cl C X.env) fp) vx tv) (hs : ∀ x, foldedSetIterable iter X.env x = pure x := by intro _; rfl) :
    PS X (.Assign [.Name y py] (.DictComp kx vx [⟨tg, iter, ifs, 0⟩] scope pos) spos) (tAsg (tDc wi g tt tk tv (own.map (·.2))) (gName i)) := by
  refine ⟨fun pins s0 σ0 H0 D I0 h0 => ?_⟩
  rw [exec_Assign_Name_used _ _ _ _ hsw]
  refine wpAny_bind (wpAny_standAt (wpAny_bind ?_))
  show wpAny _ X.A (do let _ ← comprehension (.DictComp kx vx [⟨tg, iter, ifs, 0⟩] scope pos) scope X.env (firstIterPos [⟨tg, iter, ifs, 0⟩] pos) newDict false (eval iter X.env) (some (assign (.Name y py) X.env))) _ _ s0
  have h1 : tDc wi g tt tk tv (own.map (·.2)) σ0 H0 (fun x H1 => gName i x σ0 H1 D.nx) := h0
  refine wpAny_bind (thn (dc_core (Qf := fun _ s' => SP X pins D .next s') hc hN I0 hi ok hg ht hk he hs h1 fun L C s1 m H1 I1 q1 n1 f1 => ?_) fun _ _ hq => wpAny_pure (wpAny_pure hq))
  show wpAny _ _ (assign (.Name y py) X.env (.ref L)) _ _ _
  refine wpAny_assign_Name (store_ok2 (v := V.ref L) I1 hN hy (.inl hyl) rfl (fun s2 I2 ⟨a, sb, ha⟩ => ?_) (.inr hyl))
  have ⟨g0, g1, g2, g3, g4, g5⟩ := f1
  have hCa : C ≠ a := ha.elim (fun z => by rw [z]; exact g1) fun z e => g4 y a z e.symm
  exact ⟨m, n1.sameBut sb hCa, fun h3 sb3 => ⟨_, H1, I2.turned (t' := s2.toks) (fun b o hb e => (sb3.2 b hb).trans e) g0 g1 g3 g4 g5, q1⟩⟩
theorem sw_trueD {kx vx : Expr} {gs : List Comprehension} {scope : Scope} {pos py : Pos} {y : Str} {l : Nat} {env : Env} (hk : env.scope.kind = .function) (hy : env.scope.names.lookup y = some .local) (hl : (py.line == pos.line) = true)
    (ha : (scope.names.any fun (n, k) => n == y && (k == .local || k == .cell)) = false) : swapsWith (.DictComp kx vx gs scope pos) (some (.Name y py)) l env = pure true := by
  have k1 : env.kindOf y = some .local := hy
  have k2 : env.blockKind = .function := by rw [Env.blockKind, hk]; rfl
  simp only [swapsWith, k2, k1, ha, Expr.pos, hl]
  rfl
end
/-! for i, x in enumerate(a tuple) -/
def IteT (K : PySem.W.Frag) (a : Addr) : It :=
  ⟨fun i H => ∃ (xs : List V) (x : V), SqT K H a xs ∧ xs[i]? = some x, fun i H v H' => ∃ T x, v = .ref T ∧ H T = none ∧ H' = upd H T (.tup [.int (i : Nat), x]) ∧ ∀ xs, SqT K H a xs → xs[i]? = some x, fun i H => ∃ xs : List V, SqT K H a xs ∧ xs.length ≤ i⟩
theorem meets_enum1 {v : Value} {o : Obj} {H : Heap → Prop} (B : Begins v o H) :
    Meets (Builtin.«enumerate.__new__» ⟨[.type "enumerate", v], []⟩) (fun _ R s => H s.heap ∧
      R (.ok (.ret (.ref (s.heap.push o).objs.size))) { s with heap := (s.heap.push o).push { cls := .type "enumerate", data := .fields #[.none, .bool false, .ref s.heap.objs.size, rawInt 0, .none, .none] } }) :=
  .of_wp fun prog w A R s h => by
    obtain ⟨hp, g, d, tk, os⟩ := s; have ⟨h1, h2⟩ := h
    have hsub := sub_enumerate
    have q1 : ∀ {A' : Around} {E : Value → Shared → Prop} {Q : Value → Shared → Prop}, Q (.ref hp.objs.size) ⟨hp.push o, g, d, tk, os⟩ → wpAny (model prog w) A' (pyIter v) Q E ⟨hp, g, d, tk, os⟩ :=
      fun q => B.iter prog w _ _ ⟨hp, g, d, tk, os⟩ _ h1 q
    wp_walk using q1
    refine wpAny_stack_any fun st => wpAny_pure ?_
    split
    · rename_i c _ _ _ _ _
      cases (c == Value.type "enumerate") <;> (wp_walk using q1; exact ⟨_, rfl, h2⟩)
    · wp_walk using q1
      exact ⟨_, rfl, h2⟩
theorem enum_begins1 {prog : Program} {w : World} {A : Around} {E : Value → Shared → Prop} {s : Shared} {v : Value} {o : Obj} {H : Heap → Prop} {Q : Value → Shared → Prop} (B : Begins v o H) (h1 : H s.heap)
    (h : ∀ h', IsEnum h' (s.heap.objs.size + 1) s.heap.objs.size 0 .none → h'.get? s.heap.objs.size = some o → h'.objs.size = s.heap.objs.size + 2 → (∀ b o, s.heap.get? b = some o → h'.get? b = some o) → Q (.ref (s.heap.objs.size + 1)) { s with heap := h' }) :
    wpAny (model prog w) A (call (.type "enumerate") [v]) Q E s := by
  refine callType_new F.called_enumerate (by decide) (F.typeCall_enumerate_1 _) (F.newCall_enumerate_1 _) (fun obj => F.args_object_init_2 obj _) F.entry_enumerate_new (meets_enum1 B) ⟨h1, ?_⟩
  have hz : (s.heap.push o).objs.size = s.heap.objs.size + 1 := Heap.size_push ..
  show _ ∧ _; rw [hz]
  have he : IsEnum ((s.heap.push o).push { cls := .type "enumerate", data := .fields #[.none, .bool false, .ref s.heap.objs.size, rawInt 0, .none, .none] }) (s.heap.objs.size + 1) s.heap.objs.size 0 .none := by
    have := Heap.get?_push_size (s.heap.push o) (o := { cls := .type "enumerate", data := .fields #[.none, .bool false, .ref s.heap.objs.size, rawInt 0, .none, .none] }) rfl
    rwa [hz] at this
  exact ⟨⟨_, he, rfl⟩, h _ he (Heap.get?_push_of_some _ (Heap.get?_push_size _ B.free)) (by rw [Heap.size_push, hz]) fun b o x => Heap.get?_push_of_some _ (Heap.get?_push_of_some _ x)⟩
theorem turn_enumT {P : Program} {w : World} {K : PySem.W.Frag} {elts : List Expr} {kk : Nat} {tpos : Pos} (a e it : Addr) :
    Turn P w K (.Tuple elts kk tpos) (IteT K a) [e, it] e (fun i h => (∃ old, IsEnum h e it ((i : Nat) : Int) old) ∧ h.IsTupleIter it a i ∧ e ≠ it ∧ a ≠ it ∧ a ≠ e) where
  mem := List.mem_cons_self
  obj := fun i h st b hb => by
    have ⟨⟨old, he⟩, ⟨o, ho, hc, hd⟩, _⟩ := st
    rcases (show b = e ∨ b = it by simpa using hb) with z | z <;> rw [z]
    · exact ⟨_, he, fun v q => nomatch q⟩
    · exact ⟨o, ho, fun v q => by rw [hd] at q; cases q⟩
  keep := fun i h h' st k => ⟨st.1.imp fun old he => k e (by simp) _ he, st.2.1.at fun o q => k it (by simp) o q, st.2.2⟩
  item := fun X hP hw hK hc i pins s σ H E I hf st hg => by
    subst hP hw hK
    have ⟨⟨old, he⟩, hit, hne, hai, hae⟩ := st
    have ⟨xs, x, hq, hx⟩ := hg
    have ⟨its, rv, p, hz⟩ := I.tuple hq
    have ⟨u, hu, ru⟩ := rv.get hx
    have hel : e < s.heap.objs.size := Heap.lt_size he
    have hil : it < s.heap.objs.size := hit.elim fun _ q => Heap.lt_size q.1
    have hlt : i < its.toArray.size := by rw [List.size_toArray]; exact (List.getElem?_eq_some_iff.mp hu).1
    have pt : s.heap.IsTuple a its.toArray := p
    refine wpAny_pyNext_enum_itemD (Draws.tuple (A := X.A.in1) (show X.A.in1.handled = none from I.ok.hd hc) it a hai its.toArray) he ⟨hit, pt⟩ hlt hne (by simp [hne, hae.symm]) fun x' h' tk hPx ho hst' hT hsz hk => ?_
    have ex : x' = u := by
      have z : its.toArray[i]? = some x' := hPx
      rw [List.getElem?_toArray, hu] at z
      exact (Option.some.inj z).symm
    subst ex
    refine ⟨_, rfl, wpAny_letOwnedTupleGo_enum (s := { s with heap := h', toks := tk + 1 }) ho fun h'' he' sb => ?_⟩
    have hT2 : h''.get? s.heap.objs.size = some { cls := .type "tuple", data := .seq #[.int i tk, x'] } := (sb.2 _ (Nat.ne_of_gt hel)).trans hT
    have new : ObjOk X.prog X.w (upd H s.heap.objs.size (.tup [.int (i : Nat), x])) h'' s.heap.objs.size (.tup [.int (i : Nat), x]) := ⟨(by decide : 2 ≤ sizeLine), [.int i tk, x'], .cons ⟨_, rfl⟩ (.cons ru .nil), ⟨_, hT2, rfl, _, rfl⟩⟩
    have lt' : ∀ b, b ∈ [e, it] → b < s.heap.objs.size := fun b hb => by
      rcases (show b = e ∨ b = it by simpa using hb) with z | z <;> rw [z] <;> assumption
    have I1 : Inv X pins σ (upd H s.heap.objs.size (.tup [.int (i : Nat), x])) { s with heap := h'', toks := tk + 1 } :=
      I.turnedNew (ch := [e, it]) (fun b ob hb q => (sb.2 b fun z => hb (by simp [z])).trans (hk b ob (fun z => hb (by simp [z])) (fun z => hb (by simp [z])) q)) hf (Nat.le_refl _) new
    refine ⟨.ref s.heap.objs.size, _, I1, rfl, ⟨_, x, rfl, I.hok.fresh (Nat.le_refl _), rfl, fun ys hy => by rw [I.tuple_inj hy hq]; exact hx⟩, ⟨⟨x', ?_⟩, hst'.1.at fun o q => (sb.2 it (Ne.symm hne)).trans q, hne, hai, hae⟩, fun b hb => ?_⟩
    · rw [show ((i + 1 : Nat) : Int) = (i : Int) + 1 by omega]; exact he'
    · rw [upd_ne (Nat.ne_of_lt (lt' b hb))]
      exact (hf b hb).1
  done := fun X hP hw hK hc i pins s σ H E I hf st hg => by
    subst hP hw hK
    have ⟨⟨old, he⟩, hit, hne, hai, hae⟩ := st
    have ⟨xs, hq, hx⟩ := hg
    have ⟨its, rv, p, hz⟩ := I.tuple hq
    have ⟨f0, f1, f2, f3, f4, f5⟩ := hf it (by simp)
    have hl := rv.length
    have pt : s.heap.IsTuple a its.toArray := p
    have D0 : Draws X.prog X.w X.A.in1 it [it, a] 0 (fun _ _ => False) (fun _ h => h.IsTupleIter it a i ∧ h.IsTuple a its.toArray) :=
      { live := fun _ _ st => st.1.imp fun _ q => q.1
        frame := fun _ _ _ st hk => ⟨st.1.at fun o e => hk it (by simp) o e, st.2.at fun o e => hk a (by simp) o e⟩
        item := fun j s Q E hj => absurd hj (Nat.not_lt_zero _)
        done := fun s Q E st hE => wpAny_nextOf_tuple_end (show X.A.in1.handled = none from I.ok.hd hc) st.1 st.2 (by simp; omega) hE }
    exact wpAny_pyNext_enum_endD D0 he ⟨hit, pt⟩ fun h' eb => ⟨rfl, I.turned (t' := s.toks) (fun b o hb q => eb b o hb q) f0 f1 f3 f4 f5⟩
  self := fun A i s Q E st h => st.1.elim fun _ he => wpAny_pyIter_enum he h
def iEnumT (K : PySem.W.Frag) (ta : TA) : TI := fun σ H R => ta σ H fun vs H1 => ∃ a xs, vs = [.ref a] ∧ SqT K H1 a xs ∧ R (IteT K a) H1
theorem pi_enumT {X : Cx} {e : Expr} {ta : TA} {p pos tpos : Pos} {elts : List Expr} {kk : Nat} (hg : Gl X "enumerate") (hm : X.mg "enumerate" = none) (ha : PA X [e] ta) (hs : starEach [e] X.env = [(false, eval e X.env)] := by rfl) :
    PI X (.Tuple elts kk tpos) (.Call (.Name "enumerate" p) [e] [] pos) (iEnumT X.K ta) := by
  refine ⟨fun pins s0 σ0 H0 R I0 h0 => ?_⟩
  refine Call_ (ld_blt I0 hg hm boot_enumerate (PyProof.Rows.callWith_type1 (thn (ha.run pos pins s0 σ0 H0 _ I0 h0) fun us s1 ⟨vs, H1, I1, r1, q1⟩ => ?_) hs rfl))
  have ⟨a, xs, ex, hq, q⟩ := q1
  subst ex
  cases r1 with
  | cons r rr =>
    cases rr; cases r
    have ⟨its, rv, p', hz⟩ := I1.tuple hq
    have pt : s1.heap.IsTuple a its.toArray := p'
    refine enum_begins1 (begins_tuple a its.toArray) pt fun h' he hit hsz hk => wpAny_pyIter_enum he ?_
    have I2 : Inv X pins σ0 H1 { s1 with heap := h' } := I1.kept (t' := s1.toks) hk
    have hal : a < s1.heap.objs.size := pt.elim fun _ q => Heap.lt_size q.1
    refine ⟨s1.heap.objs.size + 1, [s1.heap.objs.size + 1, s1.heap.objs.size], _, _, H1, rfl, I2, turn_enumT a (s1.heap.objs.size + 1) s1.heap.objs.size, ⟨⟨.none, he⟩, ⟨_, hit, rfl, rfl⟩, Nat.succ_ne_self _, Nat.ne_of_lt hal, Nat.ne_of_lt (Nat.lt_succ_of_lt hal)⟩, fun b hb => ?_, q⟩
    have hle : s1.heap.objs.size ≤ b := by
      rcases (show b = s1.heap.objs.size + 1 ∨ b = s1.heap.objs.size by simpa using hb) with z | z <;> rw [z]
      · exact Nat.le_add_right _ _
      · exact Nat.le_refl _
    exact I1.fpOk hle (I1.hok.fresh hle)
/-! the same rules with the written part by its name (their readings must not name a comprehension's own block) -/
section
variable {X : Cx} (K : PySem.W.Frag)
def rLenQ : List V → Hp → VK → Prop := fun xs H Q => ∃ p ys, xs = [.ref p] ∧ (SqL K H p ys ∨ SqT K H p ys) ∧ Q (.int ys.length) H
def rListQ : List V → Hp → VK → Prop := fun xs H Q => ∃ p ys, xs = [.ref p] ∧ (SqL K H p ys ∨ SqT K H p ys) ∧ ∀ l, H l = none → Q (.ref l) (upd H l (.lst ys))
def rTupQ : List V → Hp → VK → Prop := fun xs H Q => ∃ p ys, xs = [.ref p] ∧ (H p = some (.lst ys) ∨ H p = some (.tup ys)) ∧ ∀ H' l, Same H H' → (H l = none ∨ l = p) → H' l = some (.tup ys) → Q (.ref l) H'
theorem kLen (h : X.K = K := by rfl) : CallR X (.builtin "len") (rLenQ K) := by subst h; exact call_len_seq
theorem kList (h : X.K = K := by rfl) : CallR X (.type "list") (rListQ K) := by subst h; exact call_list_of
theorem kTuple : CallR X (.type "tuple") rTupQ := fun pins s σ H xs us Q I r ⟨p, ys, ex, hp, q⟩ =>
  call_tuple_of pins s σ H xs us Q I r ⟨p, ys, ex, hp.elim (fun h => .inl ⟨.inl (.inl h), fun l nl => q _ l (fun b x e => by rw [upd_ne (ne_of_none e nl)]; exact e) (.inl nl) upd_same⟩) fun h => .inr ⟨.inl (.inl h), q H p (Same.refl H) (.inr rfl) h⟩⟩
theorem kSum (hc : X.calm = true) (h : X.K = K := by rfl) : CallR X (.builtin "sum") (rSum K) := by subst h; exact cr_sum hc
theorem kAll (hc : X.calm = true) (h : X.K = K := by rfl) : CallR X (.builtin "all") (rAll K) := by subst h; exact cr_all hc
theorem kSortedS (h : X.K = K := by rfl) : CallR X (.builtin "sorted") (rSortedS K) := by subst h; exact cr_sortedS
theorem kIsi (h : X.K = K := by rfl) : CallR X (.builtin "isinstance") (rIsi K) := by subst h; exact call_isi
theorem kIsiT (h : X.K = K := by rfl) : CallR X (.builtin "isinstance") (rIsiT K) := by subst h; exact call_isiT
theorem kEqD (hu : X.A.units + 64 < cLine) (h : X.K = K := by rfl) : OpR X (compareOp .Eq) (rEqD K) := by subst h; exact op_eqD hu
theorem kNeD (hu : X.A.units + 64 < cLine) (h : X.K = K := by rfl) : OpR X (compareOp .NotEq) (rNeD K) := by subst h; exact op_neD hu
theorem kIn (h : X.K = K := by rfl) : OpR X (compareOp .In) (rIn K false) := by subst h; exact op_in_seq
theorem kNotIn (h : X.K = K := by rfl) : OpR X (compareOp .NotIn) (rIn K true) := by subst h; exact op_notIn_seq
/-- tuple + tuple, a part of a tuple, tuple(x): a tuple stands there, new or not -/
def rCatU : R2 := fun x y H Q => ∃ a b xs ys, x = .ref a ∧ y = .ref b ∧ H a = some (.tup xs) ∧ H b = some (.tup ys) ∧ xs.length + ys.length ≤ sizeLine ∧ ∀ H' p, Same H H' → (H p = none ∨ p = a ∨ p = b) → H' p = some (.tup (xs ++ ys)) → Q (.ref p) H'
theorem new_same {H : Hp} {p : Addr} {o : HO} (h : H p = none) : Same H (upd H p o) := fun b x e => by rw [upd_ne (ne_of_none e h)]; exact e
theorem kCatT : OpR X (binaryOp .Add) rCatU := fun pins s σ H x y v u Q I rx ry ⟨a, b, xs, ys, ex, ey, ha, hb, hl, q⟩ =>
  op_catA pins s σ H x y v u Q I rx ry ⟨a, b, xs, ys, ex, ey, .inl (.inl ha), .inl (.inl hb), hl, fun e => by subst e; exact q H b (Same.refl H) (.inr (.inr rfl)) hb, fun _ e => by subst e; exact q H a (Same.refl H) (.inr (.inl rfl)) (by rw [List.append_nil]; exact ha), fun _ _ p np => q _ p (new_same np) (.inl np) upd_same⟩
def rSlU : V → Option Int → Option Int → Hp → VK → Prop := fun x lo hi H Q => ∃ a xs, x = .ref a ∧ H a = some (.tup xs) ∧ ∀ H' p, Same H H' → (H p = none ∨ p = a) → H' p = some (.tup (cutV xs lo hi)) → Q (.ref p) H'
theorem kSlT : SlR X rSlU := fun pins s σ H x v vl vu lo hi sl Q I rx hs pl pu ⟨a, xs, ex, ha, q⟩ =>
  sl_tupA pins s σ H x v vl vu lo hi sl Q I rx hs pl pu ⟨a, xs, ex, .inl (.inl ha), fun ⟨e1, e2⟩ => q H a (Same.refl H) (.inr rfl) (by unfold cutV; rw [e1, e2, List.drop_zero, Nat.sub_zero, List.take_length]; exact ha), fun _ p np => q _ p (new_same np) (.inl np) upd_same⟩
theorem kIxL (h : X.K = K := by rfl) : IxR X (rIxL K) := by subst h; exact ix_list
theorem kIxT (h : X.K = K := by rfl) : IxR X (rIxT K) := by subst h; exact ix_tup
theorem kIxQ (h : X.K = K := by rfl) : IxR X (rIx K) := by subst h; exact ix_seq
theorem kSlL (h : X.K = K := by rfl) : SlR X (rSlL K) := by subst h; exact sl_list
theorem kpg_tup {es : List Expr} {k : Nat} {t : TGs} {n : Nat} {pos : Pos} (hc : X.calm = true) (h : PGs X es t) (hk : X.K = K := by rfl) (hn : (assignEach es X.env).length = n := by rfl) (hst : (assignEach es X.env).findIdx? (·.1) = none := by rfl) : PG X (.Tuple es k pos) (gTup K n t) := by
  subst hk; exact pg_tup hc h hn hst
theorem kpi_list {tg l : Expr} {tl : TE} (hl : PE X l tl) (h : X.K = K := by rfl) : PI X tg l (iList K tl) := by subst h; exact pi_list hl
theorem kpi_tup {tg l : Expr} {tl : TE} (hl : PE X l tl) (h : X.K = K := by rfl) : PI X tg l (iTup K tl) := by subst h; exact pi_tup hl
theorem kpi_zip {e e2 : Expr} {ta : TA} {p pos tpos : Pos} {elts : List Expr} {kk : Nat} (hg : Gl X "zip") (hm : X.mg "zip" = none) (ha : PA X [e, e2] ta) (h : X.K = K := by rfl)
    (hs : starEach [e, e2] X.env = (false, eval e X.env) :: starEach [e2] X.env := by rfl) (hpl : (backTo pos (starEach [e2] X.env)).any (·.1) = false := by rfl) : PI X (.Tuple elts kk tpos) (.Call (.Name "zip" p) [e, e2] [] pos) (iZip K ta) := by
  subst h; exact pi_zip hg hm ha hs hpl
theorem kpi_enum {e : Expr} {ta : TA} {p pos tpos : Pos} {elts : List Expr} {kk : Nat} (hg : Gl X "enumerate") (hm : X.mg "enumerate" = none) (ha : PA X [e] ta) (h : X.K = K := by rfl) (hs : starEach [e] X.env = [(false, eval e X.env)] := by rfl) :
    PI X (.Tuple elts kk tpos) (.Call (.Name "enumerate" p) [e] [] pos) (iEnum K ta) := by subst h; exact pi_enum hg hm ha hs
theorem kpi_enumT {e : Expr} {ta : TA} {p pos tpos : Pos} {elts : List Expr} {kk : Nat} (hg : Gl X "enumerate") (hm : X.mg "enumerate" = none) (ha : PA X [e] ta) (h : X.K = K := by rfl) (hs : starEach [e] X.env = [(false, eval e X.env)] := by rfl) :
    PI X (.Tuple elts kk tpos) (.Call (.Name "enumerate" p) [e] [] pos) (iEnumT K ta) := by subst h; exact pi_enumT hg hm ha hs
theorem kfld {e : Expr} {f : Str} {ta : TE} {pos : Pos} (he : PE X e ta) (hb : attributeBase e f X.env (eval e X.env) = eval e X.env := by rfl) (h : X.K = K := by rfl) : PE X (.Attribute e f pos) (tFld K ta f) := by subst h; exact pe_fld he hb
end
/-- a built-in class as a value -/
theorem pe_ty {X : Cx} {x : Str} {pos : Pos} (n : String) (hg : Gl X x) (hm : X.mg x = none) (hv : bootBuiltins x = some (.type n)) (hn : x ≠ "__name__" := by decide) (hd : (x == ("__debug__" : Str)) = false := by decide) : PE X (.Name x pos) (tC (.ty n)) :=
  pe_bltn (v := .ty n) hg hm hv rfl hn hd
end Ls

namespace Df
variable {α : Type} [DecidableEq α]
/-- a difference: left, right, limit -/
abbrev Row (α : Type) := α × α × Int
def Solves (S : List (Row α)) (p : α → Int) : Prop := ∀ e ∈ S, p e.1 - p e.2.1 ≤ e.2.2
def put {β : Type} (f : α → β) (a : α) (v : β) : α → β := fun x => if x = a then v else f x
theorem put_same {β : Type} {f : α → β} {a : α} {v : β} : put f a v a = v := if_pos rfl
theorem put_ne {β : Type} {f : α → β} {a x : α} {v : β} (h : x ≠ a) : put f a v x = f x := if_neg h
def ins (ks : List α) (a : α) : List α := if a ∈ ks then ks else ks ++ [a]
theorem mem_ins {ks : List α} {a x : α} : x ∈ ins ks a ↔ x ∈ ks ∨ x = a := by
  unfold ins
  split
  · rename_i h
    constructor
    · exact Or.inl
    · rintro (h' | rfl)
      · exact h'
      · exact h
  · simp
theorem nd_ins {ks : List α} {a : α} (h : ks.Nodup) : (ins ks a).Nodup := by
  unfold ins
  split
  · exact h
  · rename_i hn
    rw [List.nodup_append]
    refine ⟨h, by simp, fun x hx y hy => ?_⟩
    rw [List.mem_singleton.mp hy]
    exact fun e => hn (e ▸ hx)

/-- the state of the rounds, turn t, place p; w worth, ks and b the names and positions of before, τ the time of a name's last update -/
structure BF (S : List (Row α)) (w : α → Int) (ks : List α) (b : α → Nat) (τ : α → Nat) (t p : Nat) : Prop where
  nd : ks.Nodup
  mem : ∀ x, x ∈ ks ↔ 0 < τ x
  pre : ∀ x, x ∈ ks → ∃ e, S[b x]? = some e ∧ e.1 = x ∧ w e.2.1 + e.2.2 ≤ w x ∧ (τ e.2.1 < τ x ∨ w e.2.1 + e.2.2 < w x) ∧ τ x ≤ τ e.2.1 + S.length
  le : ∀ x, τ x ≤ t * S.length + p
  sat : ∀ (q : Nat) e, S[q]? = some e → w e.1 ≤ w e.2.1 + e.2.2 ∨ (q < p → t * S.length + q + 1 < τ e.2.1) ∧ (p ≤ q → t = 0 ∨ t * S.length + q + 1 < τ e.2.1 + S.length)

theorem BF.start (S : List (Row α)) (w : α → Int) (b : α → Nat) : BF S w [] b (fun _ => 0) 0 0 where
  nd := List.nodup_nil
  mem := fun x => by simp
  pre := fun x h => by simp at h
  le := fun x => Nat.zero_le _
  sat := fun q e h => .inr ⟨fun z => absurd z (Nat.not_lt_zero _), fun _ => .inl rfl⟩

theorem BF.turn {S : List (Row α)} {w : α → Int} {ks : List α} {b : α → Nat} {τ : α → Nat} {t : Nat} (h : BF S w ks b τ t S.length) : BF S w ks b τ (t + 1) 0 where
  nd := h.nd
  mem := h.mem
  pre := h.pre
  le := fun x => by
    have := h.le x
    rw [Nat.succ_mul]
    exact this
  sat := fun q e he => by
    rcases h.sat q e he with z | ⟨z, _⟩
    · exact .inl z
    · refine .inr ⟨fun k => absurd k (Nat.not_lt_zero _), fun _ => .inr ?_⟩
      have hq : q < S.length := (List.getElem?_eq_some_iff.mp he).1
      have := z hq
      rw [Nat.succ_mul]
      omega

theorem BF.keep {S : List (Row α)} {w : α → Int} {ks : List α} {b : α → Nat} {τ : α → Nat} {t p : Nat} {l r : α} {c : Int} (h : BF S w ks b τ t p) (he : S[p]? = some (l, r, c)) (hs : w l ≤ w r + c) : BF S w ks b τ t (p + 1) where
  nd := h.nd
  mem := h.mem
  pre := h.pre
  le := fun x => by have := h.le x; omega
  sat := fun q e hq => by
    by_cases hqp : q = p
    · subst hqp
      rw [he] at hq
      cases hq
      exact .inl hs
    · rcases h.sat q e hq with z | ⟨z1, z2⟩
      · exact .inl z
      · exact .inr ⟨fun k => z1 (by omega), fun k => z2 (by omega)⟩

theorem BF.step {S : List (Row α)} {w : α → Int} {ks : List α} {b : α → Nat} {τ : α → Nat} {t p : Nat} {l r : α} {c : Int} (h : BF S w ks b τ t p) (he : S[p]? = some (l, r, c)) (hne : ∀ e ∈ S, e.1 ≠ e.2.1) (hv : w r + c < w l) :
    BF S (put w l (w r + c)) (ins ks l) (put b l p) (put τ l (t * S.length + p + 1)) t (p + 1) := by
  have hp : p < S.length := (List.getElem?_eq_some_iff.mp he).1
  have hlr : r ≠ l := fun z => hne _ (List.mem_of_getElem? he) z.symm
  have hnew : t * S.length + p + 1 ≤ τ r + S.length := by
    rcases h.sat p _ he with z | ⟨_, z⟩
    · exact absurd z (by show ¬ w l ≤ w r + c; omega)
    · rcases z (Nat.le_refl _) with z | z
      · subst z; omega
      · have z : t * S.length + p + 1 < τ r + S.length := z
        omega
  refine ⟨nd_ins h.nd, fun x => ?_, fun x hx => ?_, fun x => ?_, fun q e hq => ?_⟩
  · rw [mem_ins]
    by_cases hx : x = l
    · subst hx
      rw [put_same]
      simp
    · rw [put_ne hx, h.mem x]
      simp [hx]
  · by_cases hxl : x = l
    · subst hxl
      refine ⟨(x, r, c), by rw [put_same]; exact he, rfl, ?_, .inl ?_, ?_⟩
      · show put w x (w r + c) r + c ≤ put w x (w r + c) x
        rw [put_same, put_ne hlr]
        exact Int.le_refl _
      · show put τ x _ r < put τ x _ x
        rw [put_same, put_ne hlr]
        have := h.le r
        omega
      · show put τ x _ x ≤ put τ x _ r + _
        rw [put_same, put_ne hlr]
        exact hnew
    · have hx' : x ∈ ks := (mem_ins.mp hx).resolve_right hxl
      obtain ⟨e, e1, e2, e3, e4, e5⟩ := h.pre x hx'
      refine ⟨e, by rw [put_ne hxl]; exact e1, e2, ?_⟩
      rw [put_ne hxl, put_ne hxl]
      by_cases hr : e.2.1 = l
      · rw [hr, put_same, put_same]
        rw [hr] at e3 e5
        have := h.le x
        refine ⟨by omega, .inr (by omega), ?_⟩
        have := h.le l
        omega
      · rw [put_ne hr, put_ne hr]
        exact ⟨e3, e4, e5⟩
  · by_cases hx : x = l
    · subst hx
      rw [put_same]
      omega
    · rw [put_ne hx]
      have := h.le x
      omega
  · by_cases hqp : q = p
    · subst hqp
      rw [he] at hq
      cases hq
      refine .inl ?_
      show put w l (w r + c) l ≤ put w l (w r + c) r + c
      rw [put_same, put_ne hlr]
      exact Int.le_refl _
    · by_cases hr : e.2.1 = l
      · right
        rw [hr, put_same]
        have hq' : q < S.length := (List.getElem?_eq_some_iff.mp hq).1
        exact ⟨fun k => by omega, fun k => .inr (by omega)⟩
      · rw [put_ne hr, put_ne hr]
        have hle : put w l (w r + c) e.1 ≤ w e.1 := by
          by_cases hl : e.1 = l
          · rw [hl, put_same]; omega
          · rw [put_ne hl]; exact Int.le_refl _
        rcases h.sat q e hq with z | ⟨z1, z2⟩
        · left
          exact Int.le_trans hle z
        · right
          exact ⟨fun k => z1 (by omega), fun k => z2 (by omega)⟩

/-! ### going back -/
def nx (S : List (Row α)) (b : α → Nat) (x : α) : α := match S[b x]? with
  | some e => e.2.1
  | none => x
def it (S : List (Row α)) (b : α → Nat) : Nat → α → α
  | 0, x => x
  | i + 1, x => nx S b (it S b i x)
theorem it_add (S : List (Row α)) (b : α → Nat) (i : Nat) (x : α) : ∀ j, it S b (i + j) x = it S b j (it S b i x)
  | 0 => rfl
  | j + 1 => by
    show nx S b (it S b (i + j) x) = nx S b (it S b j (it S b i x))
    rw [it_add S b i x j]
theorem it_succ (S : List (Row α)) (b : α → Nat) (i : Nat) (x : α) : it S b (i + 1) x = it S b i (nx S b x) := by
  rw [Nat.add_comm]
  exact it_add S b 1 x i
theorem BF.nx_of {S : List (Row α)} {w : α → Int} {ks : List α} {b : α → Nat} {τ : α → Nat} {t p : Nat} (h : BF S w ks b τ t p) {x : α} (hx : x ∈ ks) :
    ∃ c, S[b x]? = some (x, nx S b x, c) ∧ w (nx S b x) + c ≤ w x ∧ (τ (nx S b x) < τ x ∨ w (nx S b x) + c < w x) ∧ τ x ≤ τ (nx S b x) + S.length := by
  obtain ⟨⟨l, r, c⟩, e1, e2, e3, e4, e5⟩ := h.pre x hx
  have e2 : l = x := e2
  subst e2
  have en : nx S b l = r := by unfold nx; rw [e1]
  rw [en]
  exact ⟨c, e1, e3, e4, e5⟩

theorem nodup_le {l ks : List α} : l.Nodup → (∀ x ∈ l, x ∈ ks) → l.length ≤ ks.length := by
  induction l generalizing ks with
  | nil => intro _ _; exact Nat.zero_le _
  | cons a r ih =>
    intro h hs
    have ha : a ∈ ks := hs a List.mem_cons_self
    have hr := List.nodup_cons.mp h
    have := ih (ks := ks.erase a) hr.2 fun x hx => (List.mem_erase_of_ne (fun (e : x = a) => hr.1 (e ▸ hx))).mpr (hs x (List.mem_cons_of_mem _ hx))
    rw [List.length_erase_of_mem ha] at this
    have : 0 < ks.length := List.length_pos_of_mem ha
    simp only [List.length_cons]
    omega
theorem least {P : Nat → Prop} : ∀ n, P n → ∃ m, P m ∧ ∀ k, k < m → ¬ P k := by
  intro n
  induction n using Nat.strongRecOn with
  | ind n ih =>
    intro h
    by_cases hk : ∃ k, k < n ∧ P k
    · obtain ⟨k, h1, h2⟩ := hk
      exact ih k h1 h2
    · exact ⟨n, h, fun k h1 h2 => hk ⟨k, h1, h2⟩⟩
/-- two places of a long row of names out of few are alike -/
theorem pigeon {ks : List α} {f : Nat → α} {k : Nat} (hk : ks.length ≤ k) (h : ∀ i, i ≤ k → f i ∈ ks) : ∃ i j, i < j ∧ j ≤ k ∧ f i = f j := by
  refine Classical.byContradiction fun hn => ?_
  have hnd : ((List.range (k + 1)).map f).Nodup := by
    rw [List.nodup_iff_pairwise_ne, List.pairwise_map]
    refine List.Pairwise.imp_of_mem ?_ List.pairwise_lt_range
    intro a b ha hb hab e
    exact hn ⟨a, b, hab, by have := List.mem_range.mp hb; omega, e⟩
  have := nodup_le hnd (ks := ks) fun x hx => by
    obtain ⟨i, hi, rfl⟩ := List.mem_map.mp hx
    exact h i (by have := List.mem_range.mp hi; omega)
  simp only [List.length_map, List.length_range] at this
  omega

/-- the last name updated in round n leads back into before as often as one likes, and after ks.length + 1 steps it is on a ring -/
theorem BF.back {S : List (Row α)} {w : α → Int} {ks : List α} {b : α → Nat} {τ : α → Nat} {n p : Nat} {x : α} (h : BF S w ks b τ n p) (hn : ks.length ≤ n) (hx : n * S.length < τ x) : ∀ i, i ≤ ks.length → it S b i x ∈ ks := by
  have key : ∀ i, i ≤ ks.length → n * S.length < τ (it S b i x) + i * S.length := by
    intro i
    induction i with
    | zero => intro _; simpa [it] using hx
    | succ i ih =>
      intro hi
      have hi' := ih (by omega)
      have hm : i * S.length ≤ n * S.length := Nat.mul_le_mul_right _ (by omega)
      have hk : it S b i x ∈ ks := (h.mem _).mpr (by omega)
      obtain ⟨c, _, _, _, e⟩ := h.nx_of hk
      have e : τ (it S b i x) ≤ τ (it S b (i + 1) x) + S.length := e
      rw [Nat.succ_mul]
      omega
  intro i hi
  have := key i hi
  have hm : i * S.length ≤ n * S.length := Nat.mul_le_mul_right _ (by omega)
  exact (h.mem _).mpr (by omega)
theorem BF.ringed {S : List (Row α)} {w : α → Int} {ks : List α} {b : α → Nat} {τ : α → Nat} {n p : Nat} {x : α} (h : BF S w ks b τ n p) (hn : ks.length ≤ n) (hx : n * S.length < τ x) :
    ∃ d, 0 < d ∧ it S b d (it S b (ks.length + 1) x) = it S b (ks.length + 1) x ∧ (∀ i, it S b i (it S b (ks.length + 1) x) ∈ ks) ∧ ∀ j, 0 < j → j < d → it S b j (it S b (ks.length + 1) x) ≠ it S b (ks.length + 1) x := by
  have hb := h.back hn hx
  obtain ⟨i, j, hij, hj, e⟩ := pigeon (f := fun i => it S b i x) (Nat.le_refl _) hb
  have e : it S b i x = it S b j x := e
  -- the ring's names are in before
  have per : ∀ m, it S b (j - i) (it S b (i + m) x) = it S b (i + m) x := fun m => by
    rw [← it_add]
    have : i + m + (j - i) = j + m := by omega
    rw [this, it_add S b j x m, ← e, ← it_add]
  have all : ∀ m, it S b (i + m) x ∈ ks := by
    intro m
    induction m using Nat.strongRecOn with
    | ind m ih =>
      by_cases hm : i + m ≤ ks.length
      · exact hb _ hm
      · have h1 : j - i ≤ m := by omega
        have := per (m - (j - i))
        rw [← it_add] at this
        rw [show i + (m - (j - i)) + (j - i) = i + m by omega] at this
        rw [this]
        exact ih _ (by omega)
  have hy : it S b (ks.length + 1) x = it S b (i + (ks.length + 1 - i)) x := by rw [show i + (ks.length + 1 - i) = ks.length + 1 by omega]
  obtain ⟨d, ⟨hd, hdp⟩, hmin⟩ := least (P := fun d => 0 < d ∧ it S b d (it S b (ks.length + 1) x) = it S b (ks.length + 1) x) (j - i) ⟨by omega, by rw [hy]; exact per _⟩
  refine ⟨d, hd, hdp, fun m => ?_, fun m hm hmd z => hmin m hmd ⟨hm, z⟩⟩
  rw [hy, ← it_add, Nat.add_assoc]
  exact all _

/-! ### rings -/
section
variable [Inhabited α]
def at_ (S : List (Row α)) (q : Nat) : Row α := S.getD q (default, default, 0)
def lefts (S : List (Row α)) (f : List Nat) : List α := f.map fun q => (at_ S q).1
def rights (S : List (Row α)) (f : List Nat) : List α := f.map fun q => (at_ S q).2.1
def limits (S : List (Row α)) (f : List Nat) : List Int := f.map fun q => (at_ S q).2.2
structure IsRing (S : List (Row α)) (f : List Nat) : Prop where
  two : 2 ≤ f.length
  small : ∀ q ∈ f, q < S.length
  round : rights S f = (lefts S f).drop 1 ++ (lefts S f).take 1
  nd : (lefts S f).Nodup
  neg : (limits S f).sum < 0
omit [DecidableEq α] in
theorem at_of {S : List (Row α)} {q : Nat} {e : Row α} (h : S[q]? = some e) : at_ S q = e := by
  unfold at_
  rw [List.getD_eq_getElem?_getD, h]
  rfl
/-- what the walk round a ring finds -/
theorem BF.isRing {S : List (Row α)} {w : α → Int} {ks : List α} {b : α → Nat} {τ : α → Nat} {n p : Nat} {y : α} {d : Nat} (h : BF S w ks b τ n p) (hne : ∀ e ∈ S, e.1 ≠ e.2.1) (hd : 0 < d) (hp : it S b d y = y) (hin : ∀ i, it S b i y ∈ ks)
    (hmin : ∀ j, 0 < j → j < d → it S b j y ≠ y) : IsRing S ((List.range d).map fun i => b (it S b i y)) := by
  have hat : ∀ i, ∃ c, S[b (it S b i y)]? = some (it S b i y, it S b (i + 1) y, c) ∧ w (it S b (i + 1) y) + c ≤ w (it S b i y) ∧ (τ (it S b (i + 1) y) < τ (it S b i y) ∨ w (it S b (i + 1) y) + c < w (it S b i y)) := fun i => by
    obtain ⟨c, e1, e2, e3, _⟩ := h.nx_of (hin i)
    exact ⟨c, e1, e2, e3⟩
  have hl : lefts S ((List.range d).map fun i => b (it S b i y)) = (List.range d).map fun i => it S b i y := by
    unfold lefts
    rw [List.map_map]
    refine List.map_congr_left fun i _ => ?_
    obtain ⟨c, e, _⟩ := hat i
    show (at_ S (b (it S b i y))).1 = _
    rw [at_of e]
  have hr : rights S ((List.range d).map fun i => b (it S b i y)) = (List.range d).map fun i => it S b (i + 1) y := by
    unfold rights
    rw [List.map_map]
    refine List.map_congr_left fun i _ => ?_
    obtain ⟨c, e, _⟩ := hat i
    show (at_ S (b (it S b i y))).2.1 = _
    rw [at_of e]
  have hd2 : d ≠ 1 := fun z => by
    subst z
    obtain ⟨c, e, _⟩ := hat 0
    have := hne _ (List.mem_of_getElem? e)
    exact this hp.symm
  have inj : ∀ i j, i < j → j < d → it S b i y ≠ it S b j y := fun i j hij hj z => by
    refine hmin (i + (d - j)) (by omega) (by omega) ?_
    rw [it_add, z, ← it_add, show j + (d - j) = d by omega, hp]
  refine ⟨by simp; omega, fun q hq => ?_, ?_, ?_, ?_⟩
  · obtain ⟨i, _, rfl⟩ := List.mem_map.mp hq
    obtain ⟨c, e, _⟩ := hat i
    exact (List.getElem?_eq_some_iff.mp e).1
  · rw [hl, hr]
    apply List.ext_getElem?
    intro i
    by_cases hi : i + 1 < d
    · rw [List.getElem?_append_left (by simp; omega)]
      rw [List.getElem?_map, List.getElem?_drop, List.getElem?_map, List.getElem?_range (by omega), List.getElem?_range (by omega), Nat.add_comm 1 i]
      rfl
    · by_cases hi2 : i + 1 = d
      · rw [List.getElem?_append_right (by simp; omega)]
        simp only [List.getElem?_map, List.length_drop, List.length_map, List.length_range, List.getElem?_take]
        rw [List.getElem?_range (by omega), show i - (d - 1) = 0 by omega]
        rw [List.getElem?_range (by omega)]
        rw [if_pos (by omega)]
        show some (it S b (i + 1) y) = some (it S b 0 y)
        rw [hi2, hp]
        rfl
      · rw [List.getElem?_eq_none (by simp; omega), List.getElem?_eq_none (by simp; omega)]
  · rw [hl, List.nodup_iff_pairwise_ne, List.pairwise_map]
    refine List.Pairwise.imp_of_mem ?_ List.pairwise_lt_range
    intro i j hi hj hij
    exact inj i j hij (List.mem_range.mp hj)
  · -- the sum
    have hs : ∀ m, ((limits S ((List.range m).map fun i => b (it S b i y))).sum ≤ w y - w (it S b m y)) ∧ ((∃ k, k < m ∧ ¬ τ (it S b (k + 1) y) < τ (it S b k y)) → (limits S ((List.range m).map fun i => b (it S b i y))).sum < w y - w (it S b m y)) := by
      intro m
      induction m with
      | zero =>
        refine ⟨?_, fun ⟨k, hk, _⟩ => absurd hk (Nat.not_lt_zero _)⟩
        show (0 : Int) ≤ w y - w y
        omega
      | succ m ih =>
        obtain ⟨c, e1, e2, e3⟩ := hat m
        have el : (limits S ((List.range (m + 1)).map fun i => b (it S b i y))).sum = (limits S ((List.range m).map fun i => b (it S b i y))).sum + c := by
          unfold limits
          rw [List.range_succ, List.map_append, List.map_append, List.sum_append]
          congr 1
          show ((at_ S (b (it S b m y))).2.2 :: []).sum = c
          rw [at_of e1]
          simp
        rw [el]
        refine ⟨by omega, fun ⟨k, hk, hk2⟩ => ?_⟩
        by_cases hkm : k < m
        · have := ih.2 ⟨k, hkm, hk2⟩
          omega
        · have hkm : k = m := by omega
          subst hkm
          have := e3.resolve_left hk2
          omega
    have := (hs d).2 (by
      refine Classical.byContradiction fun hno => ?_
      have dec : ∀ m, m ≤ d → τ (it S b m y) + m ≤ τ y := by
        intro m
        induction m with
        | zero => intro _; exact Nat.le_refl _
        | succ m ih =>
          intro hm
          have h1 := ih (by omega)
          have h2 : τ (it S b (m + 1) y) < τ (it S b m y) := Classical.byContradiction fun z => hno ⟨m, by omega, z⟩
          omega
      have := dec d (Nat.le_refl _)
      rw [hp] at this
      omega)
    rw [hp] at this
    omega
omit [DecidableEq α] in
theorem sum_le {S : List (Row α)} {p : α → Int} (h : Solves S p) : ∀ f : List Nat, (∀ q ∈ f, q < S.length) → ((lefts S f).map p).sum - ((rights S f).map p).sum ≤ (limits S f).sum
  | [], _ => by show (0 : Int) - 0 ≤ 0; omega
  | q :: f, hq => by
    have ih := sum_le h f fun k hk => hq k (List.mem_cons_of_mem _ hk)
    have hlt := hq q List.mem_cons_self
    have e : S[q]? = some S[q] := List.getElem?_eq_getElem hlt
    have := h _ (List.mem_of_getElem? e)
    rw [← at_of e] at this
    simp only [lefts, rights, limits, List.map_cons, List.sum_cons] at ih ⊢
    omega
omit [DecidableEq α] in
/-- a system with a ring of negative sum has no solution -/
theorem IsRing.none {S : List (Row α)} {f : List Nat} (h : IsRing S f) (p : α → Int) : ¬ Solves S p := fun hs => by
  have h1 := sum_le hs f h.small
  have h2 := h.neg
  rw [h.round, List.map_append, List.sum_append] at h1
  have h3 : ((lefts S f).map p).sum = (((lefts S f).take 1).map p).sum + (((lefts S f).drop 1).map p).sum := by
    rw [← List.sum_append, ← List.map_append, List.take_append_drop]
  omega
end
def FARI : Int := 1000000000000000000000000000000
def HALFI : Int := 100000000000000000000000000000
theorem FARI_eq : FARI = 1000000000000000000000000000000 := rfl
theorem HALFI_eq : HALFI = 100000000000000000000000000000 := rfl

abbrev Tab (α : Type) := α → α → Int
def blankR : Tab α := fun u v => if u = v then 0 else FARI
def thru (R : Tab α) (l r : α) (c : Int) : Tab α := fun u v => if HALFI < R u l then R u v else if R u v ≤ R u l + (c + R r v) then R u v else R u l + (c + R r v)
def moreR (R : Tab α) (l r : α) (c : Int) : Option (Tab α) := if R l r ≤ c then some R else if R r l + c < 0 then none else some (thru R l r c)
def addedR : Tab α → List (Row α) → Option (Tab α)
  | R, [] => some R
  | R, e :: S => (moreR R e.1 e.2.1 e.2.2).bind fun R' => addedR R' S
/-- R is the tight table of S over ns; B bounds the finite limits -/
structure Ok (ns : List α) (B : Int) (S : List (Row α)) (R : Tab α) : Prop where
  diag : ∀ u ∈ ns, R u u = 0
  size : ∀ u ∈ ns, ∀ v ∈ ns, (-B ≤ R u v ∧ R u v ≤ B) ∨ FARI - B ≤ R u v
  tri : ∀ u ∈ ns, ∀ w ∈ ns, ∀ v ∈ ns, R u w ≤ HALFI → R w v ≤ HALFI → R u v ≤ R u w + R w v
  sound : ∀ p, Solves S p → ∀ u ∈ ns, ∀ v ∈ ns, R u v ≤ HALFI → p u - p v ≤ R u v
  compl : ∀ e ∈ S, R e.1 e.2.1 ≤ e.2.2
theorem Ok.blank (ns : List α) {B : Int} (h0 : 0 ≤ B) (hB : B ≤ 10 ^ 28) : Ok ns B [] (blankR : Tab α) where
  diag := fun u _ => if_pos rfl
  size := fun u _ v _ => by
    unfold blankR
    split
    · left; omega
    · right; omega
  tri := fun u _ w _ v _ h1 h2 => by
    unfold blankR at h1 h2 ⊢
    simp only [HALFI_eq, FARI_eq] at h1 h2 ⊢
    split at h1
    · rename_i e; subst e
      rw [if_pos rfl]; omega
    · omega
  sound := fun p _ u _ v _ h => by
    unfold blankR at h ⊢
    simp only [HALFI_eq, FARI_eq] at h ⊢
    split at h
    · rename_i e; subst e
      rw [if_pos rfl]; omega
    · omega
  compl := fun e he => by cases he
section
variable {ns : List α} {B : Int} {S : List (Row α)} {R : Tab α}
theorem Ok.fin (h : Ok ns B S R) (hB : B ≤ 10 ^ 28) {u v : α} (hu : u ∈ ns) (hv : v ∈ ns) (hf : R u v ≤ HALFI) : -B ≤ R u v ∧ R u v ≤ B := by
  rcases h.size u hu v hv with z | z
  · exact z
  · simp only [HALFI_eq, FARI_eq] at hf z
    omega
theorem Ok.inf (h : Ok ns B S R) (hB : B ≤ 10 ^ 28) {u v : α} (hu : u ∈ ns) (hv : v ∈ ns) (hf : HALFI < R u v) : FARI - B ≤ R u v := by
  rcases h.size u hu v hv with z | z
  · simp only [HALFI_eq, FARI_eq] at hf z
    omega
  · exact z
theorem Ok.wide (h : Ok ns B S R) {B' : Int} (hb : B ≤ B') : Ok ns B' S R :=
  { h with size := fun u hu v hv => by rcases h.size u hu v hv with z | z <;> omega }
theorem thru_le (l r : α) (c : Int) (u v : α) : thru R l r c u v ≤ R u v := by
  unfold thru
  split
  · exact Int.le_refl _
  · split
    · exact Int.le_refl _
    · omega
theorem thru_le2 {l r : α} {c : Int} {u v : α} (h : R u l ≤ HALFI) : thru R l r c u v ≤ R u l + (c + R r v) := by
  unfold thru
  rw [if_neg (by omega)]
  split
  · assumption
  · exact Int.le_refl _
theorem thru_cases (R : Tab α) (l r : α) (c : Int) (u v : α) : thru R l r c u v = R u v ∨ (R u l ≤ HALFI ∧ R u l + (c + R r v) < R u v ∧ thru R l r c u v = R u l + (c + R r v)) := by
  unfold thru
  split
  · exact .inl rfl
  · split
    · exact .inl rfl
    · exact .inr ⟨by omega, by omega, rfl⟩
theorem Ok.thru (h : Ok ns B S R) {l r : α} {c : Int} (hl : l ∈ ns) (hr : r ∈ ns) (hc : -B ≤ c ∧ c ≤ B) (hB : 3 * B ≤ 10 ^ 28) (hn : 0 ≤ R r l + c) : Ok ns (3 * B) (S ++ [(l, r, c)]) (thru R l r c) := by
  have hB1 : B ≤ 10 ^ 28 := by omega
  -- a finite new limit goes through finite ones
  have fin2 : ∀ u ∈ ns, ∀ v ∈ ns, R u l ≤ HALFI → R u l + (c + R r v) ≤ HALFI → R r v ≤ HALFI := fun u hu v hv h1 h2 => by
    by_cases hf : R r v ≤ HALFI
    · exact hf
    · have z1 := h.fin hB1 hu hl h1
      have z2 := h.inf hB1 hr hv (by omega)
      simp only [HALFI_eq, FARI_eq] at *
      omega
  have old : ∀ u ∈ ns, ∀ v ∈ ns, Df.thru R l r c u v ≤ HALFI → (Df.thru R l r c u v = R u v ∧ R u v ≤ HALFI) ∨ (R u l ≤ HALFI ∧ R r v ≤ HALFI ∧ Df.thru R l r c u v = R u l + (c + R r v)) := fun u hu v hv hf => by
    rcases thru_cases R l r c u v with e | ⟨e1, e2, e3⟩
    · exact .inl ⟨e, by omega⟩
    · exact .inr ⟨e1, fin2 u hu v hv e1 (by omega), e3⟩
  refine ⟨fun u hu => ?_, fun u hu v hv => ?_, fun u hu w hw v hv h1 h2 => ?_, fun p hp u hu v hv hf => ?_, fun e he => ?_⟩
  · rcases thru_cases R l r c u u with e | ⟨e1, e2, e3⟩
    · rw [e]; exact h.diag u hu
    · have hd := h.diag u hu
      have f2 := fin2 u hu u hu e1 (by simp only [HALFI_eq]; omega)
      have := h.tri r hr u hu l hl f2 e1
      omega
  · rcases thru_cases R l r c u v with e | ⟨e1, e2, e3⟩
    · rw [e]
      rcases h.size u hu v hv with z | z
      · left; omega
      · right; omega
    · rw [e3]
      have z1 := h.fin hB1 hu hl e1
      rcases h.size r hr v hv with z | z
      · left; omega
      · right; omega
  · rcases old u hu w hw h1 with ⟨e1, f1⟩ | ⟨a1, b1, e1⟩ <;> rcases old w hw v hv h2 with ⟨e2, f2⟩ | ⟨a2, b2, e2⟩
    · have := h.tri u hu w hw v hv f1 f2
      have := thru_le (R := R) l r c u v
      omega
    · have t := h.tri u hu w hw l hl f1 a2
      have z1 := h.fin hB1 hu hw f1
      have z2 := h.fin hB1 hw hl a2
      have hul : R u l ≤ HALFI := by simp only [HALFI_eq]; omega
      have := thru_le2 (R := R) (l := l) (r := r) (c := c) (u := u) (v := v) hul
      omega
    · have t := h.tri r hr w hw v hv b1 f2
      have := thru_le2 (R := R) (l := l) (r := r) (c := c) (u := u) (v := v) a1
      omega
    · have t := h.tri r hr w hw l hl b1 a2
      have := thru_le2 (R := R) (l := l) (r := r) (c := c) (u := u) (v := v) a1
      omega
  · have hp1 : Solves S p := fun e he => hp e (List.mem_append_left _ he)
    have hp2 : p l - p r ≤ c := hp (l, r, c) (by simp)
    rcases old u hu v hv hf with ⟨e1, f1⟩ | ⟨a1, b1, e1⟩
    · rw [e1]; exact h.sound p hp1 u hu v hv f1
    · have s1 := h.sound p hp1 u hu l hl a1
      have s2 := h.sound p hp1 r hr v hv b1
      omega
  · rcases List.mem_append.mp he with he | he
    · exact Int.le_trans (thru_le _ _ _ _ _) (h.compl e he)
    · rw [List.mem_singleton.mp he]
      show Df.thru R l r c l r ≤ c
      have d1 := h.diag l hl
      have d2 := h.diag r hr
      have := thru_le2 (R := R) (l := l) (r := r) (c := c) (u := l) (v := r) (by rw [d1]; decide)
      omega
theorem Ok.same (h : Ok ns B S R) {l r : α} {c : Int} (he : R l r ≤ c) : Ok ns B (S ++ [(l, r, c)]) R :=
  { h with
    sound := fun p hp => h.sound p fun e he => hp e (List.mem_append_left _ he)
    compl := fun e he' => by
      rcases List.mem_append.mp he' with k | k
      · exact h.compl e k
      · rw [List.mem_singleton.mp k]; exact he }
theorem Ok.more (h : Ok ns B S R) {l r : α} {c : Int} (hl : l ∈ ns) (hr : r ∈ ns) (hc : -B ≤ c ∧ c ≤ B) (hB : 3 * B ≤ 10 ^ 28) {R' : Tab α} (e : moreR R l r c = some R') : Ok ns (3 * B) (S ++ [(l, r, c)]) R' := by
  unfold moreR at e
  split at e
  · cases e
    rename_i he
    exact (h.same he).wide (by omega)
  · split at e
    · cases e
    · cases e
      exact h.thru hl hr hc hB (by omega)
theorem Ok.more_none (h : Ok ns B S R) {l r : α} {c : Int} (hl : l ∈ ns) (hr : r ∈ ns) (hc : -B ≤ c ∧ c ≤ B) (hB : 3 * B ≤ 10 ^ 28) (e : moreR R l r c = none) (p : α → Int) : ¬ Solves (S ++ [(l, r, c)]) p := fun hp => by
  unfold moreR at e
  split at e
  · cases e
  · split at e
    · rename_i h1 h2
      have hp1 : Solves S p := fun e he => hp e (List.mem_append_left _ he)
      have hp2 : p l - p r ≤ c := hp (l, r, c) (by simp)
      have := h.sound p hp1 r hr l hl (by simp only [HALFI_eq]; omega)
      omega
    · cases e
/-- all differences added, one behind another -/
theorem Ok.added : ∀ (T : List (Row α)) {S : List (Row α)} {R : Tab α} {B : Int}, Ok ns B S R → (∀ e ∈ T, e.1 ∈ ns ∧ e.2.1 ∈ ns ∧ -B ≤ e.2.2 ∧ e.2.2 ≤ B) → 0 ≤ B → 3 ^ T.length * B ≤ 10 ^ 28 →
    (∀ R', addedR R T = some R' → Ok ns (3 ^ T.length * B) (S ++ T) R') ∧ (addedR R T = none → ∀ p, ¬ Solves (S ++ T) p)
  | [], S, R, B, h, _, _, _ => by
    refine ⟨fun R' e => ?_, fun e => by cases e⟩
    cases e
    simpa using h
  | e :: T, S, R, B, h, hT, h0, hB => by
    obtain ⟨h1, h2, h3, h4⟩ := hT e List.mem_cons_self
    have e3 : (3 : Int) ^ (e :: T).length * B = 3 ^ T.length * (3 * B) := by
      rw [List.length_cons, Int.pow_succ, Int.mul_assoc]
    have e1 : (1 : Int) ≤ 3 ^ T.length := by have := Int.pow_pos (n := 3) (m := T.length) (by decide); omega
    have hB3 : 3 * B ≤ 10 ^ 28 := by
      rw [e3] at hB
      have := Int.mul_le_mul_of_nonneg_right e1 (show 0 ≤ 3 * B by omega)
      omega
    have hB3' : 3 ^ T.length * (3 * B) ≤ 10 ^ 28 := by rw [← e3]; exact hB
    have hS : S ++ e :: T = (S ++ [(e.1, e.2.1, e.2.2)]) ++ T := by simp
    cases hm : moreR R e.1 e.2.1 e.2.2 with
    | none =>
      refine ⟨fun R' k => ?_, fun _ p hp => ?_⟩
      · unfold addedR at k
        rw [hm] at k
        cases k
      · refine h.more_none h1 h2 ⟨h3, h4⟩ hB3 hm p fun d hd => hp d ?_
        rw [hS]
        exact List.mem_append_left _ hd
    | some R1 =>
      have ok1 := h.more h1 h2 ⟨h3, h4⟩ hB3 hm
      obtain ⟨k1, k2⟩ := Ok.added T ok1 (fun d hd => by
        obtain ⟨a, b, c, d'⟩ := hT d (List.mem_cons_of_mem _ hd)
        exact ⟨a, b, by omega, by omega⟩) (by omega) hB3'
      rw [hS, e3]
      have ea : addedR R (e :: T) = addedR R1 T := by
        show (moreR R e.1 e.2.1 e.2.2).bind _ = _
        rw [hm]
        rfl
      rw [ea]
      exact ⟨k1, k2⟩
end

/-! ### a point -/
def valOf (R : Tab α) (z k : α) : Int := if R z k ≤ HALFI then 0 - R z k else if R k z ≤ HALFI then R k z else 0
theorem valOf_le {ns : List α} {B : Int} {S : List (Row α)} {R : Tab α} (h : Ok ns B S R) (h0 : 0 ≤ B) (hB : B ≤ 10 ^ 28) {z k : α} (hz : z ∈ ns) (hk : k ∈ ns) : -B ≤ valOf R z k ∧ valOf R z k ≤ B := by
  unfold valOf
  split
  · have := h.fin hB hz hk (by assumption)
    omega
  · split
    · exact h.fin hB hk hz (by assumption)
    · omega
/-- a name is set to its value: never None -/
theorem Ok.setTo {ns : List α} {B : Int} {S : List (Row α)} {R : Tab α} (h : Ok ns B S R) (h0 : 0 ≤ B) (hB : 9 * B ≤ 10 ^ 28) {z k : α} (hz : z ∈ ns) (hk : k ∈ ns) :
    ∃ R1 R2, moreR R k z (valOf R z k) = some R1 ∧ moreR R1 z k (0 - valOf R z k) = some R2 ∧ Ok ns (9 * B) ((S ++ [(k, z, valOf R z k)]) ++ [(z, k, 0 - valOf R z k)]) R2 := by
  have hB1 : B ≤ 10 ^ 28 := by omega
  have hv := valOf_le h h0 hB1 hz hk
  have e1 : ∃ R1, moreR R k z (valOf R z k) = some R1 ∧ (R1 z k ≤ 0 - valOf R z k ∨ 0 ≤ R1 k z - valOf R z k) := by
    unfold moreR
    by_cases c1 : R k z ≤ valOf R z k
    · rw [if_pos c1]
      refine ⟨R, rfl, ?_⟩
      unfold valOf at c1 ⊢
      split
      · left; omega
      · rename_i g1
        rw [if_neg g1] at c1
        split
        · right; omega
        · rename_i g2
          rw [if_neg g2] at c1
          simp only [HALFI_eq] at g1 g2
          omega
    · rw [if_neg c1]
      have c2 : ¬ R z k + valOf R z k < 0 := by
        unfold valOf
        split
        · omega
        · rename_i g1
          split
          · rename_i g2
            exfalso
            apply c1
            unfold valOf
            rw [if_neg g1, if_pos g2]
            exact Int.le_refl _
          · simp only [HALFI_eq] at g1
            omega
      rw [if_neg c2]
      refine ⟨_, rfl, ?_⟩
      by_cases g1 : R z k ≤ HALFI
      · left
        have := thru_le (R := R) k z (valOf R z k) z k
        have ev : valOf R z k = 0 - R z k := by unfold valOf; rw [if_pos g1]
        omega
      · right
        have d1 := h.diag k hk
        have d2 := h.diag z hz
        unfold Df.thru
        rw [d1, d2, if_neg (by decide)]
        split
        · rename_i g2
          omega
        · omega
  obtain ⟨R1, m1, c⟩ := e1
  have ok1 := h.more hk hz hv (by omega) m1
  have e2 : ∃ R2, moreR R1 z k (0 - valOf R z k) = some R2 := by
    unfold moreR
    by_cases c1 : R1 z k ≤ 0 - valOf R z k
    · rw [if_pos c1]; exact ⟨_, rfl⟩
    · rw [if_neg c1, if_neg (by omega)]; exact ⟨_, rfl⟩
  obtain ⟨R2, m2⟩ := e2
  have ok2 := ok1.more hz hk (by omega) (by omega) m2
  refine ⟨R1, R2, m1, m2, ?_⟩
  rw [show 9 * B = 3 * (3 * B) by omega]
  exact ok2
/-- the values of all names but z, as the table holds them at the end, solve the system -/
theorem Ok.solves {ns : List α} {B : Int} {S T : List (Row α)} {R : Tab α} {x : α → Int} {z : α} (h : Ok ns B (S ++ T) R) (hB : B ≤ 10 ^ 28) (hz : z ∈ ns) (hS : ∀ e ∈ S, e.1 ∈ ns ∧ e.2.1 ∈ ns ∧ e.2.2 ≤ 10 ^ 28)
    (hx : ∀ k ∈ ns, k ≠ z → (k, z, x k) ∈ T ∧ (z, k, 0 - x k) ∈ T ∧ -B ≤ x k ∧ x k ≤ B) : Solves S fun a => if a = z then 0 else x a := by
  have key : ∀ k ∈ ns, k ≠ z → R k z = x k ∧ R z k = 0 - x k := fun k hk hkz => by
    obtain ⟨t1, t2, b1, b2⟩ := hx k hk hkz
    have c1 : R k z ≤ x k := h.compl _ (List.mem_append_right _ t1)
    have c2 : R z k ≤ 0 - x k := h.compl _ (List.mem_append_right _ t2)
    have f1 : R k z ≤ HALFI := by simp only [HALFI_eq]; omega
    have f2 : R z k ≤ HALFI := by simp only [HALFI_eq]; omega
    have t := h.tri k hk z hz k hk f1 f2
    rw [h.diag k hk] at t
    omega
  intro e he
  obtain ⟨l, r, c⟩ := e
  obtain ⟨hl, hr, hc⟩ := hS _ he
  have hl : l ∈ ns := hl
  have hr : r ∈ ns := hr
  have hc : c ≤ 10 ^ 28 := hc
  have hlr : R l r ≤ c := h.compl _ (List.mem_append_left _ he)
  have flr : R l r ≤ HALFI := by simp only [HALFI_eq]; omega
  show (if l = z then 0 else x l) - (if r = z then 0 else x r) ≤ c
  by_cases el : l = z
  · rw [if_pos el]
    by_cases er : r = z
    · rw [if_pos er]
      rw [el, er, h.diag z hz] at hlr
      omega
    · rw [if_neg er]
      have := (key r hr er).2
      rw [el] at hlr
      omega
  · rw [if_neg el]
    obtain ⟨_, _, b1, b2⟩ := hx l hl el
    by_cases er : r = z
    · rw [if_pos er]
      have := (key l hl el).1
      rw [er] at hlr
      omega
    · rw [if_neg er]
      obtain ⟨_, _, b3, b4⟩ := hx r hr er
      have k1 := (key l hl el).1
      have k2 := (key r hr er).1
      have t := h.tri l hl r hr z hz flr (by simp only [HALFI_eq]; omega)
      omega

/-! ### one after another -/
theorem addedR_append (A B : List (Row α)) : ∀ R : Tab α, addedR R (A ++ B) = (addedR R A).bind fun R' => addedR R' B := by
  induction A with
  | nil => intro R; rfl
  | cons e A ih =>
    intro R
    show (moreR R e.1 e.2.1 e.2.2).bind _ = ((moreR R e.1 e.2.1 e.2.2).bind _).bind _
    cases moreR R e.1 e.2.1 e.2.2 with
    | none => rfl
    | some R1 => exact ih R1
theorem addedR_one (R : Tab α) (e : Row α) : addedR R [e] = moreR R e.1 e.2.1 e.2.2 := by
  show (moreR R e.1 e.2.1 e.2.2).bind _ = _
  cases moreR R e.1 e.2.1 e.2.2 <;> rfl
def setR (R : Tab α) (z k : α) (x : Int) : Option (Tab α) := (moreR R k z x).bind fun R1 => moreR R1 z k (0 - x)
def pts (z : α) : Tab α → (α → Int) → List α → Option (Tab α × (α → Int))
  | R, x, [] => some (R, x)
  | R, x, k :: ks => (setR R z k (valOf R z k)).bind fun R' => pts z R' (put x k (valOf R z k)) ks
theorem pts_append (z : α) (A B : List α) : ∀ (R : Tab α) (x : α → Int), pts z R x (A ++ B) = (pts z R x A).bind fun p => pts z p.1 p.2 B := by
  induction A with
  | nil => intro R x; rfl
  | cons k A ih =>
    intro R x
    show (setR R z k (valOf R z k)).bind _ = ((setR R z k (valOf R z k)).bind _).bind _
    cases setR R z k (valOf R z k) with
    | none => rfl
    | some R1 => exact ih R1 _
theorem Ok.pts {ns : List α} {z : α} (hz : z ∈ ns) : ∀ (ks : List α) {S : List (Row α)} {R : Tab α} {B : Int} (x : α → Int), Ok ns B S R → ks.Nodup → (∀ k ∈ ks, k ∈ ns) → 0 ≤ B → 9 ^ ks.length * B ≤ 10 ^ 28 →
    ∃ R' x' T, Df.pts z R x ks = some (R', x') ∧ Ok ns (9 ^ ks.length * B) (S ++ T) R' ∧ (∀ k, k ∉ ks → x' k = x k) ∧ ∀ k ∈ ks, (k, z, x' k) ∈ T ∧ (z, k, 0 - x' k) ∈ T ∧ -(9 ^ ks.length * B) ≤ x' k ∧ x' k ≤ 9 ^ ks.length * B
  | [], S, R, B, x, h, _, _, _, _ => ⟨R, x, [], rfl, by simpa using h, fun _ _ => rfl, fun k hk => by cases hk⟩
  | k :: ks, S, R, B, x, h, hnd, hin, h0, hB => by
    have e9 : (9 : Int) ^ (k :: ks).length * B = 9 ^ ks.length * (9 * B) := by rw [List.length_cons, Int.pow_succ, Int.mul_assoc]
    have e1 : (1 : Int) ≤ 9 ^ ks.length := by have := Int.pow_pos (n := 9) (m := ks.length) (by decide); omega
    rw [e9] at hB ⊢
    have hB9 : 9 * B ≤ 9 ^ ks.length * (9 * B) := by
      have := Int.mul_le_mul_of_nonneg_right e1 (show 0 ≤ 9 * B by omega)
      omega
    have hk := hin k List.mem_cons_self
    obtain ⟨R1, R2, m1, m2, ok2⟩ := h.setTo h0 (by omega) hz hk
    have hv := valOf_le h h0 (by omega) hz hk
    have hnd' := List.nodup_cons.mp hnd
    obtain ⟨R', x', T, p1, p2, p3, p4⟩ := Ok.pts hz ks (put x k (valOf R z k)) ok2 hnd'.2 (fun j hj => hin j (List.mem_cons_of_mem _ hj)) (by omega) hB
    have hxk : x' k = valOf R z k := by rw [p3 k hnd'.1, put_same]
    refine ⟨R', x', (k, z, valOf R z k) :: (z, k, 0 - valOf R z k) :: T, ?_, ?_, fun j hj => ?_, fun j hj => ?_⟩
    · show (setR R z k (valOf R z k)).bind _ = _
      unfold setR
      rw [m1]
      show (moreR R1 z k (0 - valOf R z k)).bind _ = _
      rw [m2]
      exact p1
    · have : S ++ (k, z, valOf R z k) :: (z, k, 0 - valOf R z k) :: T = S ++ [(k, z, valOf R z k)] ++ [(z, k, 0 - valOf R z k)] ++ T := by simp
      rw [this]
      exact p2
    · rw [p3 j fun z => hj (List.mem_cons_of_mem _ z), put_ne fun (e : j = k) => hj (by rw [e]; exact List.mem_cons_self)]
    · rcases List.mem_cons.mp hj with rfl | hj
      · rw [hxk]
        exact ⟨List.mem_cons_self, List.mem_cons_of_mem _ List.mem_cons_self, by omega, by omega⟩
      · obtain ⟨q1, q2, q3, q4⟩ := p4 j hj
        exact ⟨List.mem_cons_of_mem _ (List.mem_cons_of_mem _ q1), List.mem_cons_of_mem _ (List.mem_cons_of_mem _ q2), q3, q4⟩
/-- a system whose table comes out has a solution, the point of the table -/
theorem Ok.point {ns : List α} {z : α} {ks : List α} {S : List (Row α)} {R : Tab α} {B : Int} (x : α → Int) (h : Ok ns B S R) (hns : ns = z :: ks) (hnd : ns.Nodup) (h0 : 0 ≤ B) (hB : 9 ^ ks.length * B ≤ 10 ^ 28) (hS : ∀ e ∈ S, e.1 ∈ ns ∧ e.2.1 ∈ ns ∧ e.2.2 ≤ 10 ^ 28) :
    ∃ R' x', Df.pts z R x ks = some (R', x') ∧ Solves S fun a => if a = z then 0 else x' a := by
  subst hns
  have hnd' := List.nodup_cons.mp hnd
  obtain ⟨R', x', T, p1, p2, _, p4⟩ := Ok.pts (ns := z :: ks) List.mem_cons_self ks x h hnd'.2 (fun k hk => List.mem_cons_of_mem _ hk) h0 hB
  refine ⟨R', x', p1, p2.solves hB List.mem_cons_self hS fun k hk hkz => ?_⟩
  rcases List.mem_cons.mp hk with rfl | hk
  · exact absurd rfl hkz
  · exact p4 k hk
end Df

/-! ### heaps, walks, texts: what does not hang on a program -/
namespace Ls
open PySem PySem.Spec PyProof.Rows L2
theorem same_upd {H : Hp} {p : Addr} {o : HO} (h : H p = none) : Same H (upd H p o) := fun b x e => by rw [upd_ne (ne_of_none e h)]; exact e
theorem same_mut {H H' : Hp} {p : Addr} {o : HO} (s : Same H H') (h : H p = none) : Same H (upd H' p o) := fun b x e => by rw [upd_ne (ne_of_none e h)]; exact s b x e
theorem sq {K : PySem.W.Frag} {H : Hp} {a : Addr} {xs : List V} (h : H a = some (.lst xs)) : SqL K H a xs := .inl (.inl h)
theorem sqt {K : PySem.W.Frag} {H : Hp} {a : Addr} {xs : List V} (h : H a = some (.tup xs)) : SqT K H a xs := .inl (.inl h)
theorem szl {n : Nat} (h : n ≤ 1000000) : n ≤ sizeLine := Nat.le_trans h (by decide)
theorem szlt {n : Nat} (h : n < 1000000) : n < sizeLine := Nat.lt_of_lt_of_le h (by decide)
theorem fresh_ne {H : Hp} {p q : Addr} {o : HO} (h : H p = some o) (n : H q = none) : p ≠ q := ne_of_none h n
section
variable {K : PySem.W.Frag} {a : Addr} {xs : List V}
theorem walk_enumT : Walk (IteT K a) xs.length (fun H => SqT K H a xs) (YPair (fun i => some (.int (i : Nat))) (fun i => xs[i]?)) :=
  ⟨fun i _ hi q => ⟨xs, xs[i], q, List.getElem?_eq_getElem hi⟩, fun _ q => ⟨xs, q, Nat.le_refl _⟩, fun i H v H' _ q y => have ⟨T, x, h1, h2, h3, h4⟩ := y; ⟨T, .int (i : Nat), x, h1, h2, h3, rfl, h4 xs q⟩⟩
end
section
variable {J : It} {n : Nat} {G : Hp → Prop} {Y : Nat → Hp → V → Hp → Prop}
/-- a dict comprehension over a walk -/
theorem dc_it (w : Walk J n G Y) {g : TG} {tt : TT} {tk tv : TE} {vs : List Nat} {σ : L2.St} {H1 : Hp} {D : Addr} {Qd : Hp → Prop} (Pv : Nat → Hp → Prop) (h0 : Pv 0 (upd H1 D (.dK []))) (hG : ∀ i H, i ≤ n → Pv i H → G H)
    (hs : ∀ i x H H', i < n → Pv i H → Y i H x H' → g x (wipe σ vs) H' fun σ2 H2 => wipe σ2 vs = wipe σ vs ∧ tt σ2 H2 fun b H3 =>
      if b = true then tk σ2 H3 fun y H4 => tv σ2 H4 fun z H5 => ∃ kvs k, y = kV k ∧ H5 D = some (.dK kvs) ∧ kvs.length < sizeLine ∧ Pv (i + 1) (upd H5 D (.dK (putK kvs k z))) else Pv (i + 1) H3) (hd : ∀ H, Pv n H → Qd H) :
    ∃ W : Nat → Nat → Hp → Prop, (∃ m, W 0 m (upd H1 D (.dK []))) ∧ ∀ i m H, W i m H →
      (J.stop i H ∧ Qd H) ∨ (J.go i H ∧ ∃ Nx : Hp → Prop, (∀ H', Nx H' → ∃ m', m' < m ∧ W (i + 1) m' H') ∧ ∀ x H', J.yld i H x H' → g x (wipe σ vs) H' fun σ2 H2 => wipe σ2 vs = wipe σ vs ∧ tt σ2 H2 fun b H3 =>
        if b = true then tk σ2 H3 fun y H4 => tv σ2 H4 fun z H5 => ∃ kvs k, y = kV k ∧ H5 D = some (.dK kvs) ∧ kvs.length < sizeLine ∧ Nx (upd H5 D (.dK (putK kvs k z))) else Nx H3) :=
  ⟨fun i m H => m = n - i ∧ i ≤ n ∧ Pv i H, ⟨n, (Nat.sub_zero n).symm, Nat.zero_le _, h0⟩, fun i m H ⟨e, hi, p⟩ => by
    have q := hG i H hi p
    rcases Nat.lt_or_ge i n with hlt | hge
    · exact .inr ⟨w.goes i H hlt q, Pv (i + 1), fun H' p' => ⟨n - (i + 1), by omega, rfl, hlt, p'⟩, fun x H' y => hs i x H H' hlt p (w.yields i H x H' hlt q y)⟩
    · have e : i = n := Nat.le_antisymm hi hge
      subst e
      exact .inl ⟨w.stops H q, hd H p⟩⟩
end
/-! rows paired -/
theorem pget {α β : Type} {F : α → β → Prop} : ∀ {xs : List α} {ys : List β} {i : Nat} {y : β}, Paired F xs ys → ys[i]? = some y → ∃ x, xs[i]? = some x ∧ F x y
  | _, _, _, _, .nil, e => by simp at e
  | _, _, 0, _, .cons r _, e => by
    have e : _ = _ := Option.some.inj e
    exact ⟨_, rfl, e ▸ r⟩
  | _, _, i + 1, y, .cons _ t, e => pget (i := i) t e
theorem pmono {α β : Type} {F F' : α → β → Prop} (h : ∀ x y, F x y → F' x y) : ∀ {xs : List α} {ys : List β}, Paired F xs ys → Paired F' xs ys
  | _, _, .nil => .nil
  | _, _, .cons r t => .cons (h _ _ r) (pmono h t)
theorem plen {α β : Type} {F : α → β → Prop} : ∀ {xs : List α} {ys : List β}, Paired F xs ys → xs.length = ys.length
  | _, _, .nil => rfl
  | _, _, .cons _ t => congrArg Nat.succ (plen t)
theorem pmap {α β γ : Type} {F : α → β → Prop} (g : γ → β) : ∀ {xs : List α} {zs : List γ}, Paired F xs (zs.map g) → Paired (fun x z => F x (g z)) xs zs
  | _, [], .nil => .nil
  | _, _ :: _, .cons r t => .cons r (pmap g t)
/-! dicts of names -/
/-- the dict with the keys ks, in order, n standing for v n -/
def tabV (ks : List Str) (v : Str → V) : List (Key × V) := ks.map fun n => (Sum.inr n, v n)
theorem tabV_len (ks : List Str) (v : Str → V) : (tabV ks v).length = ks.length := List.length_map _
theorem tabV_keys (ks : List Str) (v : Str → V) : (tabV ks v).map (fun kv => kV kv.1) = ks.map V.str := by
  unfold tabV; rw [List.map_map]; rfl
theorem valV_tab : ∀ (ks : List Str) (v : Str → V) (n : Str), valV (tabV ks v) (Sum.inr n : Key) = if n ∈ ks then some (v n) else none
  | [], v, n => by simp [tabV, valV]
  | k :: ks, v, n => by
    show valV ((Sum.inr k, v k) :: tabV ks v) (Sum.inr n : Key) = _
    by_cases h : k = n
    · subst h
      rw [valV_pos (p := ((Sum.inr k : Key), v k)) rfl, if_pos List.mem_cons_self]
    · rw [valV_neg (p := ((Sum.inr k : Key), v k)) (fun e => h (Sum.inr.inj e)), valV_tab ks v n]
      simp [Ne.symm h]
theorem valV_tab_in {ks : List Str} {v : Str → V} {n : Str} (h : n ∈ ks) : valV (tabV ks v) (Sum.inr n : Key) = some (v n) := by rw [valV_tab, if_pos h]
theorem valV_tab_no {ks : List Str} {v : Str → V} {n : Str} (h : n ∉ ks) : valV (tabV ks v) (Sum.inr n : Key) = none := by rw [valV_tab, if_neg h]
theorem tabV_congr {ks : List Str} {v v' : Str → V} (h : ∀ n ∈ ks, v n = v' n) : tabV ks v = tabV ks v' := List.map_congr_left fun n hn => by rw [h n hn]
theorem putK_tab (ks : List Str) (v : Str → V) (n : Str) (x : V) : putK (tabV ks v) (Sum.inr n : Key) x = tabV (Df.ins ks n) (Df.put v n x) := by
  unfold Df.ins
  by_cases h : n ∈ ks
  · rw [if_pos h]
    have hany : ((tabV ks v).any fun kv => decide (kv.1 = (Sum.inr n : Key))) = true := by rw [valV_any, valV_tab_in h]; rfl
    unfold putK
    rw [if_pos hany]
    unfold tabV
    rw [List.map_map]
    refine List.map_congr_left fun m _ => ?_
    by_cases e : m = n
    · subst e
      simp [Df.put]
    · have e2 : ¬ ((Sum.inr m : Key) = Sum.inr n) := fun z => e (Sum.inr.inj z)
      simp [Df.put, e]
  · rw [if_neg h, putK_new x (valV_tab_no h)]
    have e : tabV (ks ++ [n]) (Df.put v n x) = tabV ks (Df.put v n x) ++ [(Sum.inr n, x)] := by
      unfold tabV
      rw [List.map_append]
      simp [Df.put]
    rw [e]
    congr 1
    exact tabV_congr fun m hm => by rw [Df.put_ne]; exact fun z => h (z ▸ hm)
theorem ins_len (ks : List Str) (n : Str) : (Df.ins ks n).length ≤ ks.length + 1 := by
  unfold Df.ins
  split <;> simp
end Ls

/-! ### texts in order; data of lists -/
namespace Ls
open PySem PySem.Spec PyProof.Rows L2
def leS (a b : Str) : Prop := ¬ b.cps.toList < a.cps.toList
theorem leS_trans {a b c : Str} (h : leS a b) (k : leS b c) : leS a c := fun z => by
  have h1 : a.cps.toList ≤ b.cps.toList := List.not_lt.mp h
  have h2 : b.cps.toList ≤ c.cps.toList := List.not_lt.mp k
  exact List.not_lt.mpr (List.le_trans h1 h2) z
theorem leS_anti {a b : Str} (h : leS a b) (k : leS b a) : a = b := by
  have h1 : a.cps.toList ≤ b.cps.toList := List.not_lt.mp h
  have h2 : b.cps.toList ≤ a.cps.toList := List.not_lt.mp k
  have e : a.cps.toList = b.cps.toList := List.le_antisymm h1 h2
  have e2 : a.cps = b.cps := Array.toList_inj.mp e
  cases a; cases b
  exact congrArg Str.mk e2
theorem rising_pw : ∀ (r : List Str) (p : Str), risingS p r = true → (p :: r).Pairwise leS
  | [], p, _ => by simp
  | x :: r, p, h => by
    have h : (!ltCps x.cps.toList p.cps.toList && risingS x r) = true := h
    rw [Bool.and_eq_true] at h
    have h1 : leS p x := fun z => by
      have := h.1
      rw [ltCps_eq, decide_eq_true z] at this
      cases this
    have ih := rising_pw r x h.2
    refine List.pairwise_cons.mpr ⟨fun y hy => ?_, ih⟩
    rcases List.mem_cons.mp hy with rfl | hy
    · exact h1
    · exact leS_trans h1 ((List.pairwise_cons.mp ih).1 y hy)
theorem sorted_pw : ∀ (l : List Str), sortedS l = true → l.Pairwise leS
  | [], _ => List.Pairwise.nil
  | x :: r, h => rising_pw r x h
theorem pw_uniq : ∀ (l m : List Str), l.Perm m → l.Pairwise leS → m.Pairwise leS → l = m
  | [], m, p, _, _ => (List.nil_perm.mp p).symm
  | a :: l, [], p, _, _ => absurd p.length_eq (by simp)
  | a :: l, b :: m, p, h, k => by
    have h1 := List.pairwise_cons.mp h
    have k1 := List.pairwise_cons.mp k
    have e : a = b := by
      rcases List.mem_cons.mp (p.mem_iff.mp List.mem_cons_self) with e | hb
      · exact e
      · rcases List.mem_cons.mp (p.mem_iff.mpr List.mem_cons_self) with e | ha
        · exact e.symm
        · exact leS_anti (h1.1 b ha) (k1.1 a hb)
    subst e
    rw [pw_uniq l m (List.perm_cons a |>.mp p) h1.2 k1.2]
theorem sorted_uniq {l m n : List Str} (p : l.Perm n) (q : m.Perm n) (h : sortedS l = true) (k : sortedS m = true) : l = m := pw_uniq l m (p.trans q.symm) (sorted_pw l h) (sorted_pw m k)
/-! texts in lists -/
theorem eqV_str (a b : Str) : eqV (.str a) (.str b) = decide (a = b) := by
  unfold eqV
  rw [Bool.eq_iff_iff]
  simp
theorem inV_str (n : Str) : ∀ ns : List Str, inV (.str n) (ns.map V.str) = decide (n ∈ ns)
  | [] => by simp [inV]
  | a :: ns => by
    have ih := inV_str n ns
    unfold inV at ih ⊢
    rw [List.map_cons, List.any_cons, ih, eqV_str, Bool.eq_iff_iff]
    simp only [Bool.or_eq_true, decide_eq_true_eq, List.mem_cons]
    exact or_congr eq_comm Iff.rfl
theorem flat_str (ns : List Str) : (ns.map V.str).all flatV = true := by
  induction ns with
  | nil => rfl
  | cons a ns ih => rw [List.map_cons, List.all_cons, ih]; rfl
/-! data -/
theorem canAll {α : Type} (f : α → PyData) (h : ∀ x, PyData.canLay0 (f x) = true) : ∀ l : List α, PyData.canLayAll0 (l.map f) = true
  | [] => rfl
  | x :: l => by
    rw [List.map_cons, PyData.canLayAll0, h x, canAll f h l]
    rfl
theorem canAllm {α : Type} (f : α → PyData) : ∀ l : List α, (∀ x ∈ l, PyData.canLay0 (f x) = true) → PyData.canLayAll0 (l.map f) = true
  | [], _ => rfl
  | x :: l, h => by
    rw [List.map_cons, PyData.canLayAll0, h x List.mem_cons_self, canAllm f l fun y hy => h y (List.mem_cons_of_mem _ hy)]
    rfl
theorem depAll {α : Type} (f : α → PyData) (n : Nat) (h : ∀ x, PyData.depth (f x) ≤ n) : ∀ l : List α, PyData.depthAll (l.map f) ≤ n
  | [] => by simp [PyData.depthAll]
  | x :: l => by
    have h1 := h x
    have h2 := depAll f n h l
    simp only [List.map_cons, PyData.depthAll]
    omega
theorem shaped_list {α : Type} (f : α → PyData) (n : Nat) (hn : n < 60) (hd : ∀ x, PyData.depth (f x) ≤ n) (l : List α) (h : ∀ x ∈ l, PyData.canLay0 (f x) = true) : SeqAt.shaped (.list (l.map f)) = true := by
  have h1 := depAll f n hd l
  have h2 : PyData.depth (.list (l.map f)) ≤ 64 := by simp only [PyData.depth]; omega
  unfold SeqAt.shaped
  rw [Bool.and_eq_true]
  exact ⟨by simp only [PyData.canLay0]; exact canAllm f l h, decide_eq_true h2⟩
theorem eqv_list {α : Type} (f : α → PyData) (l : List α) (h : ∀ x ∈ l, PyData.canLay0 (f x) = true) : PyData.eqv (.list (l.map f)) (.list (l.map f)) = true := PySem.SeqAt.eqv_refl _ (by simp only [PyData.canLay0]; exact canAllm f l h)
theorem shaped_strs (l : List Str) (h : ∀ x ∈ l, PySem.PyData.strOk x = true) : SeqAt.shaped (.list (l.map PyData.str)) = true := shaped_list PyData.str 1 (by decide) (fun x => by simp [PyData.depth]) l fun x hx => by simp only [PyData.canLay0]; exact h x hx
theorem eqv_strs (l : List Str) (h : ∀ x ∈ l, PySem.PyData.strOk x = true) : PyData.eqv (.list (l.map PyData.str)) (.list (l.map PyData.str)) = true := eqv_list PyData.str l fun x hx => by simp only [PyData.canLay0]; exact h x hx
theorem dpStrs (K : PySem.W.Frag) (H : Hp) : ∀ ns : List Str, DpAll K H (ns.map V.str) (ns.map PyData.str)
  | [] => .nil
  | n :: ns => .cons (.str n) (dpStrs K H ns)
end Ls

/-! ### values that are data: whatever they are made of -/
namespace Ls
open PySem PySem.Spec PyProof.Rows L2
mutual
/-- the value is the data; its objects satisfy N -/
inductive Dt (N : Addr → Prop) (H : Hp) : V → PyData → Prop
  | non : Dt N H .non .none
  | bl (b : Bool) : Dt N H (.bl b) (.bool b)
  | int (i : Int) : Dt N H (.int i) (.int i)
  | str {x : Str} (h : x.length ≤ 1000 ∧ PySem.PyData.strOk x = true) : Dt N H (.str x) (.str x)
  | lst {a : Addr} {xs : List V} {ds : List PyData} (n : N a ∧ ds.length ≤ 1000) (e : H a = some (.lst xs)) (h : DtAll N H xs ds) : Dt N H (.ref a) (.list ds)
  | tup {a : Addr} {xs : List V} {ds : List PyData} (n : N a ∧ ds.length ≤ 1000) (e : H a = some (.tup xs)) (h : DtAll N H xs ds) : Dt N H (.ref a) (.tuple ds)
inductive DtAll (N : Addr → Prop) (H : Hp) : List V → List PyData → Prop
  | nil : DtAll N H [] []
  | cons {v : V} {vs : List V} {d : PyData} {ds : List PyData} : Dt N H v d → DtAll N H vs ds → DtAll N H (v :: vs) (d :: ds)
end
section
variable {N M : Addr → Prop} {H H' : Hp}
mutual
theorem Dt.to (hn : ∀ a, N a → M a) (s : ∀ b o, N b → H b = some o → H' b = some o) : ∀ {v : V} {d : PyData}, Dt N H v d → Dt M H' v d
  | _, _, .non => .non
  | _, _, .bl b => .bl b
  | _, _, .int i => .int i
  | _, _, .str h => .str h
  | _, _, .lst n e h => .lst ⟨hn _ n.1, n.2⟩ (s _ _ n.1 e) (DtAll.to hn s h)
  | _, _, .tup n e h => .tup ⟨hn _ n.1, n.2⟩ (s _ _ n.1 e) (DtAll.to hn s h)
theorem DtAll.to (hn : ∀ a, N a → M a) (s : ∀ b o, N b → H b = some o → H' b = some o) : ∀ {vs : List V} {ds : List PyData}, DtAll N H vs ds → DtAll M H' vs ds
  | _, _, .nil => .nil
  | _, _, .cons h t => .cons (Dt.to hn s h) (DtAll.to hn s t)
end
theorem Dt.mono (s : Same H H') {v : V} {d : PyData} (h : Dt N H v d) : Dt N H' v d := h.to (fun _ n => n) fun b o _ e => s b o e
theorem DtAll.mono (s : Same H H') {vs : List V} {ds : List PyData} (h : DtAll N H vs ds) : DtAll N H' vs ds := h.to (fun _ n => n) fun b o _ e => s b o e
theorem DtAll.len : ∀ {vs : List V} {ds : List PyData}, DtAll N H vs ds → vs.length = ds.length
  | _, _, .nil => rfl
  | _, _, .cons _ t => congrArg Nat.succ (DtAll.len t)
theorem DtAll.get : ∀ {vs : List V} {ds : List PyData} {i : Nat} {d : PyData}, DtAll N H vs ds → ds[i]? = some d → ∃ v, vs[i]? = some v ∧ Dt N H v d
  | _, _, 0, _, .cons h _, e => by cases e; exact ⟨_, rfl, h⟩
  | _, _, i + 1, _, .cons _ t, e => DtAll.get (i := i) t e
  | _, _, _, _, .nil, e => by simp at e
theorem DtAll.app : ∀ {vs us : List V} {ds es : List PyData}, DtAll N H vs ds → DtAll N H us es → DtAll N H (vs ++ us) (ds ++ es)
  | _, _, _, _, .nil, h => h
  | _, _, _, _, .cons r t, h => .cons r (DtAll.app t h)
theorem DtAll.take : ∀ {vs : List V} {ds : List PyData} (n : Nat), DtAll N H vs ds → DtAll N H (vs.take n) (ds.take n)
  | _, _, 0, _ => by simp only [List.take_zero]; exact .nil
  | _, _, n + 1, .nil => by simp only [List.take_nil]; exact .nil
  | _, _, n + 1, .cons r t => .cons r (DtAll.take n t)
theorem DtAll.drop : ∀ {vs : List V} {ds : List PyData} (n : Nat), DtAll N H vs ds → DtAll N H (vs.drop n) (ds.drop n)
  | _, _, 0, h => h
  | _, _, n + 1, .nil => by simp only [List.drop_nil]; exact .nil
  | _, _, n + 1, .cons _ t => DtAll.drop n t
theorem DtAll.strs : ∀ {ns : List Str}, (∀ x ∈ ns, x.length ≤ 1000 ∧ PySem.PyData.strOk x = true) → DtAll N H (ns.map V.str) (ns.map PyData.str)
  | [], _ => .nil
  | x :: ns, h => .cons (.str (h x List.mem_cons_self)) (DtAll.strs fun y hy => h y (List.mem_cons_of_mem _ hy))
mutual
theorem Dt.dp {K : PySem.W.Frag} : ∀ {v : V} {d : PyData}, Dt N H v d → Dp K H v d
  | _, _, .non => .non
  | _, _, .bl b => .bl b
  | _, _, .int i => .int i
  | _, _, .str _ => .str _
  | _, _, .lst _ e h => .lst (sq e) (DtAll.dp h)
  | _, _, .tup _ e h => .tup (sqt e) (DtAll.dp h)
theorem DtAll.dp {K : PySem.W.Frag} : ∀ {vs : List V} {ds : List PyData}, DtAll N H vs ds → DpAll K H vs ds
  | _, _, .nil => .nil
  | _, _, .cons h t => .cons (Dt.dp h) (DtAll.dp t)
end
end
section
variable {N : Addr → Prop} {H : Hp}
mutual
theorem Dt.lay : ∀ {v : V} {d : PyData}, Dt N H v d → d.canLay0 = true
  | _, _, .non => rfl
  | _, _, .bl b => rfl
  | _, _, .int i => rfl
  | _, _, .str h => by simp only [PyData.canLay0]; exact h.2
  | _, _, .lst _ e h => by simp only [PyData.canLay0]; exact DtAll.lay h
  | _, _, .tup _ e h => by simp only [PyData.canLay0]; exact DtAll.lay h
theorem DtAll.lay : ∀ {vs : List V} {ds : List PyData}, DtAll N H vs ds → PyData.canLayAll0 ds = true
  | _, _, .nil => rfl
  | _, _, .cons h t => by simp only [PyData.canLayAll0, Dt.lay h, DtAll.lay t]; rfl
end
end
mutual
theorem Dt.off {N : Addr → Prop} {H : Hp} {D : Addr} (hD : H D = none) : ∀ {v : V} {d : PyData}, Dt N H v d → Dt (fun b => N b ∧ b ≠ D) H v d
  | _, _, .non => .non
  | _, _, .bl b => .bl b
  | _, _, .int i => .int i
  | _, _, .str h => .str h
  | _, _, .lst n e h => .lst ⟨⟨n.1, ne_of_none e hD⟩, n.2⟩ e (DtAll.off hD h)
  | _, _, .tup n e h => .tup ⟨⟨n.1, ne_of_none e hD⟩, n.2⟩ e (DtAll.off hD h)
theorem DtAll.off {N : Addr → Prop} {H : Hp} {D : Addr} (hD : H D = none) : ∀ {vs : List V} {ds : List PyData}, DtAll N H vs ds → DtAll (fun b => N b ∧ b ≠ D) H vs ds
  | _, _, .nil => .nil
  | _, _, .cons h t => .cons (Dt.off hD h) (DtAll.off hD t)
end
section
variable {N : Addr → Prop} {H : Hp} {D : Addr} {kvs : List (Key × V)} (hD : H D = some (.dK kvs))
include hD
mutual
theorem Dt.offd : ∀ {v : V} {d : PyData}, Dt N H v d → Dt (fun b => N b ∧ b ≠ D) H v d
  | _, _, .non => .non
  | _, _, .bl b => .bl b
  | _, _, .int i => .int i
  | _, _, .str h => .str h
  | _, _, .lst n e h => .lst ⟨⟨n.1, ne_of e hD (by intro z; cases z)⟩, n.2⟩ e (DtAll.offd h)
  | _, _, .tup n e h => .tup ⟨⟨n.1, ne_of e hD (by intro z; cases z)⟩, n.2⟩ e (DtAll.offd h)
theorem DtAll.offd : ∀ {vs : List V} {ds : List PyData}, DtAll N H vs ds → DtAll (fun b => N b ∧ b ≠ D) H vs ds
  | _, _, .nil => .nil
  | _, _, .cons h t => .cons (Dt.offd h) (DtAll.offd t)
end
end
section
variable {N : Addr → Prop} {H : Hp} {D : Addr} (hD : ∀ b xs, H b = some (.lst xs) ∨ H b = some (.tup xs) → b ≠ D)
include hD
mutual
theorem Dt.offg : ∀ {v : V} {d : PyData}, Dt N H v d → Dt (fun b => N b ∧ b ≠ D) H v d
  | _, _, .non => .non
  | _, _, .bl b => .bl b
  | _, _, .int i => .int i
  | _, _, .str h => .str h
  | _, _, .lst n e h => .lst ⟨⟨n.1, hD _ _ (.inl e)⟩, n.2⟩ e (DtAll.offg h)
  | _, _, .tup n e h => .tup ⟨⟨n.1, hD _ _ (.inr e)⟩, n.2⟩ e (DtAll.offg h)
theorem DtAll.offg : ∀ {vs : List V} {ds : List PyData}, DtAll N H vs ds → DtAll (fun b => N b ∧ b ≠ D) H vs ds
  | _, _, .nil => .nil
  | _, _, .cons h t => .cons (Dt.offg h) (DtAll.offg t)
end
end
theorem off_ins {H : Hp} {p C dx : Addr} {fs : List (Str × V)} (h : H p = some (.ins C dx fs)) : ∀ b xs, H b = some (.lst xs) ∨ H b = some (.tup xs) → b ≠ p := fun b xs q z => by
  rw [z, h] at q
  rcases q with q | q <;> cases q
/-- anything, and () -/
def rNeE (K : PySem.W.Frag) : R2 := fun x y H Q => ∃ d, Dp K H x d ∧ Dp K H y (.tuple []) ∧ d.canLay0 = true ∧ Q (.bl (!PyData.eqv d (.tuple []))) H
def rEqE (K : PySem.W.Frag) : R2 := fun x y H Q => ∃ d, Dp K H x d ∧ Dp K H y (.tuple []) ∧ d.canLay0 = true ∧ Q (.bl (PyData.eqv d (.tuple []))) H
theorem room_nil {A : Around} {d : PyData} (hu : A.units + 64 < cLine) : A.units + min d.depth (PyData.depth (.tuple [])) < cLine := by
  have h1 : PyData.depth (.tuple []) ≤ 64 := by simp [PyData.depth, PyData.depthAll]
  have h2 : min d.depth (PyData.depth (.tuple [])) ≤ PyData.depth (.tuple []) := Nat.min_le_right _ _
  omega
theorem kNeE {X : Cx} {K : PySem.W.Frag} (hu : X.A.units + 64 < cLine) (h : X.K = K := by rfl) : OpR X (compareOp .NotEq) (rNeE K) := by
  subst h
  intro pins s σ H x y v u Q I rx ry h
  obtain ⟨d, hd, he, sd, q⟩ := h
  obtain ⟨as, r1⟩ := Dp.reads I d x v hd rx
  obtain ⟨bs, r2⟩ := Dp.reads I _ y u he ry
  exact PySem.SeqAt.compareNe_reads r1 r2 sd rfl (room_nil hu) ⟨.bl _, H, I, rfl, q⟩
theorem kEqE {X : Cx} {K : PySem.W.Frag} (hu : X.A.units + 64 < cLine) (h : X.K = K := by rfl) : OpR X (compareOp .Eq) (rEqE K) := by
  subst h
  intro pins s σ H x y v u Q I rx ry h
  obtain ⟨d, hd, he, sd, q⟩ := h
  obtain ⟨as, r1⟩ := Dp.reads I d x v hd rx
  obtain ⟨bs, r2⟩ := Dp.reads I _ y u he ry
  exact PySem.SeqAt.compareEq_reads r1 r2 sd rfl (room_nil hu) ⟨.bl _, H, I, rfl, q⟩
def isNilD : PyData → Bool
  | .tuple [] => true
  | _ => false
theorem eqv_nilT (d : PyData) : PyData.eqv d (.tuple []) = isNilD d := by
  cases d with
  | tuple ds => cases ds <;> simp [PyData.eqv, PyData.eqvAll, isNilD]
  | _ => simp [PyData.eqv, isNilD]
/-- what isinstance says of data -/
def tyN : PyData → String
  | .none => "NoneType" | .bool _ => "bool" | .int _ => "int" | .str _ => "str" | .list _ => "list" | .tuple _ => "tuple" | .dict _ => "dict"
def tyB (a b : String) : Bool := a == b || (a == "bool" && b == "int")
def isTy (T : String) (d : PyData) : Bool := tyB (tyN d) T
theorem kitAll : ∀ n ∈ ["NoneType", "bool", "int", "str", "list", "tuple"], ∀ T ∈ ["str", "int", "bool", "tuple", "dict"], L2.kitB n T = some (tyB n T) := by decide +kernel
theorem Dt.ty {N : Addr → Prop} {H : Hp} {K : PySem.W.Frag} {v : V} {d : PyData} (h : Dt N H v d) {T : String} (hT : T ∈ ["str", "int", "bool", "tuple", "dict"]) : ∃ t, TyX K H v t ∧ PySem.W.kitOne K t (.type T) = some (isTy T d) := by
  cases h with
  | non => exact ⟨_, .base .non, kit_ty (kitAll "NoneType" (by simp) _ hT)⟩
  | bl b => exact ⟨_, .base (.bl b), kit_ty (kitAll "bool" (by simp) _ hT)⟩
  | int i => exact ⟨_, .base (.int i), kit_ty (kitAll "int" (by simp) _ hT)⟩
  | str h => exact ⟨_, .base (.str _), kit_ty (kitAll "str" (by simp) _ hT)⟩
  | lst n e h => exact ⟨_, .base (.lst e), kit_ty (kitAll "list" (by simp) _ hT)⟩
  | tup n e h => exact ⟨_, .base (.tup e), kit_ty (kitAll "tuple" (by simp) _ hT)⟩
end Ls

namespace K1
open PySem PySem.Spec PyProof.Rows L2 Ls
/-! ### the text by places -/
def top (i : Nat) : Stmt := PySem.Challenge.pw_loopsheds_k43_refused_nests.main.body.getD i (.Pass ⟨0, 0, 0, 0⟩)
abbrev s_u_wall : Stmt := top 0
abbrev s_NoNode___init__ : Stmt := inClass (top 5) 0
abbrev s_is_word : Stmt := top 11
abbrev s_is_number : Stmt := top 12
abbrev s_is_end : Stmt := top 13
abbrev s_is_atom : Stmt := top 14
abbrev s_is_difference : Stmt := top 15
abbrev s_u_is_row : Stmt := top 16
abbrev s_u_is_list : Stmt := top 17
abbrev s_is_access : Stmt := top 18
abbrev s_u_is_loop : Stmt := top 19
abbrev s_u_is_run : Stmt := top 20
abbrev s_u_is_node : Stmt := top 21
abbrev s_u_is_body : Stmt := top 22
abbrev s_body_of : Stmt := top 23
abbrev s_accesses : Stmt := top 24
abbrev s_forms : Stmt := top 25
abbrev s_one_form : Stmt := top 26
abbrev s_u_are_rooms : Stmt := top 27
abbrev s_u_is_names : Stmt := top 28
abbrev s_Nest___init__ : Stmt := inClass (top 29) 0
abbrev s_Nest_rooms : Stmt := inClass (top 29) 1
abbrev s_Nest_labels : Stmt := inClass (top 29) 2
abbrev s_Nest_arrays : Stmt := inClass (top 29) 3
abbrev s_Nest_changed : Stmt := inClass (top 29) 4
abbrev s_Nest_refit : Stmt := inClass (top 29) 5
abbrev s_Nest_supposing : Stmt := inClass (top 29) 6
abbrev s_Statement___init__ : Stmt := inClass (top 30) 0
abbrev s_u_gather : Stmt := top 31
abbrev s_statements : Stmt := top 32
abbrev s_statement_at : Stmt := top 33
abbrev s_loop_system : Stmt := top 34
abbrev s_size_system : Stmt := top 35
abbrev s_system_of_run : Stmt := top 36
abbrev s_bounds : Stmt := top 37
abbrev s_node_at : Stmt := top 38
abbrev s_u_law_number : Stmt := top 40
abbrev s_u_law_take : Stmt := top 41
abbrev s_u_law_pick : Stmt := top 42
abbrev s_u_law_atom : Stmt := top 43
abbrev s_u_law_access : Stmt := top 44
abbrev s_u_law_run : Stmt := top 45
abbrev s_u_law_loop : Stmt := top 46
abbrev s_u_law_test : Stmt := top 47
abbrev s_u_law_body : Stmt := top 48
abbrev s_u_law_worth : Stmt := top 49
abbrev s_u_law_cell : Stmt := top 50
abbrev s_u_law_holds : Stmt := top 51
abbrev s_u_law_many : Stmt := top 52
abbrev s_u_law_rounds : Stmt := top 53
abbrev s_u_law_runs : Stmt := top 54
abbrev s_u_law_refused : Stmt := top 55
abbrev s_u_law_bad_atoms : Stmt := top 56
abbrev s_u_law_bad_accesses : Stmt := top 57
abbrev s_u_law_bad_nodes : Stmt := top 58
abbrev s_u_law_deep : Stmt := top 59
abbrev s_u_law_bad_heads : Stmt := top 60
abbrev s_u_law_nowhere : Stmt := top 61
abbrev s_law : Stmt := top 62
/-- what the module holds: built-in names free, constants -/
structure Facts (mg : Str → Option Value) : Prop where
  len_ : mg "len" = none
  range_ : mg "range" = none
  enumerate_ : mg "enumerate" = none
  isinstance_ : mg "isinstance" = none
  tuple_ : mg "tuple" = none
  list_ : mg "list" = none
  int_ : mg "int" = none
  bool_ : mg "bool" = none
  str_ : mg "str" = none
  dict_ : mg "dict" = none
  sorted_ : mg "sorted" = none
  sum_ : mg "sum" = none
  all_ : mg "all" = none
  max_ : mg "max" = none
  min_ : mg "min" = none
  abs_ : mg "abs" = none
  ValueError_ : mg "ValueError" = none
  MOST_NUMBER : ∃ t, mg "MOST_NUMBER" = some (.int 9999 t)
  MOST_DEPTH : ∃ t, mg "MOST_DEPTH" = some (.int 40 t)
abbrev FnP (K : PySem.W.Frag) (x : Str) (st : Stmt) (dvs : List V) (f : Addr) (fd : FuncData) : Prop := FunD K x x (defArgs st) (defBody st) (defScope st) dvs [] f fd
theorem hu_of {k : Nat} {A : Around} (h : Room k A) : A.units + 1 < cLine := by have := h.un; omega
/-! ### what the checks say of data -/
def wordsL : List Str := ["sizes", "given", "room", "keep", "up", "down", "from", "to", "when", "and"]
def leS (a b : List Nat) : Bool := !decide (b < a)
def sgn1 (c : Nat) : Bool := leS ("a" : Str).cps.toList (⟨#[c]⟩ : Str).cps.toList && leS (⟨#[c]⟩ : Str).cps.toList ("z" : Str).cps.toList
def sgn2 (c : Nat) : Bool := leS ("0" : Str).cps.toList (⟨#[c]⟩ : Str).cps.toList && leS (⟨#[c]⟩ : Str).cps.toList ("9" : Str).cps.toList
def sgn (c : Nat) : Bool := sgn1 c || (sgn2 c || decide (V.str ⟨#[c]⟩ = V.str "_"))
def isWordS (x : Str) : Bool := decide ((1 : Int) ≤ (x.length : Int)) && (decide ((x.length : Int) ≤ 12) && (!(inV (V.str x) (wordsL.map V.str)) && ((match x.cps.toList[0]? with | some c => sgn1 c | none => false) && x.cps.toList.all sgn)))
def isWord : PyData → Bool
  | .str x => isWordS x
  | _ => false
def isNumber : PyData → Bool
  | .int i => decide ((-9999 : Int) ≤ i) && decide (i ≤ 9999)
  | _ => false
def isEnd : PyData → List Str → Bool
  | .str x, names => decide (V.str x = V.str "0") || inV (V.str x) (names.map V.str)
  | _, _ => false
def isAtom : PyData → List Str → Bool
  | .tuple [a, b], names => isEnd a names && isNumber b
  | _, _ => false
def neS : PyData → PyData → Bool
  | .str a, .str b => !decide (V.str a = V.str b)
  | _, _ => false
def isDiff : PyData → List Str → Bool
  | .tuple [a, b, c], names => isNumber c && (isEnd a names && (isEnd b names && neS a b))
  | _, _ => false
def isRow (lo hi : Int) (p : PyData → List Str → Bool) : PyData → List Str → Bool
  | .tuple ds, names => decide (lo ≤ (ds.length : Int)) && (decide ((ds.length : Int) ≤ hi) && ds.all fun d => p d names)
  | _, _ => false
/-- a tuple of ints and texts, as a dict's key -/
def keyI : PyData → Key
  | .int i => .inl i
  | .str x => .inr x
  | _ => .inl 0
def keyD : PyData → List Key
  | .tuple ds => ds.map keyI
  | _ => []
def flatD : PyData → Bool
  | .tuple ds => ds.all fun d => match d with | .int _ => true | .str _ => true | _ => false
  | _ => false
def nodupB {α : Type} [DecidableEq α] : List α → Bool
  | [] => true
  | a :: l => !decide (a ∈ l) && nodupB l
def isList (p : PyData → List Str → Bool) : PyData → List Str → Bool
  | .tuple ds, names => isRow 1 12 p (.tuple ds) names && nodupB (ds.map keyD)
  | _, _ => false
def isAccess : PyData → List Str → Bool
  | .tuple [a, b], names => isWord a && isRow 0 4 isAtom b names
  | _, _ => false
theorem tsn {α : Type} : ∀ {l : List α} {i : Nat} (h : i < l.length), l.take (i + 1) = l.take i ++ [l[i]]
  | a :: l, 0, _ => rfl
  | a :: l, i + 1, h => by
    simp only [List.take_succ_cons, List.cons_append, List.getElem_cons_succ]
    rw [tsn (by simpa using h)]
def spTest1 (p : PyData → Bool) : Sp := fun vs H Q _ => ∃ (N : Addr → Prop) (v : V) (d : PyData), vs = [v] ∧ Dt N H v d ∧ ∀ H', Same H H' → Q (.bl (p d)) H'
def spTest (p : PyData → List Str → Bool) : Sp := fun vs H Q _ => ∃ (N : Addr → Prop) (v : V) (nt : Addr) (d : PyData) (names : List Str), vs = [v, .ref nt] ∧ Dt N H v d ∧ H nt = some (.tup (names.map V.str)) ∧ names.length ≤ 1000 ∧ ∀ H', Same H H' → Q (.bl (p d names)) H'
theorem flatS (ns : List Str) : (ns.map V.str).all flatV = true := by
  rw [List.all_eq_true]
  intro v hv
  obtain ⟨x, _, rfl⟩ := List.mem_map.mp hv
  rfl
section
variable {P : Program} {w : World} {K : PySem.W.Frag} {mg : Str → Option Value} {base : Heap} {f W : Addr} {fd : FuncData} {k : Nat}
theorem sc_is_word : FnScope ["thing", "sign"] ["thing"] (defScope s_is_word) := ⟨rfl, rfl, rfl, by decide +kernel, rfl, by decide +kernel, by decide +kernel⟩
theorem ok_is_word (F : FnP K "is_word" s_is_word [] f fd) (G : Facts mg) (hW : mg "WORDS" = some (.ref W)) (tW : ∀ H, SqT K H W (wordsL.map V.str)) : FnOk P w K mg base CX0 1 f fd ["thing"] (spTest1 isWord) := by
  refine F.ok sc_is_word (fun vs H Q E h => ?_) (fun cdv A outer s H vs Q E hr h => ?_)
  · obtain ⟨N, v, d, rfl, _⟩ := h
    rfl
  · obtain ⟨N, v, d, rfl, hd, hk⟩ := h
    have hu := hu_of hr
    refine ⟨_, PSs.nox (pss_cons (ps_if (PW.pt (pw_or (pt_not (pt_val (pe_callB (kIsi K) (by rfl) G.isinstance_ (by decide +kernel) (pa_cons (pv 0) (pa_cons (pe_ty "str" (by rfl) G.str_ (by decide +kernel)) pa_nil))))) (pw_or (pt_not (pt_chain op_le op_le pe_int (pe_callB call_len_str (by rfl) G.len_ PySem.boot_len (pa_cons (pv 0) pa_nil)) pe_int)) (pw_or1 (pt_cmpR (kIn K) (pv 0) (pe_glob (v := .ref W) (by rfl) hW rfl) (by rfl)))))) (pss_one (ps_ret pe_bl)) pss_nil)
      (pss_cons (ps_if (pt_not (pt_chain op_le_str op_le_str pe_str (pe_ix ix_str (pv 0) pe_int (fun _ _ => rfl)) pe_str)) (pss_one (ps_ret pe_bl)) pss_nil)
      (pss_one (ps_ret (pe_callB (kAll K rfl) (by rfl) G.all_ (by decide +kernel) (pa_cons (pe_lc (own := [("sign", 1)]) (g := gName 1) (tt := tYes) rfl sc_is_word.nd  (pi_str (pv 0)) (blkOk_by (by kernel_rfl)) (fun _ _ _ _ _ => (pg_name (i := 1) sc_is_word.nd rfl (by first | exact .inl rfl | exact .inr rfl))) (fun _ _ _ _ _ => pts_nil) (fun _ _ _ _ _ => (pe_or (pe_chain op_le_str op_le_str pe_str (pv 1) pe_str) (pe_or (pe_chain op_le_str op_le_str pe_str (pv 1) pe_str) (pe_one (pe_cmpR op_eq (pv 1) pe_str (nomark _))))))) pa_nil)))))), ?_⟩
    obtain ⟨t, ty, ki⟩ := hd.ty (K := K) (T := "str") (by simp)
    refine ⟨_, rfl, _, _, _, _, _, rfl, .ty "str", ty, ki, _, rfl, ?_⟩
    cases hd with
    | @str x hx =>
      obtain ⟨hx, _⟩ := hx
      refine iteF ?_
      have hk : ∀ b, b = isWordS x → ∀ H', Same H H' → Q (.bl b) H' := fun b e H' s => by rw [e]; exact hk H' s
      refine ⟨_, rfl, _, rfl, szl (by omega), _, _, rfl, rfl, _, rfl, ?_⟩
      cases h1 : decide ((1 : Int) ≤ (x.length : Int)) with
      | false => exact iteF ⟨_, rfl, iteT (hk _ (by simp only [isWordS, h1, Bool.false_and]) H (Same.refl H))⟩
      | true =>
        refine iteT ⟨_, _, rfl, rfl, _, rfl, ?_⟩
        cases h2 : decide ((x.length : Int) ≤ 12) with
        | false => exact iteT (hk _ (by simp only [isWordS, h1, h2, Bool.false_and, Bool.and_false]) H (Same.refl H))
        | true =>
          refine iteF ?_
          refine ⟨_, rfl, W, _, rfl, .inr (tW H), rfl, flatS _, _, rfl, ?_⟩
          cases h3 : inV (V.str x) (wordsL.map V.str) with
          | true => exact iteT (hk _ (by simp only [isWordS, h1, h2, h3, Bool.not_true, Bool.false_and, Bool.and_false]) H (Same.refl H))
          | false =>
            refine iteF ?_
            have hlen : 0 < x.cps.toList.length := by
              have := of_decide_eq_true h1
              have e : x.length = x.cps.toList.length := by simp [Str.length]
              omega
            obtain ⟨c, hc⟩ : ∃ c, x.cps.toList[0]? = some c := ⟨_, List.getElem?_eq_getElem hlen⟩
            refine ⟨_, rfl, x, _, _, rfl, rfl, szl (by omega), atI_nat (j := 0) hc, ?_⟩
            refine ⟨_, _, rfl, rfl, _, rfl, ?_⟩
            have hs1 : sgn1 c = (!decide ((⟨#[c]⟩ : Str).cps.toList < ("a" : Str).cps.toList) && !decide (("z" : Str).cps.toList < (⟨#[c]⟩ : Str).cps.toList)) := rfl
            cases h4 : (!decide ((⟨#[c]⟩ : Str).cps.toList < ("a" : Str).cps.toList)) with
            | false =>
              rw [h4, Bool.false_and] at hs1
              exact iteF ⟨_, rfl, iteT (hk _ (by simp only [isWordS, h1, h2, h3, hc, hs1, Bool.false_and, Bool.and_false]) H (Same.refl H))⟩
            | true =>
              rw [h4, Bool.true_and] at hs1
              refine iteT ⟨_, _, rfl, rfl, _, rfl, ?_⟩
              rw [← hs1]
              cases h5 : sgn1 c with
              | false => exact iteT (hk _ (by simp only [isWordS, h1, h2, h3, hc, h5, Bool.false_and, Bool.and_false]) H (Same.refl H))
              | true =>
                refine iteF ?_
                refine ⟨_, rfl, x, rfl, fun D hD => ?_⟩
                refine lc_it (walk_str (z := x)) (fun j H' => Same H H' ∧ H' D = some (.lst ((x.cps.toList.take j).map fun c => V.bl (sgn c)))) ⟨same_upd hD, upd_same⟩ (fun _ _ _ _ => True.intro) ?_ ?_
                · rintro j y H8 H' hj ⟨s2, dD⟩ ⟨rfl, cc, hcc, rfl⟩
                  have hl : x.cps.toList.length ≤ 1000 := by
                    have e : x.length = x.cps.toList.length := by simp [Str.length]
                    omega
                  have hj2 : j < x.cps.toList.length := by simpa using hj
                  have ecc : x.cps.toList[j]? = some cc := by rw [Array.getElem?_toList]; exact hcc
                  have fin : ∀ b, b = sgn cc → ∃ acc, H' D = some (HO.lst acc) ∧ acc.length < sizeLine ∧ Same H (upd H' D (HO.lst (acc ++ [V.bl b]))) ∧ upd H' D (HO.lst (acc ++ [V.bl b])) D = some (HO.lst ((x.cps.toList.take (j + 1)).map fun c => V.bl (sgn c))) := fun b eb => by
                    refine ⟨_, dD, szlt (by rw [List.length_map, List.length_take]; omega), same_mut s2 hD, ?_⟩
                    rw [upd_same, tsn hj2, List.map_append, eb]
                    have : x.cps.toList[j] = cc := by rw [List.getElem?_eq_getElem hj2] at ecc; exact Option.some.inj ecc
                    rw [this]
                    rfl
                  have e1 : sgn1 cc = (!decide ((⟨#[cc]⟩ : Str).cps.toList < ("a" : Str).cps.toList) && !decide (("z" : Str).cps.toList < (⟨#[cc]⟩ : Str).cps.toList)) := rfl
                  have e2 : sgn2 cc = (!decide ((⟨#[cc]⟩ : Str).cps.toList < ("0" : Str).cps.toList) && !decide (("9" : Str).cps.toList < (⟨#[cc]⟩ : Str).cps.toList)) := rfl
                  have third : sgn1 cc = false → sgn2 cc = false → ∃ acc, H' D = some (HO.lst acc) ∧ acc.length < sizeLine ∧ Same H (upd H' D (HO.lst (acc ++ [V.bl (decide (V.str ⟨#[cc]⟩ = V.str "_"))]))) ∧ upd H' D (HO.lst (acc ++ [V.bl (decide (V.str ⟨#[cc]⟩ = V.str "_"))])) D = some (HO.lst ((x.cps.toList.take (j + 1)).map fun c => V.bl (sgn c))) := fun z1 z2 => fin _ (by simp only [sgn, z1, z2, Bool.false_or])
                  refine ⟨rfl, _, rfl, _, _, rfl, rfl, _, rfl, ?_⟩
                  cases ha : (!decide ((⟨#[cc]⟩ : Str).cps.toList < ("a" : Str).cps.toList)) with
                  | false =>
                    rw [ha, Bool.false_and] at e1
                    refine iteF ⟨_, rfl, iteF ?_⟩
                    refine ⟨_, rfl, _, _, rfl, rfl, _, rfl, ?_⟩
                    cases hb : (!decide ((⟨#[cc]⟩ : Str).cps.toList < ("0" : Str).cps.toList)) with
                    | false =>
                      rw [hb, Bool.false_and] at e2
                      exact iteF ⟨_, rfl, iteF ⟨_, rfl, rfl, third e1 e2⟩⟩
                    | true =>
                      rw [hb, Bool.true_and] at e2
                      refine iteT ⟨_, _, rfl, rfl, _, rfl, ?_⟩
                      rw [← e2]
                      cases hb2 : sgn2 cc with
                      | false => exact iteF ⟨_, rfl, rfl, third e1 hb2⟩
                      | true => exact iteT (fin _ (by simp only [sgn, hb2, Bool.true_or, Bool.or_true]))
                  | true =>
                    rw [ha, Bool.true_and] at e1
                    refine iteT ⟨_, _, rfl, rfl, _, rfl, ?_⟩
                    rw [← e1]
                    cases ha2 : sgn1 cc with
                    | true => exact iteT (fin _ (by simp only [sgn, ha2, Bool.true_or]))
                    | false =>
                      refine iteF ?_
                      refine ⟨_, rfl, _, _, rfl, rfl, _, rfl, ?_⟩
                      cases hb : (!decide ((⟨#[cc]⟩ : Str).cps.toList < ("0" : Str).cps.toList)) with
                      | false =>
                        rw [hb, Bool.false_and] at e2
                        exact iteF ⟨_, rfl, iteF ⟨_, rfl, rfl, third ha2 e2⟩⟩
                      | true =>
                        rw [hb, Bool.true_and] at e2
                        refine iteT ⟨_, _, rfl, rfl, _, rfl, ?_⟩
                        rw [← e2]
                        cases hb2 : sgn2 cc with
                        | false => exact iteF ⟨_, rfl, rfl, third ha2 hb2⟩
                        | true => exact iteT (fin _ (by simp only [sgn, hb2, Bool.true_or, Bool.or_true]))
                rintro H2 ⟨s2, dD⟩
                have el : x.cps.size = x.cps.toList.length := by simp
                rw [el, List.take_length] at dD
                refine ⟨D, x.cps.toList.map sgn, rfl, sq (by rw [dD, List.map_map]; rfl), ?_⟩
                refine hk _ ?_ H2 s2
                simp only [isWordS, h1, h2, h3, hc, h5, Bool.true_and, Bool.not_false, List.all_map]
                rfl
    | non => exact iteT (hk H (Same.refl H))
    | bl b => exact iteT (hk H (Same.refl H))
    | int i => exact iteT (hk H (Same.refl H))
    | lst n e h => exact iteT (hk H (Same.refl H))
    | tup n e h => exact iteT (hk H (Same.refl H))
end
end K1

namespace K1
open PySem PySem.Spec PyProof.Rows L2 Ls
theorem dt2 {N : Addr → Prop} {H : Hp} {xs : List V} {a b : PyData} (h : DtAll N H xs [a, b]) : ∃ x y, xs = [x, y] ∧ Dt N H x a ∧ Dt N H y b := by
  cases h with | cons h1 h => cases h with | cons h2 h => cases h with | nil => exact ⟨_, _, rfl, h1, h2⟩
theorem dt3 {N : Addr → Prop} {H : Hp} {xs : List V} {a b c : PyData} (h : DtAll N H xs [a, b, c]) : ∃ x y z, xs = [x, y, z] ∧ Dt N H x a ∧ Dt N H y b ∧ Dt N H z c := by
  cases h with | cons h1 h => obtain ⟨y, z, rfl, h2, h3⟩ := dt2 h; exact ⟨_, _, _, rfl, h1, h2, h3⟩
theorem deci {a b : Int} : decide (V.int a = V.int b) = decide (a = b) := by
  by_cases h : a = b
  · rw [h, decide_eq_true rfl, decide_eq_true rfl]
  · rw [decide_eq_false h, decide_eq_false fun z => h (by injection z)]
section
variable {P : Program} {w : World} {K : PySem.W.Frag} {mg : Str → Option Value} {base : Heap} {f W : Addr} {fd : FuncData} {k : Nat}
theorem sc_is_number : FnScope ["thing"] ["thing"] (defScope s_is_number) := ⟨rfl, rfl, rfl, by decide +kernel, rfl, by decide +kernel, by decide +kernel⟩
theorem ok_is_number (F : FnP K "is_number" s_is_number [] f fd) (G : Facts mg) : FnOk P w K mg base CX0 1 f fd ["thing"] (spTest1 isNumber) := by
  refine F.ok sc_is_number (fun vs H Q E h => ?_) (fun cdv A outer s H vs Q E hr h => ?_)
  · obtain ⟨N, v, d, rfl, _⟩ := h
    rfl
  · obtain ⟨N, v, d, rfl, hd, hk⟩ := h
    have hu := hu_of hr
    refine ⟨_, PSs.nox (pss_one (ps_ret (pe_and (pe_callB (kIsi K) (by rfl) G.isinstance_ (by decide +kernel) (pa_cons (pv 0) (pa_cons (pe_ty "int" (by rfl) G.int_ (by decide +kernel)) pa_nil))) (pe_and (pe_not (pe_callB (kIsi K) (by rfl) G.isinstance_ (by decide +kernel) (pa_cons (pv 0) (pa_cons (pe_ty "bool" (by rfl) G.bool_ (by decide +kernel)) pa_nil)))) (pe_one (pe_chain op_le op_le (pe_un un_neg (pe_gi (by rfl) G.MOST_NUMBER)) (pv 0) (pe_gi (by rfl) G.MOST_NUMBER))))))), ?_⟩
    obtain ⟨t, ty, ki⟩ := hd.ty (K := K) (T := "int") (by simp)
    obtain ⟨t2, ty2, ki2⟩ := hd.ty (K := K) (T := "bool") (by simp)
    refine ⟨_, rfl, _, _, _, _, _, rfl, .ty "int", ty, ki, _, rfl, ?_⟩
    cases hd with
    | int i =>
      refine iteT ⟨_, rfl, _, _, _, _, _, rfl, .ty "bool", ty2, ki2, _, rfl, _, rfl, iteT ?_⟩
      refine ⟨_, rfl, _, rfl, _, _, rfl, rfl, _, rfl, ?_⟩
      have hk : ∀ b, b = isNumber (.int i) → Q (.bl b) H := fun b e => by rw [e]; exact hk H (Same.refl H)
      cases h1 : decide ((-9999 : Int) ≤ i) with
      | false => exact iteF (hk _ (by simp only [isNumber, h1, Bool.false_and]))
      | true => exact iteT ⟨_, _, rfl, rfl, hk _ (by simp only [isNumber, h1, Bool.true_and])⟩
    | bl b =>
      refine iteT ⟨_, rfl, _, _, _, _, _, rfl, .ty "bool", ty2, ki2, _, rfl, _, rfl, iteF ?_⟩
      exact hk H (Same.refl H)
    | non => exact iteF (hk H (Same.refl H))
    | str _ => exact iteF (hk H (Same.refl H))
    | lst n e h => exact iteF (hk H (Same.refl H))
    | tup n e h => exact iteF (hk H (Same.refl H))
theorem sc_is_end : FnScope ["thing", "names"] ["thing", "names"] (defScope s_is_end) := ⟨rfl, rfl, rfl, by decide +kernel, rfl, by decide +kernel, by decide +kernel⟩
theorem ok_is_end (F : FnP K "is_end" s_is_end [] f fd) (G : Facts mg) : FnOk P w K mg base CX0 1 f fd ["thing", "names"] (spTest isEnd) := by
  refine F.ok sc_is_end (fun vs H Q E h => ?_) (fun cdv A outer s H vs Q E hr h => ?_)
  · obtain ⟨N, v, nt, d, names, rfl, _⟩ := h
    rfl
  · obtain ⟨N, v, nt, d, names, rfl, hd, hnt, hnl, hk⟩ := h
    have hu := hu_of hr
    refine ⟨_, PSs.nox (pss_one (ps_ret (pe_and (pe_callB (kIsi K) (by rfl) G.isinstance_ (by decide +kernel) (pa_cons (pv 0) (pa_cons (pe_ty "str" (by rfl) G.str_ (by decide +kernel)) pa_nil))) (pe_one (pe_or (pe_cmpR op_eq (pv 0) pe_str (nomark _)) (pe_one (pe_cmpR (kIn K) (pv 0) (pv 1) (by rfl)))))))), ?_⟩
    obtain ⟨t, ty, ki⟩ := hd.ty (K := K) (T := "str") (by simp)
    refine ⟨_, rfl, _, _, _, _, _, rfl, .ty "str", ty, ki, _, rfl, ?_⟩
    cases hd with
    | @str x hx =>
      refine iteT ⟨_, rfl, rfl, _, rfl, ?_⟩
      have hk : ∀ b, b = isEnd (.str x) names → Q (.bl b) H := fun b e => by rw [e]; exact hk H (Same.refl H)
      cases h1 : decide (V.str x = V.str "0") with
      | true => exact iteT (hk _ (by simp only [isEnd, h1, Bool.true_or]))
      | false => exact iteF ⟨_, rfl, _, rfl, nt, _, rfl, .inr (sqt hnt), rfl, flatS _, hk _ (by simp only [isEnd, h1, Bool.false_or]; rfl)⟩
    | int i => exact iteF (hk H (Same.refl H))
    | bl b => exact iteF (hk H (Same.refl H))
    | non => exact iteF (hk H (Same.refl H))
    | lst n e h => exact iteF (hk H (Same.refl H))
    | tup n e h => exact iteF (hk H (Same.refl H))
theorem sc_is_atom : FnScope ["thing", "names"] ["thing", "names"] (defScope s_is_atom) := ⟨rfl, rfl, rfl, by decide +kernel, rfl, by decide +kernel, by decide +kernel⟩
theorem ok_is_atom (F : FnP K "is_atom" s_is_atom [] f fd) (G : Facts mg) (C_is_end : Cal P w K mg base 1 "is_end" (spTest isEnd) []) (C_is_number : Cal P w K mg base 1 "is_number" (spTest1 isNumber) []) : FnOk P w K mg base CX0 2 f fd ["thing", "names"] (spTest isAtom) := by
  refine F.ok sc_is_atom (fun vs H Q E h => ?_) (fun cdv A outer s H vs Q E hr h => ?_)
  · obtain ⟨N, v, nt, d, names, rfl, _⟩ := h
    rfl
  · obtain ⟨N, v, nt, d, names, rfl, hd, hnt, hnl, hk⟩ := h
    have hu := hu_of hr
    refine ⟨_, PSs.nox (pss_one (ps_ret (pe_and (pe_callB (kIsi K) (by rfl) G.isinstance_ (by decide +kernel) (pa_cons (pv 0) (pa_cons (pe_ty "tuple" (by rfl) G.tuple_ (by decide +kernel)) pa_nil))) (pe_and (pe_cmpR op_eq (pe_callB (kLen K) (by rfl) G.len_ PySem.boot_len (pa_cons (pv 0) pa_nil)) pe_int (nomark _)) (pe_and (pe_c C_is_end hr (by decide) (by rfl) (pa_cons (pe_ix (kIxT K) (pv 0) pe_int (fun _ _ => rfl)) (pa_cons (pv 1) pa_nil))) (pe_one (pe_c C_is_number hr (by decide) (by rfl) (pa_cons (pe_ix (kIxT K) (pv 0) pe_int (fun _ _ => rfl)) pa_nil)))))))), ?_⟩
    obtain ⟨t, ty, ki⟩ := hd.ty (K := K) (T := "tuple") (by simp)
    refine ⟨_, rfl, _, _, _, _, _, rfl, .ty "tuple", ty, ki, _, rfl, ?_⟩
    cases hd with
    | @tup a xs ds n e h =>
      refine iteT ⟨_, rfl, a, xs, rfl, .inr (sqt e), rfl, _, rfl, ?_⟩
      rw [deci]
      have hl := h.len
      by_cases h2 : (xs.length : Int) = 2
      · rw [decide_eq_true h2]
        match ds, hl, h with
        | [d1, d2], _, h =>
          obtain ⟨x, y, rfl, g1, g2⟩ := dt2 h
          refine iteT ⟨_, rfl, a, _, _, _, rfl, rfl, sqt e, atI_nat (j := 0) rfl, _, rfl, ?_⟩
          refine ⟨N, x, nt, d1, names, rfl, g1, hnt, hnl, fun H1 s1 => ?_⟩
          refine ⟨_, rfl, ?_⟩
          have hk : ∀ b, b = isAtom (.tuple [d1, d2]) names → ∀ H', Same H H' → Q (.bl b) H' := fun b e => by rw [e]; exact hk
          cases h1 : isEnd d1 names with
          | false => exact iteF (hk _ (by simp only [isAtom, h1, Bool.false_and]) H1 s1)
          | true =>
            refine iteT ⟨_, rfl, a, _, _, _, rfl, rfl, sqt (s1 _ _ e), atI_nat (j := 1) rfl, ?_⟩
            exact ⟨N, y, d2, rfl, g2.mono s1, fun H2 s2 => hk _ (by simp only [isAtom, h1, Bool.true_and]) H2 (s1.trans s2)⟩
        | [], hl, _ => rw [hl] at h2; simp at h2
        | [_], hl, _ => rw [hl] at h2; simp at h2
        | _ :: _ :: _ :: _, hl, _ => rw [hl] at h2; simp only [List.length_cons] at h2; omega
      · rw [decide_eq_false h2]
        refine iteF ?_
        have e2 : isAtom (.tuple ds) names = false := by
          match ds, hl with
          | [_, _], hl => rw [hl] at h2; exact absurd rfl h2
          | [], _ => rfl
          | [_], _ => rfl
          | _ :: _ :: _ :: _, _ => rfl
        have := hk H (Same.refl H)
        rw [e2] at this
        exact this
    | int i => exact iteF (hk H (Same.refl H))
    | bl b => exact iteF (hk H (Same.refl H))
    | non => exact iteF (hk H (Same.refl H))
    | str _ => exact iteF (hk H (Same.refl H))
    | lst n e h => exact iteF (hk H (Same.refl H))
end
end K1

/-! ### {k: v for ..}, the keys tuples of ints and texts -/
namespace Ls
open PySem PySem.Spec PyProof.Rows L2
theorem dT_dictSet {X : Cx} {pins : List (Addr × Obj)} {σ : L2.St} {H : Hp} {s : Shared} {E : Value → Shared → Prop} {D b : Addr} {kvs : List (List Key × V)} {k : List Key} {v : V} {u r : Value} {Q : Unit → Shared → Prop} (hu : X.A.units + 1 < cLine) (I : Inv X pins σ H s) (hD : H D = some (.dT kvs))
    (hb : H b = some (.tup (k.map kV))) (hz : kvs.length < sizeLine) (ry : RelV (.ref b) u) (rv : RelV v r) (h : ∀ s', Inv X pins σ (upd H D (.dT (putK kvs k v))) s' → Q () s') : wpAny (model X.prog X.w) X.A (dictSet D u r) Q E s := by
  cases (show u = Value.ref b from ry)
  obtain ⟨z, hd, xs, rel, dd⟩ := dt_of I.hok hD
  have hxs : xs.length ≤ sizeLine := Paired.length rel ▸ z
  have hl : (putK kvs k v).length ≤ sizeLine := Nat.le_trans (length_putK kvs k v) hz
  refine wpAny_dictSet_heap (hsz := hxs) (show X.A.units < cLine by omega) (key_of I.hok hb) dd fun h' dd' hs => h _ ?_
  obtain ⟨q, es, ep, hq, g2, g3, g4, _, g5⟩ := dd'
  refine d_write I (by rw [hD]; exact True.intro) hs ⟨q, hq⟩ ⟨hl, hd, _, (rel.put k hb rv).keeps fun c ys ec => ?_, q, es, ep, hq, g2, g3, g4, g5⟩
  rw [upd_ne (ne_of ec hD fun z => nomatch z)]
  exact ec
section
variable {X : Cx}
def tDcT (wi : TI) (g : TG) (tt : TT) (tk tv : TE) (vs : List Nat) : TE := fun σ H Q => wi σ H fun J H1 => ∀ D, H1 D = none → ∃ W : Nat → Nat → Hp → Prop, (∃ m, W 0 m (upd H1 D (.dT []))) ∧ ∀ i m H, W i m H → (J.stop i H ∧ Q (.ref D) H) ∨
  (J.go i H ∧ ∃ Nx : Hp → Prop, (∀ H', Nx H' → ∃ m', m' < m ∧ W (i + 1) m' H') ∧ ∀ x H', J.yld i H x H' → g x (wipe σ vs) H' fun σ2 H2 => wipe σ2 vs = wipe σ vs ∧ tt σ2 H2 fun b H3 => if b = true then tk σ2 H3 fun y H4 => tv σ2 H4 fun z H5 => ∃ kvs k bk, y = .ref bk ∧ H5 bk = some (.tup (k.map kV)) ∧ H5 D = some (.dT kvs) ∧ kvs.length < sizeLine ∧ Nx (upd H5 D (.dT (putK kvs k z))) else Nx H3)
theorem dcT_core {pins : List (Addr × Obj)} {s : Shared} {σ : L2.St} {H : Hp} {Q : VK} {kx vx tg iter : Expr} {ifs : List Expr} {scope : Scope} {own : List (Str × Nat)} {pos pos' : Pos} {wi : TI} {g : TG} {tt : TT} {tk tv : TE} {use : Option (Value → Sem Unit)} {Qf : Value → Shared → Prop} (hc : X.calm = true) (hu : X.A.units + 1 < cLine) (hN : X.N.Nodup) (I : Inv X pins σ H s) (hi : PI X tg iter wi) (ok : BlkOk X.N X.env.scope scope own)
    (hg : ∀ (s : Shared) (H : Hp) (C : Addr) (cl : List (Str × Addr)) (fp : List Addr), PG (X.blk s H scope (compEnvC scope cl C X.env) fp) tg g) (ht : ∀ (s : Shared) (H : Hp) (C : Addr) (cl : List (Str × Addr)) (fp : List Addr), PTs (X.blk s H scope (compEnvC scope cl C X.env) fp) ifs tt)
    (hk : ∀ (s : Shared) (H : Hp) (C : Addr) (cl : List (Str × Addr)) (fp : List Addr), PE (X.blk s H scope (compEnvC scope cl C X.env) fp) kx tk) (he : ∀ (s : Shared) (H : Hp) (C : Addr) (cl : List (Str × Addr)) (fp : List Addr), PE (X.blk s H scope (compEnvC scope cl C X.env) fp) vx tv) (hs : ∀ x, foldedSetIterable iter X.env x = pure x)
    (h : tDcT wi g tt tk tv (own.map (·.2)) σ H Q) (hRR : ∀ D C s' m H', Inv X pins σ H' s' → Q (.ref D) H' → s'.heap.Ns C m → FpOk X pins H' C → compPost (model X.prog X.w) X.A X.xe use Qf (.ref D) C (.ok .next) s') :
    wpAny (model X.prog X.w) X.A (comprehension (.DictComp kx vx [⟨tg, iter, ifs, 0⟩] scope pos) scope X.env pos' newDict false (eval iter X.env) use) Qf X.xe s := by
  have hfree : ∀ y ∈ scope.names, y.2 = .free → ∃ c, X.env.cells.lookup y.1 = some c := fun y hy e => (ok.free y hy e).elim (fun k => I.ok.has _ (.inl k)) fun k => I.ok.has _ (.inr k)
  refine wpAny_comprehension_free (use := use) rfl hs (closure_ok hfree) ok.kind (fun y hy e => by rw [ok.uniq y hy, e]) (thn (hi.run pins s σ H _ I h) fun xv s1 hx => thn hx fun itv s2 ⟨it, fp, tn, J, H2, e, I2, T, st2, f2, q⟩ => ?_)
  subst e
  refine wpAny_newObj_type (newEnv_comp ?_); generalize hD : s2.heap.objs.size = D
  have hDn : H2 D = none := I2.hok.fresh (Nat.le_of_eq hD)
  obtain ⟨W, ⟨m0, w0⟩, turn⟩ := q D hDn
  generalize hs3 : ({ s2 with heap := s2.heap.push { cls := .type "dict", data := .dict #[] } } : Shared) = s3
  have I3 : Inv X pins σ (upd H2 D (.dT [])) s3 := hs3 ▸ I2.laid (t' := s2.toks) (fun b o e => Heap.get?_push_of_some _ e) (Nat.le_of_eq hD) (hD ▸ dt_empty s2.heap I2.big)
  have h3 : s3.heap = s2.heap.push { cls := .type "dict", data := .dict #[] } := hs3 ▸ rfl
  have f3 : ∀ b ∈ fp, FpOk X pins (upd H2 D (.dT [])) b ∧ b < s3.heap.objs.size := fun b hb => by
    obtain ⟨o, e, _⟩ := T.obj _ _ st2 b hb
    have hlt := Heap.lt_size e
    exact ⟨⟨by rw [upd_ne (hD ▸ Nat.ne_of_lt hlt)]; exact (f2 b hb).1, (f2 b hb).2⟩, by rw [h3, Heap.size_push]; exact Nat.lt_succ_of_lt hlt⟩
  have st3 : tn 0 s3.heap := T.keep _ _ _ st2 fun b _ o e => by rw [h3]; exact Heap.get?_push_of_some _ e
  have I4 := block_start I3 ok hN f3
  generalize hcl : cellsFrom (s3.heap.objs.size + 1) scope.names (cloFrom X.env.cells scope.names []) = cl at I4 ⊢
  have pg := hg s3 (upd H2 D (.dT [])) s3.heap.objs.size cl fp
  have pt := ht s3 (upd H2 D (.dT [])) s3.heap.objs.size cl fp
  have pk := hk s3 (upd H2 D (.dT [])) s3.heap.objs.size cl fp
  have pe := he s3 (upd H2 D (.dT [])) s3.heap.objs.size cl fp
  show codeAny _ _ (.compStart (.DictComp kx vx [⟨tg, iter, ifs, 0⟩] scope pos) 0 (.ref it) (.ref D) (compEnvC scope cl s3.heap.objs.size X.env)) (compPost (model X.prog X.w) X.A X.xe use Qf (.ref D) s3.heap.objs.size) { s3 with heap := pushCells (s3.heap.push { cls := .type "dict", data := .dict #[] }) scope.names }
  have nfp : ∀ b ∈ fp, (upd H2 D (.dT [])) b = none := fun b hb => (f3 b hb).1.1
  generalize hce : compEnvC scope cl s3.heap.objs.size X.env = ce at I4 pg pt pk pe ⊢
  have cL : ce.locals = s3.heap.objs.size := hce ▸ rfl
  generalize hH3 : upd H2 D (.dT []) = H3 at I3 I4 pg pt pk pe w0 nfp f3
  have kp : ∀ b o, s3.heap.get? b = some o → (pushCells (s3.heap.push { cls := .type "dict", data := .dict #[] }) scope.names).get? b = some o := fun b o e => pushCells_keeps _ _ _ _ (Heap.get?_push_of_some _ e)
  generalize hs4 : ({ s3 with heap := pushCells (s3.heap.push { cls := .type "dict", data := .dict #[] }) scope.names } : Shared) = s4 at I4 ⊢
  have kp4 : ∀ b o, s3.heap.get? b = some o → s4.heap.get? b = some o := fun b o e => hs4 ▸ kp b o e
  have st4 : tn 0 s4.heap := T.keep _ _ _ st3 fun b _ o e => kp4 b o e
  have stat : ∀ {σ' : L2.St} {H' : Hp} {s' : Shared}, Inv (X.blk s3 H3 scope ce fp) [] σ' H' s' → (∀ b ∈ fp, H' b = none) → ∀ b ∈ fp, FpOk (X.blk s3 H3 scope ce fp) [] H' b := fun {σ' H' s'} I' hn b hb =>
    ⟨hn b hb, (I'.ok.exf b hb).1, I'.ok.exfs b hb, .inl hb, fun x c e => (I'.ok.exf b hb).2 x c e, fun p hp => nomatch (show p ∈ ([] : List (Addr × Obj)) from hp)⟩
  refine codeAny_compStart_dict ?_ (T.self X.A 0 _ _ _ st4 ?_)
  all_goals
    refine compLoop_anyD (fun n s' => ∃ i H', Inv (X.blk s3 H3 scope ce fp) [] (wipe σ (own.map (·.2))) H' s' ∧ tn i s'.heap ∧ (∀ b ∈ fp, H' b = none) ∧ W i n H') ?_ m0 ⟨0, H3, I4, st4, nfp, w0⟩
    rintro n s5 ⟨i, H5, I5, st5, n5, w5⟩
    rcases turn i n H5 w5 with ⟨stop, qq⟩ | ⟨go, Nx, hNx, step⟩
    · refine thnF (T.done (X.blk s3 H3 scope ce fp) rfl rfl rfl hc i [] s5 _ H5 (fun _ _ => False) I5 (stat I5 n5) st5 stop) fun r s6 ⟨hr, I6⟩ => ?_
      subst hr
      have I7 : Inv X pins σ H5 s6 := I3.call' (ch := fp) I6.os I6.base I6.hok I6.bare fun b hb => ⟨(f3 b hb).1.2.2.2.1, (f3 b hb).1.2.1, (f3 b hb).1.2.2.2.2.1, (f3 b hb).1.2.2.2.2.2⟩
      have nC : H5 s3.heap.objs.size = none := cL ▸ (I6.free : H5 ce.locals = none)
      obtain ⟨m, hn, _⟩ := I6.loc
      exact hRR D s3.heap.objs.size s6 m H5 I7 qq (cL ▸ (show s6.heap.Ns ce.locals m from hn)) (I3.fpOk (Nat.le_refl _) nC)
    · refine thnF (T.item (X.blk s3 H3 scope ce fp) rfl rfl rfl hc i [] s5 _ H5 (fun _ _ => False) I5 (stat I5 n5) st5 go) fun r s6 ⟨u, hr, h6⟩ => ?_
      subst hr
      refine thnF h6 fun _ s7 ⟨x, H7, I7, r7, y7, st7, n7⟩ => thnF (pg.run _ s7 _ H7 x u _ (I7.pinned (stat I7 n7) (T.obj _ _ st7)) r7 (step x H7 y7)) fun _ s8 ⟨σ8, H8, I8, hw8, q8⟩ => thnF (pt.run _ s8 σ8 H8 _ I8 q8) fun b s9 ⟨H9, I9, q9⟩ => ?_
      have fin : ∀ {s' : Shared} {H' : Hp}, Inv (X.blk s3 H3 scope ce fp) ([] ++ pinsAt fp s7.heap) σ8 H' s' → Nx H' → ∃ m, m < n ∧ ∃ i H', Inv (X.blk s3 H3 scope ce fp) [] (wipe σ (own.map (·.2))) H' s' ∧ tn i s'.heap ∧ (∀ b ∈ fp, H' b = none) ∧ W i m H' := fun {s' H'} I' nx => by
        obtain ⟨m', hm, w'⟩ := hNx H' nx
        have pin' : ∀ b ∈ fp, ∀ o, s7.heap.get? b = some o → s'.heap.get? b = some o ∧ H' b = none := fun b hb o e => ⟨(I'.pin (b, o) (List.mem_append_right _ (List.mem_append_right _ (mem_pinsAt hb e)))).1, (I'.pin (b, o) (List.mem_append_right _ (List.mem_append_right _ (mem_pinsAt hb e)))).2.1⟩
        refine ⟨m', hm, i + 1, H', (I'.unpinned (pins := [])).weak (by rw [← hw8, wipe_length]) (fun j v e => (wipe_some (by rw [← hw8] at e; exact e)).1), T.keep _ _ _ st7 fun b hb o e => (pin' b hb o e).1, fun b hb => ?_, w'⟩
        obtain ⟨o, e, _⟩ := T.obj _ _ st7 b hb
        exact (pin' b hb o e).2
      cases b with
      | false => simp only [Bool.false_eq_true, if_false] at q9 ⊢; exact fin I9 q9
      | true =>
        simp only [if_true] at q9 ⊢
        refine thnF (pk.run _ s9 σ8 H9 _ I9 q9) fun z s10 ⟨yk, H10, I10, r10, q10⟩ => thnF (pe.run _ s10 σ8 H10 _ I10 q10) fun z2 s11 ⟨yv, H11, I11, r11, kvs, k, bk, ek, hb11, hD11, hz11, nx⟩ => ?_
        subst ek
        exact dT_dictSet (X := X.blk s3 H3 scope ce fp) hu I11 hD11 hb11 hz11 r10 r11 fun s12 I12 => fin I12 nx
theorem pe_dcT {kx vx tg iter : Expr} {ifs : List Expr} {scope : Scope} {own : List (Str × Nat)} {pos : Pos} {wi : TI} {g : TG} {tt : TT} {tk tv : TE} (hc : X.calm = true) (hu : X.A.units + 1 < cLine) (hN : X.N.Nodup) (hi : PI X tg iter wi) (ok : BlkOk X.N X.env.scope scope own)
    (hg : ∀ (s : Shared) (H : Hp) (C : Addr) (cl : List (Str × Addr)) (fp : List Addr), PG (X.blk s H scope (compEnvC scope cl C X.env) fp) tg g) (ht : ∀ (s : Shared) (H : Hp) (C : Addr) (cl : List (Str × Addr)) (fp : List Addr), PTs (X.blk s H scope (compEnvC scope cl C X.env) fp) ifs tt)
    (hk : ∀ (s : Shared) (H : Hp) (C : Addr) (cl : List (Str × Addr)) (fp : List Addr), PE (X.blk s H scope (compEnvC scope cl C X.env) fp) kx tk) (he : ∀ (s : Shared) (H : Hp) (C : Addr) (cl : List (Str × Addr)) (fp : List Addr), PE (X.blk s H scope (compEnvC scope cl C X.env) fp) vx tv) (hs : ∀ x, foldedSetIterable iter X.env x = pure x := by intro _; rfl) :
    PE X (.DictComp kx vx [⟨tg, iter, ifs, 0⟩] scope pos) (tDcT wi g tt tk tv (own.map (·.2))) := by
  refine ⟨fun pins s σ H Q I q0 => ?_⟩
  rw [arm_eval_DictComp]
  exact dcT_core hc hu hN I hi ok hg ht hk he hs q0 fun D C s' m H' I' q hn ⟨f0, f1, f2, f3, f4, f5⟩ => ⟨m, hn, fun h'' sb => ⟨.ref D, H', I'.turned (t' := s'.toks) (fun b o hb e => (sb.2 b hb).trans e) f0 f1 f3 f4 f5, rfl, q⟩⟩
end
/-- over a walk -/
theorem dcT_it {J : It} {n : Nat} {G : Hp → Prop} {Y : Nat → Hp → V → Hp → Prop} (w : Walk J n G Y) {g : TG} {tt : TT} {tk tv : TE} {vs : List Nat} {σ : L2.St} {H1 : Hp} {D : Addr} {Qd : Hp → Prop} (Pv : Nat → Hp → Prop) (h0 : Pv 0 (upd H1 D (.dT []))) (hG : ∀ i H, i ≤ n → Pv i H → G H)
    (hs : ∀ i x H H', i < n → Pv i H → Y i H x H' → g x (wipe σ vs) H' fun σ2 H2 => wipe σ2 vs = wipe σ vs ∧ tt σ2 H2 fun b H3 => if b = true then tk σ2 H3 fun y H4 => tv σ2 H4 fun z H5 => ∃ kvs k bk, y = .ref bk ∧ H5 bk = some (.tup (k.map kV)) ∧ H5 D = some (.dT kvs) ∧ kvs.length < sizeLine ∧ Pv (i + 1) (upd H5 D (.dT (putK kvs k z))) else Pv (i + 1) H3) (hd : ∀ H, Pv n H → Qd H) :
    ∃ W : Nat → Nat → Hp → Prop, (∃ m, W 0 m (upd H1 D (.dT []))) ∧ ∀ i m H, W i m H → (J.stop i H ∧ Qd H) ∨
      (J.go i H ∧ ∃ Nx : Hp → Prop, (∀ H', Nx H' → ∃ m', m' < m ∧ W (i + 1) m' H') ∧ ∀ x H', J.yld i H x H' → g x (wipe σ vs) H' fun σ2 H2 => wipe σ2 vs = wipe σ vs ∧ tt σ2 H2 fun b H3 => if b = true then tk σ2 H3 fun y H4 => tv σ2 H4 fun z H5 => ∃ kvs k bk, y = .ref bk ∧ H5 bk = some (.tup (k.map kV)) ∧ H5 D = some (.dT kvs) ∧ kvs.length < sizeLine ∧ Nx (upd H5 D (.dT (putK kvs k z))) else Nx H3) :=
  ⟨fun i m H => m = n - i ∧ i ≤ n ∧ Pv i H, ⟨n, (Nat.sub_zero n).symm, Nat.zero_le _, h0⟩, fun i m H ⟨e, hi, p⟩ => by
    have q := hG i H hi p
    rcases Nat.lt_or_ge i n with hlt | hge
    · exact .inr ⟨w.goes i H hlt q, Pv (i + 1), fun H' p' => ⟨n - (i + 1), by omega, rfl, hlt, p'⟩, fun x H' y => hs i x H H' hlt p (w.yields i H x H' hlt q y)⟩
    · have e : i = n := Nat.le_antisymm hi hge
      subst e
      exact .inl ⟨w.stops H q, hd H p⟩⟩
end Ls

namespace K1
open PySem PySem.Spec PyProof.Rows L2 Ls
def spRow (S : Addr → Option Sp) : Sp := fun vs H Q _ => ∃ (N : Addr → Prop) (v : V) (ft nt : Addr) (lo hi : Int) (p : PyData → List Str → Bool) (d : PyData) (names : List Str), vs = [v, .int lo, .int hi, .ref ft, .ref nt] ∧ Dt N H v d ∧ S ft = some (spTest p) ∧ H nt = some (.tup (names.map V.str)) ∧ names.length ≤ 1000 ∧ hi ≤ 1000 ∧ ∀ H', Same H H' → Q (.bl (isRow lo hi p d names)) H'
def spList (S : Addr → Option Sp) : Sp := fun vs H Q _ => ∃ (N : Addr → Prop) (v : V) (ft nt : Addr) (p : PyData → List Str → Bool) (d : PyData) (names : List Str), vs = [v, .ref ft, .ref nt] ∧ Dt N H v d ∧ S ft = some (spTest p) ∧ (∀ d names, p d names = true → flatD d = true) ∧ H nt = some (.tup (names.map V.str)) ∧ names.length ≤ 1000 ∧ ∀ H', Same H H' → Q (.bl (isList p d names)) H'
theorem isEnd_str {d : PyData} {names : List Str} (h : isEnd d names = true) : ∃ x, d = .str x := by
  cases d with
  | str x => exact ⟨x, rfl⟩
  | _ => cases h
theorem isNumber_int {d : PyData} (h : isNumber d = true) : ∃ i, d = .int i := by
  cases d with
  | int i => exact ⟨i, rfl⟩
  | _ => cases h
theorem Dt.str_ {N : Addr → Prop} {H : Hp} {v : V} {x : Str} (h : Dt N H v (.str x)) : v = .str x := by cases h; rfl
theorem isAtom_flat (d : PyData) (names : List Str) (h : isAtom d names = true) : flatD d = true := by
  unfold isAtom at h
  split at h
  · rename_i a b
    obtain ⟨h1, h2⟩ := Bool.and_eq_true_iff.mp h
    obtain ⟨x, rfl⟩ := isEnd_str h1
    obtain ⟨i, rfl⟩ := isNumber_int h2
    rfl
  · cases h
theorem isDiff_flat (d : PyData) (names : List Str) (h : isDiff d names = true) : flatD d = true := by
  unfold isDiff at h
  split at h
  · rename_i a b c
    obtain ⟨h0, h⟩ := Bool.and_eq_true_iff.mp h
    obtain ⟨h1, h⟩ := Bool.and_eq_true_iff.mp h
    obtain ⟨h2, _⟩ := Bool.and_eq_true_iff.mp h
    obtain ⟨x, rfl⟩ := isEnd_str h1
    obtain ⟨y, rfl⟩ := isEnd_str h2
    obtain ⟨i, rfl⟩ := isNumber_int h0
    rfl
  · cases h
theorem flat_items {N : Addr → Prop} {H : Hp} : ∀ {xs : List V} {ds : List PyData}, DtAll N H xs ds → (ds.all fun d => match d with | .int _ => true | .str _ => true | _ => false) = true → xs = (ds.map keyI).map kV
  | _, _, .nil, _ => rfl
  | _, _, .cons h t, e => by
    rw [List.all_cons] at e
    obtain ⟨e1, e2⟩ := Bool.and_eq_true_iff.mp e
    rw [flat_items t e2]
    cases h <;> first | rfl | cases e1
theorem flat_key {N : Addr → Prop} {H : Hp} {v : V} {d : PyData} (h : Dt N H v d) (hf : flatD d = true) : ∃ b, v = .ref b ∧ H b = some (.tup ((keyD d).map kV)) := by
  cases h with
  | tup n e t => exact ⟨_, rfl, by rw [e, flat_items t hf]; rfl⟩
  | _ => cases hf
section
variable {κ : Type} [DecidableEq κ]
def addK (kv : List (κ × V)) (k : κ) : List (κ × V) := putK kv k (.bl true)
theorem addK_old {kv : List (κ × V)} {k : κ} (h : k ∈ kv.map (·.1)) : (addK kv k).length = kv.length ∧ (addK kv k).map (·.1) = kv.map (·.1) := by
  have e : (kv.any fun p => decide (p.1 = k)) = true := by
    obtain ⟨p, hp, e⟩ := List.mem_map.mp h
    exact List.any_eq_true.mpr ⟨p, hp, decide_eq_true e⟩
  unfold addK putK
  rw [if_pos e]
  refine ⟨List.length_map _, ?_⟩
  rw [List.map_map]
  refine List.map_congr_left fun p _ => ?_
  show (if p.1 = k then (p.1, V.bl true) else p).1 = p.1
  split <;> rfl
theorem addK_new {kv : List (κ × V)} {k : κ} (h : k ∉ kv.map (·.1)) : addK kv k = kv ++ [(k, .bl true)] := by
  have e : (kv.any fun p => decide (p.1 = k)) = false := by
    rw [Bool.eq_false_iff]
    intro z
    obtain ⟨p, hp, e⟩ := List.any_eq_true.mp z
    exact h (List.mem_map.mpr ⟨p, hp, of_decide_eq_true e⟩)
  unfold addK putK
  rw [if_neg (by rw [e]; exact Bool.false_ne_true)]
theorem fold_len : ∀ (l : List κ) (kv : List (κ × V)), (l.foldl addK kv).length ≤ kv.length + l.length ∧ ((l.foldl addK kv).length = kv.length + l.length ↔ nodupB l = true ∧ ∀ x ∈ l, x ∉ kv.map (·.1))
  | [], kv => by simp [nodupB]
  | a :: l, kv => by
    rw [List.foldl_cons, List.length_cons]
    obtain ⟨h1, h2⟩ := fold_len l (addK kv a)
    by_cases ha : a ∈ kv.map (·.1)
    · obtain ⟨g1, g2⟩ := addK_old ha
      rw [g1] at h1
      exact ⟨by omega, fun z => absurd z (by omega), fun z => absurd ha (z.2 a List.mem_cons_self)⟩
    · have e := addK_new ha
      rw [e] at h1 h2 ⊢
      rw [List.length_append, List.length_singleton] at h1 h2
      refine ⟨by omega, ?_⟩
      rw [show kv.length + (l.length + 1) = kv.length + 1 + l.length by omega, h2]
      simp only [nodupB, List.map_append, List.map_cons, List.map_nil, List.mem_append, List.mem_singleton, not_or, List.mem_cons, Bool.and_eq_true, Bool.not_eq_true', decide_eq_false_iff_not]
      constructor
      · rintro ⟨p, q⟩
        refine ⟨⟨fun z => (q a z).2.1 rfl, p⟩, fun x hx => ?_⟩
        rcases hx with rfl | hx
        · exact ha
        · exact (q x hx).1
      · rintro ⟨⟨p1, p2⟩, q⟩
        exact ⟨p2, fun x hx => ⟨q x (.inr hx), ⟨fun z => p1 (z ▸ hx), fun z => absurd z List.not_mem_nil⟩⟩⟩
theorem fold_nd (l : List κ) : decide (((l.foldl addK ([] : List (κ × V))).length : Int) = (l.length : Int)) = nodupB l := by
  have h := (fold_len l ([] : List (κ × V))).2
  simp only [List.length_nil, Nat.zero_add, List.map_nil, List.not_mem_nil, not_false_eq_true, implies_true, and_true] at h
  cases e : nodupB l with
  | true => exact decide_eq_true (by have := h.mpr e; omega)
  | false =>
    refine decide_eq_false fun z => ?_
    have := h.mp (by omega)
    rw [e] at this
    cases this
end
section
variable {P : Program} {w : World} {K : PySem.W.Frag} {mg : Str → Option Value} {base : Heap} {f W fA : Addr} {S : Addr → Option Sp} {fd : FuncData} {k : Nat}
theorem sc_is_difference : FnScope ["thing", "names"] ["thing", "names"] (defScope s_is_difference) := ⟨rfl, rfl, rfl, by decide +kernel, rfl, by decide +kernel, by decide +kernel⟩
theorem ok_is_difference (F : FnP K "is_difference" s_is_difference [] f fd) (G : Facts mg) (C_is_end : Cal P w K mg base 1 "is_end" (spTest isEnd) []) (C_is_number : Cal P w K mg base 1 "is_number" (spTest1 isNumber) []) : FnOk P w K mg base CX0 2 f fd ["thing", "names"] (spTest isDiff) := by
  refine F.ok sc_is_difference (fun vs H Q E h => ?_) (fun cdv A outer s H vs Q E hr h => ?_)
  · obtain ⟨N, v, nt, d, names, rfl, _⟩ := h
    rfl
  · obtain ⟨N, v, nt, d, names, rfl, hd, hnt, hnl, hk⟩ := h
    have hu := hu_of hr
    refine ⟨_, PSs.nox (pss_cons (ps_if (PW.pt (pw_or (pt_not (pt_val (pe_callB (kIsi K) (by rfl) G.isinstance_ (by decide +kernel) (pa_cons (pv 0) (pa_cons (pe_ty "tuple" (by rfl) G.tuple_ (by decide +kernel)) pa_nil))))) (pw_or (pt_cmpR op_ne (pe_callB (kLen K) (by rfl) G.len_ PySem.boot_len (pa_cons (pv 0) pa_nil)) pe_int (nomark _)) (pw_or1 (pt_not (pt_val (pe_c C_is_number hr (by decide) (by rfl) (pa_cons (pe_ix (kIxT K) (pv 0) pe_int (fun _ _ => rfl)) pa_nil)))))))) (pss_one (ps_ret pe_bl)) pss_nil)
      (pss_one (ps_ret (pe_and (pe_c C_is_end hr (by decide) (by rfl) (pa_cons (pe_ix (kIxT K) (pv 0) pe_int (fun _ _ => rfl)) (pa_cons (pv 1) pa_nil))) (pe_and (pe_c C_is_end hr (by decide) (by rfl) (pa_cons (pe_ix (kIxT K) (pv 0) pe_int (fun _ _ => rfl)) (pa_cons (pv 1) pa_nil))) (pe_one (pe_cmpR op_ne (pe_ix (kIxT K) (pv 0) pe_int (fun _ _ => rfl)) (pe_ix (kIxT K) (pv 0) pe_int (fun _ _ => rfl)) (nomark _)))))))), ?_⟩
    obtain ⟨t, ty, ki⟩ := hd.ty (K := K) (T := "tuple") (by simp)
    refine ⟨_, rfl, _, _, _, _, _, rfl, .ty "tuple", ty, ki, _, rfl, ?_⟩
    cases hd with
    | @tup a xs ds n e h =>
      refine iteF ⟨_, rfl, a, xs, rfl, .inr (sqt e), rfl, _, rfl, ?_⟩
      rw [deci]
      have hl := h.len
      by_cases h2 : (xs.length : Int) = 3
      · rw [decide_eq_true h2]
        match ds, hl, h with
        | [d1, d2, d3], _, h =>
          obtain ⟨x, y, z, rfl, g1, g2, g3⟩ := dt3 h
          have hk : ∀ b, b = isDiff (.tuple [d1, d2, d3]) names → ∀ H', Same H H' → Q (.bl b) H' := fun b e => by rw [e]; exact hk
          refine iteF ⟨_, rfl, a, _, _, _, rfl, rfl, sqt e, atI_nat (j := 2) rfl, N, z, d3, rfl, g3, fun H1 s1 => ?_⟩
          refine ⟨_, rfl, ?_⟩
          cases h3 : isNumber d3 with
          | false => exact iteT (hk _ (by simp only [isDiff, h3, Bool.false_and]) H1 s1)
          | true =>
            refine iteF ⟨_, rfl, a, _, _, _, rfl, rfl, sqt (s1 _ _ e), atI_nat (j := 0) rfl, _, rfl, ?_⟩
            refine ⟨N, x, nt, d1, names, rfl, g1.mono s1, s1 _ _ hnt, hnl, fun H2 s2 => ⟨_, rfl, ?_⟩⟩
            have s12 := s1.trans s2
            cases h1 : isEnd d1 names with
            | false => exact iteF (hk _ (by simp only [isDiff, h1, h3, Bool.false_and, Bool.and_false]) H2 s12)
            | true =>
              refine iteT ⟨_, rfl, a, _, _, _, rfl, rfl, sqt (s12 _ _ e), atI_nat (j := 1) rfl, _, rfl, ?_⟩
              refine ⟨N, y, nt, d2, names, rfl, g2.mono s12, s12 _ _ hnt, hnl, fun H3 s3 => ⟨_, rfl, ?_⟩⟩
              have s13 := s12.trans s3
              cases h4 : isEnd d2 names with
              | false => exact iteF (hk _ (by simp only [isDiff, h1, h3, h4, Bool.false_and, Bool.and_false]) H3 s13)
              | true =>
                obtain ⟨n1, rfl⟩ := isEnd_str h1
                obtain ⟨n2, rfl⟩ := isEnd_str h4
                cases Dt.str_ g1
                cases Dt.str_ g2
                refine iteT ⟨_, rfl, a, _, _, _, rfl, rfl, sqt (s13 _ _ e), atI_nat (j := 0) rfl, _, rfl, a, _, _, _, rfl, rfl, sqt (s13 _ _ e), atI_nat (j := 1) rfl, rfl, ?_⟩
                exact hk _ (by simp only [isDiff, h1, h3, h4, neS, Bool.true_and]) H3 s13
        | [], hl, _ => rw [hl] at h2; simp at h2
        | [_], hl, _ => rw [hl] at h2; simp at h2
        | [_, _], hl, _ => rw [hl] at h2; simp at h2
        | _ :: _ :: _ :: _ :: _, hl, _ => rw [hl] at h2; simp only [List.length_cons] at h2; omega
      · rw [decide_eq_false h2]
        refine iteT ?_
        have e2 : isDiff (.tuple ds) names = false := by
          match ds, hl with
          | [_, _, _], hl => rw [hl] at h2; exact absurd rfl h2
          | [], _ => rfl
          | [_], _ => rfl
          | [_, _], _ => rfl
          | _ :: _ :: _ :: _ :: _, _ => rfl
        have := hk H (Same.refl H)
        rw [e2] at this
        exact this
    | int i => exact iteT (hk H (Same.refl H))
    | bl b => exact iteT (hk H (Same.refl H))
    | non => exact iteT (hk H (Same.refl H))
    | str _ => exact iteT (hk H (Same.refl H))
    | lst n e h => exact iteT (hk H (Same.refl H))
theorem sc_u_is_row : FnScope ["thing", "least", "most", "test", "names", "one"] ["thing", "least", "most", "test", "names"] (defScope s_u_is_row) := ⟨rfl, rfl, rfl, by decide +kernel, rfl, by decide +kernel, by decide +kernel⟩
theorem ok_row {m : Nat} (F : FnP K "_is_row" s_u_is_row [] f fd) (G : Facts mg) (AT : ∀ f sp, S f = some sp → Held P w K mg base m f sp) : FnOk P w K mg base CX0 (m + 1) f fd ["thing", "least", "most", "test", "names"] (spRow S) := by
  refine F.ok sc_u_is_row (fun vs H Q E h => ?_) (fun cdv A outer s H vs Q E hr h => ?_)
  · obtain ⟨N, v, ft, nt, lo, hi, p, d, names, rfl, _⟩ := h
    rfl
  · obtain ⟨N, v, ft, nt, lo, hi, p, d, names, rfl, hd, hS, hnt, hnl, hhi, hk⟩ := h
    have hu := hu_of hr
    refine ⟨_, PSs.nox (pss_cons (ps_if (PW.pt (pw_or (pt_not (pt_val (pe_callB (kIsi K) (by rfl) G.isinstance_ (by decide +kernel) (pa_cons (pv 0) (pa_cons (pe_ty "tuple" (by rfl) G.tuple_ (by decide +kernel)) pa_nil))))) (pw_or1 (pt_not (pt_chain op_le op_le (pv 1) (pe_callB (kLen K) (by rfl) G.len_ PySem.boot_len (pa_cons (pv 0) pa_nil)) (pv 2)))))) (pss_one (ps_ret pe_bl)) pss_nil)
      (pss_one (ps_ret (pe_callB (kAll K rfl) (by rfl) G.all_ (by decide +kernel) (pa_cons (pe_lc (own := [("one", 5)]) (g := gName 5) (tt := tYes) rfl sc_u_is_row.nd  (kpi_tup K (pv 0)) (blkOk_by (by kernel_rfl)) (fun _ _ _ _ _ => (pg_name (i := 5) sc_u_is_row.nd rfl (by first | exact .inl rfl | exact .inr rfl))) (fun _ _ _ _ _ => pts_nil) (fun _ _ _ _ _ => (pe_callA (i := 3) (S := S) AT hr rfl (by first | exact .inl rfl | exact .inr (.inl rfl) | exact .inr (.inr rfl)) (pa_cons (pv 5) (pa_cons (pv 4) pa_nil))))) pa_nil))))), ?_⟩
    obtain ⟨t, ty, ki⟩ := hd.ty (K := K) (T := "tuple") (by simp)
    refine ⟨_, rfl, _, _, _, _, _, rfl, .ty "tuple", ty, ki, _, rfl, ?_⟩
    cases hd with
    | @tup a xs ds n e h =>
      have hl := h.len
      have hk : ∀ b, b = isRow lo hi p (.tuple ds) names → ∀ H', Same H H' → Q (.bl b) H' := fun b e => by rw [e]; exact hk
      refine iteF ⟨_, rfl, _, rfl, a, xs, rfl, .inr (sqt e), _, _, rfl, rfl, _, rfl, ?_⟩
      rw [hl]
      cases h1 : decide (lo ≤ (ds.length : Int)) with
      | false => exact iteF ⟨_, rfl, iteT (hk _ (by simp only [isRow, h1, Bool.false_and]) H (Same.refl H))⟩
      | true =>
        refine iteT ⟨_, rfl, _, _, rfl, rfl, _, rfl, ?_⟩
        cases h2 : decide ((ds.length : Int) ≤ hi) with
        | false => exact iteT (hk _ (by simp only [isRow, h1, h2, Bool.false_and, Bool.and_false]) H (Same.refl H))
        | true =>
          have hd2 := of_decide_eq_true h2
          refine iteF ⟨_, rfl, a, rfl, ⟨_, sqt e⟩, fun D hD => ?_⟩
          refine lc_it (walk_tup (K := K) (a := a) (xs := xs)) (fun j H' => Same H H' ∧ H' D = some (.lst ((ds.take j).map fun d => V.bl (p d names)))) ⟨same_upd hD, upd_same⟩ (fun j H' _ ⟨s2, _⟩ => sqt (s2 _ _ e)) ?_ ?_
          · rintro j y H8 H' hj ⟨s2, dD⟩ ⟨rfl, ey⟩
            rw [hl] at hj
            obtain ⟨v', hv, hvd⟩ := h.get (List.getElem?_eq_getElem hj)
            rw [hv] at ey
            cases ey
            refine ⟨rfl, ft, _, rfl, hS, _, rfl, _, rfl, N, _, nt, ds[j], names, rfl, hvd.mono s2, s2 _ _ hnt, hnl, fun H3 s3 => ?_⟩
            refine ⟨_, s3 _ _ dD, szlt (by rw [List.length_map, List.length_take]; omega), same_mut (s2.trans s3) hD, ?_⟩
            rw [upd_same, tsn hj, List.map_append]
            rfl
          rintro H2 ⟨s2, dD⟩
          rw [hl, List.take_length] at dD
          refine ⟨D, ds.map fun d => p d names, rfl, sq (by rw [dD, List.map_map]; rfl), ?_⟩
          refine hk _ ?_ H2 s2
          simp only [isRow, h1, h2, Bool.true_and, List.all_map]
          rfl
    | int i => exact iteT (hk H (Same.refl H))
    | bl b => exact iteT (hk H (Same.refl H))
    | non => exact iteT (hk H (Same.refl H))
    | str _ => exact iteT (hk H (Same.refl H))
    | lst n e h => exact iteT (hk H (Same.refl H))
end
end K1

namespace K1
open PySem PySem.Spec PyProof.Rows L2 Ls
/-! ### nodes -/
def inNames : PyData → List Str → Bool
  | .str x, names => inV (V.str x) (names.map V.str)
  | _, _ => false
def isBoolD : PyData → Bool
  | .bool _ => true
  | _ => false
def nameOf : PyData → Str
  | .str x => x
  | _ => ""
def isLoop (b : PyData → List Str → Bool) : PyData → List Str → Bool
  | .tuple [_, c, lows, highs, down, body], names => isWord c && (!inNames c names && (isBoolD down && (isList isAtom lows names && (isList isAtom highs names && (!isNilD body && b body (names ++ [nameOf c]))))))
  | _, _ => false
def isRun : PyData → List Str → Bool
  | .tuple [_, l, stamp, target, reads], names => isWord l && (isRow 0 8 isAtom stamp names && (isAccess target names && isRow 0 6 isAccess reads names))
  | _, _ => false
def isBodyW (p : PyData → List Str → Bool) : PyData → List Str → Bool
  | .tuple ds, names => ds.all fun d => p d names
  | _, _ => false
def isTest (b : PyData → List Str → Bool) : PyData → List Str → Bool
  | .tuple [_, rows, body], names => isList isDiff rows names && (!isNilD body && b body names)
  | _, _ => false
def isNode : Nat → PyData → List Str → Bool
  | 0, _, _ => false
  | n + 1, .tuple (.str k :: ds), names =>
    if decide (V.str k = V.str "loop") = true then isLoop (isBodyW (isNode n)) (.tuple (.str k :: ds)) names
    else if decide (V.str k = V.str "run") = true then isRun (.tuple (.str k :: ds)) names
    else decide (V.str k = V.str "test") && isTest (isBodyW (isNode n)) (.tuple (.str k :: ds)) names
  | _ + 1, _, _ => false
def spRun : Sp := fun vs H Q _ => ∃ (N : Addr → Prop) (v : V) (nt : Addr) (ds : List PyData) (names : List Str), vs = [v, .ref nt] ∧ Dt N H v (.tuple ds) ∧ H nt = some (.tup (names.map V.str)) ∧ names.length ≤ 1000 ∧ ∀ H', Same H H' → Q (.bl (isRun (.tuple ds) names)) H'
def spNode (n : Nat) : Sp := fun vs H Q _ => ∃ (N : Addr → Prop) (v : V) (nt : Addr) (dp : Int) (d : PyData) (names : List Str), vs = [v, .ref nt, .int dp] ∧ dp + (n : Int) = 41 ∧ Dt N H v d ∧ H nt = some (.tup (names.map V.str)) ∧ names.length + n ≤ 1000 ∧ ∀ H', Same H H' → Q (.bl (isNode n d names)) H'
def spLoop (n : Nat) : Sp := fun vs H Q _ => ∃ (N : Addr → Prop) (v : V) (nt : Addr) (dp : Int) (ds : List PyData) (names : List Str), vs = [v, .ref nt, .int dp] ∧ dp + (n : Int) = 40 ∧ Dt N H v (.tuple ds) ∧ H nt = some (.tup (names.map V.str)) ∧ names.length + n + 1 ≤ 1000 ∧ ∀ H', Same H H' → Q (.bl (isLoop (isBodyW (isNode n)) (.tuple ds) names)) H'
def spBody (n : Nat) : Sp := fun vs H Q _ => ∃ (N : Addr → Prop) (v : V) (nt : Addr) (dp : Int) (d : PyData) (names : List Str), vs = [v, .ref nt, .int dp] ∧ dp + (n : Int) = 41 ∧ Dt N H v d ∧ H nt = some (.tup (names.map V.str)) ∧ names.length + n ≤ 1000 ∧ ∀ H', Same H H' → Q (.bl (isBodyW (isNode n) d names)) H'
section
variable {P : Program} {w : World} {K : PySem.W.Frag} {mg : Str → Option Value} {base : Heap} {f W fA fC fD : Addr} {S S2 : Addr → Option Sp} {fd : FuncData} {k : Nat}
theorem sc_u_is_list : FnScope ["thing", "test", "names", "one"] ["thing", "test", "names"] (defScope s_u_is_list) := ⟨rfl, rfl, rfl, by decide +kernel, rfl, by decide +kernel, by decide +kernel⟩
theorem ok_list (F : FnP K "_is_list" s_u_is_list [] f fd) (G : Facts mg) (C_u_is_row : Cal P w K mg base 3 "_is_row" (spRow S) []) : FnOk P w K mg base CX0 4 f fd ["thing", "test", "names"] (spList S) := by
  refine F.ok sc_u_is_list (fun vs H Q E h => ?_) (fun cdv A outer s H vs Q E hr h => ?_)
  · obtain ⟨N, v, ft, nt, p, d, names, rfl, _⟩ := h
    rfl
  · obtain ⟨N, v, ft, nt, p, d, names, rfl, hd, hS, hpf, hnt, hnl, hk⟩ := h
    have hu := hu_of hr
    refine ⟨_, PSs.nox (pss_one (ps_ret (pe_and (pe_c C_u_is_row hr (by decide) (by rfl) (pa_cons (pv 0) (pa_cons pe_int (pa_cons pe_int (pa_cons (pv 1) (pa_cons (pv 2) pa_nil)))))) (pe_one (pe_cmpR op_eq (pe_callB call_len_dT (by rfl) G.len_ PySem.boot_len (pa_cons (pe_dcT (own := [("one", 3)]) (g := gName 3) (tt := tYes) rfl hu sc_u_is_list.nd  (kpi_tup K (pv 0)) (blkOk_by (by kernel_rfl)) (fun _ _ _ _ _ => (pg_name (i := 3) sc_u_is_list.nd rfl (by first | exact .inl rfl | exact .inr rfl))) (fun _ _ _ _ _ => pts_nil) (fun _ _ _ _ _ => (pv 3)) (fun _ _ _ _ _ => pe_bl)) pa_nil)) (pe_callB (kLen K) (by rfl) G.len_ PySem.boot_len (pa_cons (pv 0) pa_nil)) (nomark _)))))), ?_⟩
    refine ⟨_, rfl, _, rfl, _, rfl, N, v, ft, nt, 1, 12, p, d, names, rfl, hd, hS, hnt, hnl, by decide, fun H1 s1 => ⟨_, rfl, ?_⟩⟩
    cases h1 : isRow 1 12 p d names with
    | false =>
      refine iteF ?_
      have e : isList p d names = false := by
        unfold isList
        split
        · rw [h1, Bool.false_and]
        · rfl
      have := hk H1 s1
      rw [e] at this
      exact this
    | true =>
      refine iteT ?_
      have hd1 := hd.mono s1
      cases hd1 with
      | @tup a xs ds n e h =>
        have hl := h.len
        have h1' := h1
        simp only [isRow, Bool.and_eq_true, decide_eq_true_eq, List.all_eq_true] at h1'
        obtain ⟨g1, g2, g3⟩ := h1'
        refine ⟨_, rfl, a, rfl, ⟨_, sqt e⟩, fun D hD => ?_⟩
        refine dcT_it (walk_tup (K := K) (a := a) (xs := xs)) (fun j H' => Same H1 H' ∧ H' D = some (.dT (((ds.map keyD).take j).foldl addK []))) ⟨same_upd hD, upd_same⟩ (fun j H' _ ⟨s2, _⟩ => sqt (s2 _ _ e)) ?_ ?_
        · rintro j y H8 H' hj ⟨s2, dD⟩ ⟨rfl, ey⟩
          rw [hl] at hj
          obtain ⟨v', hv, hvd⟩ := h.get (List.getElem?_eq_getElem hj)
          rw [hv] at ey
          cases ey
          obtain ⟨b, rfl, hb⟩ := flat_key (hvd.mono s2) (hpf _ _ (g3 _ (List.getElem_mem hj)))
          have hj2 : j < (ds.map keyD).length := by rw [List.length_map]; exact hj
          have hfl := (fold_len ((ds.map keyD).take j) []).1
          rw [List.length_take, List.length_nil] at hfl
          refine ⟨rfl, _, rfl, _, _, b, rfl, hb, dD, szlt (by omega), same_mut s2 hD, ?_⟩
          rw [upd_same, tsn hj2, List.foldl_append, List.getElem_map]
          rfl
        rintro H2 ⟨s2, dD⟩
        rw [hl, List.take_of_length_le (by rw [List.length_map]; exact Nat.le_refl _)] at dD
        refine ⟨D, _, rfl, dD, _, rfl, a, xs, rfl, .inr (sqt (s2 _ _ e)), rfl, ?_⟩
        rw [deci, hl, show (ds.length : Int) = ((ds.map keyD).length : Int) by rw [List.length_map], fold_nd]
        have := hk H2 (s1.trans s2)
        simp only [isList, h1, Bool.true_and] at this
        exact this
      | _ => cases h1
theorem sc_is_access : FnScope ["thing", "names"] ["thing", "names"] (defScope s_is_access) := ⟨rfl, rfl, rfl, by decide +kernel, rfl, by decide +kernel, by decide +kernel⟩
theorem ok_access (F : FnP K "is_access" s_is_access [] f fd) (G : Facts mg) (hA : mg "is_atom" = some (.ref fA)) (SA : S fA = some (spTest isAtom)) (C_is_word : Cal P w K mg base 1 "is_word" (spTest1 isWord) []) (C_u_is_row : Cal P w K mg base 3 "_is_row" (spRow S) []) : FnOk P w K mg base CX0 4 f fd ["thing", "names"] (spTest isAccess) := by
  refine F.ok sc_is_access (fun vs H Q E h => ?_) (fun cdv A outer s H vs Q E hr h => ?_)
  · obtain ⟨N, v, nt, d, names, rfl, _⟩ := h
    rfl
  · obtain ⟨N, v, nt, d, names, rfl, hd, hnt, hnl, hk⟩ := h
    have hu := hu_of hr
    refine ⟨_, PSs.nox (pss_cons (ps_if (PW.pt (pw_or (pt_not (pt_val (pe_callB (kIsi K) (by rfl) G.isinstance_ (by decide +kernel) (pa_cons (pv 0) (pa_cons (pe_ty "tuple" (by rfl) G.tuple_ (by decide +kernel)) pa_nil))))) (pw_or (pt_cmpR op_ne (pe_callB (kLen K) (by rfl) G.len_ PySem.boot_len (pa_cons (pv 0) pa_nil)) pe_int (nomark _)) (pw_or1 (pt_not (pt_val (pe_c C_is_word hr (by decide) (by rfl) (pa_cons (pe_ix (kIxT K) (pv 0) pe_int (fun _ _ => rfl)) pa_nil)))))))) (pss_one (ps_ret pe_bl)) pss_nil)
      (pss_one (ps_ret (pe_c C_u_is_row hr (by decide) (by rfl) (pa_cons (pe_ix (kIxT K) (pv 0) pe_int (fun _ _ => rfl)) (pa_cons pe_int (pa_cons pe_int (pa_cons (pe_glob (v := .ref fA) (by rfl) hA rfl) (pa_cons (pv 1) pa_nil))))))))), ?_⟩
    obtain ⟨t, ty, ki⟩ := hd.ty (K := K) (T := "tuple") (by simp)
    refine ⟨_, rfl, _, _, _, _, _, rfl, .ty "tuple", ty, ki, _, rfl, ?_⟩
    cases hd with
    | @tup a xs ds n e h =>
      refine iteF ⟨_, rfl, a, xs, rfl, .inr (sqt e), rfl, _, rfl, ?_⟩
      rw [deci]
      have hl := h.len
      by_cases h2 : (xs.length : Int) = 2
      · rw [decide_eq_true h2]
        match ds, hl, h with
        | [d1, d2], _, h =>
          obtain ⟨x, y, rfl, g1, g2⟩ := dt2 h
          have hk : ∀ b, b = isAccess (.tuple [d1, d2]) names → ∀ H', Same H H' → Q (.bl b) H' := fun b e => by rw [e]; exact hk
          refine iteF ⟨_, rfl, a, _, _, _, rfl, rfl, sqt e, atI_nat (j := 0) rfl, N, x, d1, rfl, g1, fun H1 s1 => ⟨_, rfl, ?_⟩⟩
          cases h3 : isWord d1 with
          | false => exact iteT (hk _ (by simp only [isAccess, h3, Bool.false_and]) H1 s1)
          | true =>
            refine iteF ⟨_, rfl, a, _, _, _, rfl, rfl, sqt (s1 _ _ e), atI_nat (j := 1) rfl, _, rfl, ?_⟩
            exact ⟨N, y, fA, nt, 0, 4, isAtom, d2, names, rfl, g2.mono s1, SA, s1 _ _ hnt, hnl, by decide, fun H2 s2 => hk _ (by simp only [isAccess, h3, Bool.true_and]) H2 (s1.trans s2)⟩
        | [], hl, _ => rw [hl] at h2; simp at h2
        | [_], hl, _ => rw [hl] at h2; simp at h2
        | _ :: _ :: _ :: _, hl, _ => rw [hl] at h2; simp only [List.length_cons] at h2; omega
      · rw [decide_eq_false h2]
        refine iteT ?_
        have e2 : isAccess (.tuple ds) names = false := by
          match ds, hl with
          | [_, _], hl => rw [hl] at h2; exact absurd rfl h2
          | [], _ => rfl
          | [_], _ => rfl
          | _ :: _ :: _ :: _, _ => rfl
        have := hk H (Same.refl H)
        rw [e2] at this
        exact this
    | int i => exact iteT (hk H (Same.refl H))
    | bl b => exact iteT (hk H (Same.refl H))
    | non => exact iteT (hk H (Same.refl H))
    | str _ => exact iteT (hk H (Same.refl H))
    | lst n e h => exact iteT (hk H (Same.refl H))
theorem sc_u_is_run : FnScope ["node", "names"] ["node", "names"] (defScope s_u_is_run) := ⟨rfl, rfl, rfl, by decide +kernel, rfl, by decide +kernel, by decide +kernel⟩
theorem ok_run (F : FnP K "_is_run" s_u_is_run [] f fd) (G : Facts mg) (hA : mg "is_atom" = some (.ref fA)) (SA : S fA = some (spTest isAtom)) (hC : mg "is_access" = some (.ref fC)) (SC : S2 fC = some (spTest isAccess)) (C_is_word : Cal P w K mg base 1 "is_word" (spTest1 isWord) []) (C_u_is_row : Cal P w K mg base 3 "_is_row" (spRow S) []) (C2_u_is_row : Cal P w K mg base 5 "_is_row" (spRow S2) []) (C_is_access : Cal P w K mg base 4 "is_access" (spTest isAccess) []) : FnOk P w K mg base CX0 6 f fd ["node", "names"] spRun := by
  refine F.ok sc_u_is_run (fun vs H Q E h => ?_) (fun cdv A outer s H vs Q E hr h => ?_)
  · obtain ⟨N, v, nt, ds, names, rfl, _⟩ := h
    rfl
  · obtain ⟨N, v, nt, ds, names, rfl, hd, hnt, hnl, hk⟩ := h
    have hu := hu_of hr
    refine ⟨_, PSs.nox (pss_cons (ps_if (PW.pt (pw_or (pt_cmpR op_ne (pe_callB (kLen K) (by rfl) G.len_ PySem.boot_len (pa_cons (pv 0) pa_nil)) pe_int (nomark _)) (pw_or (pt_not (pt_val (pe_c C_is_word hr (by decide) (by rfl) (pa_cons (pe_ix (kIxT K) (pv 0) pe_int (fun _ _ => rfl)) pa_nil)))) (pw_or1 (pt_not (pt_val (pe_c C_u_is_row hr (by decide) (by rfl) (pa_cons (pe_ix (kIxT K) (pv 0) pe_int (fun _ _ => rfl)) (pa_cons pe_int (pa_cons pe_int (pa_cons (pe_glob (v := .ref fA) (by rfl) hA rfl) (pa_cons (pv 1) pa_nil)))))))))))) (pss_one (ps_ret pe_bl)) pss_nil)
      (pss_one (ps_ret (pe_and (pe_c C_is_access hr (by decide) (by rfl) (pa_cons (pe_ix (kIxT K) (pv 0) pe_int (fun _ _ => rfl)) (pa_cons (pv 1) pa_nil))) (pe_one (pe_c C2_u_is_row hr (by decide) (by rfl) (pa_cons (pe_ix (kIxT K) (pv 0) pe_int (fun _ _ => rfl)) (pa_cons pe_int (pa_cons pe_int (pa_cons (pe_glob (v := .ref fC) (by rfl) hC rfl) (pa_cons (pv 1) pa_nil))))))))))), ?_⟩
    cases hd with
    | @tup a xs _ n e h =>
      have hl := h.len
      refine ⟨_, rfl, a, xs, rfl, .inr (sqt e), rfl, _, rfl, ?_⟩
      rw [deci]
      by_cases h2 : (xs.length : Int) = 5
      · rw [decide_eq_true h2]
        match ds, hl, h with
        | [d0, d1, d2, d3, d4], _, h =>
          cases h with | cons g0 h => cases h with | cons g1 h => obtain ⟨x2, x3, x4, rfl, g2, g3, g4⟩ := dt3 h
                                                                  rename_i x0 x1
                                                                  have hk : ∀ b, b = isRun (.tuple [d0, d1, d2, d3, d4]) names → ∀ H', Same H H' → Q (.bl b) H' := fun b e => by rw [e]; exact hk
                                                                  refine iteF ⟨_, rfl, a, _, _, _, rfl, rfl, sqt e, atI_nat (j := 1) rfl, N, _, d1, rfl, g1, fun H1 s1 => ⟨_, rfl, ?_⟩⟩
                                                                  cases h3 : isWord d1 with
                                                                  | false => exact iteT (hk _ (by simp only [isRun, h3, Bool.false_and]) H1 s1)
                                                                  | true =>
                                                                    refine iteF ⟨_, rfl, a, _, _, _, rfl, rfl, sqt (s1 _ _ e), atI_nat (j := 2) rfl, _, rfl, N, x2, fA, nt, 0, 8, isAtom, d2, names, rfl, g2.mono s1, SA, s1 _ _ hnt, hnl, by decide, fun H2 s2 => ⟨_, rfl, ?_⟩⟩
                                                                    have s12 := s1.trans s2
                                                                    cases h4 : isRow 0 8 isAtom d2 names with
                                                                    | false => exact iteT (hk _ (by simp only [isRun, h3, h4, Bool.false_and, Bool.and_false]) H2 s12)
                                                                    | true =>
                                                                      refine iteF ⟨_, rfl, a, _, _, _, rfl, rfl, sqt (s12 _ _ e), atI_nat (j := 3) rfl, _, rfl, N, x3, nt, d3, names, rfl, g3.mono s12, s12 _ _ hnt, hnl, fun H3 s3 => ⟨_, rfl, ?_⟩⟩
                                                                      have s13 := s12.trans s3
                                                                      cases h5 : isAccess d3 names with
                                                                      | false => exact iteF (hk _ (by simp only [isRun, h3, h4, h5, Bool.false_and, Bool.and_false]) H3 s13)
                                                                      | true => exact iteT ⟨_, rfl, a, _, _, _, rfl, rfl, sqt (s13 _ _ e), atI_nat (j := 4) rfl, _, rfl, N, x4, fC, nt, 0, 6, isAccess, d4, names, rfl, g4.mono s13, SC, s13 _ _ hnt, hnl, by decide, fun H4 s4 => hk _ (by simp only [isRun, h3, h4, h5, Bool.true_and]) H4 (s13.trans s4)⟩
        | [], hl, _ => rw [hl] at h2; simp at h2
        | [_], hl, _ => rw [hl] at h2; simp at h2
        | [_, _], hl, _ => rw [hl] at h2; simp at h2
        | [_, _, _], hl, _ => rw [hl] at h2; simp at h2
        | [_, _, _, _], hl, _ => rw [hl] at h2; simp at h2
        | _ :: _ :: _ :: _ :: _ :: _ :: _, hl, _ => rw [hl] at h2; simp only [List.length_cons] at h2; omega
      · rw [decide_eq_false h2]
        refine iteT ?_
        have e2 : isRun (.tuple ds) names = false := by
          unfold isRun
          split
          · rename_i e5
            cases e5
            exact absurd (by rw [hl]; rfl) h2
          · rfl
        have := hk H (Same.refl H)
        rw [e2] at this
        exact this
end
end K1

namespace K1
open PySem PySem.Spec PyProof.Rows L2 Ls
theorem dt1 {N : Addr → Prop} {H : Hp} {xs : List V} {d : PyData} {ds : List PyData} (h : DtAll N H xs (d :: ds)) : ∃ x r, xs = x :: r ∧ Dt N H x d ∧ DtAll N H r ds := by
  cases h with | cons g h => exact ⟨_, _, rfl, g, h⟩
theorem isWord_str {d : PyData} (h : isWord d = true) : ∃ x, d = .str x := by
  cases d with
  | str x => exact ⟨x, rfl⟩
  | _ => cases h
section
variable {P : Program} {w : World} {K : PySem.W.Frag} {mg : Str → Option Value} {base : Heap} {f W fA fC fD : Addr} {S S2 : Addr → Option Sp} {fd : FuncData} {k : Nat}
theorem sc_u_is_body : FnScope ["body", "names", "depth", "node"] ["body", "names", "depth"] (defScope s_u_is_body) := ⟨rfl, rfl, rfl, by decide +kernel, rfl, by decide +kernel, by decide +kernel⟩
theorem ok_body (n : Nat) (F : FnP K "_is_body" s_u_is_body [] f fd) (G : Facts mg) (C_u_is_node : Cal P w K mg base (3 * n + 8) "_is_node" (spNode n) []) : FnOk P w K mg base CX0 (3 * n + 8 + 1) f fd ["body", "names", "depth"] (spBody n) := by
  refine F.ok sc_u_is_body (fun vs H Q E h => ?_) (fun cdv A outer s H vs Q E hr h => ?_)
  · obtain ⟨N, v, nt, dp, d, names, rfl, _⟩ := h
    rfl
  · obtain ⟨N, v, nt, dp, d, names, rfl, hdp, hd, hnt, hnl, hk⟩ := h
    have hu := hu_of hr
    refine ⟨_, PSs.nox (pss_one (ps_ret (pe_and (pe_callB (kIsi K) (by rfl) G.isinstance_ (by decide +kernel) (pa_cons (pv 0) (pa_cons (pe_ty "tuple" (by rfl) G.tuple_ (by decide +kernel)) pa_nil))) (pe_one (pe_callB (kAll K rfl) (by rfl) G.all_ (by decide +kernel) (pa_cons (pe_lc (own := [("node", 3)]) (g := gName 3) (tt := tYes) rfl sc_u_is_body.nd  (kpi_tup K (pv 0)) (blkOk_by (by kernel_rfl)) (fun _ _ _ _ _ => (pg_name (i := 3) sc_u_is_body.nd rfl (by first | exact .inl rfl | exact .inr rfl))) (fun _ _ _ _ _ => pts_nil) (fun _ _ _ _ _ => (pe_c C_u_is_node hr (by omega) (by rfl) (pa_cons (pv 3) (pa_cons (pv 1) (pa_cons (pv 2) pa_nil)))))) pa_nil)))))), ?_⟩
    obtain ⟨t, ty, ki⟩ := hd.ty (K := K) (T := "tuple") (by simp)
    refine ⟨_, rfl, _, _, _, _, _, rfl, .ty "tuple", ty, ki, _, rfl, ?_⟩
    cases hd with
    | @tup a xs ds n0 e h =>
      have hl := h.len
      refine iteT ⟨_, rfl, a, rfl, ⟨_, sqt e⟩, fun D hD => ?_⟩
      refine lc_it (walk_tup (K := K) (a := a) (xs := xs)) (fun j H' => Same H H' ∧ H' D = some (.lst ((ds.take j).map fun d => V.bl (isNode n d names)))) ⟨same_upd hD, upd_same⟩ (fun j H' _ ⟨s2, _⟩ => sqt (s2 _ _ e)) ?_ ?_
      · rintro j y H8 H' hj ⟨s2, dD⟩ ⟨rfl, ey⟩
        rw [hl] at hj
        obtain ⟨v', hv, hvd⟩ := h.get (List.getElem?_eq_getElem hj)
        rw [hv] at ey
        cases ey
        refine ⟨rfl, _, rfl, _, rfl, _, rfl, N, _, nt, dp, ds[j], names, rfl, hdp, hvd.mono s2, s2 _ _ hnt, hnl, fun H3 s3 => ?_⟩
        refine ⟨_, s3 _ _ dD, szlt (by rw [List.length_map, List.length_take]; have := n0.2; omega), same_mut (s2.trans s3) hD, ?_⟩
        rw [upd_same, tsn hj, List.map_append]
        rfl
      rintro H2 ⟨s2, dD⟩
      rw [hl, List.take_length] at dD
      refine ⟨D, ds.map fun d => isNode n d names, rfl, sq (by rw [dD, List.map_map]; rfl), ?_⟩
      have := hk H2 s2
      simp only [isBodyW] at this
      rw [List.all_map]
      exact this
    | int i => exact iteF (hk H (Same.refl H))
    | bl b => exact iteF (hk H (Same.refl H))
    | non => exact iteF (hk H (Same.refl H))
    | str _ => exact iteF (hk H (Same.refl H))
    | lst n e h => exact iteF (hk H (Same.refl H))
theorem sc_u_is_loop : FnScope ["node", "names", "depth"] ["node", "names", "depth"] (defScope s_u_is_loop) := ⟨rfl, rfl, rfl, by decide +kernel, rfl, by decide +kernel, by decide +kernel⟩
theorem ok_loop (n : Nat) (F : FnP K "_is_loop" s_u_is_loop [] f fd) (G : Facts mg) (hA : mg "is_atom" = some (.ref fA)) (SA : S fA = some (spTest isAtom)) (C_is_word : Cal P w K mg base 1 "is_word" (spTest1 isWord) []) (C_u_is_list : Cal P w K mg base 4 "_is_list" (spList S) []) (C_u_is_body : Cal P w K mg base (3 * n + 9) "_is_body" (spBody n) []) : FnOk P w K mg base CX0 (3 * n + 9 + 1) f fd ["node", "names", "depth"] (spLoop n) := by
  refine F.ok sc_u_is_loop (fun vs H Q E h => ?_) (fun cdv A outer s H vs Q E hr h => ?_)
  · obtain ⟨N, v, nt, dp, ds, names, rfl, _⟩ := h
    rfl
  · obtain ⟨N, v, nt, dp, ds, names, rfl, hdp, hd, hnt, hnl, hk⟩ := h
    have hu := hu_of hr
    refine ⟨_, PSs.nox (pss_cons (ps_if (PW.pt (pw_or (pt_cmpR op_ne (pe_callB (kLen K) (by rfl) G.len_ PySem.boot_len (pa_cons (pv 0) pa_nil)) pe_int (nomark _)) (pw_or (pt_not (pt_val (pe_c C_is_word hr (by omega) (by rfl) (pa_cons (pe_ix (kIxT K) (pv 0) pe_int (fun _ _ => rfl)) pa_nil)))) (pw_or (pt_cmpR (kIn K) (pe_ix (kIxT K) (pv 0) pe_int (fun _ _ => rfl)) (pv 1) (by rfl)) (pw_or1 (pt_not (pt_val (pe_callB (kIsi K) (by rfl) G.isinstance_ (by decide +kernel) (pa_cons (pe_ix (kIxT K) (pv 0) pe_int (fun _ _ => rfl)) (pa_cons (pe_ty "bool" (by rfl) G.bool_ (by decide +kernel)) pa_nil)))))))))) (pss_one (ps_ret pe_bl)) pss_nil)
      (pss_cons (ps_if (PW.pt (pw_or (pt_not (pt_val (pe_c C_u_is_list hr (by omega) (by rfl) (pa_cons (pe_ix (kIxT K) (pv 0) pe_int (fun _ _ => rfl)) (pa_cons (pe_glob (v := .ref fA) (by rfl) hA rfl) (pa_cons (pv 1) pa_nil)))))) (pw_or1 (pt_not (pt_val (pe_c C_u_is_list hr (by omega) (by rfl) (pa_cons (pe_ix (kIxT K) (pv 0) pe_int (fun _ _ => rfl)) (pa_cons (pe_glob (v := .ref fA) (by rfl) hA rfl) (pa_cons (pv 1) pa_nil))))))))) (pss_one (ps_ret pe_bl)) pss_nil)
      (pss_one (ps_ret (pe_and (pe_cmpR (kNeE (K := K) hr.units) (pe_ix (kIxT K) (pv 0) pe_int (fun _ _ => rfl)) (pe_tup pa_nil) (nomark _)) (pe_one (pe_c C_u_is_body hr (by omega) (by rfl) (pa_cons (pe_ix (kIxT K) (pv 0) pe_int (fun _ _ => rfl)) (pa_cons (pe_op kCatT (pv 1) (pe_tup (pa_cons (pe_ix (kIxT K) (pv 0) pe_int (fun _ _ => rfl)) pa_nil))) (pa_cons (pe_op op_add (pv 2) pe_int) pa_nil)))))))))), ?_⟩
    cases hd with
    | @tup a xs _ n1 e h =>
      have hl := h.len
      refine ⟨_, rfl, a, xs, rfl, .inr (sqt e), rfl, _, rfl, ?_⟩
      rw [deci]
      by_cases h2 : (xs.length : Int) = 6
      · rw [decide_eq_true h2]
        match ds, hl, h with
        | [d0, d1, d2, d3, d4, d5], _, h =>
          have hk : ∀ b, b = isLoop (isBodyW (isNode n)) (.tuple [d0, d1, d2, d3, d4, d5]) names → ∀ H', Same H H' → Q (.bl b) H' := fun b e => by rw [e]; exact hk
          obtain ⟨x0, _, rfl, g0, h⟩ := dt1 h
          obtain ⟨x1, _, rfl, g1, h⟩ := dt1 h
          obtain ⟨x2, _, rfl, g2, h⟩ := dt1 h
          obtain ⟨x3, x4, x5, rfl, g3, g4, g5⟩ := dt3 h
          refine iteF ⟨_, rfl, a, _, _, _, rfl, rfl, sqt e, atI_nat (j := 1) rfl, N, x1, d1, rfl, g1, fun H1 s1 => ⟨_, rfl, ?_⟩⟩
          cases h3 : isWord d1 with
          | false => exact iteT (hk _ (by simp only [isLoop, h3, Bool.false_and]) H1 s1)
          | true =>
            obtain ⟨c, rfl⟩ := isWord_str h3
            cases Dt.str_ g1
            refine iteF ⟨_, rfl, a, _, _, _, rfl, rfl, sqt (s1 _ _ e), atI_nat (j := 1) rfl, _, rfl, nt, _, rfl, .inr (sqt (s1 _ _ hnt)), rfl, flatS _, _, rfl, ?_⟩
            cases h4 : inV (V.str c) (names.map V.str) with
            | true => exact iteT (hk _ (by simp only [isLoop, inNames, h3, h4, Bool.not_true, Bool.false_and, Bool.and_false]) H1 s1)
            | false =>
              obtain ⟨t4, ty4, ki4⟩ := (g4.mono s1).ty (K := K) (T := "bool") (by simp)
              refine iteF ⟨_, rfl, a, _, _, _, rfl, rfl, sqt (s1 _ _ e), atI_nat (j := 4) rfl, _, _, _, _, _, rfl, .ty "bool", ty4, ki4, _, rfl, ?_⟩
              have eb : isTy "bool" d4 = isBoolD d4 := by cases d4 <;> rfl
              rw [eb]
              cases h5 : isBoolD d4 with
              | false => exact iteT (hk _ (by simp only [isLoop, inNames, h3, h4, h5, Bool.false_and, Bool.and_false]) H1 s1)
              | true =>
                refine iteF ?_
                refine ⟨_, rfl, a, _, _, _, rfl, rfl, sqt (s1 _ _ e), atI_nat (j := 2) rfl, _, rfl, N, x2, fA, nt, isAtom, d2, names, rfl, g2.mono s1, SA, isAtom_flat, s1 _ _ hnt, by omega, fun H2 s2 => ⟨_, rfl, ?_⟩⟩
                have s12 := s1.trans s2
                cases h6 : isList isAtom d2 names with
                | false => exact iteT (hk _ (by simp only [isLoop, inNames, h3, h4, h5, h6, Bool.false_and, Bool.and_false]) H2 s12)
                | true =>
                  refine iteF ⟨_, rfl, a, _, _, _, rfl, rfl, sqt (s12 _ _ e), atI_nat (j := 3) rfl, _, rfl, N, x3, fA, nt, isAtom, d3, names, rfl, g3.mono s12, SA, isAtom_flat, s12 _ _ hnt, by omega, fun H3 s3 => ⟨_, rfl, ?_⟩⟩
                  have s13 := s12.trans s3
                  cases h7 : isList isAtom d3 names with
                  | false => exact iteT (hk _ (by simp only [isLoop, inNames, h3, h4, h5, h6, h7, Bool.false_and, Bool.and_false]) H3 s13)
                  | true =>
                    refine iteF ⟨_, rfl, a, _, _, _, rfl, rfl, sqt (s13 _ _ e), atI_nat (j := 5) rfl, by show 0 ≤ sizeLine; decide, fun p np => ?_⟩
                    have s4 := s13.trans (same_upd np (o := .tup []))
                    refine ⟨d5, (g5.mono s4).dp, .tup (sqt upd_same) .nil, g5.lay, _, rfl, ?_⟩
                    rw [eqv_nilT]
                    cases h8 : isNilD d5 with
                    | true => exact iteF (hk _ (by simp only [isLoop, inNames, h3, h4, h5, h6, h7, h8, Bool.not_true, Bool.false_and, Bool.and_false]) _ s4)
                    | false =>
                      refine iteT ⟨_, rfl, a, _, _, _, rfl, rfl, sqt (s4 _ _ e), atI_nat (j := 5) rfl, ?_⟩
                      refine ⟨_, rfl, _, rfl, a, _, _, _, rfl, rfl, sqt (s4 _ _ e), atI_nat (j := 1) rfl, by show 1 ≤ sizeLine; decide, fun q nq => ?_⟩
                      have s5 := s4.trans (same_upd nq (o := .tup [V.str c]))
                      refine ⟨nt, q, _, _, rfl, rfl, s5 _ _ hnt, upd_same, szl (by rw [List.length_map, List.length_singleton]; omega), fun H6 nt2 s6 _ hnt2 => ?_⟩
                      have s56 := s5.trans s6
                      refine ⟨_, rfl, _, _, rfl, rfl, ?_⟩
                      refine ⟨N, x5, nt2, dp + 1, d5, names ++ [c], rfl, by omega, g5.mono s56, by rw [hnt2, List.map_append]; rfl, by rw [List.length_append, List.length_singleton]; omega, fun H7 s7 => ?_⟩
                      exact hk _ (by simp only [isLoop, inNames, nameOf, h3, h4, h5, h6, h7, h8, Bool.not_false, Bool.true_and]) H7 (s56.trans s7)
        | [], hl, _ => rw [hl] at h2; simp at h2
        | [_], hl, _ => rw [hl] at h2; simp at h2
        | [_, _], hl, _ => rw [hl] at h2; simp at h2
        | [_, _, _], hl, _ => rw [hl] at h2; simp at h2
        | [_, _, _, _], hl, _ => rw [hl] at h2; simp at h2
        | [_, _, _, _, _], hl, _ => rw [hl] at h2; simp at h2
        | _ :: _ :: _ :: _ :: _ :: _ :: _ :: _, hl, _ => rw [hl] at h2; simp only [List.length_cons] at h2; omega
      · rw [decide_eq_false h2]
        refine iteT ?_
        have e2 : isLoop (isBodyW (isNode n)) (.tuple ds) names = false := by
          unfold isLoop
          split
          · rename_i e5
            cases e5
            exact absurd (by rw [hl]; rfl) h2
          · rfl
        have := hk H (Same.refl H)
        rw [e2] at this
        exact this
end
end K1

namespace K1
open PySem PySem.Spec PyProof.Rows L2 Ls
section
variable {P : Program} {w : World} {K : PySem.W.Frag} {mg : Str → Option Value} {base : Heap} {f W fA fC fD : Addr} {S S2 : Addr → Option Sp} {fd : FuncData} {k : Nat}
theorem sc_u_is_node : FnScope ["node", "names", "depth"] ["node", "names", "depth"] (defScope s_u_is_node) := ⟨rfl, rfl, rfl, by decide +kernel, rfl, by decide +kernel, by decide +kernel⟩
theorem ok_node0 (F : FnP K "_is_node" s_u_is_node [] f fd) (G : Facts mg) (hD : mg "is_difference" = some (.ref fD)) (SD : S fD = some (spTest isDiff)) (C_u_is_run : Cal P w K mg base 6 "_is_run" spRun []) (C_u_is_list : Cal P w K mg base 4 "_is_list" (spList S) []) (C_u_is_loop : Cal P w K mg base 6 "_is_loop" spNo []) (C_u_is_body : Cal P w K mg base 6 "_is_body" spNo []) : FnOk P w K mg base CX0 (7 + 1) f fd ["node", "names", "depth"] (spNode 0) := by
  refine F.ok sc_u_is_node (fun vs H Q E h => ?_) (fun cdv A outer s H vs Q E hr h => ?_)
  · obtain ⟨N, v, nt, dp, d, names, rfl, _⟩ := h
    rfl
  · obtain ⟨N, v, nt, dp, d, names, rfl, hdp, hd, hnt, hnl, hk⟩ := h
    have hu := hu_of hr
    refine ⟨_, PSs.nox (pss_cons (ps_if (PW.pt (pw_or (pt_cmpR op_gt (pv 2) (pe_gi (by rfl) G.MOST_DEPTH) (nomark _)) (pw_or (pt_not (pt_val (pe_callB (kIsi K) (by rfl) G.isinstance_ (by decide +kernel) (pa_cons (pv 0) (pa_cons (pe_ty "tuple" (by rfl) G.tuple_ (by decide +kernel)) pa_nil))))) (pw_or (pt_cmpR (kEqE (K := K) hr.units) (pv 0) (pe_tup pa_nil) (nomark _)) (pw_or1 (pt_not (pt_val (pe_callB (kIsi K) (by rfl) G.isinstance_ (by decide +kernel) (pa_cons (pe_ix (kIxT K) (pv 0) pe_int (fun _ _ => rfl)) (pa_cons (pe_ty "str" (by rfl) G.str_ (by decide +kernel)) pa_nil)))))))))) (pss_one (ps_ret pe_bl)) pss_nil)
      (pss_cons (ps_if (pt_cmpR op_eq (pe_ix (kIxT K) (pv 0) pe_int (fun _ _ => rfl)) pe_str (nomark _)) (pss_one (ps_ret (pe_c C_u_is_loop hr (by omega) (by rfl) (pa_cons (pv 0) (pa_cons (pv 1) (pa_cons (pv 2) pa_nil)))))) pss_nil)
      (pss_cons (ps_if (pt_cmpR op_eq (pe_ix (kIxT K) (pv 0) pe_int (fun _ _ => rfl)) pe_str (nomark _)) (pss_one (ps_ret (pe_c C_u_is_run hr (by omega) (by rfl) (pa_cons (pv 0) (pa_cons (pv 1) pa_nil))))) pss_nil)
      (pss_cons (ps_if (PW.pt (pw_or (pt_cmpR op_ne (pe_ix (kIxT K) (pv 0) pe_int (fun _ _ => rfl)) pe_str (nomark _)) (pw_or (pt_cmpR op_ne (pe_callB (kLen K) (by rfl) G.len_ PySem.boot_len (pa_cons (pv 0) pa_nil)) pe_int (nomark _)) (pw_or1 (pt_not (pt_val (pe_c C_u_is_list hr (by omega) (by rfl) (pa_cons (pe_ix (kIxT K) (pv 0) pe_int (fun _ _ => rfl)) (pa_cons (pe_glob (v := .ref fD) (by rfl) hD rfl) (pa_cons (pv 1) pa_nil)))))))))) (pss_one (ps_ret pe_bl)) pss_nil)
      (pss_one (ps_ret (pe_and (pe_cmpR (kNeE (K := K) hr.units) (pe_ix (kIxT K) (pv 0) pe_int (fun _ _ => rfl)) (pe_tup pa_nil) (nomark _)) (pe_one (pe_c C_u_is_body hr (by omega) (by rfl) (pa_cons (pe_ix (kIxT K) (pv 0) pe_int (fun _ _ => rfl)) (pa_cons (pv 1) (pa_cons (pe_op op_add (pv 2) pe_int) pa_nil)))))))))))), ?_⟩
    refine ⟨_, rfl, _, _, rfl, rfl, _, rfl, ?_⟩
    rw [decide_eq_true (show (40 : Int) < dp by omega)]
    refine iteT (iteT ?_)
    have := hk H (Same.refl H)
    simp only [isNode] at this
    exact this
theorem ok_nodeS (n : Nat) (F : FnP K "_is_node" s_u_is_node [] f fd) (G : Facts mg) (hD : mg "is_difference" = some (.ref fD)) (SD : S fD = some (spTest isDiff)) (C_u_is_run : Cal P w K mg base 6 "_is_run" spRun []) (C_u_is_list : Cal P w K mg base 4 "_is_list" (spList S) []) (C_u_is_loop : Cal P w K mg base (3 * n + 10) "_is_loop" (spLoop n) []) (C_u_is_body : Cal P w K mg base (3 * n + 9) "_is_body" (spBody n) []) : FnOk P w K mg base CX0 (3 * n + 10 + 1) f fd ["node", "names", "depth"] (spNode (n + 1)) := by
  refine F.ok sc_u_is_node (fun vs H Q E h => ?_) (fun cdv A outer s H vs Q E hr h => ?_)
  · obtain ⟨N, v, nt, dp, d, names, rfl, _⟩ := h
    rfl
  · obtain ⟨N, v, nt, dp, d, names, rfl, hdp, hd, hnt, hnl, hk⟩ := h
    have hu := hu_of hr
    refine ⟨_, PSs.nox (pss_cons (ps_if (PW.pt (pw_or (pt_cmpR op_gt (pv 2) (pe_gi (by rfl) G.MOST_DEPTH) (nomark _)) (pw_or (pt_not (pt_val (pe_callB (kIsi K) (by rfl) G.isinstance_ (by decide +kernel) (pa_cons (pv 0) (pa_cons (pe_ty "tuple" (by rfl) G.tuple_ (by decide +kernel)) pa_nil))))) (pw_or (pt_cmpR (kEqE (K := K) hr.units) (pv 0) (pe_tup pa_nil) (nomark _)) (pw_or1 (pt_not (pt_val (pe_callB (kIsi K) (by rfl) G.isinstance_ (by decide +kernel) (pa_cons (pe_ix (kIxT K) (pv 0) pe_int (fun _ _ => rfl)) (pa_cons (pe_ty "str" (by rfl) G.str_ (by decide +kernel)) pa_nil)))))))))) (pss_one (ps_ret pe_bl)) pss_nil)
      (pss_cons (ps_if (pt_cmpR op_eq (pe_ix (kIxT K) (pv 0) pe_int (fun _ _ => rfl)) pe_str (nomark _)) (pss_one (ps_ret (pe_c C_u_is_loop hr (by omega) (by rfl) (pa_cons (pv 0) (pa_cons (pv 1) (pa_cons (pv 2) pa_nil)))))) pss_nil)
      (pss_cons (ps_if (pt_cmpR op_eq (pe_ix (kIxT K) (pv 0) pe_int (fun _ _ => rfl)) pe_str (nomark _)) (pss_one (ps_ret (pe_c C_u_is_run hr (by omega) (by rfl) (pa_cons (pv 0) (pa_cons (pv 1) pa_nil))))) pss_nil)
      (pss_cons (ps_if (PW.pt (pw_or (pt_cmpR op_ne (pe_ix (kIxT K) (pv 0) pe_int (fun _ _ => rfl)) pe_str (nomark _)) (pw_or (pt_cmpR op_ne (pe_callB (kLen K) (by rfl) G.len_ PySem.boot_len (pa_cons (pv 0) pa_nil)) pe_int (nomark _)) (pw_or1 (pt_not (pt_val (pe_c C_u_is_list hr (by omega) (by rfl) (pa_cons (pe_ix (kIxT K) (pv 0) pe_int (fun _ _ => rfl)) (pa_cons (pe_glob (v := .ref fD) (by rfl) hD rfl) (pa_cons (pv 1) pa_nil)))))))))) (pss_one (ps_ret pe_bl)) pss_nil)
      (pss_one (ps_ret (pe_and (pe_cmpR (kNeE (K := K) hr.units) (pe_ix (kIxT K) (pv 0) pe_int (fun _ _ => rfl)) (pe_tup pa_nil) (nomark _)) (pe_one (pe_c C_u_is_body hr (by omega) (by rfl) (pa_cons (pe_ix (kIxT K) (pv 0) pe_int (fun _ _ => rfl)) (pa_cons (pv 1) (pa_cons (pe_op op_add (pv 2) pe_int) pa_nil)))))))))))), ?_⟩
    refine ⟨_, rfl, _, _, rfl, rfl, _, rfl, ?_⟩
    rw [decide_eq_false (show ¬ (40 : Int) < dp by omega)]
    refine iteF ?_
    obtain ⟨t, ty, ki⟩ := hd.ty (K := K) (T := "tuple") (by simp)
    refine ⟨_, rfl, _, _, _, _, _, rfl, .ty "tuple", ty, ki, _, rfl, ?_⟩
    have hk : ∀ b, b = isNode (n + 1) d names → ∀ H', Same H H' → Q (.bl b) H' := fun b e => by rw [e]; exact hk
    have hd0 := hd
    cases hd with
    | @tup a xs ds n0 e h =>
      have hl := h.len
      refine iteF ⟨_, rfl, by show 0 ≤ sizeLine; decide, fun p np => ?_⟩
      have s1 := same_upd np (o := .tup [])
      refine ⟨_, (hd0.mono s1).dp, .tup (sqt upd_same) .nil, hd0.lay, _, rfl, ?_⟩
      rw [eqv_nilT]
      generalize upd H p (.tup []) = H1 at s1 ⊢
      cases h with
      | nil => exact iteT (iteT (hk _ rfl H1 s1))
      | @cons x0 _ d0 ds g0 h =>
        refine iteF ?_
        obtain ⟨t0, ty0, ki0⟩ := (g0.mono s1).ty (K := K) (T := "str") (by simp)
        refine ⟨_, rfl, a, _, _, _, rfl, rfl, sqt (s1 _ _ e), atI_nat (j := 0) rfl, _, _, _, _, _, rfl, .ty "str", ty0, ki0, _, rfl, ?_⟩
        cases g0 with
        | @str k0 hx =>
          refine iteF ?_
          refine ⟨_, rfl, a, _, _, _, rfl, rfl, sqt (s1 _ _ e), atI_nat (j := 0) rfl, rfl, _, rfl, ?_⟩
          have hd1 := hd0.mono s1
          cases c1 : decide (V.str k0 = V.str "loop") with
          | true =>
            refine iteT ⟨_, rfl, _, rfl, _, rfl, N, _, nt, dp, _, names, rfl, by omega, hd1, s1 _ _ hnt, by omega, fun H2 s2 => ?_⟩
            exact hk _ (by simp only [isNode, c1, if_true]) H2 (s1.trans s2)
          | false =>
            refine iteF ?_
            refine ⟨_, rfl, a, _, _, _, rfl, rfl, sqt (s1 _ _ e), atI_nat (j := 0) rfl, rfl, _, rfl, ?_⟩
            cases c2 : decide (V.str k0 = V.str "run") with
            | true =>
              refine iteT ⟨_, rfl, _, rfl, N, _, nt, _, names, rfl, hd1, s1 _ _ hnt, by omega, fun H2 s2 => ?_⟩
              exact hk _ (by simp only [isNode, c1, c2, Bool.false_eq_true, if_false, if_true]) H2 (s1.trans s2)
            | false =>
              refine iteF ?_
              have hk : ∀ b, b = (decide (V.str k0 = V.str "test") && isTest (isBodyW (isNode n)) (.tuple (.str k0 :: ds)) names) → ∀ H', Same H H' → Q (.bl b) H' := fun b eb => hk b (by rw [eb]; simp only [isNode, c1, c2, Bool.false_eq_true, if_false])
              refine ⟨_, rfl, a, _, _, _, rfl, rfl, sqt (s1 _ _ e), atI_nat (j := 0) rfl, rfl, _, rfl, ?_⟩
              cases c3 : decide (V.str k0 = V.str "test") with
              | false => exact iteT (iteT (hk _ (by simp only [c3, Bool.false_and]) H1 s1))
              | true =>
                refine iteF ⟨_, rfl, a, _, rfl, .inr (sqt (s1 _ _ e)), rfl, _, rfl, ?_⟩
                rw [deci, hl]
                by_cases h2 : (((PyData.str k0 :: ds).length : Nat) : Int) = 3
                · rw [decide_eq_true h2]
                  match ds, h2, h with
                  | [d1, d2], _, h =>
                    obtain ⟨x1, x2, rfl, g1, g2⟩ := dt2 h
                    refine iteF ⟨_, rfl, a, _, _, _, rfl, rfl, sqt (s1 _ _ e), atI_nat (j := 1) rfl, _, rfl, N, x1, fD, nt, isDiff, d1, names, rfl, g1.mono s1, SD, isDiff_flat, s1 _ _ hnt, by omega, fun H2 s2 => ⟨_, rfl, ?_⟩⟩
                    have s12 := s1.trans s2
                    cases h6 : isList isDiff d1 names with
                    | false => exact iteT (hk _ (by simp only [isTest, c3, h6, Bool.false_and, Bool.and_false]) H2 s12)
                    | true =>
                      refine iteF ⟨_, rfl, a, _, _, _, rfl, rfl, sqt (s12 _ _ e), atI_nat (j := 2) rfl, by show 0 ≤ sizeLine; decide, fun q nq => ?_⟩
                      have s4 := s12.trans (same_upd nq (o := .tup []))
                      refine ⟨d2, (g2.mono s4).dp, .tup (sqt upd_same) .nil, g2.lay, _, rfl, ?_⟩
                      rw [eqv_nilT]
                      cases h8 : isNilD d2 with
                      | true => exact iteF (hk _ (by simp only [isTest, c3, h6, h8, Bool.not_true, Bool.false_and, Bool.and_false]) _ s4)
                      | false =>
                        refine iteT ⟨_, rfl, a, _, _, _, rfl, rfl, sqt (s4 _ _ e), atI_nat (j := 2) rfl, _, rfl, _, rfl, _, _, rfl, rfl, ?_⟩
                        refine ⟨N, x2, nt, dp + 1, d2, names, rfl, by omega, g2.mono s4, s4 _ _ hnt, by omega, fun H7 s7 => ?_⟩
                        exact hk _ (by simp only [isTest, c3, h6, h8, Bool.not_false, Bool.true_and]) H7 (s4.trans s7)
                  | [], h2, _ => simp at h2
                  | [_], h2, _ => simp at h2
                  | _ :: _ :: _ :: _, h2, _ => simp only [List.length_cons] at h2; omega
                · rw [decide_eq_false h2]
                  refine iteT (iteT (hk _ ?_ H1 s1))
                  match ds, h2 with
                  | [_, _], h2 => exact absurd rfl h2
                  | [], _ => simp only [isTest, Bool.and_false]
                  | [_], _ => simp only [isTest, Bool.and_false]
                  | _ :: _ :: _ :: _, _ => simp only [isTest, Bool.and_false]
        | int i => exact iteT (hk _ rfl H1 s1)
        | bl b => exact iteT (hk _ rfl H1 s1)
        | non => exact iteT (hk _ rfl H1 s1)
        | lst n e h => exact iteT (hk _ rfl H1 s1)
        | tup n e h => exact iteT (hk _ rfl H1 s1)
    | int i => exact iteT (iteT (hk _ rfl H (Same.refl H)))
    | bl b => exact iteT (iteT (hk _ rfl H (Same.refl H)))
    | non => exact iteT (iteT (hk _ rfl H (Same.refl H)))
    | str _ => exact iteT (iteT (hk _ rfl H (Same.refl H)))
    | lst n e h => exact iteT (iteT (hk _ rfl H (Same.refl H)))
end
end K1

/-! ### d.setdefault(k, x); l.extend(t), t a tuple -/
namespace Ls
open PySem PySem.Spec PyProof.Rows L2
section
variable {X : Cx}
def rSetDef : V → List V → Hp → VK → Prop := fun x xs H Q => ∃ (a : Addr) (kvs : List (Key × V)) (k : Key) (d : V), x = .ref a ∧ xs = [kV k, d] ∧ H a = some (.dK kvs) ∧ kvs.length < sizeLine ∧
  (∀ v, valV kvs k = some v → Q v H) ∧ (valV kvs k = none → Q d (upd H a (.dK (putK kvs k d))))
theorem mt_setdefault : MtR X "dict.setdefault" rSetDef := by
  intro pins s σ H x xs v us Q I rx rxs h
  obtain ⟨a, kvs, k, d, rfl, rfl, ha, hl, q1, q2⟩ := h
  cases rx
  obtain ⟨u1, u2, rfl, r1, r2⟩ := vals2 rxs
  obtain ⟨z, hd, vs, rel, dd⟩ := dk_of I.hok ha
  refine call_meetsIn PySem.F.slot_dict_setdefault dd.typeIs PySem.F.entry_dict_setdefault (PySem.F.args_dict_setdefault_3 _ _ _) (kt_meets_setdefault (mixKind X.prog X.w) a (kV_is r1) hd u2)
    ⟨vs, dd, by rw [← rel.length]; exact z, fun v0 hv => ?_, fun hn h' dd' hs => ?_⟩
  · have r := rel.val k
    rw [hv] at r
    cases ev : valV kvs k with
    | none => rw [ev] at r; exact (show False from r).elim
    | some v1 =>
      rw [ev] at r
      exact ⟨v1, H, I.tok _, r, q1 v1 ev⟩
  · have r := rel.val k
    rw [hn] at r
    have e : valV kvs k = none := by
      cases ev : valV kvs k with
      | none => rfl
      | some v0 => rw [ev] at r; exact (show False from r).elim
    have he : ∃ q, h'.get? a = some q := let ⟨q, _, _, hq, _⟩ := dd'; ⟨q, hq⟩
    have hl2 : (putK kvs k d).length ≤ sizeLine := Nat.le_trans (length_putK kvs k d) hl
    exact ⟨d, _, d_write I (by rw [ha]; exact True.intro) hs he (dk_new hl2 hd (rel.put k r2) dd'), r2, q2 e⟩
/-- l.extend(t), t a tuple -/
theorem ext_tup {prog : Program} {w : World} {l b : Addr} {its its2 : Array Value} {n : Nat} (hz : its.size + its2.size ≤ sizeLine) :
    MeetsIn prog w (Builtin.«list.extend» ⟨[.ref l, .ref b], []⟩) (fun _ R s => s.heap.get? l = some { cls := .type "list", data := .seq its n } ∧ (∃ o, s.heap.get? b = some o ∧ o.cls = .type "tuple" ∧ ∃ m, o.data = .seq its2 m) ∧ R (.ok (.ret .none)) { s with heap := s.heap.update l (Obj.mapSeq (· ++ its2)) }) := by
  rintro A R s ⟨hl, ⟨o, ho, hc, m, hd⟩, h⟩
  show wpAny _ A.in1 (Builtin.List.listExtendWith (.ref l) (.ref b) .none) _ _ s
  unfold Builtin.List.listExtendWith
  refine wpAny_bind (wpAny_typeOf ⟨o, ho, hc⟩ ?_)
  have h1 : (Builtin.List.listSameRef (.ref l) (.ref b) || Value.type "tuple" == Value.type "list" || Value.type "tuple" == Value.type "tuple") = true := by simp
  simp only [h1, if_true]
  have h2 : (!its.isEmpty && Builtin.List.listTooLong (its.size + its2.size)) = false := by rw [notLongL hz, Bool.and_false]
  refine wpAny_bind ?_
  unfold Builtin.List.listItems
  refine wpAny_bind (wpAny_seqItems ho hd (wpAny_pure ?_))
  refine wpAny_bind ?_
  refine wpAny_bind (wpAny_seqItems hl rfl (wpAny_pure ?_))
  simp only [h2, Bool.false_eq_true, if_false]
  have hz1 : its.size ≤ sizeLine := by omega
  have hz2 : (its ++ its2).size ≤ sizeLine + 1 := by rw [Array.size_append]; omega
  refine wpAny_bind (wpAny_updateSeq hl rfl ?_ (hz := hz1) (_hz' := hz2))
  first | exact wpAny_pure h | exact wpAny_bind (wpAny_pure (wpAny_pure h)) | exact wpAny_bind (wpAny_pure h)
def rExtT : V → List V → Hp → VK → Prop := fun x vs H Q => ∃ l b xs zs, x = .ref l ∧ vs = [.ref b] ∧ H l = some (.lst xs) ∧ H b = some (.tup zs) ∧ xs.length + zs.length ≤ sizeLine ∧ Q .non (upd H l (.lst (xs ++ zs)))
theorem mt_extendT : MtR X "list.extend" rExtT := by
  intro pins s σ H x vs v us Q I rx rv h
  obtain ⟨l, b, xs, zs, rfl, rfl, hH, hB, hz, q⟩ := h
  cases rx
  obtain ⟨u, rfl, ru⟩ := rv.one
  cases ru
  obtain ⟨z, its, n, r, hl, e⟩ := I.lstM hH
  obtain ⟨z2, its2, r2, o2, ho2, hc2, n2, hd2⟩ := (show ObjOk X.prog X.w H s.heap b (.tup zs) from I.hok b _ hB)
  have hl1 := r.length
  have hl2 := r2.length
  refine call_meetsIn PySem.F.slot_list_extend ⟨_, e, rfl⟩ PySem.F.entry_list_extend (PySem.F.args_list_extend_2 _ _) (ext_tup (its := its.toArray) (its2 := its2.toArray) (n := n) (by rw [List.size_toArray, List.size_toArray]; omega)) ⟨e, ⟨o2, ho2, hc2, n2, hd2⟩, ?_⟩
  refine ⟨.non, _, I.lset (t' := s.toks) (its' := its ++ its2) hH e (by simp) (r.append r2) ?_, rfl, q⟩
  rw [List.length_append]
  omega
end
end Ls

namespace K1
open PySem PySem.Spec PyProof.Rows L2 Ls
/-! ### nodes that are right -/
def IsAcc (r : PyData) : Prop := ∃ arr ix, r = .tuple [.str arr, .tuple ix]
inductive Nd : Nat → PyData → Prop where
  | loop {n : Nat} {c : Str} {lo hi b : PyData} {bs : List PyData} (h : ∀ x ∈ bs, Nd n x) : Nd (n + 1) (.tuple [.str "loop", .str c, lo, hi, b, .tuple bs])
  | run {n : Nat} {l : Str} {st : List PyData} {t : PyData} {rs : List PyData} (ht : IsAcc t) (hr : ∀ r ∈ rs, IsAcc r) (hl : rs.length ≤ 6) : Nd (n + 1) (.tuple [.str "run", .str l, .tuple st, t, .tuple rs])
  | test {n : Nat} {rows : PyData} {bs : List PyData} (h : ∀ x ∈ bs, Nd n x) : Nd (n + 1) (.tuple [.str "test", rows, .tuple bs])
theorem dstr {a b : Str} (h : decide (V.str a = V.str b) = true) : a = b := by
  have := of_decide_eq_true h
  injection this
theorem isRow_tup {lo hi : Int} {p : PyData → List Str → Bool} {d : PyData} {names : List Str} (h : isRow lo hi p d names = true) : ∃ ds, d = .tuple ds ∧ (ds.length : Int) ≤ hi ∧ ∀ x ∈ ds, p x names = true := by
  unfold isRow at h
  split at h
  · simp only [Bool.and_eq_true, decide_eq_true_eq, List.all_eq_true] at h
    exact ⟨_, rfl, h.2.1, h.2.2⟩
  · cases h
theorem isAccess_acc {d : PyData} {names : List Str} (h : isAccess d names = true) : IsAcc d := by
  unfold isAccess at h
  split at h
  · rename_i a b
    obtain ⟨h1, h2⟩ := Bool.and_eq_true_iff.mp h
    obtain ⟨x, rfl⟩ := isWord_str h1
    obtain ⟨ds, rfl, _⟩ := isRow_tup h2
    exact ⟨x, ds, rfl⟩
  · cases h
theorem isBodyW_tup {p : PyData → List Str → Bool} {d : PyData} {names : List Str} (h : isBodyW p d names = true) : ∃ ds, d = .tuple ds ∧ ∀ x ∈ ds, p x names = true := by
  unfold isBodyW at h
  split at h
  · exact ⟨_, rfl, List.all_eq_true.mp h⟩
  · cases h
theorem isTest_shape {b : PyData → List Str → Bool} {d : PyData} {names : List Str} (h : isTest b d names = true) : ∃ a rows body, d = .tuple [a, rows, body] ∧ b body names = true := by
  unfold isTest at h
  split at h
  · simp only [Bool.and_eq_true] at h
    exact ⟨_, _, _, rfl, h.2.2⟩
  · cases h
theorem nd_of : ∀ (n : Nat) (d : PyData) (names : List Str), isNode n d names = true → Nd n d
  | 0, _, _, h => by simp [isNode] at h
  | n + 1, d, names, h => by
    unfold isNode at h
    split at h
    · cases h
    · rename_i n' k ds e
      cases e
      split at h
      · rename_i c1
        have := dstr c1
        subst this
        unfold isLoop at h
        split at h
        · rename_i a c lows highs down body e
          cases e
          simp only [Bool.and_eq_true] at h
          obtain ⟨h1, h2, h3, h4, h5, h6, h7⟩ := h
          obtain ⟨x, rfl⟩ := isWord_str h1
          obtain ⟨bs, rfl, hb⟩ := isBodyW_tup h7
          exact .loop fun y hy => nd_of n y _ (hb y hy)
        · cases h
      · split at h
        · rename_i c2
          have := dstr c2
          subst this
          unfold isRun at h
          split at h
          · rename_i a l st t rs e
            cases e
            simp only [Bool.and_eq_true] at h
            obtain ⟨h1, h2, h3, h4⟩ := h
            obtain ⟨x, rfl⟩ := isWord_str h1
            obtain ⟨sts, rfl, _⟩ := isRow_tup h2
            obtain ⟨rss, rfl, hl, hr⟩ := isRow_tup h4
            exact .run (isAccess_acc h3) (fun r hr' => isAccess_acc (hr r hr')) (by omega)
          · cases h
        · obtain ⟨c3, h⟩ := Bool.and_eq_true_iff.mp h
          have := dstr c3
          subst this
          obtain ⟨a, rows, body, e, h7⟩ := isTest_shape h
          cases e
          obtain ⟨bs, rfl, hb⟩ := isBodyW_tup h7
          exact .test fun y hy => nd_of n y _ (hb y hy)
    · cases h
def bodyOf : PyData → PyData
  | .tuple [_, _, _, _, _, b] => b
  | .tuple [_, _, b] => b
  | _ => .tuple []
def accOf : Nat → PyData → List PyData
  | n + 1, .tuple [_, _, _, t, .tuple rs] => t :: rs
  | n + 1, .tuple [_, _, _, _, _, .tuple bs] => bs.flatMap (accOf n)
  | n + 1, .tuple [_, _, .tuple bs] => bs.flatMap (accOf n)
  | _, _ => []
def frmOf : Nat → PyData → List PyData
  | n + 1, .tuple [_, l, .tuple st, _, .tuple rs] => [.tuple [l, .tuple [.int st.length, .int rs.length]]]
  | n + 1, .tuple [_, _, _, _, _, .tuple bs] => bs.flatMap (frmOf n)
  | n + 1, .tuple [_, _, .tuple bs] => bs.flatMap (frmOf n)
  | _, _ => []
def spBodyOf : Sp := fun vs H Q _ => ∃ (N : Addr → Prop) (v : V) (n : Nat) (d : PyData), vs = [v] ∧ Dt N H v d ∧ Nd n d ∧ (∀ a, H a = none → N a) ∧ ∀ H' v', Same H H' → Dt N H' v' (bodyOf d) → Q v' H'
def spItems (g : Nat → PyData → List PyData) (n : Nat) : Sp := fun vs H Q _ => ∃ (N : Addr → Prop) (v : V) (ds : List PyData), vs = [v] ∧ Dt N H v (.tuple ds) ∧ (∀ x ∈ ds, Nd n x) ∧ (ds.flatMap (g n)).length ≤ 100000 ∧ (∀ a, H a = none → N a) ∧ ∀ H' l xs, Same H H' → H l = none → H' l = some (.lst xs) → DtAll N H' xs (ds.flatMap (g n)) → Q (.ref l) H'
section
variable {P : Program} {w : World} {K : PySem.W.Frag} {mg : Str → Option Value} {base : Heap} {f W fA fC fD : Addr} {S S2 : Addr → Option Sp} {fd : FuncData} {k : Nat}
theorem sc_body_of : FnScope ["node"] ["node"] (defScope s_body_of) := ⟨rfl, rfl, rfl, by decide +kernel, rfl, by decide +kernel, by decide +kernel⟩
theorem ok_body_of (F : FnP K "body_of" s_body_of [] f fd) (G : Facts mg) : FnOk P w K mg base CX0 1 f fd ["node"] spBodyOf := by
  refine F.ok sc_body_of (fun vs H Q E h => ?_) (fun cdv A outer s H vs Q E hr h => ?_)
  · obtain ⟨N, v, n, d, rfl, _⟩ := h
    rfl
  · obtain ⟨N, v, n, d, rfl, hd, hn, hN, hk⟩ := h
    have hu := hu_of hr
    refine ⟨_, PSs.nox (pss_cons (ps_if (pt_cmpR op_eq (pe_ix (kIxT K) (pv 0) pe_int (fun _ _ => rfl)) pe_str (nomark _)) (pss_one (ps_ret (pe_ix (kIxT K) (pv 0) pe_int (fun _ _ => rfl)))) pss_nil)
      (pss_one (ps_ret (pe_ifExp (pt_cmpR op_eq (pe_ix (kIxT K) (pv 0) pe_int (fun _ _ => rfl)) pe_str (nomark _)) (pe_ix (kIxT K) (pv 0) pe_int (fun _ _ => rfl)) (pe_tup pa_nil))))), ?_⟩
    cases hn with
    | @loop n c lo hi b bs hb =>
      cases hd with
      | @tup a xs _ n0 e h =>
        obtain ⟨x0, _, rfl, g0, h⟩ := dt1 h
        obtain ⟨x1, _, rfl, g1, h⟩ := dt1 h
        obtain ⟨x2, _, rfl, g2, h⟩ := dt1 h
        obtain ⟨x3, x4, x5, rfl, g3, g4, g5⟩ := dt3 h
        cases Dt.str_ g0
        refine ⟨_, rfl, a, _, _, _, rfl, rfl, sqt e, atI_nat (j := 0) rfl, rfl, _, rfl, ?_⟩
        rw [decide_eq_true rfl]
        refine iteT ⟨_, rfl, a, _, _, _, rfl, rfl, sqt e, atI_nat (j := 5) rfl, hk H x5 (Same.refl H) g5⟩
    | @test n rows bs hb =>
      cases hd with
      | @tup a xs _ n0 e h =>
        obtain ⟨x0, x1, x2, rfl, g0, g1, g2⟩ := dt3 h
        cases Dt.str_ g0
        refine ⟨_, rfl, a, _, _, _, rfl, rfl, sqt e, atI_nat (j := 0) rfl, rfl, _, rfl, ?_⟩
        rw [decide_eq_false (by decide)]
        refine iteF ⟨_, rfl, a, _, _, _, rfl, rfl, sqt e, atI_nat (j := 0) rfl, rfl, _, rfl, ?_⟩
        rw [decide_eq_true rfl]
        exact iteT ⟨_, rfl, a, _, _, _, rfl, rfl, sqt e, atI_nat (j := 2) rfl, hk H x2 (Same.refl H) g2⟩
    | @run n l st t rs ht hr' hl =>
      cases hd with
      | @tup a xs _ n0 e h =>
        obtain ⟨x0, _, rfl, g0, h⟩ := dt1 h
        cases Dt.str_ g0
        refine ⟨_, rfl, a, _, _, _, rfl, rfl, sqt e, atI_nat (j := 0) rfl, rfl, _, rfl, ?_⟩
        rw [decide_eq_false (by decide)]
        refine iteF ⟨_, rfl, a, _, _, _, rfl, rfl, sqt e, atI_nat (j := 0) rfl, rfl, _, rfl, ?_⟩
        rw [decide_eq_false (by decide)]
        refine iteF ⟨by show 0 ≤ sizeLine; decide, fun p np => ?_⟩
        exact hk _ _ (same_upd np) (.tup ⟨hN p np, by simp⟩ upd_same .nil)
theorem sc_accesses : FnScope ["body", "found", "node"] ["body"] (defScope s_accesses) := ⟨rfl, rfl, rfl, by decide +kernel, rfl, by decide +kernel, by decide +kernel⟩
theorem ok_accesses (n : Nat) (F : FnP K "accesses" s_accesses [] f fd) (G : Facts mg) (C_body_of : Cal P w K mg base 1 "body_of" spBodyOf []) (C_accesses : ∀ m, n = m + 1 → Cal P w K mg base (m + 2) "accesses" (spItems accOf m) []) (c0 : n = 0 → Cal P w K mg base 1 "accesses" spNo []) : FnOk P w K mg base CX0 (n + 1 + 1) f fd ["body"] (spItems accOf n) := by
  refine F.ok sc_accesses (fun vs H Q E h => ?_) (fun cdv A outer s H vs Q E hr h => ?_)
  · obtain ⟨N, v, ds, rfl, _⟩ := h
    rfl
  · obtain ⟨N, v, ds, rfl, hd, hn, hsz, hN, hk⟩ := h
    have hu := hu_of hr
    obtain ⟨spc, lv, hlv, C_accesses, hspc⟩ : ∃ (spc : Sp) (lv : Nat), lv ≤ n + 1 ∧ Cal P w K mg base lv "accesses" spc [] ∧ ∀ m, n = m + 1 → spc = spItems accOf m := by
      cases n with
      | zero => exact ⟨_, _, Nat.le_refl _, c0 rfl, fun m e => by omega⟩
      | succ m =>
        refine ⟨_, _, Nat.le_refl _, C_accesses m rfl, fun m' e => ?_⟩
        cases e
        rfl
    refine ⟨_, PSs.nox (pss_cons (ps_set (i := 1) sc_accesses.nd rfl (.inl rfl) (pe_lst pa_nil))
      (pss_cons (ps_for PassesOwn.never rfl (kpi_tup K (pv 0)) (pg_name (i := 2) sc_accesses.nd rfl (by first | exact .inl rfl | exact .inr rfl))
        (pss_one (ps_if (pt_cmpR op_eq (pe_ix (kIxT K) (pv 2) pe_int (fun _ _ => rfl)) pe_str (nomark _)) (pss_cons (ps_expr (pe_bm PySem.F.plainAttrs_list PySem.F.slot_list_append PySem.F.type_list_append mt_append (pv 1) (pa_cons (pe_ix (kIxT K) (pv 2) pe_int (fun _ _ => rfl)) pa_nil)))
          (pss_one (ps_expr (pe_bm PySem.F.plainAttrs_list PySem.F.slot_list_extend PySem.F.type_list_extend mt_extendT (pv 1) (pa_cons (pe_ix (kIxT K) (pv 2) pe_int (fun _ _ => rfl)) pa_nil))))) (pss_one (ps_expr (pe_bm PySem.F.plainAttrs_list PySem.F.slot_list_extend PySem.F.type_list_extend mt_extend (pv 1) (pa_cons (pe_c C_accesses hr (by omega) (by rfl) (pa_cons (pe_c C_body_of hr (by omega) (by rfl) (pa_cons (pv 2) pa_nil)) pa_nil)) pa_nil)))))))
      (pss_one (ps_ret (pv 1))))), ?_⟩
    cases hd with
    | @tup a xs _ n0 e h =>
      have hl := h.len
      refine ⟨by show 0 ≤ sizeLine; decide, fun D nD => ?_⟩
      have h' := h.off nD
      have s1 := same_upd nD (o := .lst [])
      have hD1 : (upd H D (.lst [])) D = some (.lst []) := upd_same
      generalize upd H D (.lst []) = H1 at s1 hD1 ⊢
      refine ⟨_, rfl, a, rfl, ⟨_, sqt (s1 _ _ e)⟩, ?_⟩
      refine for_it (walk_tup (K := K) (a := a) (xs := xs)) (fun i σ H' => ∃ z2 out, σ = [some (.ref a), some (.ref D), z2] ∧ Same H H' ∧ H' D = some (.lst out) ∧ DtAll (fun b => N b ∧ b ≠ D) H' out ((ds.take i).flatMap (accOf n))) ⟨_, [], rfl, s1, hD1, .nil⟩ (fun i σ H' _ ⟨_, _, _, s, _⟩ => sqt (s _ _ e)) ?_ ?_
      · rintro i y σ H9 H2 hi ⟨z2, out, rfl, s2, hD2, hout⟩ ⟨rfl, ey⟩
        rw [hl] at hi
        obtain ⟨v', hv, hvd⟩ := h'.get (List.getElem?_eq_getElem hi)
        rw [hv] at ey
        cases ey
        have hx := hn _ (List.getElem_mem hi)
        have hvd2 := hvd.mono s2
        have hle : ((ds.take (i + 1)).flatMap (accOf n)).length ≤ 100000 := by
          have : (ds.flatMap (accOf n)).length = ((ds.take (i + 1)).flatMap (accOf n)).length + ((ds.drop (i + 1)).flatMap (accOf n)).length := by
            rw [← List.length_append, ← List.flatMap_append, List.take_append_drop]
          omega
        have hsn : (ds.take (i + 1)).flatMap (accOf n) = (ds.take i).flatMap (accOf n) ++ accOf n ds[i] := by rw [tsn hi, List.flatMap_append]; simp
        have hol := hout.len
        rw [hsn, List.length_append] at hle
        have fin : ∀ (us : List V) (H3 : Hp) (z2 : Option V), Same H2 H3 → DtAll (fun b => N b ∧ b ≠ D) H3 us (accOf n ds[i]) → ∃ z2' out', ([some (.ref a), some (.ref D), z2] : L2.St) = [some (.ref a), some (.ref D), z2'] ∧ Same H (upd H3 D (.lst (out ++ us))) ∧ (upd H3 D (.lst (out ++ us))) D = some (.lst out') ∧ DtAll (fun b => N b ∧ b ≠ D) (upd H3 D (.lst (out ++ us))) out' ((ds.take (i + 1)).flatMap (accOf n)) := fun us H3 z2 s3 hus => by
          refine ⟨z2, _, rfl, same_mut (s2.trans s3) nD, upd_same, ?_⟩
          rw [hsn]
          have kp : ∀ b o, (N b ∧ b ≠ D) → H3 b = some o → (upd H3 D (.lst (out ++ us))) b = some o := fun b o hb e => by rw [upd_ne hb.2]; exact e
          exact ((hout.mono s3).to (fun _ q => q) kp).app (hus.to (fun _ q => q) kp)
        have hN2 : ∀ a, H2 a = none → N a ∧ a ≠ D := fun a ha => ⟨hN a (s2.free ha), fun z => by rw [z, hD2] at ha; cases ha⟩
        generalize ds[i] = dx at hx hvd2 fin hle
        cases hx with
        | @run m l st t rs ht hr' hl6 =>
          cases hvd2 with
          | @tup ax xx _ n2 ex hx2 =>
            obtain ⟨x0, _, rfl, g0, hx2⟩ := dt1 hx2
            obtain ⟨x1, _, rfl, g1, hx2⟩ := dt1 hx2
            obtain ⟨x2, x3, x4, rfl, g2, g3, g4⟩ := dt3 hx2
            cases Dt.str_ g0
            refine ⟨_, rfl, ax, _, _, _, rfl, rfl, sqt ex, atI_nat (j := 0) rfl, rfl, _, rfl, ?_⟩
            rw [decide_eq_true rfl]
            have hle6 : out.length ≤ 100000 := by omega
            refine iteT ⟨_, rfl, .inl ⟨rfl, _, sq hD2⟩, _, rfl, ax, _, _, _, rfl, rfl, sqt ex, atI_nat (j := 3) rfl, D, out, x3, rfl, rfl, hD2, szlt (by omega), ?_⟩
            cases g4 with
            | @tup rx rxs _ n4 er hr4 =>
              have nrD : rx ≠ D := n4.1.2
              have hax : (upd H2 D (.lst (out ++ [x3]))) ax = some (.tup [.str "run", x1, x2, x3, .ref rx]) := by rw [upd_ne n2.1.2]; exact ex
              refine ⟨_, rfl, .inl ⟨rfl, _, sq upd_same⟩, _, rfl, ax, _, _, _, rfl, rfl, sqt hax, atI_nat (j := 4) rfl, ?_⟩
              have hrl := hr4.len
              refine ⟨D, rx, out ++ [x3], rxs, rfl, rfl, upd_same, by rw [upd_ne nrD]; exact er, szl (by rw [List.length_append, List.length_singleton]; omega), ?_⟩
              rw [upd_upd, List.append_assoc]
              exact fin ([x3] ++ rxs) H2 _ (Same.refl H2) (.cons g3 hr4)
        | @loop m c lo hi b bs hb =>
          have es := hspc m rfl
          subst es
          cases hvd2 with
          | @tup ax xx _ n2 ex hx2 =>
            have hv2 := Dt.tup n2 ex hx2
            obtain ⟨x0, _, rfl, g0, hx2⟩ := dt1 hx2
            cases Dt.str_ g0
            refine ⟨_, rfl, ax, _, _, _, rfl, rfl, sqt ex, atI_nat (j := 0) rfl, rfl, _, rfl, ?_⟩
            rw [decide_eq_false (by decide)]
            refine iteF ⟨_, rfl, .inl ⟨rfl, _, sq hD2⟩, _, rfl, (fun b => N b ∧ b ≠ D), _, _, _, rfl, hv2, .loop hb, hN2, fun H3 vb s3 hvb => ?_⟩
            have hN3 : ∀ a, H3 a = none → N a ∧ a ≠ D := fun a ha => hN2 a (s3.free ha)
            refine ⟨(fun b => N b ∧ b ≠ D), vb, bs, rfl, hvb, hb, by simp only [accOf] at hle; omega, hN3, fun H4 l us s4 nl hl4 hus => ?_⟩
            have hD4 := s4 _ _ (s3 _ _ hD2)
            have hul := hus.len
            refine ⟨D, l, out, us, rfl, rfl, hD4, hl4, szl (by simp only [accOf] at hle; omega), ?_⟩
            exact fin us H4 _ (s3.trans s4) (by simp only [accOf]; exact hus)
        | @test m rows bs hb =>
          have es := hspc m rfl
          subst es
          cases hvd2 with
          | @tup ax xx _ n2 ex hx2 =>
            have hv2 := Dt.tup n2 ex hx2
            obtain ⟨x0, _, rfl, g0, hx2⟩ := dt1 hx2
            cases Dt.str_ g0
            refine ⟨_, rfl, ax, _, _, _, rfl, rfl, sqt ex, atI_nat (j := 0) rfl, rfl, _, rfl, ?_⟩
            rw [decide_eq_false (by decide)]
            refine iteF ⟨_, rfl, .inl ⟨rfl, _, sq hD2⟩, _, rfl, (fun b => N b ∧ b ≠ D), _, _, _, rfl, hv2, .test hb, hN2, fun H3 vb s3 hvb => ?_⟩
            have hN3 : ∀ a, H3 a = none → N a ∧ a ≠ D := fun a ha => hN2 a (s3.free ha)
            refine ⟨(fun b => N b ∧ b ≠ D), vb, bs, rfl, hvb, hb, by simp only [accOf] at hle; omega, hN3, fun H4 l us s4 nl hl4 hus => ?_⟩
            have hD4 := s4 _ _ (s3 _ _ hD2)
            have hul := hus.len
            refine ⟨D, l, out, us, rfl, rfl, hD4, hl4, szl (by simp only [accOf] at hle; omega), ?_⟩
            exact fin us H4 _ (s3.trans s4) (by simp only [accOf]; exact hus)
      rintro σ H2 ⟨z2, out, rfl, s2, hD2, hout⟩
      rw [hl, List.take_length] at hout
      exact ⟨_, rfl, hk H2 D out s2 nD hD2 (hout.to (fun _ q => q.1) fun _ _ _ e => e)⟩
end
end K1

namespace K1
open PySem PySem.Spec PyProof.Rows L2 Ls
/-- one form for each name -/
def oneStep (kv : List (Str × PyData)) (p : Str × PyData) : Option (List (Str × PyData)) := match kv.lookup p.1 with
  | some d => if PyData.eqv d p.2 = true then some kv else none
  | none => some (kv ++ [p])
def oneForm (ps : List (Str × PyData)) : Option (List (Str × PyData)) := ps.foldlM oneStep []
def pairD (p : Str × PyData) : PyData := .tuple [.str p.1, p.2]
/-- a dict of data -/
def DtD (N : Addr → Prop) (H : Hp) (D : Addr) (kv : List (Str × PyData)) : Prop := ∃ kvs : List (Key × V), H D = some (.dK kvs) ∧ Paired (fun (a : Key × V) (b : Str × PyData) => a.1 = (Sum.inr b.1 : Key) ∧ Dt N H a.2 b.2) kvs kv
theorem lk_of {N : Addr → Prop} {H : Hp} {nm : Str} {v : V} : ∀ {kvs : List (Key × V)} {kv : List (Str × PyData)}, Paired (fun (a : Key × V) (b : Str × PyData) => a.1 = (Sum.inr b.1 : Key) ∧ Dt N H a.2 b.2) kvs kv → valV kvs (Sum.inr nm : Key) = some v → ∃ d, kv.lookup nm = some d ∧ (nm, d) ∈ kv ∧ Dt N H v d
  | _, _, .nil, e => by cases e
  | a :: kvs, b :: kv, .cons r t, e => by
    by_cases c : a.1 = (Sum.inr nm : Key)
    · rw [valV_pos c] at e
      cases e
      have : b.1 = nm := by rw [r.1] at c; injection c
      subst this
      exact ⟨b.2, by simp [List.lookup], List.mem_cons_self, r.2⟩
    · rw [valV_neg c] at e
      obtain ⟨d, h1, h2, h3⟩ := lk_of t e
      have hne : ¬ nm = b.1 := fun z => c (by rw [r.1, z])
      have : (nm == b.1) = false := beq_eq_false_iff_ne.mpr hne
      exact ⟨d, by rw [List.lookup_cons, this]; exact h1, List.mem_cons_of_mem _ h2, h3⟩
theorem lk_none {N : Addr → Prop} {H : Hp} {nm : Str} : ∀ {kvs : List (Key × V)} {kv : List (Str × PyData)}, Paired (fun (a : Key × V) (b : Str × PyData) => a.1 = (Sum.inr b.1 : Key) ∧ Dt N H a.2 b.2) kvs kv → valV kvs (Sum.inr nm : Key) = none → kv.lookup nm = none
  | _, _, .nil, e => rfl
  | a :: kvs, b :: kv, .cons r t, e => by
    by_cases c : a.1 = (Sum.inr nm : Key)
    · rw [valV_pos c] at e
      cases e
    · rw [valV_neg c] at e
      have hne : ¬ nm = b.1 := fun z => c (by rw [r.1, z])
      have : (nm == b.1) = false := beq_eq_false_iff_ne.mpr hne
      rw [List.lookup_cons, this]
      exact lk_none t e
theorem papp {α β : Type} {F : α → β → Prop} : ∀ {xs us : List α} {ys zs : List β}, Paired F xs ys → Paired F us zs → Paired F (xs ++ us) (ys ++ zs)
  | _, _, _, _, .nil, h => h
  | _, _, _, _, .cons r t, h => .cons r (papp t h)
def spOneForm : Sp := fun vs H Q _ => ∃ (N : Addr → Prop) (l : Addr) (xs : List V) (ps : List (Str × PyData)), vs = [.ref l] ∧ H l = some (.lst xs) ∧ DtAll N H xs (ps.map pairD) ∧ ps.length ≤ 100000 ∧ (∀ p ∈ ps, PyData.depth p.2 ≤ 60) ∧ 
  (oneForm ps = none → ∀ H', Same H H' → Q .non H') ∧ ∀ kv, oneForm ps = some kv → ∀ H' D, Same H H' → H D = none → DtD N H' D kv → Q (.ref D) H'
section
variable {P : Program} {w : World} {K : PySem.W.Frag} {mg : Str → Option Value} {base : Heap} {f W fA fC fD : Addr} {S S2 : Addr → Option Sp} {fd : FuncData} {k : Nat}
theorem sc_forms : FnScope ["body", "found", "node"] ["body"] (defScope s_forms) := ⟨rfl, rfl, rfl, by decide +kernel, rfl, by decide +kernel, by decide +kernel⟩
theorem ok_forms (n : Nat) (F : FnP K "forms" s_forms [] f fd) (G : Facts mg) (C_body_of : Cal P w K mg base 1 "body_of" spBodyOf []) (C_forms : ∀ m, n = m + 1 → Cal P w K mg base (m + 2) "forms" (spItems frmOf m) []) (c0 : n = 0 → Cal P w K mg base 1 "forms" spNo []) : FnOk P w K mg base CX0 (n + 1 + 1) f fd ["body"] (spItems frmOf n) := by
  refine F.ok sc_forms (fun vs H Q E h => ?_) (fun cdv A outer s H vs Q E hr h => ?_)
  · obtain ⟨N, v, ds, rfl, _⟩ := h
    rfl
  · obtain ⟨N, v, ds, rfl, hd, hn, hsz, hN, hk⟩ := h
    have hu := hu_of hr
    obtain ⟨spc, lv, hlv, C_forms, hspc⟩ : ∃ (spc : Sp) (lv : Nat), lv ≤ n + 1 ∧ Cal P w K mg base lv "forms" spc [] ∧ ∀ m, n = m + 1 → spc = spItems frmOf m := by
      cases n with
      | zero => exact ⟨_, _, Nat.le_refl _, c0 rfl, fun m e => by omega⟩
      | succ m =>
        refine ⟨_, _, Nat.le_refl _, C_forms m rfl, fun m' e => ?_⟩
        cases e
        rfl
    refine ⟨_, PSs.nox (pss_cons (ps_set (i := 1) sc_forms.nd rfl (.inl rfl) (pe_lst pa_nil))
      (pss_cons (ps_for PassesOwn.never rfl (kpi_tup K (pv 0)) (pg_name (i := 2) sc_forms.nd rfl (by first | exact .inl rfl | exact .inr rfl))
        (pss_one (ps_if (pt_cmpR op_eq (pe_ix (kIxT K) (pv 2) pe_int (fun _ _ => rfl)) pe_str (nomark _)) (pss_one (ps_expr (pe_bm PySem.F.plainAttrs_list PySem.F.slot_list_append PySem.F.type_list_append mt_append (pv 1) (pa_cons (pe_tup (pa_cons (pe_ix (kIxT K) (pv 2) pe_int (fun _ _ => rfl)) (pa_cons (pe_tup (pa_cons (pe_callB (kLen K) (by rfl) G.len_ PySem.boot_len (pa_cons (pe_ix (kIxT K) (pv 2) pe_int (fun _ _ => rfl)) pa_nil)) (pa_cons (pe_callB (kLen K) (by rfl) G.len_ PySem.boot_len (pa_cons (pe_ix (kIxT K) (pv 2) pe_int (fun _ _ => rfl)) pa_nil)) pa_nil))) pa_nil))) pa_nil)))) (pss_one (ps_expr (pe_bm PySem.F.plainAttrs_list PySem.F.slot_list_extend PySem.F.type_list_extend mt_extend (pv 1) (pa_cons (pe_c C_forms hr (by omega) (by rfl) (pa_cons (pe_c C_body_of hr (by omega) (by rfl) (pa_cons (pv 2) pa_nil)) pa_nil)) pa_nil)))))))
      (pss_one (ps_ret (pv 1))))), ?_⟩
    cases hd with
    | @tup a xs _ n0 e h =>
      have hl := h.len
      refine ⟨by show 0 ≤ sizeLine; decide, fun D nD => ?_⟩
      have h' := h.off nD
      have s1 := same_upd nD (o := .lst [])
      have hD1 : (upd H D (.lst [])) D = some (.lst []) := upd_same
      generalize upd H D (.lst []) = H1 at s1 hD1 ⊢
      refine ⟨_, rfl, a, rfl, ⟨_, sqt (s1 _ _ e)⟩, ?_⟩
      refine for_it (walk_tup (K := K) (a := a) (xs := xs)) (fun i σ H' => ∃ z2 out, σ = [some (.ref a), some (.ref D), z2] ∧ Same H H' ∧ H' D = some (.lst out) ∧ DtAll (fun b => N b ∧ b ≠ D) H' out ((ds.take i).flatMap (frmOf n))) ⟨_, [], rfl, s1, hD1, .nil⟩ (fun i σ H' _ ⟨_, _, _, s, _⟩ => sqt (s _ _ e)) ?_ ?_
      · rintro i y σ H9 H2 hi ⟨z2, out, rfl, s2, hD2, hout⟩ ⟨rfl, ey⟩
        rw [hl] at hi
        obtain ⟨v', hv, hvd⟩ := h'.get (List.getElem?_eq_getElem hi)
        rw [hv] at ey
        cases ey
        have hx := hn _ (List.getElem_mem hi)
        have hvd2 := hvd.mono s2
        have hle : ((ds.take (i + 1)).flatMap (frmOf n)).length ≤ 100000 := by
          have : (ds.flatMap (frmOf n)).length = ((ds.take (i + 1)).flatMap (frmOf n)).length + ((ds.drop (i + 1)).flatMap (frmOf n)).length := by
            rw [← List.length_append, ← List.flatMap_append, List.take_append_drop]
          omega
        have hsn : (ds.take (i + 1)).flatMap (frmOf n) = (ds.take i).flatMap (frmOf n) ++ frmOf n ds[i] := by rw [tsn hi, List.flatMap_append]; simp
        have hol := hout.len
        rw [hsn, List.length_append] at hle
        have fin : ∀ (us : List V) (H3 : Hp) (z2 : Option V), Same H2 H3 → DtAll (fun b => N b ∧ b ≠ D) H3 us (frmOf n ds[i]) → ∃ z2' out', ([some (.ref a), some (.ref D), z2] : L2.St) = [some (.ref a), some (.ref D), z2'] ∧ Same H (upd H3 D (.lst (out ++ us))) ∧ (upd H3 D (.lst (out ++ us))) D = some (.lst out') ∧ DtAll (fun b => N b ∧ b ≠ D) (upd H3 D (.lst (out ++ us))) out' ((ds.take (i + 1)).flatMap (frmOf n)) := fun us H3 z2 s3 hus => by
          refine ⟨z2, _, rfl, same_mut (s2.trans s3) nD, upd_same, ?_⟩
          rw [hsn]
          have kp : ∀ b o, (N b ∧ b ≠ D) → H3 b = some o → (upd H3 D (.lst (out ++ us))) b = some o := fun b o hb e => by rw [upd_ne hb.2]; exact e
          exact ((hout.mono s3).to (fun _ q => q) kp).app (hus.to (fun _ q => q) kp)
        have hN2 : ∀ a, H2 a = none → N a ∧ a ≠ D := fun a ha => ⟨hN a (s2.free ha), fun z => by rw [z, hD2] at ha; cases ha⟩
        generalize ds[i] = dx at hx hvd2 fin hle
        cases hx with
        | @run m l st t rs ht hr' hl6 =>
          cases hvd2 with
          | @tup ax xx _ n2 ex hx2 =>
            obtain ⟨x0, _, rfl, g0, hx2⟩ := dt1 hx2
            obtain ⟨x1, _, rfl, g1, hx2⟩ := dt1 hx2
            obtain ⟨x2, x3, x4, rfl, g2, g3, g4⟩ := dt3 hx2
            cases Dt.str_ g0
            refine ⟨_, rfl, ax, _, _, _, rfl, rfl, sqt ex, atI_nat (j := 0) rfl, rfl, _, rfl, ?_⟩
            rw [decide_eq_true rfl]
            have hle6 : out.length < 100000 := by simp only [frmOf, List.length_singleton] at hle; omega
            cases g4 with
            | @tup rx rxs _ n4 er hr4 =>
              cases g2 with
              | @tup sx sxs _ n5 es hs2 =>
                refine iteT ⟨_, rfl, .inl ⟨rfl, _, sq hD2⟩, _, rfl, ax, _, _, _, rfl, rfl, sqt ex, atI_nat (j := 1) rfl, ?_⟩
                refine ⟨_, rfl, ax, _, _, _, rfl, rfl, sqt ex, atI_nat (j := 2) rfl, sx, _, rfl, .inr (sqt es), ?_⟩
                refine ⟨_, rfl, ax, _, _, _, rfl, rfl, sqt ex, atI_nat (j := 4) rfl, rx, _, rfl, .inr (sqt er), ?_⟩
                refine ⟨by show 2 ≤ sizeLine; decide, fun p np => ?_⟩
                have t1 := same_upd np (o := .tup [V.int sxs.length, .int rxs.length])
                refine ⟨by show 2 ≤ sizeLine; decide, fun q nq => ?_⟩
                have t2 := t1.trans (same_upd nq (o := .tup [x1, .ref p]))
                have hp2 : (upd (upd H2 p (.tup [V.int sxs.length, .int rxs.length])) q (.tup [x1, .ref p])) p = some (.tup [V.int sxs.length, .int rxs.length]) := (same_upd nq) _ _ upd_same
                have hq2 : (upd (upd H2 p (.tup [V.int sxs.length, .int rxs.length])) q (.tup [x1, .ref p])) q = some (.tup [x1, .ref p]) := upd_same
                have hNp := hN2 p np
                have hNq := hN2 q (t1.free nq)
                generalize upd (upd H2 p (.tup [V.int sxs.length, .int rxs.length])) q (.tup [x1, .ref p]) = H3 at t2 hp2 hq2
                refine ⟨D, out, .ref q, rfl, rfl, t2 _ _ hD2, szlt (by omega), ?_⟩
                refine fin [.ref q] H3 _ t2 ?_
                simp only [frmOf]
                rw [← hs2.len, ← hr4.len]
                exact .cons (.tup ⟨hNq, by simp⟩ hq2 (.cons (g1.mono t2) (.cons (.tup ⟨hNp, by simp⟩ hp2 (.cons (.int _) (.cons (.int _) .nil))) .nil))) .nil
        | @loop m c lo hi b bs hb =>
          have es := hspc m rfl
          subst es
          cases hvd2 with
          | @tup ax xx _ n2 ex hx2 =>
            have hv2 := Dt.tup n2 ex hx2
            obtain ⟨x0, _, rfl, g0, hx2⟩ := dt1 hx2
            cases Dt.str_ g0
            refine ⟨_, rfl, ax, _, _, _, rfl, rfl, sqt ex, atI_nat (j := 0) rfl, rfl, _, rfl, ?_⟩
            rw [decide_eq_false (by decide)]
            refine iteF ⟨_, rfl, .inl ⟨rfl, _, sq hD2⟩, _, rfl, (fun b => N b ∧ b ≠ D), _, _, _, rfl, hv2, .loop hb, hN2, fun H3 vb s3 hvb => ?_⟩
            have hN3 : ∀ a, H3 a = none → N a ∧ a ≠ D := fun a ha => hN2 a (s3.free ha)
            refine ⟨(fun b => N b ∧ b ≠ D), vb, bs, rfl, hvb, hb, by simp only [frmOf] at hle; omega, hN3, fun H4 l us s4 nl hl4 hus => ?_⟩
            have hD4 := s4 _ _ (s3 _ _ hD2)
            have hul := hus.len
            refine ⟨D, l, out, us, rfl, rfl, hD4, hl4, szl (by simp only [frmOf] at hle; omega), ?_⟩
            exact fin us H4 _ (s3.trans s4) (by simp only [frmOf]; exact hus)
        | @test m rows bs hb =>
          have es := hspc m rfl
          subst es
          cases hvd2 with
          | @tup ax xx _ n2 ex hx2 =>
            have hv2 := Dt.tup n2 ex hx2
            obtain ⟨x0, _, rfl, g0, hx2⟩ := dt1 hx2
            cases Dt.str_ g0
            refine ⟨_, rfl, ax, _, _, _, rfl, rfl, sqt ex, atI_nat (j := 0) rfl, rfl, _, rfl, ?_⟩
            rw [decide_eq_false (by decide)]
            refine iteF ⟨_, rfl, .inl ⟨rfl, _, sq hD2⟩, _, rfl, (fun b => N b ∧ b ≠ D), _, _, _, rfl, hv2, .test hb, hN2, fun H3 vb s3 hvb => ?_⟩
            have hN3 : ∀ a, H3 a = none → N a ∧ a ≠ D := fun a ha => hN2 a (s3.free ha)
            refine ⟨(fun b => N b ∧ b ≠ D), vb, bs, rfl, hvb, hb, by simp only [frmOf] at hle; omega, hN3, fun H4 l us s4 nl hl4 hus => ?_⟩
            have hD4 := s4 _ _ (s3 _ _ hD2)
            have hul := hus.len
            refine ⟨D, l, out, us, rfl, rfl, hD4, hl4, szl (by simp only [frmOf] at hle; omega), ?_⟩
            exact fin us H4 _ (s3.trans s4) (by simp only [frmOf]; exact hus)
      rintro σ H2 ⟨z2, out, rfl, s2, hD2, hout⟩
      rw [hl, List.take_length] at hout
      exact ⟨_, rfl, hk H2 D out s2 nD hD2 (hout.to (fun _ q => q.1) fun _ _ _ e => e)⟩
theorem sc_one_form : FnScope ["pairs", "found", "name", "form"] ["pairs"] (defScope s_one_form) := ⟨rfl, rfl, rfl, by decide +kernel, rfl, by decide +kernel, by decide +kernel⟩
theorem ok_one_form (F : FnP K "one_form" s_one_form [] f fd) (G : Facts mg) : FnOk P w K mg base CX0 1 f fd ["pairs"] spOneForm := by
  refine F.ok sc_one_form (fun vs H Q E h => ?_) (fun cdv A outer s H vs Q E hr h => ?_)
  · obtain ⟨N, l, xs, ps, rfl, _⟩ := h
    rfl
  · obtain ⟨N, l, xs, ps, rfl, hlx, hxs, hsz, hdp, hk0, hk⟩ := h
    have hu := hu_of hr
    have hl := hxs.len
    rw [List.length_map] at hl
    refine ⟨_, PSs.nox (pss_cons (ps_set (i := 1) sc_one_form.nd rfl (.inl rfl) pe_dnewK)
      (pss_cons (ps_for PassesOwn.never rfl (kpi_list K (pv 0)) (kpg_tup K rfl (pgs_cons (pg_name (i := 2) sc_one_form.nd rfl (by first | exact .inl rfl | exact .inr rfl)) (pgs_cons (pg_name (i := 3) sc_one_form.nd rfl (by first | exact .inl rfl | exact .inr rfl)) pgs_nil)))
        (pss_one (ps_if (pt_cmpR (kNeD K hr.units) (pe_bm PySem.F.plainAttrs_dict PySem.F.slot_dict_setdefault PySem.F.type_dict_setdefault mt_setdefault (pv 1) (pa_cons (pv 2) (pa_cons (pv 3) pa_nil))) (pv 3) (nomark _)) (pss_one (ps_ret pe_non)) pss_nil)))
      (pss_one (ps_ret (pv 1))))), ?_⟩
    intro D nD
    have hxs' := hxs.off nD
    have s1 := same_upd nD (o := .dK [])
    have hD1 : (upd H D (.dK [])) D = some (.dK []) := upd_same
    generalize upd H D (.dK []) = H1 at s1 hD1 ⊢
    refine ⟨_, rfl, l, rfl, ⟨_, sq (s1 _ _ hlx)⟩, ?_⟩
    refine for_it (walk_list (K := K) (a := l) (xs := xs)) (fun i σ H' => ∃ z2 z3 kv, σ = [some (.ref l), some (.ref D), z2, z3] ∧ Same H H' ∧ (ps.take i).foldlM oneStep [] = some kv ∧ kv.length ≤ i ∧ (∀ p ∈ kv, PyData.depth p.2 ≤ 60) ∧ DtD (fun b => N b ∧ b ≠ D) H' D kv) ⟨_, _, [], rfl, s1, rfl, Nat.le_refl _, (fun p hp => by cases hp), [], hD1, .nil⟩ (fun i σ H' _ ⟨_, _, _, _, s, _⟩ => sq (s _ _ hlx)) ?_ ?_
    · rintro i y σ H9 H2 hi ⟨z2, z3, kv, rfl, s2, hkv, hkl, hkd, kvs, hD2, hkvs⟩ ⟨rfl, ey⟩
      rw [hl] at hi
      obtain ⟨v', hv, hvd⟩ := hxs'.get (show (ps.map pairD)[i]? = some (pairD ps[i]) by rw [List.getElem?_map, List.getElem?_eq_getElem hi]; rfl)
      rw [hv] at ey
      cases ey
      have hvd2 := hvd.mono s2
      have hdp2 := hdp _ (List.getElem_mem hi)
      have hsn : (ps.take (i + 1)).foldlM oneStep [] = oneStep kv ps[i] := by
        rw [tsn hi, List.foldlM_append, hkv]
        simp
      have hnone : oneStep kv ps[i] = none → oneForm ps = none := fun e => by
        unfold oneForm
        rw [← List.take_append_drop (i + 1) ps, List.foldlM_append, hsn, e]
        rfl
      generalize ps[i] = p at hvd2 hdp2 hsn hnone
      obtain ⟨nm, d⟩ := p
      cases hvd2 with
      | @tup t ts _ n0 et ht =>
        obtain ⟨x0, x1, rfl, g0, g1⟩ := dt2 ht
        cases Dt.str_ g0
        have hkl2 := plen hkvs
        have shp : SeqAt.shaped d = true := Bool.and_eq_true_iff.mpr ⟨g1.lay, decide_eq_true (Nat.le_trans hdp2 (by decide))⟩
        refine ⟨t, _, rfl, sqt et, rfl, _, _, rfl, _, _, rfl, rfl, ?_⟩
        refine ⟨_, rfl, .inr (.inr (.inl ⟨rfl, .inl ⟨_, hD2⟩⟩)), _, rfl, _, rfl, D, kvs, (Sum.inr nm : Key), x1, rfl, rfl, hD2, szlt (by omega), fun v hv => ?_, fun hn => ?_⟩
        · obtain ⟨d0, e0, hm, g⟩ := lk_of hkvs hv
          have sh0 : SeqAt.shaped d0 = true := Bool.and_eq_true_iff.mpr ⟨g.lay, decide_eq_true (Nat.le_trans (hkd _ hm) (by decide))⟩
          refine ⟨_, rfl, d0, d, g.dp, g1.dp, sh0, shp, _, rfl, ?_⟩
          cases eq : PyData.eqv d0 d with
          | true => exact iteF ⟨_, _, kv, rfl, s2, by rw [hsn]; simp only [oneStep, e0, eq, if_true], by omega, hkd, kvs, hD2, hkvs⟩
          | false => exact iteT (hk0 (hnone (by simp only [oneStep, e0, eq, Bool.false_eq_true, if_false])) H2 s2)
        · have e0 := lk_none hkvs hn
          have kp : ∀ b o, (N b ∧ b ≠ D) → H2 b = some o → (upd H2 D (.dK (putK kvs (Sum.inr nm : Key) x1))) b = some o := fun b o hb e => by rw [upd_ne hb.2]; exact e
          have g1' := g1.to (fun _ q => q) kp
          refine ⟨_, rfl, d, d, g1'.dp, g1'.dp, shp, shp, _, rfl, ?_⟩
          rw [PySem.SeqAt.eqv_refl d g1.lay]
          refine iteF ⟨_, _, kv ++ [(nm, d)], rfl, same_mut s2 nD, by rw [hsn]; simp only [oneStep, e0], by rw [List.length_append, List.length_singleton]; omega, fun p hp => ?_, _, upd_same, ?_⟩
          · rcases List.mem_append.mp hp with hp | hp
            · exact hkd p hp
            · rw [List.mem_singleton.mp hp]; exact hdp2
          · rw [putK_new _ hn] at kp g1' ⊢
            exact papp (pmono (fun _ _ q => ⟨q.1, q.2.to (fun _ q => q) kp⟩) hkvs) (.cons ⟨rfl, g1'⟩ .nil)
    rintro σ H2 ⟨z2, z3, kv, rfl, s2, hkv, hkl, hkd, kvs, hD2, hkvs⟩
    rw [hl, List.take_length] at hkv
    exact ⟨_, rfl, hk kv hkv H2 D s2 nD ⟨kvs, hD2, pmono (fun _ _ q => ⟨q.1, q.2.to (fun _ q => q.1) fun _ _ _ e => e⟩) hkvs⟩⟩
end
end K1

/-! ### comprehensions with two clauses, by walks -/
namespace Ls
open PySem PySem.Spec PyProof.Rows L2
section
variable {J J1 : It} {n n1 : Nat} {G G1 : Hp → Prop} {Y Y1 : Nat → Hp → V → Hp → Prop}
theorem lc_in (w : Walk J1 n1 G1 Y1) {g1 : TG} {tt1 : TT} {te : TE} {vs1 : List Nat} {σ2 : L2.St} {H4 : Hp} {D : Addr} {Nx : Hp → Prop} (Pv : Nat → Hp → Prop) (h0 : Pv 0 H4) (hG : ∀ i H, i ≤ n1 → Pv i H → G1 H)
    (hs : ∀ j x H H', j < n1 → Pv j H → Y1 j H x H' → g1 x (wipe σ2 vs1) H' fun σ3 H5 => wipe σ3 vs1 = wipe σ2 vs1 ∧ tt1 σ3 H5 fun b H6 =>
        if b = true then te σ3 H6 fun y H7 => ∃ acc, H7 D = some (.lst acc) ∧ acc.length < sizeLine ∧ Pv (j + 1) (upd H7 D (.lst (acc ++ [y]))) else Pv (j + 1) H6) (hd : ∀ H, Pv n1 H → Nx H) :
    ∃ W1 : Nat → Nat → Hp → Prop, (∃ m, W1 0 m H4) ∧ ∀ j k H, W1 j k H →
      (J1.stop j H ∧ Nx H) ∨ (J1.go j H ∧ ∃ Nx1 : Hp → Prop, (∀ H', Nx1 H' → ∃ k', k' < k ∧ W1 (j + 1) k' H') ∧ ∀ x H', J1.yld j H x H' → g1 x (wipe σ2 vs1) H' fun σ3 H5 => wipe σ3 vs1 = wipe σ2 vs1 ∧ tt1 σ3 H5 fun b H6 =>
        if b = true then te σ3 H6 fun y H7 => ∃ acc, H7 D = some (.lst acc) ∧ acc.length < sizeLine ∧ Nx1 (upd H7 D (.lst (acc ++ [y]))) else Nx1 H6) :=
  ⟨fun i m H => m = n1 - i ∧ i ≤ n1 ∧ Pv i H, ⟨n1, (Nat.sub_zero n1).symm, Nat.zero_le _, h0⟩, fun i m H ⟨e, hi, p⟩ => by
    have q := hG i H hi p
    rcases Nat.lt_or_ge i n1 with hlt | hge
    · exact .inr ⟨w.goes i H hlt q, Pv (i + 1), fun H' p' => ⟨n1 - (i + 1), by omega, rfl, hlt, p'⟩, fun x H' y => hs i x H H' hlt p (w.yields i H x H' hlt q y)⟩
    · have e : i = n1 := Nat.le_antisymm hi hge
      subst e
      exact .inl ⟨w.stops H q, hd H p⟩⟩
theorem lc2_it (w : Walk J n G Y) {g : TG} {tt : TT} {wi1 : TI} {g1 : TG} {tt1 : TT} {te : TE} {vs vs1 : List Nat} {σ : L2.St} {H1 : Hp} {D : Addr} {Qd : Hp → Prop} (Pv : Nat → Hp → Prop) (h0 : Pv 0 (upd H1 D (.lst []))) (hG : ∀ i H, i ≤ n → Pv i H → G H)
    (hs : ∀ i x H H', i < n → Pv i H → Y i H x H' → g x (wipe σ vs) H' fun σ2 H2 => wipe σ2 vs = wipe σ vs ∧ tt σ2 H2 fun b H3 =>
      if b = true then wi1 σ2 H3 fun J1 H4 => ∃ W1 : Nat → Nat → Hp → Prop, (∃ m, W1 0 m H4) ∧ ∀ j k H, W1 j k H →
        (J1.stop j H ∧ Pv (i + 1) H) ∨ (J1.go j H ∧ ∃ Nx1 : Hp → Prop, (∀ H', Nx1 H' → ∃ k', k' < k ∧ W1 (j + 1) k' H') ∧ ∀ x H', J1.yld j H x H' → g1 x (wipe σ2 vs1) H' fun σ3 H5 => wipe σ3 vs1 = wipe σ2 vs1 ∧ tt1 σ3 H5 fun b H6 =>
          if b = true then te σ3 H6 fun y H7 => ∃ acc, H7 D = some (.lst acc) ∧ acc.length < sizeLine ∧ Nx1 (upd H7 D (.lst (acc ++ [y]))) else Nx1 H6)
      else Pv (i + 1) H3) (hd : ∀ H, Pv n H → Qd H) :
    ∃ W : Nat → Nat → Hp → Prop, (∃ m, W 0 m (upd H1 D (.lst []))) ∧ ∀ i m H, W i m H →
      (J.stop i H ∧ Qd H) ∨ (J.go i H ∧ ∃ Nx : Hp → Prop, (∀ H', Nx H' → ∃ m', m' < m ∧ W (i + 1) m' H') ∧ ∀ x H', J.yld i H x H' → g x (wipe σ vs) H' fun σ2 H2 => wipe σ2 vs = wipe σ vs ∧ tt σ2 H2 fun b H3 =>
        if b = true then wi1 σ2 H3 fun J1 H4 => ∃ W1 : Nat → Nat → Hp → Prop, (∃ m, W1 0 m H4) ∧ ∀ j k H, W1 j k H →
          (J1.stop j H ∧ Nx H) ∨ (J1.go j H ∧ ∃ Nx1 : Hp → Prop, (∀ H', Nx1 H' → ∃ k', k' < k ∧ W1 (j + 1) k' H') ∧ ∀ x H', J1.yld j H x H' → g1 x (wipe σ2 vs1) H' fun σ3 H5 => wipe σ3 vs1 = wipe σ2 vs1 ∧ tt1 σ3 H5 fun b H6 =>
            if b = true then te σ3 H6 fun y H7 => ∃ acc, H7 D = some (.lst acc) ∧ acc.length < sizeLine ∧ Nx1 (upd H7 D (.lst (acc ++ [y]))) else Nx1 H6)
        else Nx H3) :=
  ⟨fun i m H => m = n - i ∧ i ≤ n ∧ Pv i H, ⟨n, (Nat.sub_zero n).symm, Nat.zero_le _, h0⟩, fun i m H ⟨e, hi, p⟩ => by
    have q := hG i H hi p
    rcases Nat.lt_or_ge i n with hlt | hge
    · exact .inr ⟨w.goes i H hlt q, Pv (i + 1), fun H' p' => ⟨n - (i + 1), by omega, rfl, hlt, p'⟩, fun x H' y => hs i x H H' hlt p (w.yields i H x H' hlt q y)⟩
    · have e : i = n := Nat.le_antisymm hi hge
      subst e
      exact .inl ⟨w.stops H q, hd H p⟩⟩
end
end Ls

namespace K1
open PySem PySem.Spec PyProof.Rows L2 Ls
/-! ### names, rooms -/
def isNames : PyData → Bool
  | .tuple ds => ds.all isWord && nodupB (ds.map keyI)
  | _ => false
/-- rooms as they are handed in -/
inductive Rooms where
  | no (d : PyData)
  | dict (kv : List (Key × PyData))
def keyData : Key → PyData
  | .inl i => .int i
  | .inr x => .str x
inductive RmAt (N : Addr → Prop) (H : Hp) : V → Rooms → Prop where
  | no {v : V} {d : PyData} (h : Dt N H v d) : RmAt N H v (.no d)
  | dict {a : Addr} {kvs : List (Key × V)} {kv : List (Key × PyData)} (n : N a) (e : H a = some (.dK kvs)) (h : Paired (fun (a : Key × V) (b : Key × PyData) => a.1 = b.1 ∧ Dt N H a.2 b.2) kvs kv) (hk : ∀ p ∈ kv, Dt N H (kV p.1) (keyData p.1)) (hl : kv.length ≤ 1000) : RmAt N H (.ref a) (.dict kv)
theorem RmAt.to {N M : Addr → Prop} {H H' : Hp} (hn : ∀ a, N a → M a) (s : ∀ b o, N b → H b = some o → H' b = some o) {v : V} {r : Rooms} (h : RmAt N H v r) : RmAt M H' v r := by
  cases h with
  | no h => exact .no (h.to hn s)
  | dict n e h hk hl => exact .dict (hn _ n) (s _ _ n e) (pmono (fun _ _ q => ⟨q.1, q.2.to hn s⟩) h) (fun p hp => (hk p hp).to hn s) hl
theorem RmAt.mono {N : Addr → Prop} {H H' : Hp} (s : Same H H') {v : V} {r : Rooms} (h : RmAt N H v r) : RmAt N H' v r := h.to (fun _ n => n) fun b o _ e => s b o e
def pair2 : PyData → Bool
  | .tuple [_, _] => true
  | _ => false
def endsOf : PyData → List PyData
  | .tuple es => es
  | _ => []
def roomOk (sizes : List Str) : PyData → Bool
  | .tuple ps => !decide ((4 : Int) < (ps.length : Int)) && (ps.all pair2 && (ps.flatMap endsOf).all fun e => isAtom e sizes)
  | _ => false
def areRooms (sizes : List Str) : Rooms → Bool
  | .no _ => false
  | .dict kv => kv.all fun p => isWord (keyData p.1) && roomOk sizes p.2
def spRooms : Sp := fun vs H Q _ => ∃ (N : Addr → Prop) (v : V) (nt : Addr) (r : Rooms) (sizes : List Str), vs = [v, .ref nt] ∧ RmAt N H v r ∧ H nt = some (.tup (sizes.map V.str)) ∧ sizes.length ≤ 1000 ∧ ∀ H', Same H H' → Q (.bl (areRooms sizes r)) H'
theorem same_frz {H H' : Hp} {d : Addr} {od : Obj} {u : HO} (hd : H d = some u) (s : Same (upd H d (.frz od u)) H') : Same H (upd H' d u) := fun b o e => by
  by_cases c : b = d
  · subst c
    rw [hd] at e
    rw [upd_same]
    exact e
  · rw [upd_ne c]
    exact s b o (by rw [upd_ne c]; exact e)
theorem flat2 {α β : Type} {f : α → List β} : ∀ {l : List α}, (∀ x ∈ l, (f x).length ≤ 2) → (l.flatMap f).length ≤ 2 * l.length
  | [], _ => Nat.le_refl 0
  | a :: l, h => by
    rw [List.flatMap_cons, List.length_append, List.length_cons]
    have h1 := h a List.mem_cons_self
    have h2 := flat2 (l := l) fun x hx => h x (List.mem_cons_of_mem _ hx)
    omega
theorem word_keyI {ds : List PyData} (h : ∀ d ∈ ds, isWord d = true) {N : Addr → Prop} {H : Hp} : ∀ {xs : List V}, DtAll N H xs ds → xs = (ds.map keyI).map kV := by
  induction ds with
  | nil => intro xs hx; cases hx; rfl
  | cons d ds ih =>
    intro xs hx
    cases hx with
    | cons g t =>
      obtain ⟨x, rfl⟩ := isWord_str (h d List.mem_cons_self)
      cases Dt.str_ g
      rw [ih (fun d hd => h d (List.mem_cons_of_mem _ hd)) t]
      rfl
section
variable {P : Program} {w : World} {K : PySem.W.Frag} {mg : Str → Option Value} {base : Heap} {f W fA fC fD : Addr} {S S2 : Addr → Option Sp} {fd : FuncData} {k : Nat}
theorem sc_u_is_names : FnScope ["thing", "one"] ["thing"] (defScope s_u_is_names) := ⟨rfl, rfl, rfl, by decide +kernel, rfl, by decide +kernel, by decide +kernel⟩
theorem ok_names (F : FnP K "_is_names" s_u_is_names [] f fd) (G : Facts mg) (C_is_word : Cal P w K mg base 1 "is_word" (spTest1 isWord) []) : FnOk P w K mg base CX0 2 f fd ["thing"] (spTest1 isNames) := by
  refine F.ok sc_u_is_names (fun vs H Q E h => ?_) (fun cdv A outer s H vs Q E hr h => ?_)
  · obtain ⟨N, v, d, rfl, _⟩ := h
    rfl
  · obtain ⟨N, v, d, rfl, hd, hk⟩ := h
    have hu := hu_of hr
    refine ⟨_, PSs.nox (pss_cons (ps_if (PW.pt (pw_or (pt_not (pt_val (pe_callB (kIsi K) (by rfl) G.isinstance_ (by decide +kernel) (pa_cons (pv 0) (pa_cons (pe_ty "tuple" (by rfl) G.tuple_ (by decide +kernel)) pa_nil))))) (pw_or1 (pt_not (pt_val (pe_callB (kAll K rfl) (by rfl) G.all_ (by decide +kernel) (pa_cons (pe_lc (own := [("one", 1)]) (g := gName 1) (tt := tYes) rfl sc_u_is_names.nd  (kpi_tup K (pv 0)) (blkOk_by (by kernel_rfl)) (fun _ _ _ _ _ => (pg_name (i := 1) sc_u_is_names.nd rfl (by first | exact .inl rfl | exact .inr rfl))) (fun _ _ _ _ _ => pts_nil) (fun _ _ _ _ _ => (pe_c C_is_word hr (by decide) (by rfl) (pa_cons (pv 1) pa_nil)))) pa_nil))))))) (pss_one (ps_ret pe_bl)) pss_nil)
      (pss_one (ps_ret (pe_cmpR op_eq (pe_callB call_lenD (by rfl) G.len_ PySem.boot_len (pa_cons (pe_dc (own := [("one", 1)]) (g := gName 1) (tt := tYes) rfl sc_u_is_names.nd  (kpi_tup K (pv 0)) (blkOk_by (by kernel_rfl)) (fun _ _ _ _ _ => (pg_name (i := 1) sc_u_is_names.nd rfl (by first | exact .inl rfl | exact .inr rfl))) (fun _ _ _ _ _ => pts_nil) (fun _ _ _ _ _ => (pv 1)) (fun _ _ _ _ _ => pe_bl)) pa_nil)) (pe_callB (kLen K) (by rfl) G.len_ PySem.boot_len (pa_cons (pv 0) pa_nil)) (nomark _))))), ?_⟩
    obtain ⟨t, ty, ki⟩ := hd.ty (K := K) (T := "tuple") (by simp)
    refine ⟨_, rfl, _, _, _, _, _, rfl, .ty "tuple", ty, ki, _, rfl, ?_⟩
    cases hd with
    | @tup a xs ds n e h =>
      have hl := h.len
      have hsz := n.2
      have hk : ∀ b, b = isNames (.tuple ds) → ∀ H', Same H H' → Q (.bl b) H' := fun b e => by rw [e]; exact hk
      refine iteF ⟨_, rfl, a, rfl, ⟨_, sqt e⟩, fun D hD => ?_⟩
      refine lc_it (walk_tup (K := K) (a := a) (xs := xs)) (fun j H' => Same H H' ∧ H' D = some (.lst ((ds.take j).map fun d => V.bl (isWord d)))) ⟨same_upd hD, upd_same⟩ (fun j H' _ ⟨s2, _⟩ => sqt (s2 _ _ e)) ?_ ?_
      · rintro j y H8 H' hj ⟨s2, dD⟩ ⟨rfl, ey⟩
        rw [hl] at hj
        obtain ⟨v', hv, hvd⟩ := h.get (List.getElem?_eq_getElem hj)
        rw [hv] at ey
        cases ey
        refine ⟨rfl, _, rfl, N, _, ds[j], rfl, hvd.mono s2, fun H3 s3 => ?_⟩
        refine ⟨_, s3 _ _ dD, szlt (by rw [List.length_map, List.length_take]; omega), same_mut (s2.trans s3) hD, ?_⟩
        rw [upd_same, tsn hj, List.map_append]
        rfl
      rintro H2 ⟨s2, dD⟩
      rw [hl, List.take_length] at dD
      refine ⟨D, ds.map isWord, rfl, sq (by rw [dD, List.map_map]; rfl), ?_⟩
      refine ⟨_, rfl, ?_⟩
      have eall : (ds.map isWord).all id = ds.all isWord := by rw [List.all_map]; rfl
      rw [eall]
      cases h1 : ds.all isWord with
      | false => exact iteT (hk _ (by simp only [isNames, h1, Bool.false_and]) H2 s2)
      | true =>
        have hw := List.all_eq_true.mp h1
        have hxs := word_keyI hw h
        refine iteF ⟨_, rfl, a, rfl, ⟨_, sqt (s2 _ _ e)⟩, fun D2 hD2 => ?_⟩
        refine dc_it (walk_tup (K := K) (a := a) (xs := xs)) (fun j H' => Same H2 H' ∧ H' D2 = some (.dK (((ds.map keyI).take j).foldl addK []))) ⟨same_upd hD2, upd_same⟩ (fun j H' _ ⟨s3, _⟩ => sqt (s3 _ _ (s2 _ _ e))) ?_ ?_
        · rintro j y H8 H' hj ⟨s3, dD⟩ ⟨rfl, ey⟩
          have hj2 : j < (ds.map keyI).length := by rw [List.length_map]; omega
          rw [hxs, List.getElem?_map, List.getElem?_eq_getElem hj2] at ey
          cases ey
          have hfl := (fold_len ((ds.map keyI).take j) []).1
          rw [List.length_take, List.length_nil, List.length_map] at hfl
          refine ⟨rfl, _, rfl, _, (ds.map keyI)[j], rfl, dD, szlt (by omega), same_mut s3 hD2, ?_⟩
          rw [upd_same, tsn hj2, List.foldl_append]
          rfl
        rintro H3 ⟨s3, dD3⟩
        rw [hl, List.take_of_length_le (by rw [List.length_map]; exact Nat.le_refl _)] at dD3
        refine ⟨D2, _, rfl, dD3, _, rfl, a, xs, rfl, .inr (sqt (s3 _ _ (s2 _ _ e))), rfl, ?_⟩
        rw [deci, hl, show (ds.length : Int) = ((ds.map keyI).length : Int) by rw [List.length_map], fold_nd]
        exact hk _ (by simp only [isNames, h1, Bool.true_and]) H3 (s2.trans s3)
    | int i => exact iteT (hk H (Same.refl H))
    | bl b => exact iteT (hk H (Same.refl H))
    | non => exact iteT (hk H (Same.refl H))
    | str _ => exact iteT (hk H (Same.refl H))
    | lst n e h => exact iteT (hk H (Same.refl H))
theorem sc_u_are_rooms : FnScope ["rooms", "sizes", "array", "room", "pair", "end"] ["rooms", "sizes"] (defScope s_u_are_rooms) := ⟨rfl, rfl, rfl, by decide +kernel, rfl, by decide +kernel, by decide +kernel⟩
theorem ok_rooms (F : FnP K "_are_rooms" s_u_are_rooms [] f fd) (G : Facts mg) (C_is_word : Cal P w K mg base 1 "is_word" (spTest1 isWord) []) (C_is_atom : Cal P w K mg base 2 "is_atom" (spTest isAtom) []) : FnOk P w K mg base CX0 3 f fd ["rooms", "sizes"] spRooms := by
  refine F.ok sc_u_are_rooms (fun vs H Q E h => ?_) (fun cdv A outer s H vs Q E hr h => ?_)
  · obtain ⟨N, v, nt, r, sizes, rfl, _⟩ := h
    rfl
  · obtain ⟨N, v, nt, r, sizes, rfl, hrm, hnt, hnl, hk⟩ := h
    have hu := hu_of hr
    refine ⟨_, PSs.nox (pss_cons (ps_if (pt_not (pt_val (pe_callB (kIsi K) (by rfl) G.isinstance_ (by decide +kernel) (pa_cons (pv 0) (pa_cons (pe_ty "dict" (by rfl) G.dict_ (by decide +kernel)) pa_nil))))) (pss_one (ps_ret pe_bl)) pss_nil)
      (pss_cons (ps_lock (ps_for PassesOwn.never rfl (pi_items (pv 0)) (kpg_tup K rfl (pgs_cons (pg_name (i := 2) sc_u_are_rooms.nd rfl (by first | exact .inl rfl | exact .inr rfl)) (pgs_cons (pg_name (i := 3) sc_u_are_rooms.nd rfl (by first | exact .inl rfl | exact .inr rfl)) pgs_nil)))
        (pss_cons (ps_if (PW.pt (pw_or (pt_not (pt_val (pe_c C_is_word hr (by decide) (by rfl) (pa_cons (pv 2) pa_nil)))) (pw_or (pt_not (pt_val (pe_callB (kIsi K) (by rfl) G.isinstance_ (by decide +kernel) (pa_cons (pv 3) (pa_cons (pe_ty "tuple" (by rfl) G.tuple_ (by decide +kernel)) pa_nil))))) (pw_or1 (pt_cmpR op_gt (pe_callB (kLen K) (by rfl) G.len_ PySem.boot_len (pa_cons (pv 3) pa_nil)) pe_int (nomark _)))))) (pss_one (ps_ret pe_bl)) pss_nil)
        (pss_cons (ps_if (pt_not (pt_val (pe_callB (kAll K rfl) (by rfl) G.all_ (by decide +kernel) (pa_cons (pe_lc (own := [("pair", 4)]) (g := gName 4) (tt := tYes) rfl sc_u_are_rooms.nd  (kpi_tup K (pv 3)) (blkOk_by (by kernel_rfl)) (fun _ _ _ _ _ => (pg_name (i := 4) sc_u_are_rooms.nd rfl (by first | exact .inl rfl | exact .inr rfl))) (fun _ _ _ _ _ => pts_nil) (fun _ _ _ _ _ => (pe_and (pe_callB (kIsi K) (by rfl) G.isinstance_ (by decide +kernel) (pa_cons (pv 4) (pa_cons (pe_ty "tuple" (by rfl) G.tuple_ (by decide +kernel)) pa_nil))) (pe_one (pe_cmpR op_eq (pe_callB (kLen K) (by rfl) G.len_ PySem.boot_len (pa_cons (pv 4) pa_nil)) pe_int (nomark _)))))) pa_nil)))) (pss_one (ps_ret pe_bl)) pss_nil)
        (pss_one (ps_if (pt_not (pt_val (pe_callB (kAll K rfl) (by rfl) G.all_ (by decide +kernel) (pa_cons (pe_lc2 (own := [("pair", 4), ("end", 5)]) (vs1 := [5]) (g := gName 4) (g1 := gName 5) (tt := tYes) (tt1 := tYes) rfl sc_u_are_rooms.nd (kpi_tup K (pv 3)) (blkOk_by (by kernel_rfl)) (by decide) (fun _ _ _ _ _ => (pg_name (i := 4) sc_u_are_rooms.nd rfl (by first | exact .inl rfl | exact .inr rfl))) (fun _ _ _ _ _ => pts_nil) (fun _ _ _ _ _ => (kpi_tup K (pv 4))) (fun _ _ _ _ _ => (pg_name (i := 5) sc_u_are_rooms.nd rfl (by first | exact .inl rfl | exact .inr rfl))) (fun _ _ _ _ _ => pts_nil) (fun _ _ _ _ _ => (pe_c C_is_atom hr (by decide) (by rfl) (pa_cons (pv 5) (pa_cons (pv 1) pa_nil))))) pa_nil)))) (pss_one (ps_ret pe_bl)) pss_nil))))))
      (pss_one (ps_ret pe_bl)))), ?_⟩
    cases hrm with
    | no hd =>
      obtain ⟨t, ty, ki⟩ := hd.ty (K := K) (T := "dict") (by simp)
      refine ⟨_, rfl, _, _, _, _, _, rfl, .ty "dict", ty, ki, _, rfl, ?_⟩
      cases hd <;> exact iteT (hk H (Same.refl H))
    | @dict d kvs kv n e hp hky hl =>
      refine ⟨_, rfl, _, _, _, _, true, rfl, .ty "dict", .base (.dK e), kit_ty (by decide +kernel), _, rfl, iteF ?_⟩
      have hpl := plen hp
      refine ⟨d, _, e, True.intro, fun od => ?_⟩
      have fz : ∀ b o, b ≠ d → H b = some o → (upd H d (.frz od (.dK kvs))) b = some o := fun b o hb e => by rw [upd_ne hb]; exact e
      have hH1 : (upd H d (.frz od (.dK kvs))) d = some (.frz od (.dK kvs)) := upd_same
      have hnt1 : (upd H d (.frz od (.dK kvs))) nt = some (.tup (sizes.map V.str)) := fz _ _ (ne_of hnt e (by intro z; cases z)) hnt
      have hback : ∀ H', Same (upd H d (.frz od (.dK kvs))) H' → Same H (upd H' d (.dK kvs)) := fun H' s => same_frz e s
      have hdt : ∀ {v : V} {x : PyData}, Dt N H v x → Dt (fun b => b ≠ d) (upd H d (.frz od (.dK kvs))) v x := fun g => (g.offd e).to (fun _ q => q.2) fun b o q eb => fz b o q.2 eb
      generalize upd H d (.frz od (.dK kvs)) = H1 at hH1 hnt1 hback hdt
      refine ⟨_, rfl, d, od, kvs, rfl, hH1, ?_⟩
      refine for_it walk_items (fun i σ H' => ∃ z2 z3 z4 z5, σ = [some (.ref d), some (.ref nt), z2, z3, z4, z5] ∧ Same H1 H' ∧ ∀ p ∈ kv.take i, (isWord (keyData p.1) && roomOk sizes p.2) = true) ⟨_, _, _, _, rfl, Same.refl H1, fun p hp => by cases hp⟩ (fun i σ H' _ ⟨_, _, _, _, _, s, _⟩ => s _ _ hH1) ?_ ?_
      · rintro i y σ H9 H2 hi ⟨z2, z3, z4, z5, rfl, s2, hdone⟩ hY
        cases hY with | intro T' hY =>
        obtain ⟨y1, y2, rfl, nT, rfl, e1, e2⟩ := hY
        rw [hpl] at hi
        obtain ⟨kvi, hkvi, hk1, hdv⟩ := pget hp (List.getElem?_eq_getElem hi)
        have e1 : (kvs[i]?).map (fun kv => kV kv.1) = some y1 := e1
        have e2 : (kvs[i]?).map Prod.snd = some y2 := e2
        rw [hkvi] at e1 e2
        cases e1
        cases e2
        have s3 := s2.trans (same_upd nT (o := .tup [kV kvi.1, kvi.2]))
        have hT : (upd H9 T' (.tup [kV kvi.1, kvi.2])) T' = some (.tup [kV kvi.1, kvi.2]) := upd_same
        generalize upd H9 T' (.tup [kV kvi.1, kvi.2]) = H3 at s3 hT
        have hmem := List.getElem_mem hi
        have hsn := tsn hi
        have hkyi := hky _ hmem
        rw [← hk1] at hkyi
        have hbad : (isWord (keyData kv[i].1) && roomOk sizes kv[i].2) = false → ∀ H', Same H1 H' → H' d = some (.frz od (.dK kvs)) ∧ Q (.bl false) (upd H' d (.dK kvs)) := fun eb H' s' => ⟨s' _ _ hH1, by
          have : areRooms sizes (.dict kv) = false := by
            unfold areRooms
            rw [Bool.eq_false_iff]
            intro z
            have := List.all_eq_true.mp z _ hmem
            rw [eb] at this
            cases this
          have q := hk _ (hback H' s')
          rw [this] at q
          exact q⟩
        rw [← hk1] at hbad
        generalize hpi : kv[i] = pi at hdv hbad hsn hk1
        obtain ⟨k0, room⟩ := pi
        refine ⟨T', _, rfl, sqt hT, rfl, _, _, rfl, _, _, rfl, rfl, ?_⟩
        have hkd := (hdt hkyi).mono s3
        have hrd := (hdt hdv).mono s3
        refine ⟨_, rfl, (fun b => b ≠ d), _, _, rfl, hkd, fun H4 s4 => ⟨_, rfl, ?_⟩⟩
        have s34 := s3.trans s4
        have ek : keyData kvi.1 = keyData k0 := by rw [hk1]
        cases w1 : isWord (keyData kvi.1) with
        | false => exact iteT (hbad (by rw [w1, Bool.false_and]) H4 s34)
        | true =>
          have hbad : roomOk sizes room = false → ∀ H', Same H1 H' → H' d = some (.frz od (.dK kvs)) ∧ Q (.bl false) (upd H' d (.dK kvs)) := fun eb => hbad (by rw [eb, Bool.and_false])
          have hgood : roomOk sizes room = true → ∀ (H' : Hp) (z2 z3 z4 z5 : Option V), Same H1 H' → ∃ z2' z3' z4' z5', ([some (.ref d), some (.ref nt), z2, z3, z4, z5] : L2.St) = [some (.ref d), some (.ref nt), z2', z3', z4', z5'] ∧ Same H1 H' ∧ ∀ p ∈ kv.take (i + 1), (isWord (keyData p.1) && roomOk sizes p.2) = true := fun eg H' z2 z3 z4 z5 s' => ⟨_, _, _, _, rfl, s', fun p hp => by
            rw [hsn] at hp
            rcases List.mem_append.mp hp with hp | hp
            · exact hdone p hp
            · rw [List.mem_singleton.mp hp, ← ek, w1, eg]
              rfl⟩
          refine iteF ?_
          have hrd4 := hrd.mono s4
          obtain ⟨t, ty, ki⟩ := hrd4.ty (K := K) (T := "tuple") (by simp)
          refine ⟨_, rfl, _, _, _, _, _, rfl, .ty "tuple", ty, ki, _, rfl, ?_⟩
          generalize kvi.2 = rv at *
          cases hrd4 with
          | @tup a xs ps n0 er h =>
            have hl2 := h.len
            refine iteF ⟨_, rfl, a, xs, rfl, .inr (sqt er), _, _, rfl, rfl, _, rfl, ?_⟩
            rw [hl2]
            cases c4 : decide ((4 : Int) < (ps.length : Int)) with
            | true => exact iteT (hbad (by simp only [roomOk, c4, Bool.not_true, Bool.false_and]) H4 s34)
            | false =>
              have hsz : ps.length ≤ 4 := by have := of_decide_eq_false c4; omega
              refine iteF ?_
              refine ⟨_, rfl, a, rfl, ⟨_, sqt er⟩, fun D hD => ?_⟩
              refine lc_it (walk_tup (K := K) (a := a) (xs := xs)) (fun j H' => Same H4 H' ∧ H' D = some (.lst ((ps.take j).map fun d => V.bl (pair2 d)))) ⟨same_upd hD, upd_same⟩ (fun j H' _ ⟨s5, _⟩ => sqt (s5 _ _ er)) ?_ ?_
              · rintro j y H7 H8 hj ⟨s5, dD⟩ ⟨rfl, ey⟩
                rw [hl2] at hj
                obtain ⟨v', hv, hvd⟩ := h.get (List.getElem?_eq_getElem hj)
                rw [hv] at ey
                cases ey
                have hvd5 := hvd.mono s5
                have fin : ∀ b, b = pair2 ps[j] → ∃ acc, H8 D = some (HO.lst acc) ∧ acc.length < sizeLine ∧ Same H4 (upd H8 D (HO.lst (acc ++ [V.bl b]))) ∧ upd H8 D (HO.lst (acc ++ [V.bl b])) D = some (HO.lst ((ps.take (j + 1)).map fun d => V.bl (pair2 d))) := fun b eb => by
                  refine ⟨_, dD, szlt (by rw [List.length_map, List.length_take]; omega), same_mut s5 hD, ?_⟩
                  rw [upd_same, tsn hj, List.map_append, eb]
                  rfl
                obtain ⟨t5, ty5, ki5⟩ := hvd5.ty (K := K) (T := "tuple") (by simp)
                refine ⟨rfl, _, rfl, _, _, _, _, _, rfl, .ty "tuple", ty5, ki5, _, rfl, ?_⟩
                generalize ps[j] = pj at hvd5 fin
                cases hvd5 with
                | @tup pa pxs es np ep hp2 =>
                  refine iteT ⟨_, rfl, pa, pxs, rfl, .inr (sqt ep), rfl, ?_⟩
                  rw [deci, hp2.len]
                  refine fin _ ?_
                  match es with
                  | [] => rfl
                  | [_] => rfl
                  | [_, _] => rfl
                  | _ :: _ :: _ :: _ =>
                    simp only [pair2, List.length_cons]
                    exact decide_eq_false (by omega)
                | int i => exact iteF (fin _ rfl)
                | bl b => exact iteF (fin _ rfl)
                | non => exact iteF (fin _ rfl)
                | str _ => exact iteF (fin _ rfl)
                | lst n e h => exact iteF (fin _ rfl)
              rintro H5 ⟨s5, dD⟩
              rw [hl2, List.take_length] at dD
              refine ⟨D, ps.map pair2, rfl, sq (by rw [dD, List.map_map]; rfl), _, rfl, ?_⟩
              have eall : (ps.map pair2).all id = ps.all pair2 := by rw [List.all_map]; rfl
              rw [eall]
              have s35 := s34.trans s5
              cases c5 : ps.all pair2 with
              | false => exact iteT (hbad (by simp only [roomOk, c4, c5, Bool.false_and, Bool.and_false]) H5 s35)
              | true =>
                refine iteF ?_
                have hp2 := List.all_eq_true.mp c5
                have h5 := h.mono s5
                have er5 := s5 _ _ er
                refine ⟨_, rfl, a, rfl, ⟨_, sqt er5⟩, fun D2 hD2 => ?_⟩
                refine lc2_it (walk_tup (K := K) (a := a) (xs := xs)) (fun j H' => Same H5 H' ∧ H' D2 = some (.lst (((ps.take j).flatMap endsOf).map fun d => V.bl (isAtom d sizes)))) ⟨same_upd hD2, upd_same⟩ (fun j H' _ ⟨s6, _⟩ => sqt (s6 _ _ er5)) ?_ ?_
                · rintro j y H7 H8 hj ⟨s6, dD⟩ ⟨rfl, ey⟩
                  rw [hl2] at hj
                  obtain ⟨v', hv, hvd⟩ := h5.get (List.getElem?_eq_getElem hj)
                  rw [hv] at ey
                  cases ey
                  have hvd6 := hvd
                  have hpj := hp2 _ (List.getElem_mem hj)
                  have hfm : (ps.take (j + 1)).flatMap endsOf = (ps.take j).flatMap endsOf ++ endsOf ps[j] := by rw [tsn hj, List.flatMap_append]; simp
                  have hfl : ((ps.take j).flatMap endsOf).length ≤ 2 * (ps.take j).length := by
                    refine flat2 fun x hx => ?_
                    have := hp2 x (List.mem_of_mem_take hx)
                    unfold pair2 at this
                    split at this
                    · exact Nat.le_refl 2
                    · cases this
                  rw [List.length_take] at hfl
                  generalize ps[j] = pj at hvd6 hpj hfm
                  cases hvd6 with
                  | @tup pa pxs es np ep he =>
                    have hes : es.length = 2 := by
                      unfold pair2 at hpj
                      split at hpj
                      · rename_i e0; cases e0; rfl
                      · cases hpj
                    have hel := he.len
                    refine ⟨rfl, _, rfl, pa, rfl, ⟨_, sqt (s6 _ _ ep)⟩, ?_⟩
                    refine lc_in (walk_tup (K := K) (a := pa) (xs := pxs)) (fun m H' => Same H5 H' ∧ H' D2 = some (.lst ((((ps.take j).flatMap endsOf) ++ es.take m).map fun d => V.bl (isAtom d sizes)))) ⟨s6, by rw [List.take_zero, List.append_nil]; exact dD⟩ (fun m H' _ ⟨s7, _⟩ => sqt (s7 _ _ ep)) ?_ ?_
                    · rintro m y H7 H9 hm ⟨s7, dD7⟩ ⟨rfl, ey⟩
                      rw [hel] at hm
                      obtain ⟨v', hv, hvd⟩ := he.get (List.getElem?_eq_getElem hm)
                      rw [hv] at ey
                      cases ey
                      refine ⟨rfl, _, rfl, _, rfl, (fun b => b ≠ d), _, nt, es[m], sizes, rfl, hvd.mono s7, (s35.trans s7) _ _ hnt1, hnl, fun H10 s8 => ?_⟩
                      refine ⟨_, s8 _ _ dD7, szlt (by rw [List.length_map, List.length_append, List.length_take]; omega), same_mut (s7.trans s8) hD2, ?_⟩
                      rw [upd_same, tsn hm]
                      simp only [List.map_append, List.map_cons, List.map_nil, List.append_assoc]
                    · rintro H9 ⟨s7, dD7⟩
                      rw [hel, List.take_length] at dD7
                      refine ⟨s7, ?_⟩
                      rw [hfm]
                      exact dD7
                  | _ => cases hpj
                rintro H6 ⟨s6, dD⟩
                rw [hl2, List.take_length] at dD
                refine ⟨D2, (ps.flatMap endsOf).map fun e => isAtom e sizes, rfl, sq (by rw [dD, List.map_map]; rfl), _, rfl, ?_⟩
                have eall2 : ((ps.flatMap endsOf).map fun e => isAtom e sizes).all id = (ps.flatMap endsOf).all fun e => isAtom e sizes := by rw [List.all_map]; rfl
                rw [eall2]
                have s36 := s35.trans s6
                cases c6 : (ps.flatMap endsOf).all fun e => isAtom e sizes with
                | false => exact iteT (hbad (by simp only [roomOk, c4, c5, c6, Bool.and_false]) H6 s36)
                | true => exact iteF (hgood (by simp only [roomOk, c4, c5, c6]; rfl) H6 _ _ _ _ s36)
          | int i => exact iteT (hbad rfl H4 s34)
          | bl b => exact iteT (hbad rfl H4 s34)
          | non => exact iteT (hbad rfl H4 s34)
          | str _ => exact iteT (hbad rfl H4 s34)
          | lst n e h => exact iteT (hbad rfl H4 s34)
      rintro σ H2 ⟨z2, z3, z4, z5, rfl, s2, hdone⟩
      rw [hpl, List.take_length] at hdone
      refine ⟨s2 _ _ hH1, ?_⟩
      have := hk _ (hback H2 s2)
      have e : areRooms sizes (.dict kv) = true := List.all_eq_true.mpr hdone
      rw [e] at this
      exact this
end
end K1

/-! ### defs that may raise, as callers need them; an own error without a text -/
namespace Ls
open PySem PySem.Spec PyProof.Rows L2
structure CalX (P : Program) (w : World) (K : PySem.W.Frag) (mg : Str → Option Value) (base : Heap) (k : Nat) (x : Str) (sp : Sp) (dvs : List V) : Prop where
  ex : ∃ (f : Addr) (fd : FuncData) (ps : List Str) (ds : List Value), FnOk P w K mg base (L2.CX P w) k f fd ps sp ∧ mg x = some (.ref f) ∧ PySem.W.keepIn K (.ref f) = true ∧ Binds K fd ps ds ∧ Vals dvs ds
section
variable {X : Cx} {W : WX} {E : XK} {e : Expr} {es : List Expr} {t : TA} {p pos : Pos} {x : Str} {k j : Nat} {sp : Sp} {dvs : List V} {C : Addr}
theorem pe_cx (c : CalX X.prog X.w X.K X.mg X.base k x sp dvs) (tk : Takes X W) (hE : ∀ cls d σ H, E cls d H → W cls d σ H) (hr : Room j X.A) (hk : k ≤ j) (hg : Gl X x) (ha : PA X (e :: es) t) (hdb : (x == ("__debug__" : Str)) = false := by decide)
    (he : starEach (e :: es) X.env = (false, eval e X.env) :: starEach es X.env := by rfl) (hpl : (backTo pos (starEach es X.env)).any (·.1) = false := by rfl) : PE X (.Call (.Name x p) (e :: es) [] pos) (tCall sp dvs E t) := by
  have ⟨f, fd, ps, ds, F, hm, kp, b, d⟩ := c.ex
  exact pe_call F (hr.mono hk) hg hm kp b d (passes_call tk hE) ha hdb he hpl
variable {bmB : List Value} {B newId initId : String}
theorem pmk_own0 (F : ExcBaseFacts B newId initId bmB) (q : PySem.W.excIn X.K C bmB newId = true) (gC : X.mg x = some (.ref C)) (kC : PySem.W.keepIn X.K (.ref C) = true) (r : Raises X (.ref C)) (hg : Gl X x) (hdb : (x == ("__debug__" : Str)) = false := by decide) :
    PMk X (.Call (.Name x p) [] [] pos) (fun _ H Q => Q (.ref C) none H) := by
  intro pins s σ H Q I h
  refine wpAny_Call_Name_kw (ld_glob I hg gC ?_ hdb)
  refine PySem.W.callWith_K0 I.kIn kC ?_
  have ⟨bm, N, nm, qn, bs, hdct, sn, sub, ab, col, dd, k0, k1, k2, k3, k5, mN, hC, hN, hni, T⟩ := exc_obj I.kIn q
  refine wpAny_call_exc_subT F T hC hN hni (fun h' e hm => ?_) (Nat.zero_le _)
  exact mk_of I hm r h (I.hok.gone hm.new)
end
/-! a local name that holds one of two defs that may raise, called within a try -/
structure CalAX (P : Program) (w : World) (K : PySem.W.Frag) (mg : Str → Option Value) (base : Heap) (k : Nat) (f : Addr) (sp : Sp) : Prop where
  ex : ∃ (fd : FuncData) (ps : List Str), FnOk P w K mg base (L2.CX P w) k f fd ps sp ∧ PySem.W.keepIn K (.ref f) = true ∧ Binds K fd ps []
def tCallW (i : Nat) (f1 f2 : Addr) (sp1 sp2 : Sp) (W : WX) (t : TA) : TE := fun σ H Q => (σ[i]? = some (some (.ref f1)) ∧ t σ H fun vs H1 => sp1 vs H1 Q (WE W σ)) ∨ (σ[i]? = some (some (.ref f2)) ∧ t σ H fun vs H1 => sp2 vs H1 Q (WE W σ))
section
variable {X : Cx} {W : WX} {e : Expr} {es : List Expr} {t : TA} {p pos : Pos} {x : Str} {j : Nat}
theorem pe_cxv {i k1 k2 : Nat} {f1 f2 : Addr} {sp1 sp2 : Sp} (c1 : CalAX X.prog X.w X.K X.mg X.base k1 f1 sp1) (c2 : CalAX X.prog X.w X.K X.mg X.base k2 f2 sp2) (tk : Takes X W) (hr : Room j X.A) (l1 : k1 ≤ j) (l2 : k2 ≤ j) (hN : X.N[i]? = some x) (hv : Vis X.env.scope x) (ha : PA X (e :: es) t)
    (hd : (x == ("__debug__" : Str)) = false := by decide) (hcd : (x == ("__classdict__" : Str)) = false := by decide) (he : starEach (e :: es) X.env = (false, eval e X.env) :: starEach es X.env := by rfl) (hpl : (backTo pos (starEach es X.env)).any (·.1) = false := by rfl) :
    PE X (.Call (.Name x p) (e :: es) [] pos) (tCallW i f1 f2 sp1 sp2 W t) := by
  refine ⟨fun pins s σ H Q I h => ?_⟩
  have run : ∀ {k : Nat} {f : Addr} {sp : Sp}, CalAX X.prog X.w X.K X.mg X.base k f sp → k ≤ j → σ[i]? = some (some (.ref f)) → (t σ H fun vs H1 => sp vs H1 Q (WE W σ)) → wpAny (model X.prog X.w) X.A (eval (.Call (.Name x p) (e :: es) [] pos) X.env) (EP X pins σ Q) X.xe s := fun {k f sp} c hk hs ht => by
    have ⟨fd, ps, F, kp, b⟩ := c.ex
    refine wpAny_Call_Name_kw (thn ((pe_var (pos := p) hN hv hd hcd).run pins s σ H (fun v H1 => v = .ref f ∧ H1 = H) I ⟨.ref f, hs, rfl, rfl⟩) fun u s1 ⟨v, H1, I1, r1, ev, eH⟩ => ?_)
    subst ev eH
    cases r1
    exact PySem.W.callWith_K (h₀ := X.base) I.ok.mod.kin kp (thn (ha.run pos pins s1 σ _ _ I1 ht) fun us s2 ⟨vs, H2, I2, r, q⟩ => ⟨I2.kIn, run_fnS (E := WE W) F (hr.mono hk) b (passAt tk σ) I2 r q⟩) he hpl
  rcases h with ⟨h1, h2⟩ | ⟨h1, h2⟩
  · exact run c1 l1 h1 h2
  · exact run c2 l2 h1 h2
end
end Ls

/-! ### C(..), C's __init__ may raise; within a try what the suites take stands at the caller's slots -/
namespace Ls
open PySem PySem.Spec PyProof.Rows L2
structure MakX (P : Program) (w : World) (K : PySem.W.Frag) (mg : Str → Option Value) (base : Heap) (k : Nat) (x : Str) (C : Addr) (sp : Sp) : Prop where
  ex : ∃ (f : Addr) (fd : FuncData) (ps : List Str), Mk K C f ∧ FnOk P w K mg base (L2.CX P w) k f fd ps sp ∧ mg x = some (.ref C) ∧ Binds K fd ps []
section
variable {X : Cx} {CX : CXT} {W : WX} {k j : Nat} {f C : Addr} {fd : FuncData} {ps : List Str} {sp : Sp} {E : XK} {x : Str} {p pos : Pos} {e : Expr} {es : List Expr} {t : TA}
theorem run_mkS {pins : List (Addr × Obj)} {σ : L2.St} {H : Hp} {s : Shared} {Q : VK} {us : List Value} {vs : List V} (mk : Mk X.K C f) (fn : FnOk X.prog X.w X.K X.mg X.base CX k f fd ps sp) (room : Room (k + 1) X.A) (bi : Binds X.K fd ps [])
    (pa : PassesAt CX X σ E) (I : Inv X pins σ H s) (r : Vals vs us)
    (h : ∀ x dx, H x = none → H dx = none → dx ≠ x → sp (.ref x :: vs) (upd (upd H dx (.own x)) x (.ins C dx [])) (fun v H2 => v = .non ∧ Q (.ref x) H2) E) : wpAny (model X.prog X.w) X.A (call (.ref C) us) (EP X pins σ Q) X.xe s := by
  let n := s.heap.objs.size
  have q0 := h (n + 1) n (I.hok.fresh (Nat.le_succ _)) (I.hok.fresh (Nat.le_refl _)) (Nat.ne_of_lt (Nat.lt_succ_self _))
  have J := Inv.made (C := C) I
  have rr : Vals (V.ref (n + 1) :: vs) (Value.ref (n + 1) :: us) := .cons rfl r
  have len : (Value.ref (n + 1) :: us).length = ps.length := rr.length.symm.trans (fn.len _ _ _ _ q0)
  have b0 := bi _ (Value.ref (n + 1) :: us) J.kIn (by rw [List.append_nil]; exact len)
  rw [List.append_nil] at b0
  have run := fn.run _ X.stack _ _ ⟨Value.ref (n + 1) :: us, []⟩ (Value.ref (n + 1) :: us) _ _ E (room.make C us []) (J.env0.make C us []) b0 rr q0
  refine wpAny_call (make_map (f := f) I.kIn mk.makes mk.init (beq_iff_eq.mp mk.fn) (codeAny_mono run fun z s' hz => ?_))
  cases z with
  | error e => exact pa pins _ _ e s' J hz
  | ok fl =>
    cases fl with
    | ret u =>
      obtain ⟨v, H', I3, rv, ev, q3⟩ := J.after hz
      cases ev
      exact ⟨rv, V.ref (n + 1), H', I3, rfl, q3⟩
    | _ => exact False.elim hz
def tMakeS (C : Addr) (sp : Sp) (W : WX) (t : TA) : TE := fun σ H Q => t σ H fun vs H1 => ∀ x dx, H1 x = none → H1 dx = none → dx ≠ x → sp (.ref x :: vs) (upd (upd H1 dx (.own x)) x (.ins C dx [])) (fun v H2 => v = .non ∧ Q (.ref x) H2) (WE W σ)
theorem pe_mkxS (c : MakX X.prog X.w X.K X.mg X.base k x C sp) (tk : Takes X W) (hr : Room j X.A) (hk : k + 1 ≤ j) (hg : Gl X x) (ha : PA X (e :: es) t) (hdb : (x == ("__debug__" : Str)) = false := by decide)
    (he : starEach (e :: es) X.env = (false, eval e X.env) :: starEach es X.env := by rfl) (hpl : (backTo pos (starEach es X.env)).any (·.1) = false := by rfl) : PE X (.Call (.Name x p) (e :: es) [] pos) (tMakeS C sp W t) := by
  have ⟨f, fd, ps, M, F, hm, b⟩ := c.ex
  refine ⟨fun pins s σ H Q I h => wpAny_Call_Name_kw (ld_glob I hg hm ?_ hdb)⟩
  exact PySem.W.callWith_K (h₀ := X.base) I.ok.mod.kin M.kp (thn (ha.run pos pins s σ H _ I h) fun us s1 ⟨vs, H1, I1, r, q⟩ => ⟨I1.kIn, run_mkS M F (hr.mono hk) b (passAt tk σ) I1 r q⟩) he hpl
theorem pe_mkx (c : MakX X.prog X.w X.K X.mg X.base k x C sp) (tk : Takes X W) (hE : ∀ cls d σ H, E cls d H → W cls d σ H) (hr : Room j X.A) (hk : k + 1 ≤ j) (hg : Gl X x) (ha : PA X (e :: es) t) (hdb : (x == ("__debug__" : Str)) = false := by decide)
    (he : starEach (e :: es) X.env = (false, eval e X.env) :: starEach es X.env := by rfl) (hpl : (backTo pos (starEach es X.env)).any (·.1) = false := by rfl) : PE X (.Call (.Name x p) (e :: es) [] pos) (tMake C sp [] E t) := by
  have ⟨f, fd, ps, M, F, hm, b⟩ := c.ex
  exact pe_make M F (hr.mono hk) hg hm b .nil (passes_call tk hE) ha hdb he hpl
end
end Ls

namespace K1
open PySem PySem.Spec PyProof.Rows L2 Ls
/-! ### nests -/
structure ExcF (K : PySem.W.Frag) (mg : Str → Option Value) (x : Str) (C : Addr) : Prop where
  gP : mg x = some (.ref C)
  xP : PySem.W.excIn K C [.type "ValueError", .type "Exception", .type "BaseException", .type "object"] "ValueError.__new__" = true
  kP : PySem.W.keepIn K (.ref C) = true
  bP : PySem.W.subIn K (.ref C) (.type "BaseException") = some true
  tP : PySem.W.typeIn K (.ref C) = some (.type "type")
  eP : PySem.W.exmOne K (.ref C) (.ref C) = some true
/-- what the walk asks of the class Nest -/
structure NCls (K : PySem.W.Frag) (C : Addr) : Prop where
  cl : Cls K C
  nS : NoAttr K C "sizes"
  nG : NoAttr K C "given"
  nR : NoAttr K C "_rooms"
  nK : NoAttr K C "kept"
  nB : NoAttr K C "body"
  nA : NoAttr K C "_arrays"
  nL : NoAttr K C "_labels"
def accP : PyData → Str × PyData
  | .tuple [.str a, .tuple ix] => (a, .int ix.length)
  | _ => ("", .none)
def roomP : Key × PyData → Str × PyData
  | (.inr x, .tuple ps) => (x, .int ps.length)
  | _ => ("", .none)
def formP : PyData → Str × PyData
  | .tuple [.str l, f] => (l, f)
  | _ => ("", .none)
def itemsD : PyData → List PyData
  | .tuple ds => ds
  | _ => []
def namesD (d : PyData) : List Str := (itemsD d).map nameOf
def kvOf : Rooms → List (Key × PyData)
  | .no _ => []
  | .dict kv => kv
def pairsN (body : PyData) (rm : Rooms) : List (Str × PyData) := ((itemsD body).flatMap (accOf 40)).map accP ++ (kvOf rm).map roomP
def formsN (body : PyData) : List (Str × PyData) := ((itemsD body).flatMap (frmOf 40)).map formP
def okHead (sz given : PyData) (rm : Rooms) (kept body : PyData) : Bool :=
  isNames sz && (decide ((1 : Int) ≤ ((itemsD sz).length : Int)) && (decide (((itemsD sz).length : Int) ≤ 3) && (isNames kept && (isRow 0 12 isDiff given (namesD sz) && (areRooms (namesD sz) rm && isBodyW (isNode 40) body (namesD sz))))))
def nestOk (sz given : PyData) (rm : Rooms) (kept body : PyData) : Bool := okHead sz given rm kept body && ((oneForm (pairsN body rm)).isSome && (oneForm (formsN body)).isSome)
def intOf : PyData → Int
  | .int i => i
  | _ => 0
/-- the counts of the arrays, in the order ys -/
def arrK (kv : List (Str × PyData)) (ys : List Str) : List (Key × V) := ys.map fun y => ((Sum.inr y : Key), V.int (intOf ((kv.lookup y).getD .none)))
structure NestAt (N : Addr → Prop) (CN : Addr) (H : Hp) (p : Addr) (sz given : PyData) (rm : Rooms) (kept body : PyData) : Prop where
  ex : ∃ (dx : Addr) (fs : List (Str × V)) (v1 v2 v4 v5 : V) (rd ad ll : Addr) (kvs : List (Key × V)) (kvA kvL : List (Str × PyData)) (ysA ysL : List Str), H p = some (.ins CN dx fs) ∧
    fs.lookup ("sizes" : Str) = some v1 ∧ fs.lookup ("given" : Str) = some v2 ∧ fs.lookup ("_rooms" : Str) = some (.ref rd) ∧ fs.lookup ("kept" : Str) = some v4 ∧ fs.lookup ("body" : Str) = some v5 ∧ fs.lookup ("_arrays" : Str) = some (.ref ad) ∧ fs.lookup ("_labels" : Str) = some (.ref ll) ∧
    Dt N H v1 sz ∧ Dt N H v2 given ∧ Dt N H v4 kept ∧ Dt N H v5 body ∧ H rd = some (.dK kvs) ∧ oneForm (pairsN body rm) = some kvA ∧ ysA.Perm (kvA.map (·.1)) ∧ sortedS ysA = true ∧ H ad = some (.dK (arrK kvA ysA)) ∧
    oneForm (formsN body) = some kvL ∧ ysL.Perm (kvL.map (·.1)) ∧ sortedS ysL = true ∧ H ll = some (.lst (ysL.map V.str)) ∧ ∀ q, q = ("labels" : Str) ∨ q = ("arrays" : Str) ∨ q = ("rooms" : Str) → fs.lookup q = none
def fs7 (v1 v2 v4 v5 : V) (rd ad ll : Addr) : List (Str × V) := putF ("_labels" : Str) (.ref ll) (putF ("_arrays" : Str) (.ref ad) (putF ("body" : Str) v5 (putF ("kept" : Str) v4 (putF ("_rooms" : Str) (.ref rd) (putF ("given" : Str) v2 (putF ("sizes" : Str) v1 []))))))
theorem fs7_eq (v1 v2 v4 v5 : V) (rd ad ll : Addr) : fs7 v1 v2 v4 v5 rd ad ll = [(("sizes" : Str), v1), (("given" : Str), v2), (("_rooms" : Str), .ref rd), (("kept" : Str), v4), (("body" : Str), v5), (("_arrays" : Str), .ref ad), (("_labels" : Str), .ref ll)] := rfl
section
variable {v1 v2 v4 v5 : V} {rd ad ll : Addr}
theorem fs7_s : (fs7 v1 v2 v4 v5 rd ad ll).lookup ("sizes" : Str) = some v1 := rfl
theorem fs7_g : (fs7 v1 v2 v4 v5 rd ad ll).lookup ("given" : Str) = some v2 := rfl
theorem fs7_r : (fs7 v1 v2 v4 v5 rd ad ll).lookup ("_rooms" : Str) = some (.ref rd) := rfl
theorem fs7_k : (fs7 v1 v2 v4 v5 rd ad ll).lookup ("kept" : Str) = some v4 := rfl
theorem fs7_b : (fs7 v1 v2 v4 v5 rd ad ll).lookup ("body" : Str) = some v5 := rfl
theorem fs7_a : (fs7 v1 v2 v4 v5 rd ad ll).lookup ("_arrays" : Str) = some (.ref ad) := rfl
theorem fs7_l : (fs7 v1 v2 v4 v5 rd ad ll).lookup ("_labels" : Str) = some (.ref ll) := rfl
theorem fs7_no : ∀ q : Str, q = ("labels" : Str) ∨ q = ("arrays" : Str) ∨ q = ("rooms" : Str) → (fs7 v1 v2 v4 v5 rd ad ll).lookup q = none := by
  rintro q (rfl | rfl | rfl) <;> rfl
end
end K1

/-! ### an own exception's __init__ that begins by super().__init__(text) -/
namespace Ls
open PySem PySem.Spec PyProof.Rows L2 NdefX
/-- what the written part and the program tell of the class at C and of its __init__ at f -/
structure SupC (P : Program) (K : PySem.W.Frag) (C f cc : Addr) (F : NF) (fd : FuncData) : Prop where
  oex : OexC K C
  ini : PySem.W.findIn K (.ref C) "__init__" = some (some (.ref f))
  typ : PySem.W.typeIn K (.ref f) = some (.type "function")
  fn : ∃ (oc : Value) (od : Option Addr) (doc pm ctv : Value) (osl : Array (Option Value)), fd = F.fd doc pm ctv ∧ K.lookup f = some ⟨oc, od, .func (F.fd doc pm ctv), osl⟩
  cod : PySem.W.codeIn K (.ref F.c) F.qual = true
  cl : F.cl = [(("__class__" : Str), cc)]
  cell : ∃ cl cld csl, K.lookup cc = some ⟨cl, cld, .cell (some (.ref C)), csl⟩
  file : ∃ ccl cdd vs ccs file tf, K.lookup F.c = some ⟨ccl, cdd, .fields vs, ccs⟩ ∧ vs[2]? = some (.str file tf) ∧ ((P.main.file : Str) == file) = true
  sup : PySem.W.nsIn K mainGlobals "super" = some none
  top : (P.main.scope.names.lookup ("super" : Str)).isSome = false
  opq : PySem.W.nsIn K cStatics "thirdparty.any" = some none
  mth : PySem.W.ks_superIn K C C "__init__" = some (some (.builtin "ValueError.__init__"))
  sve : PySem.W.subIn K (.ref C) (.type "ValueError") = some true
  mro : PySem.W.mroIn K C (.ref C) = some true
section
variable {M : Model} {prog : Program} {w : World} {A : Around} {E : Value → Shared → Prop} {h : Heap} {g : Array GenState} {d : Drawn} {t : Nat} {os : OsState}
open PySem.W in
/-- the wrapper, called -/
theorem call_mw {u x C t0 : Addr} {rest : List Value} {Q : Value → Shared → Prop} {nm q : Str} {N : Addr} {bs bm : List Value} {hdct : Bool} {sn : List Str} {sub : List Value} {ab : Bool} {col : Option Bool} {dd : Option Addr} {k0 k1 k2 k3 k5 : Option Value}
    (hC : h.get? C = some (excClassObj nm q C N bs bm hdct sn sub ab col dd k0 k1 k2 k3 k5 "ValueError.__new__")) (he : h.get? x = some ({ cls := .ref C, dict := none, data := .fields #[.ref t0, .none, .none, .none, .bool false, .none] } : Obj))
    (hu : h.get? u = some (kxs_mw "ValueError.__init__" x)) (hz : rest.length ≤ sizeLine)
    (hq : ∀ h' t1, (∀ b o, b ≠ x → h.get? b = some o → h'.get? b = some o) → h'.get? x = some ({ cls := .ref C, dict := none, data := .fields #[.ref t1, .none, .none, .none, .bool false, .none] } : Obj) → Q .none ⟨h', g, d, t, os⟩) :
    wpAny (model prog w) A (call (.ref u) rest) Q E ⟨h, g, d, t, os⟩ := by
  refine wpAny_call (codeAny_of_tree ?_)
  show wpAny _ A.in1 (callAny (.ref u) ⟨rest, []⟩) _ _ _
  simp only [callAny]
  refine wpAny_bind (wpAny_load hu ?_)
  simp only [kxs_mw, show (Value.type "method-wrapper" == Value.type "method" || Value.type "method-wrapper" == Value.type "builtin_function_or_method" || Value.type "method-wrapper" == Value.type "method-wrapper") = true by decide, if_true]
  refine KFB.if_so (by decide) ?_
  refine wpAny_bind (check_bound_init F.excBase_ValueError.toExcCallFacts hC he rfl ?_)
  refine wpAny_bind (wpAny_pure (wpAny_pure ?_))
  refine ⟨plainId_quiet F.excBase_ValueError.init.plain _, codeAny_builtin F.excBase_ValueError.initEntry ?_⟩
  exact exc_init_tree (cls := .ref C) (t0 := t0) (dv := none) (c2 := .none) (c3 := .none) (b4 := .bool false) he hz fun h' k e' t' => hq h' _ k e'
end
section
variable {CX : CXT} {P : Program} {w : World} {K : PySem.W.Frag} {mg : Str → Option Value} {base : Heap} {N ps : List Str} {F : NF} {C f cc : Addr} {fd : FuncData} {k : Nat} {sp : Sp}
theorem SupC.cells (U : SupC P K C f cc F fd) {A : Around} {outer : List Env} {s : Shared} {H : Hp} (e0 : Env0 P w K mg base A outer s H) : CellsAt F.cl ["__class__"] [some (.ref C)] s.heap H := by
  obtain ⟨cl, cld, csl, hc⟩ := U.cell
  have hb := e0.bs _ _ (e0.mod.kin _ _ hc)
  have one : ∀ y c, F.cl.lookup y = some c → y = "__class__" ∧ c = cc := fun y c e => by
    rw [U.cl] at e
    by_cases h : y = ("__class__" : Str)
    · subst h
      exact ⟨rfl, by simpa using e.symm⟩
    · have hb : (y == ("__class__" : Str)) = false := by simpa using h
      simp [List.lookup, hb] at e
  refine ⟨rfl, fun y c e => ?_, fun x y c e1 e2 => (one x c e1).1.trans (one y c e2).1.symm, fun i y hi => ?_⟩
  · rw [(one y c e).2]
    exact ⟨hb.2, _, _, hb.1, rfl⟩
  · cases i with
    | zero =>
      cases hi
      exact ⟨cc, by rw [U.cl]; simp, fun v hv => by cases hv; exact ⟨.ref C, rfl, _, hb.1, rfl⟩⟩
    | succ i => cases i <;> cases hi
/-- THE RULE: such an __init__, by what stands behind super().__init__(text) -/
theorem fn_sup (U : SupC P K C f cc F fd) {p0 p1 p2 p3 p4 p5 : Pos} {txt : Str} {kd : Nat} {rest : List Stmt}
    (hbd : F.body = .Expr (.Call (.Attribute (.Call (.Name "super" p0) [] [] p1) "__init__" p2) [.Constant (.str txt) kd p5] [] p3) p4 :: rest) (S : NScope N ("self" :: ps) ["__class__"] F.scope)
    {ar : Arg} (har : (F.params.posonlyargs ++ F.params.args).head? = some ar) (har1 : ar.arg = "self") (hks : F.scope.names.lookup ("super" : Str) = some .globalImplicit)
    (hcall : ∀ L, ∃ pl, eval (.Call (.Attribute (.Call (.Name "super" p0) [] [] p1) "__init__" p2) [.Constant (.str txt) kd p5] [] p3) (envF F f L) = (do
      let ov ← attributeBase (.Call (.Name "super" p0) [] [] p1) "__init__" (envF F f L) (eval (.Call (.Name "super" p0) [] [] p1) (envF F f L))
      standAt p2.atName
      let (fx, first) ← holding [ov] (getMethod ov "__init__" pl)
      callWith p3 fx first (backTo p3 (starEach [.Constant (.str txt) kd p5] (envF F f L))) []))
    (hint : ∀ L, interactive (envF F f L) = false) (hsw : ∀ L, swapsWith (.Call (.Attribute (.Call (.Name "super" p0) [] [] p1) "__init__" p2) [.Constant (.str txt) kd p5] [] p3) none p4.line (envF F f L) = pure false)
    (len : ∀ vs H Q E, sp vs H Q E → vs.length = ps.length + 1) (obj : ∀ vs H Q E, sp vs H Q E → ∃ a vs', vs = .ref a :: vs' ∧ H a = some (exo a C none))
    (hbody : ∀ (A : Around) (outer : List Env) (s : Shared) (H : Hp) (vs : List V) (Q : VK) (E : XK), Room k (A.deeper (envF F f s.heap.objs.size)) → sp vs H Q E →
      ∃ t, PSs (ncx CX P w K mg base N F f A outer s H E) rest t ∧ t { nx := fun _ H' => Q .non H', rt := Q } (startF N vs [some (.ref C)]) H) :
    FnOk P w K mg base CX (k + 1) f fd ("self" :: ps) sp := by
  refine ⟨len, fun A outer s H args us vs Q E hr e0 hb r hsp => ?_⟩
  have hl := len _ _ _ _ hsp
  have KX : K.In s.heap := e0.mod.kin.keeps fun b o e => (e0.bs b o e).1
  have lim : s.heap.NoLimit := e0.mod.nolimit.keeps fun b o e => (e0.bs b o e).1
  obtain ⟨oc, od, doc, pm, ctv, osl, rfl, lk⟩ := U.fn
  refine codeAny_call_function hr.depth (KX _ _ lk) rfl S.co S.gen rfl (PySem.W.codeRec_of KX U.cod) (hb _ _ _ _ ?_)
  refine wpAny_newFunctionEnv S.nocell (fun ⟨n, _⟩ hy => S.par n (List.of_mem_zip hy).1) (fun h₁ hns hsb => ⟨lim.fresh _ hsb, ?_⟩) S.kind
  show codeAny _ _ (.func F.body (envF F f s.heap.objs.size)) _ _
  have kp : ∀ b o, s.heap.get? b = some o → h₁.get? b = some o := fun b o e => hsb.extBut b o (Nat.ne_of_lt (Heap.lt_size e)) (Heap.get?_push_of_some _ e)
  obtain ⟨t, ht, hq⟩ := hbody A outer s H vs Q E (hr.deeper _) hsp
  obtain ⟨a, vs', rfl, ha⟩ := obj _ _ _ _ hsp
  have I : L2.Inv (ncx CX P w K mg base N F f A outer s H E) [] (startF N (.ref a :: vs') [some (.ref C)]) H { s with heap := h₁, toks := s.toks + ((("self" : Str) :: ps).zip us).length } := inv_startN S hr.hd e0 hl r (U.cells e0) hns kp
  refine ks_codeAny_funcAt ?_
  rw [hbd]
  obtain ⟨hp, gg, dd, tt, oo⟩ := s
  have I : L2.Inv (ncx CX P w K mg base N F f A outer ⟨hp, gg, dd, tt, oo⟩ H E) [] (startF N (.ref a :: vs') [some (.ref C)]) H ⟨h₁, gg, dd, tt + ((("self" : Str) :: ps).zip us).length, oo⟩ := I
  have X := I.kIn
  have KXh : K.In h₁ := X
  obtain ⟨nm, q0, NN, bs, bm, sn, sub, ab, col, dd', k0, k1, k2, k3, k5, hCls, hbm⟩ := U.oex.cls
  obtain ⟨clc, cld, csl, hcell⟩ := U.cell
  obtain ⟨ccl, cdd, vs2, ccs, file, tf, hcode, hvs, hfile⟩ := U.file
  have hka : F.scope.names.lookup ("self" : Str) = some .local := S.par _ List.mem_cons_self
  have hkc : F.scope.names.lookup ("__class__" : Str) = some .free := S.frk _ List.mem_cons_self
  obtain ⟨mb, hb1, hb2⟩ := e0.mod.blt
  obtain ⟨m, hnsL, hlook⟩ := I.loc
  have hself : m "self" = some (.ref a) := by
    obtain ⟨u, ru, hu⟩ := hlook 0 "self" (.ref a) (by
      have := S.pre
      cases N with
      | nil => simp at this
      | cons x N => simp at this; exact congrArg some this.1) rfl (.inl hka)
    obtain rfl : u = Value.ref a := ru
    rcases hu with ⟨_, h2⟩ | ⟨h2, _⟩
    · exact h2
    · have e : (envF F f hp.objs.size).kindOf ("self" : Str) = some .local := hka
      rcases h2 with h2 | h2
      · exact absurd (e.symm.trans h2) (by decide)
      · exact absurd (e.symm.trans h2) (by decide)
  obtain ⟨pl, hcall⟩ := hcall hp.objs.size
  have ha1 := exo_at I.hok ha
  obtain ⟨t1, hx⟩ := ha1
  refine ks_wpAt_execs_cons (ks_wpAt_Expr_any (ks_wpAt_MethodCall (he := hcall) ?_) (hint _) (hsw _))
  refine ks_wpAt_super_base (f := f) (cc := F.c) hks hkc rfl rfl (KXh _ _ lk) rfl har rfl (KXh _ _ hcode) rfl hvs hfile U.top ?_
  rw [har1]
  refine PySem.W.ks_loadName_global S.kind hks (Calls.loadGlobal_builtin (e0.mod.glob.keeps fun b o e => kp b o (e0.bs b o e).1) (PySem.W.mg_none_of (h := base) e0.mod.kin e0.mod.glob U.sup) (hb1.keeps fun b o e => kp b o (e0.bs b o e).1) ((hb2 _ (by decide)).trans (show bootBuiltins "super" = some (.type "super") by decide +kernel)) ⟨rfl, ?_⟩)
  refine wpAny_loadName_free (c := cc) S.kind hkc (by show F.cl.lookup ("__class__" : Str) = some cc; rw [U.cl]; rfl) ⟨_, KXh _ _ hcell, rfl⟩ ?_
  refine wpAny_loadName_local S.kind hka hnsL hself ?_
  have hD := KXh _ _ hCls
  refine ks_wpAny_isType_cls hD rfl ⟨rfl, ?_⟩
  refine ks_wpAny_call_super hD rfl hx rfl (fun c z => by cases z) (PySem.W.looks_mroIn KXh U.mro) (fun h2 e2 k2 => ?_)
  have I2 := I.kept (t' := tt + ((("self" : Str) :: ps).zip us).length) (h' := h2) k2
  have hx2 := k2 _ _ hx
  have IA : PySem.W.InstAt h2 a ({ cls := .ref C, dict := none, data := .fields #[.ref t1, .none, .none, .none, .bool false, .none] } : Obj) C none := ⟨hx2, rfl, rfl, trivial⟩
  have hI : PySem.W.Looks (model P w) h2 (isInstance (.ref a) (.type "ValueError")) true := IA.type.andThen (PySem.W.looks_subIn I2.kIn U.sve)
  have hm := U.mth
  cases hc : PySem.W.clsIn K C with
  | none => unfold PySem.W.ks_superIn at hm; rw [hc] at hm; cases hm
  | some cd =>
    unfold PySem.W.ks_superIn at hm
    rw [hc] at hm
    refine PySem.W.kxs_getMethod PySem.W.kxs_ValueError e2 (PySem.W.looks_opaque I2.kIn U.opq) (l₀ := cd.mro) (fun A Q E s k q => wpAny_bind ((PySem.W.looks_clsIn I2.kIn hc) A _ E s k (wpAny_pure q))) rfl I2.kIn hm hI (PySem.W.ks_ne I2.kIn IA hc) rfl ?_
    have hu : (h2.push (PySem.W.kxs_mw "ValueError.__init__" a)).get? h2.objs.size = some (PySem.W.kxs_mw "ValueError.__init__" a) := Heap.get?_push_at rfl rfl
    have I3 := I2.kept (t' := tt + ((("self" : Str) :: ps).zip us).length + 1) (h' := h2.push (PySem.W.kxs_mw "ValueError.__init__" a)) fun b o e => Heap.get?_push_of_some _ e
    have I3p := I3.pins_of (pins' := [(h2.objs.size, PySem.W.kxs_mw "ValueError.__init__" a)]) fun p hp => by
      rw [List.mem_singleton.mp hp]
      exact ⟨hu, I2.hok.fresh (Nat.le_refl _), Nat.ne_of_gt I2.lt, I2.nofs (Nat.le_refl _), fun v z => by cases z⟩
    have PAx : PA (ncx CX P w K mg base N F f A outer ⟨hp, gg, dd, tt, oo⟩ H E) [.Constant (.str txt) kd p5] (tCons (tC (.str txt)) tNil) := pa_cons pe_str pa_nil
    refine PySem.W.kxs_callWith (i := "ValueError.__init__") (u := h2.objs.size) (x := a) rfl (Calls.evalArgs_plain (thn (PAx.run p3 _ _ _ H (fun vs H1 => vs = [.str txt] ∧ H1 = H) I3p ⟨rfl, rfl⟩) fun us2 s4 ⟨vs4, H4, I4, r4, ev, eH⟩ => ?_))
    subst ev eH
    have hu4 := (I4.pin _ (List.mem_append_right _ (List.mem_singleton.mpr rfl))).1
    refine ⟨hu4, ?_⟩
    obtain ⟨t4, hx4⟩ := exo_at I4.hok ha
    have hz : us2.length ≤ sizeLine := by
      have := Paired.length r4
      rw [← this]
      show 1 ≤ sizeLine
      decide
    obtain ⟨hp4, g4, d4, tk4, o4⟩ := s4
    refine call_mw (I4.kIn _ _ hCls) hx4 hu4 hz fun h5 t5 k5 hx5 => ?_
    have J := I4.write (t' := tk4) (h' := h5) (x := a) (e := a) (o := exo a C none) (by rw [ha]; exact True.intro) (.inl rfl) k5 ⟨_, hx5⟩ (exo_ok hx5)
    have eu : upd H4 a (exo a C none) = H4 := by
      funext b
      by_cases hb : b = a
      · rw [hb, upd_same, ha]
      · rw [upd_ne hb]
    rw [eu] at J
    have J5 := J.pins_of (pins' := []) fun p hp => by cases hp
    refine wpAt_of_wpAny (wpAny_mono (ht.run [] _ _ _ _ J5 hq) (fun fl s' hs => ?_) fun e s' hs => hs)
    cases fl with
    | ret u =>
      obtain ⟨v, σ', H', J, rv, q⟩ := hs
      exact ⟨v, H', J.os, J.bare, J.base, J.hok, rv, q⟩
    | next =>
      obtain ⟨σ', H', J, q⟩ := hs
      exact ⟨V.non, H', J.os, J.bare, J.base, J.hok, rfl, q⟩
    | brk =>
      obtain ⟨_, _, _, q⟩ := hs
      exact False.elim q
    | cont =>
      obtain ⟨_, _, _, q⟩ := hs
      exact False.elim q
end
end Ls

namespace Ls
open PySem PySem.Spec PyProof.Rows L2 NdefX
/-! ### promises put together -/
section
variable {CX : CXT} {P : Program} {w : World} {K : PySem.W.Frag} {mg : Str → Option Value} {base : Heap} {k j : Nat} {f : Addr} {fd : FuncData} {ps : List Str} {sp sp1 sp2 : Sp} {X : Cx}
theorem fn_lift0 (F : FnOk P w K mg base CX0 k f fd ps sp) : FnOk P w K mg base CX k f fd ps sp := ⟨F.len, fun A outer s H args us vs Q E hr e0 hb r h => codeAny_mono (F.run A outer s H args us vs Q E hr e0 hb r h) fun x s' q => by
  cases x with
  | ok u =>
    cases u with
    | ret v => exact q
    | _ => exact False.elim q
  | error e => exact False.elim q⟩
theorem fn_or (F : FnOk P w K mg base CX k f fd ps sp1) (G : FnOk P w K mg base CX k f fd ps sp2) : FnOk P w K mg base CX k f fd ps (fun vs H Q E => sp1 vs H Q E ∨ sp2 vs H Q E) :=
  ⟨fun vs H Q E h => h.elim (F.len _ _ _ _) (G.len _ _ _ _), fun A outer s H args us vs Q E hr e0 hb r h => h.elim (F.run A outer s H args us vs Q E hr e0 hb r) (G.run A outer s H args us vs Q E hr e0 hb r)⟩
def spNo : Sp := fun _ _ _ _ => False
theorem fn_no : FnOk P w K mg base CX k f fd ps spNo := ⟨fun _ _ _ _ h => h.elim, fun _ _ _ _ _ _ _ _ _ _ _ _ _ h => h.elim⟩
theorem pss_no {st : List Stmt} : PSs X st (fun _ _ _ => False) := ⟨fun _ _ _ _ _ _ h => h.elim⟩
theorem pi_or {tg it : Expr} {w1 w2 : TI} (h1 : PI X tg it w1) (h2 : PI X tg it w2) : PI X tg it (fun σ H R => w1 σ H R ∨ w2 σ H R) :=
  ⟨fun pins s σ H R I h => h.elim (h1.run pins s σ H R I) (h2.run pins s σ H R I)⟩
end
section
variable {X : Cx} {W : WX} {e : Expr} {es : List Expr} {t : TA} {p pos : Pos} {x : Str} {k j : Nat} {sp : Sp} {dvs : List V}
/-- a call within a try: what the suites take stands at the caller's slots -/
theorem pe_cxS (c : CalX X.prog X.w X.K X.mg X.base k x sp dvs) (tk : Takes X W) (hr : Room j X.A) (hk : k ≤ j) (hg : Gl X x) (ha : PA X (e :: es) t) (hdb : (x == ("__debug__" : Str)) = false := by decide)
    (he : starEach (e :: es) X.env = (false, eval e X.env) :: starEach es X.env := by rfl) (hpl : (backTo pos (starEach es X.env)).any (·.1) = false := by rfl) : PE X (.Call (.Name x p) (e :: es) [] pos) (tCallSD sp dvs (WE W) t) := by
  have ⟨f, fd, ps, ds, F, hm, kp, b, d⟩ := c.ex
  exact pe_callSD F (hr.mono hk) hg hm kp b d (fun σ => passAt tk σ) ha hdb he hpl
end
/-! ### raise C(e), C's __init__: super().__init__(text); self.f = e -/
def spExc1 (C : Addr) (f : Str) : Sp := fun vs H Q _ => ∃ a v, vs = [.ref a, v] ∧ H a = some (exo a C none) ∧ ∀ dx, H dx = none → dx ≠ a → Q .non (upd (upd H dx (exd dx [(f, v)])) a (exo a C (some dx)))
structure ExcS (P : Program) (w : World) (K : PySem.W.Frag) (mg : Str → Option Value) (base : Heap) (x : Str) (C : Addr) (f : Str) : Prop where
  oex : OexC K C
  no : PySem.W.findIn K (.ref C) f = some none
  xf : XfC K C
  gC : mg x = some (.ref C)
  ex : ∃ (fI : Addr) (fd : FuncData) (ps : List Str), PySem.W.findIn K (.ref C) "__init__" = some (some (.ref fI)) ∧ PySem.W.typeIn K (.ref fI) = some (.type "function") ∧ FnOk P w K mg base CX0 1 fI fd ps (spExc1 C f) ∧ Binds K fd ps []
def tMk1 (C : Addr) (f : Str) (te : TE) : L2.St → Hp → XK → Prop := tMkO C (spExc1 C f) [] (tCons te tNil)
/-- how its reading is answered -/
theorem mk1 {C : Addr} {f : Str} {v : V} {H1 : Hp} {Q : XK} (h : ∀ d H2, Same H1 H2 → H1 d = none → H2 d = some (.xd [(f, v)]) → Q (.ref C) (some d) H2) :
    [v].length ≤ 1000 ∧ ∀ a, H1 a = none → spExc1 C f (.ref a :: ([v] ++ [])) (upd H1 a (exo a C none)) (fun u H2 => u = .non ∧ ∃ (d : Addr) (fs : List (Str × V)), H2 a = some (exo a C (some d)) ∧ H2 d = some (exd d fs) ∧ H1 d = none ∧ Q (.ref C) (some d) (upd (del H2 a) d (.xd fs))) (fun _ _ _ => False) := by
  refine ⟨by show 1 ≤ 1000; decide, fun a ha => ⟨a, v, rfl, upd_same, fun dx hn hne => ⟨rfl, dx, [(f, v)], upd_same, ?_, ?_, ?_⟩⟩⟩
  · rw [upd_ne hne, upd_same]
  · rw [upd_ne hne] at hn; exact hn
  · have hn' : H1 dx = none := by rw [upd_ne hne] at hn; exact hn
    refine h dx _ (fun b o e => ?_) hn' upd_same
    have n1 : b ≠ a := ne_of_none e ha
    have n2 : b ≠ dx := ne_of_none e hn'
    rw [upd_ne n2, del_ne n1, upd_ne n1, upd_ne n2, upd_ne n1]
    exact e
section
variable {X : Cx} {x f : Str} {C : Addr} {j : Nat} {e : Expr} {te : TE} {p pos : Pos}
theorem pmk_sup (U : ExcS X.prog X.w X.K X.mg X.base x C f) (hr : Room j X.A) (hj : 2 ≤ j) (hg : Gl X x) (he : PE X e te) (hdb : (x == ("__debug__" : Str)) = false := by decide)
    (hs : starEach [e] X.env = (false, eval e X.env) :: starEach [] X.env := by rfl) : PMk X (.Call (.Name x p) [e] [] pos) (tMk1 C f te) := by
  obtain ⟨fI, fd, ps, h1, h2, F1, hb⟩ := U.ex
  exact pmk_oex (dvs := []) (ds := []) (e := e) (es := []) (p := p) (pos := pos) U.oex h1 h2 F1 (hr.mono hj) hb .nil pass0 hg U.gC (pa_cons he pa_nil hs) hdb hs rfl
end
/-! ### isinstance of a caught error that has its dict -/
section
open PySem.W
variable {prog : Program} {w : World} {A : Around} {E : Value → Shared → Prop} {s : Shared} {K : Frag} {x D : Addr} {ox : Obj}
theorem kin_classX {od : Option Obj} {Q : Option Value → Shared → Prop} (T : ExcC K D) (X : K.In s.heap) (I : InstAt s.heap x ox D od) (h : Q (some (.ref D)) { s with toks := s.toks + 1 }) : wpAny (model prog w) A (getAttr? (.ref x) "__class__") Q E s := by
  have hc : (clsIn K D).isSome = true := by obtain ⟨cd, hc, _⟩ := any_some T.hd; rw [hc]; rfl
  have hf : findObj K D od "__class__" = some (.bind (.builtin "getset_descriptor.__get__") (.builtin "object.__class__")) := by
    cases od with
    | none => exact findObj_dataN hc T.ha T.hn T.ht
    | some od => exact findObj_data hc T.ha T.hn T.ht
  obtain ⟨hp, g, d, t, os⟩ := s
  have L0 := I.type (M := model prog w); have L1 := looks_findIn (M := model prog w) X T.hg; have L2 := looks_findIn (M := model prog w) X T.hk; have L3 := looks_find (M := model prog w) X I hf
  have sub : Looks (model prog w) hp (isInstance (.ref x) (.type "BaseException")) true := L0.andThen (looks_subIn X T.hs)
  have z2 : (Value.builtin "BaseException.__getattribute__" == Value.builtin "object.__getattribute__") = false := by decide +kernel
  have z1 : (onTheHeap (Value.ref D) && Value.builtin "BaseException.__getattribute__" == Value.builtin "object.__getattribute__") = false := by rw [z2]; rfl
  unfold getAttr? getAttrBy? getAttrBy
  refine wpAny_bind (wpAny_mkText (wpAny_bind (wpAny_attempt (wpAny_holding (wpAny_bind (L0.at (wpAny_bind (L1.at ?_)))))))); show wpAny _ _ (if (onTheHeap (Value.ref D) && Value.builtin "BaseException.__getattribute__" == Value.builtin "object.__getattribute__") = true then _ else _) _ _ _
  rw [z1, if_neg Bool.false_ne_true]; unfold getAttrByItsOwn hookBefore; refine wpAny_bind ?_
  rw [if_pos (show onTheHeap (Value.ref D) = true from rfl)]; refine L2.at ?_; refine wpAny_bind (wpAny_attempt (wpAny_holding ?_)); unfold callGetattribute
  rw [show (false && onTheHeap (Value.builtin "BaseException.__getattribute__")) = false from rfl, if_neg Bool.false_ne_true]; unfold boundAndCalled
  rw [PySem.F.excAttr_ValueError.ga.bind (.ref x)]; refine wpAny_bind (wpAny_pure ?_); show wpAny _ _ (call (.builtin "BaseException.__getattribute__") [.ref x, .str "__class__" t]) _ _ _
  refine wpAny_call (codeAny_call_builtin PySem.F.excAttr_ValueError.ga.plain PySem.F.entry_bexc_ga ?_); refine @check_slot (model prog w) _ _ ⟨hp, g, d, t + 1, os⟩ "BaseException.__getattribute__" "BaseException" "__getattribute__" (.ref x) [.str "__class__" t] [] _ (by decide +kernel) (by decide +kernel) sub (PySem.F.args_bexc_ga (.ref x) (.str "__class__" t)) ?_
  unfold Builtin.«object.__getattribute__»; refine wpAny_bind (wpAny_of_eq (a := ((Value.ref x : Value), [Value.str "__class__" t])) (by first | rfl | (simp only [slotArgs]; rfl)) ?_); refine wpAny_bind (wpAny_pure (wpAny_bind (L0.at (wpAny_bind (L3.at ?_)))))
  show wpAny _ _ (holding [Value.builtin "object.__class__"] (call (.builtin "getset_descriptor.__get__") [.builtin "object.__class__", .ref x, .ref D]) >>= ret) _ _ _
  refine wpAny_bind (wpAny_holding (wpAny_call (class_get (s := ⟨hp, g, d, t + 1, os⟩) (ox := ox) (od := od) X I T.hm ?_))); refine wpAny_pure ?_; show wpAny _ _ (handedOut (.ref D)) _ _ _
  rw [handedOut_of (v := .ref D) rfl]
  first
    | exact wpAny_pure (wpAny_pure h)
    | exact wpAny_pure h
    | exact wpAny_pure (wpAny_bind (wpAny_pure (wpAny_pure h)))
theorem kitx_excX {od : Option Obj} (T : ExcC K D) : KitX K (.ref x) (.ref D) (fun h => InstAt h x ox D od) where
  ty := fun _ _ _ I => I.type
  it := fun _ _ X _ => by
    obtain ⟨cdD, e, _⟩ := any_some T.hd; unfold clsIn at e
    split at e
    · next c' d' cd' sl' ho => intro A' Q' E' s' k q; unfold isType loadHead; exact wpAny_bind (wpAny_loadPart (k _ _ (X _ _ ho)) (wpAny_pure q))
    · cases e
  ne := (handS_kitx_exc (x := x) (ox := ox) T.hg T.hk T.hs T.hd T.ha T.hn T.ht T.hm).ne
  ca := fun X I k => kin_classX T X I k
end
/-- isinstance(e, c), e the exception of the suite, its dict at d -/
def rIsD (K : PySem.W.Frag) (cls : Value) (a : Addr) (d : Option Addr) : List V → Hp → VK → Prop := fun xs H Q => ∃ (c : V) (cv : Value) (b : Bool) (D dd : Addr) (fs : List (Str × V)), xs = [.ref a, c] ∧ cls = .ref D ∧ ExcC K D ∧ d = some dd ∧ H dd = some (.xd fs) ∧ (∀ u, RelV c u → u = cv) ∧ PySem.W.kitOne K (.ref D) cv = some b ∧ Q (.bl b) H
theorem call_isD {X : Cx} {a : Addr} {oe : Obj} {cls : Value} {d : Option Addr} {pn : List (Addr × Obj)} (hz : Zc cls d oe) (hf : ∃ vs, oe.data = .fields vs) : CallR (X.suite a ((a, oe) :: pn)) (.builtin "isinstance") (rIsD X.K cls a d) := by
  intro pins s σ H xs us Q I r h
  obtain ⟨c, cv, b, D, dd, fs, rfl, rfl, C, rfl, hdd, hcv, e, q⟩ := h
  cases r with
  | cons rx rr =>
    cases rr with
    | cons rt rr =>
      cases rr
      cases rx
      have ec := hcv _ rt
      subst ec
      obtain ⟨hget, _⟩ := I.pin (a, oe) (List.mem_append.mpr (.inl List.mem_cons_self))
      obtain ⟨vs, hv⟩ := hf
      have hx : ObjOk X.prog X.w H s.heap dd (.xd fs) := I.hok dd _ hdd
      obtain ⟨mA, hns, hr⟩ := hx
      obtain ⟨od, ho, hl⟩ := lookIn_ns hns
      have J : PySem.W.InstAt s.heap a oe D (some od) := ⟨hget, hz.1, by unfold PySem.W.notCls; rw [hv] <;> rfl, by rw [hz.2]; exact ho⟩
      exact PySem.W.kia_one (kitx_excX C) I.kIn J e (fun z => nomatch z) fun tk => ⟨.bl b, H, I.kept (t' := tk) fun _ _ z => z, rfl, q⟩
end Ls

namespace K1
open PySem PySem.Spec PyProof.Rows L2 Ls
def nestN : List Str := ["self", "sizes", "given", "rooms", "kept", "body", "pairs", "array", "indexes", "room", "counts"]
def RmNames : Rooms → Prop
  | .no _ => False
  | .dict kv => ∀ p ∈ kv, ∃ x ps, p = (Sum.inr x, .tuple ps)
theorem oneForm_mem {ps kv : List (Str × PyData)} (h : oneForm ps = some kv) : (∀ q ∈ kv, q ∈ ps) ∧ (kv.map (·.1)).Nodup := by
  have step : ∀ (ps0 ps1 : List (Str × PyData)) (a b : List (Str × PyData)), (∀ q ∈ a, q ∈ ps0) ∧ (a.map (·.1)).Nodup → ps1.foldlM oneStep a = some b → (∀ q ∈ b, q ∈ ps0 ++ ps1) ∧ (b.map (·.1)).Nodup := by
    intro ps0 ps1
    induction ps1 generalizing ps0 with
    | nil =>
      intro a b h e
      cases e
      rw [List.append_nil]
      exact h
    | cons p r ih =>
      intro a b h e
      rw [List.foldlM_cons] at e
      cases c : oneStep a p with
      | none => rw [c] at e; cases e
      | some a' =>
        rw [c] at e
        have := ih (ps0 ++ [p]) a' b ?_ e
        · rw [List.append_assoc] at this
          exact this
        · unfold oneStep at c
          split at c
          · split at c
            · cases c
              exact ⟨fun q hq => List.mem_append_left _ (h.1 q hq), h.2⟩
            · cases c
          · rename_i hn
            cases c
            refine ⟨fun q hq => ?_, ?_⟩
            · rcases List.mem_append.mp hq with hq | hq
              · exact List.mem_append_left _ (h.1 q hq)
              · exact List.mem_append_right _ hq
            · rw [List.map_append]
              refine List.nodup_append.mpr ⟨h.2, List.nodup_cons.mpr ⟨by simp, List.nodup_nil⟩, ?_⟩
              intro x hx y hy exy
              obtain ⟨q, hq, rfl⟩ := List.mem_map.mp hx
              rw [List.mem_singleton.mp hy] at exy
              have hx2 : a.lookup p.1 ≠ none := by
                intro z
                rw [List.lookup_eq_none_iff] at z
                have := z _ hq
                have exy : q.1 = p.1 := exy
                rw [exy] at this
                simp at this
              exact hx2 hn
  have := step [] ps [] kv ⟨fun q hq => (by cases hq), List.nodup_nil⟩ h
  exact this
theorem lk_key {nm : Str} {kv : List (Str × PyData)} (h : nm ∈ kv.map (·.1)) : kv.lookup nm ≠ none := fun z => by
  obtain ⟨q, hq, rfl⟩ := List.mem_map.mp h
  rw [List.lookup_eq_none_iff] at z
  have := z _ hq
  simp at this
theorem arrK_put {kv : List (Str × PyData)} {ys : List Str} {y : Str} (h : y ∉ ys) : putK (arrK kv ys) (Sum.inr y : Key) (V.int (intOf ((kv.lookup y).getD .none))) = arrK kv (ys ++ [y]) := by
  rw [putK_new]
  · unfold arrK
    rw [List.map_append]
    rfl
  · induction ys with
    | nil => rfl
    | cons z r ih =>
      have hz : ¬ ((Sum.inr z : Key) = Sum.inr y) := fun e => h (by injection e with e; rw [e]; exact List.mem_cons_self)
      show valV ((((Sum.inr z : Key)), V.int _) :: arrK kv r) _ = none
      rw [valV_neg hz]
      exact ih fun q => h (List.mem_cons_of_mem _ q)
theorem keysD {N : Addr → Prop} {H : Hp} : ∀ {kvs : List (Key × V)} {kv : List (Str × PyData)}, Paired (fun (a : Key × V) (b : Str × PyData) => a.1 = (Sum.inr b.1 : Key) ∧ Dt N H a.2 b.2) kvs kv → kvs.map (·.1) = (kv.map (·.1)).map Sum.inr
  | _, _, .nil => rfl
  | _, _, .cons r t => by
    rw [List.map_cons, List.map_cons, List.map_cons, keysD t, r.1]
section
variable {P : Program} {w : World} {K : PySem.W.Frag} {mg : Str → Option Value} {base : Heap} {f CN : Addr} {fd : FuncData} {k : Nat}
theorem sc_Nest___init__ : FnScope ["self", "sizes", "given", "rooms", "kept", "body", "pairs", "array", "indexes", "room", "counts"] ["self", "sizes", "given", "rooms", "kept", "body"] (defScope s_Nest___init__) := ⟨rfl, rfl, rfl, by decide +kernel, rfl, by decide +kernel, by decide +kernel⟩
theorem init_b (G : Facts mg) (NC : NCls K CN) (C_one_form : Cal P w K mg base 1 "one_form" spOneForm []) (C_forms : Cal P w K mg base 42 "forms" (spItems frmOf 40) [])
    {f : Addr} {cdv : Value} {A : Around} {outer : List Env} {s : Shared} {H00 : Hp} {E : XK} (hr : Room 130 (A.deeper (envOfC "Nest.__init__" (defScope s_Nest___init__) s.heap.objs.size f cdv))) :
    ∃ t, PSs (cxOf (L2.CX P w) P w K mg base nestN "Nest.__init__" (defScope s_Nest___init__) f cdv A outer s H00 E) ((defBody s_Nest___init__).drop 6) t ∧
      ∀ (D : Ends) (N : Addr → Prop) (H0 H : Hp) (p dx rd l : Addr) (v1 v2 v4 v5 : V) (sz given kept : PyData) (ds : List PyData) (kv : List (Key × PyData)) (kvs : List (Key × V)) (xs : List V) (kvA kvL : List (Str × PyData)) (y7 y8 y9 y10 : Option V), Same H0 H → H0 p = none → H p = some (.ins CN dx []) →
        Dt N H0 v1 sz → Dt N H0 v2 given → Dt N H0 v4 kept → Dt N H0 v5 (.tuple ds) → (∀ a, H0 a = none → N a) → H0 rd = some (.dK kvs) → (∀ x ∈ ds, Nd 40 x) → (ds.flatMap (frmOf 40)).length ≤ 50000 → (∀ q ∈ formsN (.tuple ds), PyData.depth q.2 ≤ 60) → (∀ q ∈ pairsN (.tuple ds) (.dict kv), ∃ i : Int, q.2 = .int i) →
        (pairsN (.tuple ds) (.dict kv)).length ≤ 100000 → H l = some (.lst xs) → DtAll N H xs ((pairsN (.tuple ds) (.dict kv)).map pairD) → (ds.flatMap (frmOf 40)) = (formsN (.tuple ds)).map pairD → oneForm (pairsN (.tuple ds) (.dict kv)) = some kvA → oneForm (formsN (.tuple ds)) = some kvL → kvA.length < 64 → kvL.length < 64 →
        (∀ H', Same H0 H' → NestAt N CN H' p sz given (.dict kv) kept (.tuple ds) → ∀ z, D.nx z H') →
        t D [some (.ref p), some v1, some v2, some (.ref rd), some v4, some v5, some (.ref l), y7, y8, y9, y10] H := by
  have hu := hu_of hr
  refine ⟨_, (pss_cons (ps_fld (pv 0) (pv 1) rfl)
      (pss_cons (ps_fld (pv 0) (pv 2) rfl)
      (pss_cons (ps_fld (pv 0) (pe_callTy call_dictD (by rfl) G.dict_ (by decide +kernel) (pa_cons (pv 3) pa_nil)) rfl)
      (pss_cons (ps_fld (pv 0) (pv 4) rfl)
      (pss_cons (ps_fld (pv 0) (pv 5) rfl)
      (pss_cons (ps_set (i := 10) sc_Nest___init__.nd rfl (.inr rfl) (pe_c C_one_form hr (by decide) (by rfl) (pa_cons (pv 6) pa_nil)))
      (pss_cons (ps_fld (pv 0) (pe_dc (own := [("array", 7)]) (g := gName 7) (tt := tYes) rfl sc_Nest___init__.nd  (kpi_list K (pe_callB (call_sortedD rfl) (by rfl) G.sorted_ (by decide +kernel) (pa_cons (pv 10) pa_nil))) (blkOk_by (by kernel_rfl)) (fun _ _ _ _ _ => (pg_name (i := 7) sc_Nest___init__.nd rfl (by first | exact .inl rfl | exact .inr rfl))) (fun _ _ _ _ _ => pts_nil) (fun _ _ _ _ _ => (pv 7)) (fun _ _ _ _ _ => (pe_dget hu (pv 10) (pv 7) (fun _ _ => rfl)))) rfl)
      (pss_one (ps_fld (pv 0) (pe_callB (call_sortedD rfl) (by rfl) G.sorted_ (by decide +kernel) (pa_cons (pe_c C_one_form hr (by decide) (by rfl) (pa_cons (pe_c C_forms hr (by decide) (by rfl) (pa_cons (pv 5) pa_nil)) pa_nil)) pa_nil)) rfl))))))))), ?_⟩
  intro D N H0 H p dx rd l v1 v2 v4 v5 sz given kept ds kv kvs xs kvA kvL y7 y8 y9 y10 s0 np hp h1 h2 h4 h5 hN hrd hnd hfl hfd hpd hpl hl hxs hfe eA eL lA lL hk
  have nN : ∀ {H' : Hp}, Same H0 H' → ∀ a, H' a = none → N a := fun s a e => hN a (s.free e)
  have hxs := hxs.offg (D := p) (off_ins hp)
  have lp : l ≠ p := ne_of hl hp (by intro z; cases z)
  refine ⟨_, rfl, _, rfl, p, CN, dx, [], rfl, hp, NC.cl, NC.nS, (by show 0 < 1000; decide), ?_⟩
  refine ⟨_, rfl, _, rfl, p, CN, dx, _, rfl, upd_same, NC.cl, NC.nG, (by show 1 < 1000; decide), ?_⟩
  have s1 : Same H0 (upd (upd H p (.ins CN dx (putF ("sizes" : Str) v1 []))) p (.ins CN dx (putF ("given" : Str) v2 (putF ("sizes" : Str) v1 [])))) := same_mut (same_mut s0 np) np
  have kp : ∀ b o, (N b ∧ b ≠ p) → H b = some o → (upd (upd H p (.ins CN dx (putF ("sizes" : Str) v1 []))) p (.ins CN dx (putF ("given" : Str) v2 (putF ("sizes" : Str) v1 [])))) b = some o := fun b o hb e => by rw [upd_ne hb.2, upd_ne hb.2]; exact e
  have hl1 : (upd (upd H p (.ins CN dx (putF ("sizes" : Str) v1 []))) p (.ins CN dx (putF ("given" : Str) v2 (putF ("sizes" : Str) v1 [])))) l = some (.lst xs) := by rw [upd_ne lp, upd_ne lp]; exact hl
  have hp1 : (upd (upd H p (.ins CN dx (putF ("sizes" : Str) v1 []))) p (.ins CN dx (putF ("given" : Str) v2 (putF ("sizes" : Str) v1 [])))) p = some (.ins CN dx (putF ("given" : Str) v2 (putF ("sizes" : Str) v1 []))) := upd_same
  have hxs1 := hxs.to (M := fun b => N b ∧ b ≠ p) (fun _ q => q) kp
  generalize (upd (upd H p (.ins CN dx (putF ("sizes" : Str) v1 []))) p (.ins CN dx (putF ("given" : Str) v2 (putF ("sizes" : Str) v1 [])))) = H1 at s1 hl1 hp1 hxs1
  clear kp hxs hl hp
  refine ⟨_, rfl, rd, kvs, rfl, .inl (s1 _ _ hrd), fun r nr => ?_⟩
  have s12 := same_upd nr (o := .dK kvs)
  have pr : p ≠ r := ne_of_none hp1 nr
  have hr1 : (upd H1 r (.dK kvs)) r = some (.dK kvs) := upd_same
  have hp2 := s12 _ _ hp1
  have hl2 := s12 _ _ hl1
  have hxs2 := hxs1.mono s12
  have s2 := s1.trans s12
  generalize upd H1 r (.dK kvs) = H2 at s2 hr1 hp2 hl2 hxs2
  have rl : l ≠ r := ne_of hl2 hr1 (by intro z; cases z)
  clear hxs1 hl1 hp1 s12 nr s1 H1 s0
  refine ⟨_, rfl, p, CN, dx, _, rfl, hp2, NC.cl, NC.nR, (by show 2 < 1000; decide), ?_⟩
  refine ⟨_, rfl, _, rfl, p, CN, dx, _, rfl, upd_same, NC.cl, NC.nK, (by show 3 < 1000; decide), ?_⟩
  refine ⟨_, rfl, _, rfl, p, CN, dx, _, rfl, upd_same, NC.cl, NC.nB, (by show 4 < 1000; decide), ?_⟩
  have kp3 : ∀ b o, b ≠ p → H2 b = some o → (upd (upd (upd H2 p (.ins CN dx (putF ("_rooms" : Str) (.ref r) (putF ("given" : Str) v2 (putF ("sizes" : Str) v1 []))))) p (.ins CN dx (putF ("kept" : Str) v4 (putF ("_rooms" : Str) (.ref r) (putF ("given" : Str) v2 (putF ("sizes" : Str) v1 [])))))) p (.ins CN dx (putF ("body" : Str) v5 (putF ("kept" : Str) v4 (putF ("_rooms" : Str) (.ref r) (putF ("given" : Str) v2 (putF ("sizes" : Str) v1 []))))))) b = some o := fun b o hb e => by rw [upd_ne hb, upd_ne hb, upd_ne hb]; exact e
  have s3 : Same H0 (upd (upd (upd H2 p (.ins CN dx (putF ("_rooms" : Str) (.ref r) (putF ("given" : Str) v2 (putF ("sizes" : Str) v1 []))))) p (.ins CN dx (putF ("kept" : Str) v4 (putF ("_rooms" : Str) (.ref r) (putF ("given" : Str) v2 (putF ("sizes" : Str) v1 [])))))) p (.ins CN dx (putF ("body" : Str) v5 (putF ("kept" : Str) v4 (putF ("_rooms" : Str) (.ref r) (putF ("given" : Str) v2 (putF ("sizes" : Str) v1 []))))))) := same_mut (same_mut (same_mut s2 np) np) np
  have hp3 : (upd (upd (upd H2 p (.ins CN dx (putF ("_rooms" : Str) (.ref r) (putF ("given" : Str) v2 (putF ("sizes" : Str) v1 []))))) p (.ins CN dx (putF ("kept" : Str) v4 (putF ("_rooms" : Str) (.ref r) (putF ("given" : Str) v2 (putF ("sizes" : Str) v1 [])))))) p (.ins CN dx (putF ("body" : Str) v5 (putF ("kept" : Str) v4 (putF ("_rooms" : Str) (.ref r) (putF ("given" : Str) v2 (putF ("sizes" : Str) v1 []))))))) p = some (.ins CN dx (putF ("body" : Str) v5 (putF ("kept" : Str) v4 (putF ("_rooms" : Str) (.ref r) (putF ("given" : Str) v2 (putF ("sizes" : Str) v1 [])))))) := upd_same
  generalize (upd (upd (upd H2 p (.ins CN dx (putF ("_rooms" : Str) (.ref r) (putF ("given" : Str) v2 (putF ("sizes" : Str) v1 []))))) p (.ins CN dx (putF ("kept" : Str) v4 (putF ("_rooms" : Str) (.ref r) (putF ("given" : Str) v2 (putF ("sizes" : Str) v1 [])))))) p (.ins CN dx (putF ("body" : Str) v5 (putF ("kept" : Str) v4 (putF ("_rooms" : Str) (.ref r) (putF ("given" : Str) v2 (putF ("sizes" : Str) v1 []))))))) = H3 at kp3 s3 hp3
  have hr3 := kp3 _ _ pr.symm hr1
  have hl3 := kp3 _ _ lp hl2
  have hxs3 := hxs2.to (M := fun b => N b ∧ b ≠ p) (fun _ q => q) fun b o hb e => kp3 b o hb.2 e
  clear kp3 hxs2 hl2 hp2 hr1 s2 H2
  obtain ⟨memA, ndA⟩ := oneForm_mem eA
  obtain ⟨memL, ndL⟩ := oneForm_mem eL
  refine ⟨_, rfl, (fun b => N b ∧ b ≠ p), l, xs, _, rfl, hl3, hxs3, hpl, fun q hq => ?_, fun z => (by rw [eA] at z; cases z), fun kvA' eA' H4 D1 s4 nD1 hD1 => ?_⟩
  · obtain ⟨i, e⟩ := hpd q hq
    rw [e]
    simp [PyData.depth]
  rw [eA] at eA'
  cases eA'
  obtain ⟨kva, hd1, hpr⟩ := hD1
  refine ⟨_, rfl, D1, kva, kvA.map (·.1), rfl, .inl hd1, keysD hpr, (by rw [List.length_map]; exact lA), fun ys q perm srt nq => ?_⟩
  have s45 := same_upd nq (o := .lst (ys.map V.str))
  have hq : (upd H4 q (.lst (ys.map V.str))) q = some (.lst (ys.map V.str)) := upd_same
  have s05 := (s3.trans s4).trans s45
  have hp5 := s45 _ _ (s4 _ _ hp3)
  have hr5 := s45 _ _ (s4 _ _ hr3)
  have hd5 := s45 _ _ hd1
  generalize upd H4 q (.lst (ys.map V.str)) = H5 at s45 hq s05 hp5 hr5 hd5
  refine ⟨q, rfl, ⟨_, sq hq⟩, fun D2 nD2 => ?_⟩
  have hyl : ys.length < 64 := by rw [perm.length_eq, List.length_map]; exact lA
  have hynd : ys.Nodup := perm.nodup_iff.mpr ndA
  refine dc_it (walk_list (K := K) (a := q) (xs := ys.map V.str)) (fun j H' => Same H5 H' ∧ H' D2 = some (.dK (arrK kvA (ys.take j)))) ⟨same_upd nD2, upd_same⟩ (fun j H' _ ⟨s, _⟩ => sq (s _ _ hq)) ?_ ?_
  · rintro j y H8 H' hj ⟨s, dD⟩ ⟨rfl, ey⟩
    rw [List.length_map] at hj
    rw [List.getElem?_map, List.getElem?_eq_getElem hj] at ey
    cases ey
    have hmem : ys[j] ∈ kvA.map (·.1) := perm.subset (List.getElem_mem hj)
    obtain ⟨v, hv⟩ : ∃ v, valV kva (Sum.inr ys[j] : Key) = some v := by
      cases c : valV kva (Sum.inr ys[j] : Key) with
      | some v => exact ⟨v, rfl⟩
      | none => exact absurd (lk_none hpr c) (lk_key hmem)
    obtain ⟨d, hd, hdm, hdt⟩ := lk_of hpr hv
    obtain ⟨i, ei⟩ := hpd _ (memA _ hdm)
    have ei : d = .int i := ei
    subst ei
    cases hdt
    have hsn := tsn hj
    have hnin : ys[j] ∉ ys.take j := fun z => by
      have := hynd
      rw [← List.take_append_drop j ys] at this
      have h3 := (List.nodup_append.mp this).2.2 _ z ys[j] (by rw [List.drop_eq_getElem_cons hj]; exact List.mem_cons_self)
      exact h3 rfl
    refine ⟨rfl, _, rfl, _, rfl, _, rfl, D1, _, rfl, .inl ⟨kva, (Sum.inr ys[j] : Key), .inl (s _ _ hd5), rfl, hv.symm⟩, _, (Sum.inr ys[j] : Key), rfl, dD, szlt (by unfold arrK; rw [List.length_map, List.length_take]; omega), same_mut s nD2, ?_⟩
    rw [upd_same, hsn, ← arrK_put hnin, hd]
    rfl
  rintro H6 ⟨s6, dD⟩
  rw [List.length_map, List.take_length] at dD
  have s06 := s05.trans s6
  have hp6 := s6 _ _ hp5
  have hr6 := s6 _ _ hr5
  have pD2 : p ≠ D2 := ne_of_none hp5 nD2
  have rp : r ≠ p := pr.symm
  refine ⟨_, rfl, p, CN, dx, _, rfl, hp6, NC.cl, NC.nA, (by show 5 < 1000; decide), ?_⟩
  have kp7 : ∀ b o, b ≠ p → H6 b = some o → (upd H6 p (.ins CN dx (putF ("_arrays" : Str) (.ref D2) (putF ("body" : Str) v5 (putF ("kept" : Str) v4 (putF ("_rooms" : Str) (.ref r) (putF ("given" : Str) v2 (putF ("sizes" : Str) v1 [])))))))) b = some o := fun b o hb e => by rw [upd_ne hb]; exact e
  have hp7 : (upd H6 p (.ins CN dx (putF ("_arrays" : Str) (.ref D2) (putF ("body" : Str) v5 (putF ("kept" : Str) v4 (putF ("_rooms" : Str) (.ref r) (putF ("given" : Str) v2 (putF ("sizes" : Str) v1 [])))))))) p = _ := upd_same
  have s07 : Same H0 (upd H6 p (.ins CN dx (putF ("_arrays" : Str) (.ref D2) (putF ("body" : Str) v5 (putF ("kept" : Str) v4 (putF ("_rooms" : Str) (.ref r) (putF ("given" : Str) v2 (putF ("sizes" : Str) v1 [])))))))) := same_mut s06 np
  generalize (upd H6 p (.ins CN dx (putF ("_arrays" : Str) (.ref D2) (putF ("body" : Str) v5 (putF ("kept" : Str) v4 (putF ("_rooms" : Str) (.ref r) (putF ("given" : Str) v2 (putF ("sizes" : Str) v1 [])))))))) = H7 at kp7 hp7 s07
  have hr7 := kp7 _ _ rp hr6
  have hD7 := kp7 _ _ pD2.symm dD
  clear kp7 hp6 hr6 s06 s6 dD H6
  refine ⟨_, rfl, N, v5, ds, rfl, h5.mono s07, hnd, by omega, nN s07, fun H8 l2 xs2 s8 nl2 hl2 hxs2 => ?_⟩
  rw [hfe] at hxs2
  refine ⟨N, l2, xs2, _, rfl, hl2, hxs2, ?_, hfd, fun z => (by rw [eL] at z; cases z), fun kvL' eL' H9 D3 s9 nD3 hD3 => ?_⟩
  · have := congrArg List.length hfe
    rw [List.length_map] at this
    omega
  rw [eL] at eL'
  cases eL'
  obtain ⟨kvl, hd3, hpr3⟩ := hD3
  refine ⟨D3, kvl, kvL.map (·.1), rfl, .inl hd3, keysD hpr3, (by rw [List.length_map]; exact lL), fun ysL q2 permL srtL nq2 => ?_⟩
  have s10 := (s8.trans s9).trans (same_upd nq2 (o := .lst (ysL.map V.str)))
  have hq2 : (upd H9 q2 (.lst (ysL.map V.str))) q2 = some (.lst (ysL.map V.str)) := upd_same
  generalize upd H9 q2 (.lst (ysL.map V.str)) = H10 at s10 hq2
  have hp10 := s10 _ _ hp7
  have pq2 : p ≠ q2 := ne_of hp10 hq2 (by intro z; cases z)
  refine ⟨_, rfl, p, CN, dx, _, rfl, hp10, NC.cl, NC.nL, (by show 6 < 1000; decide), ?_⟩
  have s0A := same_mut (o := .ins CN dx (fs7 v1 v2 v4 v5 r D2 q2)) (s07.trans s10) np
  refine hk _ s0A ⟨dx, _, v1, v2, v4, v5, r, D2, q2, kvs, kvA, kvL, ys, ysL, upd_same, fs7_s, fs7_g, fs7_r, fs7_k, fs7_b, fs7_a, fs7_l, h1.mono s0A, h2.mono s0A, h4.mono s0A, h5.mono s0A, ?_, eA, perm, srt, ?_, eL, permL, srtL, ?_, fs7_no⟩ _
  · rw [upd_ne rp]; exact s10 _ _ hr7
  · rw [upd_ne pD2.symm]; exact s10 _ _ hD7
  · rw [upd_ne pq2.symm]; exact hq2
end
end K1

namespace K1
open PySem PySem.Spec PyProof.Rows L2 Ls
theorem acc_is : ∀ (n : Nat) {d : PyData}, Nd n d → ∀ y ∈ accOf n d, IsAcc y
  | _, _, .run (n := m) ht hr _, y, hy => by
    simp only [accOf] at hy
    rcases List.mem_cons.mp hy with rfl | h
    · exact ht
    · exact hr y h
  | _, _, .loop (n := m) hb, y, hy => by
    simp only [accOf] at hy
    obtain ⟨x, hx, h⟩ := List.mem_flatMap.mp hy
    exact acc_is m (hb x hx) y h
  | _, _, .test (n := m) hb, y, hy => by
    simp only [accOf] at hy
    obtain ⟨x, hx, h⟩ := List.mem_flatMap.mp hy
    exact acc_is m (hb x hx) y h
def IsFrm (y : PyData) : Prop := ∃ l i j, y = .tuple [.str l, .tuple [.int i, .int j]]
theorem frm_is : ∀ (n : Nat) {d : PyData}, Nd n d → ∀ y ∈ frmOf n d, IsFrm y
  | _, _, .run (n := m) ht hr _, y, hy => by
    simp only [frmOf] at hy
    rw [List.mem_singleton.mp hy]
    exact ⟨_, _, _, rfl⟩
  | _, _, .loop (n := m) hb, y, hy => by
    simp only [frmOf] at hy
    obtain ⟨x, hx, h⟩ := List.mem_flatMap.mp hy
    exact frm_is m (hb x hx) y h
  | _, _, .test (n := m) hb, y, hy => by
    simp only [frmOf] at hy
    obtain ⟨x, hx, h⟩ := List.mem_flatMap.mp hy
    exact frm_is m (hb x hx) y h
theorem accs_is {ds : List PyData} (h : ∀ x ∈ ds, Nd 40 x) : ∀ y ∈ ds.flatMap (accOf 40), IsAcc y := fun y hy => by
  obtain ⟨x, hx, h'⟩ := List.mem_flatMap.mp hy
  exact acc_is 40 (h x hx) y h'
theorem frms_is {ds : List PyData} (h : ∀ x ∈ ds, Nd 40 x) : ∀ y ∈ ds.flatMap (frmOf 40), IsFrm y := fun y hy => by
  obtain ⟨x, hx, h'⟩ := List.mem_flatMap.mp hy
  exact frm_is 40 (h x hx) y h'
theorem formsN_eq {ds : List PyData} (h : ∀ x ∈ ds, Nd 40 x) : ds.flatMap (frmOf 40) = (formsN (.tuple ds)).map pairD := by
  have := frms_is h
  show _ = ((ds.flatMap (frmOf 40)).map formP).map pairD
  rw [List.map_map]
  have e : ∀ (L : List PyData), (∀ y ∈ L, IsFrm y) → L = L.map (pairD ∘ formP) := fun L => by
    induction L with
    | nil => exact fun _ => rfl
    | cons y r ih =>
      intro h
      obtain ⟨l, i, j, rfl⟩ := h y List.mem_cons_self
      rw [List.map_cons, ← ih fun z hz => h z (List.mem_cons_of_mem _ hz)]
      rfl
  exact e _ this
theorem formsN_dep {ds : List PyData} (h : ∀ x ∈ ds, Nd 40 x) : ∀ q ∈ formsN (.tuple ds), PyData.depth q.2 ≤ 60 := fun q hq => by
  obtain ⟨y, hy, rfl⟩ := List.mem_map.mp hq
  obtain ⟨l, i, j, rfl⟩ := frms_is h y hy
  simp [formP, PyData.depth, PyData.depthAll]
def RmGood (q : Key × PyData) : Prop := ∃ x ps, q = (Sum.inr x, .tuple ps) ∧ x.length ≤ 1000 ∧ PySem.PyData.strOk x = true
theorem pairsN_int {ds : List PyData} {kv : List (Key × PyData)} (h : ∀ x ∈ ds, Nd 40 x) (hr : ∀ q ∈ kv, RmGood q) : ∀ q ∈ pairsN (.tuple ds) (.dict kv), ∃ i : Int, q.2 = .int i := fun q hq => by
  rcases List.mem_append.mp hq with hq | hq
  · obtain ⟨y, hy, rfl⟩ := List.mem_map.mp hq
    obtain ⟨a, ix, rfl⟩ := accs_is h y hy
    exact ⟨_, rfl⟩
  · obtain ⟨y, hy, rfl⟩ := List.mem_map.mp hq
    obtain ⟨x, ps, rfl, _⟩ := hr y hy
    exact ⟨_, rfl⟩
section
variable {P : Program} {w : World} {K : PySem.W.Frag} {mg : Str → Option Value} {base : Heap} {f CN CB : Addr} {fd : FuncData} {k : Nat}
theorem init_a (G : Facts mg) (NC : NCls K CN) (BN : ExcF K mg "BadNest" CB) (C_one_form : Cal P w K mg base 1 "one_form" spOneForm []) (C_accesses : Cal P w K mg base 42 "accesses" (spItems accOf 40) []) (C_forms : Cal P w K mg base 42 "forms" (spItems frmOf 40) [])
    {f : Addr} {cdv : Value} {A : Around} {outer : List Env} {s : Shared} {H00 : Hp} {E : XK} (hr : Room 130 (A.deeper (envOfC "Nest.__init__" (defScope s_Nest___init__) s.heap.objs.size f cdv))) :
    ∃ t, PSs (cxOf (L2.CX P w) P w K mg base nestN "Nest.__init__" (defScope s_Nest___init__) f cdv A outer s H00 E) ((defBody s_Nest___init__).drop 3) t ∧
      ∀ (D : Ends) (N : Addr → Prop) (H0 H : Hp) (p dx rd : Addr) (v1 v2 v4 v5 : V) (sz given kept : PyData) (ds : List PyData) (kv : List (Key × PyData)) (kvs : List (Key × V)) (y6 y7 y8 y9 y10 : Option V), Same H0 H → H0 p = none → H p = some (.ins CN dx []) →
        Dt N H0 v1 sz → Dt N H0 v2 given → Dt N H0 v4 kept → Dt N H0 v5 (.tuple ds) → (∀ a, H0 a = none → N a) → H0 rd = some (.dK kvs) → Paired (fun (a : Key × V) (b : Key × PyData) => a.1 = b.1 ∧ Dt N H0 a.2 b.2) kvs kv → kv.length ≤ 1000 → (∀ q ∈ kv, RmGood q) → (∀ x ∈ ds, Nd 40 x) →
        (ds.flatMap (accOf 40)).length ≤ 50000 → (ds.flatMap (frmOf 40)).length ≤ 50000 → (∀ kvA, oneForm (pairsN (.tuple ds) (.dict kv)) = some kvA → kvA.length < 64) → (∀ kvL, oneForm (formsN (.tuple ds)) = some kvL → kvL.length < 64) →
        (((oneForm (pairsN (.tuple ds) (.dict kv))).isSome && (oneForm (formsN (.tuple ds))).isSome) = false → ∀ H', Same H0 H' → E (.ref CB) none H') →
        (((oneForm (pairsN (.tuple ds) (.dict kv))).isSome && (oneForm (formsN (.tuple ds))).isSome) = true → ∀ H', Same H0 H' → NestAt N CN H' p sz given (.dict kv) kept (.tuple ds) → (∀ z, D.nx z H')) →
        t D [some (.ref p), some v1, some v2, some (.ref rd), some v4, some v5, y6, y7, y8, y9, y10] H := by
  have hu := hu_of hr
  obtain ⟨t6, p6, h6⟩ := init_b (CN := CN) (outer := outer) (H00 := H00) (E := E) G NC C_one_form C_forms hr
  refine ⟨_, (pss_cons (ps_setLc (i := 6) (own := [("array", 7), ("indexes", 8)]) (g := gTup K 2 (gCons (gName 7) (gCons (gName 8) (gNil)))) (tt := tYes) rfl sc_Nest___init__.nd rfl rfl (sw_true rfl rfl rfl (by decide +kernel)) (kpi_list K (pe_c C_accesses hr (by decide) (by rfl) (pa_cons (pv 5) pa_nil))) (blkOk_by (by kernel_rfl)) (fun _ _ _ _ _ => (kpg_tup K rfl (pgs_cons (pg_name (i := 7) sc_Nest___init__.nd rfl (by first | exact .inl rfl | exact .inr rfl)) (pgs_cons (pg_name (i := 8) sc_Nest___init__.nd rfl (by first | exact .inl rfl | exact .inr rfl)) pgs_nil)))) (fun _ _ _ _ _ => pts_nil) (fun _ _ _ _ _ => (pe_tup (pa_cons (pv 7) (pa_cons (pe_callB (kLen K) (by rfl) G.len_ PySem.boot_len (pa_cons (pv 8) pa_nil)) pa_nil)))))
      (pss_cons (ps_aug (i := 6) sc_Nest___init__.nd rfl (by first | exact .inl rfl | exact .inr rfl) (pe_lock (pe_lc (own := [("array", 7), ("room", 9)]) (g := gTup K 2 (gCons (gName 7) (gCons (gName 9) (gNil)))) (tt := tYes) rfl sc_Nest___init__.nd  (pi_items (pv 3)) (blkOk_by (by kernel_rfl)) (fun _ _ _ _ _ => (kpg_tup K rfl (pgs_cons (pg_name (i := 7) sc_Nest___init__.nd rfl (by first | exact .inl rfl | exact .inr rfl)) (pgs_cons (pg_name (i := 9) sc_Nest___init__.nd rfl (by first | exact .inl rfl | exact .inr rfl)) pgs_nil)))) (fun _ _ _ _ _ => pts_nil) (fun _ _ _ _ _ => (pe_tup (pa_cons (pv 7) (pa_cons (pe_callB (kLen K) (by rfl) G.len_ PySem.boot_len (pa_cons (pv 9) pa_nil)) pa_nil)))))) iop_ext)
      (pss_cons (ps_if (PW.pt (pw_or (pt_cmpR op_isN (pe_c C_one_form hr (by decide) (by rfl) (pa_cons (pv 6) pa_nil)) pe_non (nomark _)) (pw_or1 (pt_cmpR op_isN (pe_c C_one_form hr (by decide) (by rfl) (pa_cons (pe_c C_forms hr (by decide) (by rfl) (pa_cons (pv 5) pa_nil)) pa_nil)) pe_non (nomark _))))) (pss_one (ps_raise rfl (takes_of rfl rfl rfl rfl) (pmk_own PySem.F.excBase_ValueError BN.xP BN.gP BN.kP (raises_own BN.bP BN.tP) (by rfl)))) pss_nil)
      p6))), ?_⟩
  intro D N H0 H p dx rd v1 v2 v4 v5 sz given kept ds kv kvs y6 y7 y8 y9 y10 s0 np hp h1 h2 h4 h5 hN hrd hkv hkl hrg hnd hal hfl hA hL hbad hgood
  have nN : ∀ {H' : Hp}, Same H0 H' → ∀ a, H' a = none → N a := fun s a e => hN a (s.free e)
  have hai := accs_is hnd
  have hpi := pairsN_int hnd hrg
  -- pairs = [..]
  refine ⟨_, rfl, N, v5, ds, rfl, h5.mono s0, hnd, by omega, nN s0, fun H1 la xa s1 nla hla hxa => ?_⟩
  have s01 := s0.trans s1
  have hp1 := s1 _ _ hp
  generalize hacc : ds.flatMap (accOf 40) = accs at hai hal hxa
  have hlx := hxa.len
  refine ⟨la, rfl, ⟨_, sq hla⟩, fun l nl => ?_⟩
  refine lc_it (walk_list (K := K) (a := la) (xs := xa)) (fun j H' => Same H1 H' ∧ ∃ out, H' l = some (.lst out) ∧ DtAll (fun b => N b ∧ b ≠ l) H' out ((accs.take j).map fun y => pairD (accP y))) ⟨same_upd nl, [], upd_same, .nil⟩ (fun j H' _ ⟨s, _⟩ => sq (s _ _ hla)) ?_ ?_
  · rintro j y H8 H' hj ⟨s2, out, hl2, hout⟩ ⟨rfl, ey⟩
    rw [hlx] at hj
    obtain ⟨v', hv, hvd⟩ := hxa.get (List.getElem?_eq_getElem hj)
    rw [hv] at ey
    cases ey
    obtain ⟨arr, ix, eai⟩ := hai _ (List.getElem_mem hj)
    have hsn := tsn hj
    have hol := hout.len
    rw [List.length_map, List.length_take] at hol
    rw [eai] at hvd hsn
    cases hvd with
    | @tup ta xx _ n2 et hx2 =>
      obtain ⟨x1, x2, rfl, g1, g2⟩ := dt2 hx2
      cases g1 with
      | str hs =>
        cases g2 with
        | @tup ti xi _ n3 ei hx3 =>
          refine ⟨ta, _, rfl, sqt (s2 _ _ et), rfl, _, _, rfl, _, _, rfl, rfl, ?_⟩
          refine ⟨rfl, _, rfl, _, rfl, ti, _, rfl, .inr (sqt (s2 _ _ ei)), by show 2 ≤ sizeLine; decide, fun T nT => ?_⟩
          have s3 := same_upd nT (o := .tup [V.str arr, .int xi.length])
          have hT : (upd H' T (.tup [V.str arr, .int xi.length])) T = some (.tup [V.str arr, .int xi.length]) := upd_same
          have hNT : N T ∧ T ≠ l := ⟨nN (s01.trans s2) T nT, fun z => by rw [z, hl2] at nT; cases nT⟩
          generalize upd H' T (.tup [V.str arr, .int xi.length]) = H9 at s3 hT ⊢
          refine ⟨out, s3 _ _ hl2, szlt (by omega), same_mut (s2.trans s3) nl, _, upd_same, ?_⟩
          have kp : ∀ b o, (N b ∧ b ≠ l) → H9 b = some o → (upd H9 l (.lst (out ++ [.ref T]))) b = some o := fun b o hb e => by rw [upd_ne hb.2]; exact e
          rw [hsn, List.map_append]
          refine DtAll.app ((hout.mono s3).to (fun _ q => q) kp) (.cons (.tup ⟨hNT, by simp⟩ (kp _ _ hNT hT) (.cons (.str hs) (.cons ?_ .nil))) .nil)
          rw [hx3.len]
          exact .int _
  rintro H2 ⟨s2, out, hl2, hout⟩
  rw [hlx, List.take_length] at hout
  have s02 := s01.trans s2
  have hp2 := s2 _ _ hp1
  have lp : l ≠ p := ne_of hl2 hp2 (by intro z; cases z)
  have hrd2 := s02 _ _ hrd
  have lrd : l ≠ rd := ne_of hl2 hrd2 (by intro z; cases z)
  have hl0 : H0 l = none := s01.free nl
  clear hxa hla nla s2 hp1 s01 nl s1
  -- pairs += [..]
  refine ⟨_, rfl, rd, _, hrd2, True.intro, fun od => ?_⟩
  have fz : ∀ b o, b ≠ rd → H2 b = some o → (upd H2 rd (.frz od (.dK kvs))) b = some o := fun b o hb e => by rw [upd_ne hb]; exact e
  have hH1 : (upd H2 rd (.frz od (.dK kvs))) rd = some (.frz od (.dK kvs)) := upd_same
  have hl3 : (upd H2 rd (.frz od (.dK kvs))) l = some (.lst out) := fz _ _ lrd hl2
  have hback : ∀ H', Same (upd H2 rd (.frz od (.dK kvs))) H' → Same H2 (upd H' rd (.dK kvs)) := fun H' s => same_frz hrd2 s
  have hdt : ∀ {v : V} {x : PyData}, Dt N H0 v x → Dt (fun b => b ≠ rd) (upd H2 rd (.frz od (.dK kvs))) v x := fun g => (g.offd hrd).to (fun _ q => q.2) fun b o q eb => fz b o q.2 (s02 _ _ eb)
  have hfree : ∀ a, (upd H2 rd (.frz od (.dK kvs))) a = none → N a := fun a ha => by
    have : a ≠ rd := fun z => by rw [z, hH1] at ha; cases ha
    rw [upd_ne this] at ha
    exact nN s02 a ha
  generalize upd H2 rd (.frz od (.dK kvs)) = H3 at hH1 hl3 hback hdt hfree
  refine ⟨_, rfl, rd, od, kvs, rfl, hH1, fun D2 nD2 => ?_⟩
  have hpl := plen hkv
  refine lc_it walk_items (fun j H' => Same H3 H' ∧ ∃ zs, H' D2 = some (.lst zs) ∧ DtAll (fun b => N b ∧ b ≠ rd ∧ b ≠ l ∧ b ≠ D2) H' zs ((kv.take j).map fun y => pairD (roomP y))) ⟨same_upd nD2, [], upd_same, .nil⟩ (fun j H' _ ⟨s, _⟩ => s _ _ hH1) ?_ ?_
  · rintro j y H8 H' hj ⟨s2, zs, hD2, hzs⟩ hY
    cases hY with | intro T' hY =>
    obtain ⟨y1, y2, rfl, nT, rfl, e1, e2⟩ := hY
    rw [hpl] at hj
    obtain ⟨kvi, hkvi, hk1, hdv⟩ := pget hkv (List.getElem?_eq_getElem hj)
    have e1 : (kvs[j]?).map (fun kv => kV kv.1) = some y1 := e1
    have e2 : (kvs[j]?).map Prod.snd = some y2 := e2
    rw [hkvi] at e1 e2
    cases e1
    cases e2
    obtain ⟨x, ps, eq, hxl, hxs⟩ := hrg _ (List.getElem_mem hj)
    have hsn := tsn hj
    rw [eq] at hk1 hdv hsn
    have hzl := hzs.len
    rw [List.length_map, List.length_take] at hzl
    obtain ⟨kk, kv2⟩ := kvi
    have hk1 : kk = Sum.inr x := hk1
    subst hk1
    have hdv : Dt N H0 kv2 (.tuple ps) := hdv
    have hdv := hdt hdv
    have s3 := s2.trans (same_upd nT (o := .tup [kV (Sum.inr x), kv2]))
    have hD3 := (same_upd nT (o := .tup [kV (Sum.inr x), kv2])) _ _ hD2
    have hz3 := hzs.mono (same_upd nT (o := .tup [kV (Sum.inr x), kv2]))
    have hT : (upd H8 T' (.tup [kV (Sum.inr x), kv2])) T' = some (.tup [kV (Sum.inr x), kv2]) := upd_same
    generalize upd H8 T' (.tup [kV (Sum.inr x), kv2]) = H9 at s3 hT hD3 hz3
    cases hdv with
    | @tup ti xi _ n3 ei hx3 =>
      refine ⟨T', _, rfl, sqt hT, rfl, _, _, rfl, _, _, rfl, rfl, ?_⟩
      refine ⟨rfl, _, rfl, _, rfl, ti, _, rfl, .inr (sqt (s3 _ _ ei)), by show 2 ≤ sizeLine; decide, fun T nT2 => ?_⟩
      have s4 := same_upd nT2 (o := .tup [kV (Sum.inr x), .int xi.length])
      have hT2 : (upd H9 T (.tup [kV (Sum.inr x), .int xi.length])) T = some (.tup [V.str x, .int xi.length]) := upd_same
      have hNT : N T ∧ T ≠ rd ∧ T ≠ l ∧ T ≠ D2 := ⟨hfree T (s3.free nT2), (ne_of_none (s3 _ _ hH1) nT2).symm, (ne_of_none (s3 _ _ hl3) nT2).symm, (ne_of_none hD3 nT2).symm⟩
      have s34 := s3.trans s4
      have hD4 := s4 _ _ hD3
      have hz4 := hz3.mono s4
      generalize upd H9 T (.tup [kV (Sum.inr x), .int xi.length]) = H10 at s34 hT2 hD4 hz4 ⊢
      refine ⟨zs, hD4, szlt (by omega), same_mut s34 nD2, _, upd_same, ?_⟩
      have kp : ∀ b o, (N b ∧ b ≠ rd ∧ b ≠ l ∧ b ≠ D2) → H10 b = some o → (upd H10 D2 (.lst (zs ++ [.ref T]))) b = some o := fun b o hb e => by rw [upd_ne hb.2.2.2]; exact e
      rw [hsn, List.map_append]
      refine DtAll.app (hz4.to (fun _ q => q) kp) (.cons (.tup ⟨hNT, by simp⟩ (kp _ _ hNT hT2) (.cons (.str ⟨hxl, hxs⟩) (.cons ?_ .nil))) .nil)
      rw [hx3.len]
      exact .int _
  rintro H4 ⟨s4, zs, hD4, hzs⟩
  rw [hpl, List.take_length] at hzs
  refine ⟨s4 _ _ hH1, ?_⟩
  have s24 := hback _ s4
  have rdD : D2 ≠ rd := (ne_of_none hH1 nD2).symm
  have hD5 : (upd H4 rd (.dK kvs)) D2 = some (.lst zs) := by rw [upd_ne rdD]; exact hD4
  have hz5 := hzs.to (M := fun b => N b ∧ b ≠ l) (H' := upd H4 rd (.dK kvs)) (fun _ q => ⟨q.1, q.2.2.1⟩) fun b o hb e => by rw [upd_ne hb.2.1]; exact e
  generalize upd H4 rd (.dK kvs) = H5 at s24 hD5 hz5
  have hl5 := s24 _ _ hl2
  have ho5 := hout.mono s24
  have hp5 := s24 _ _ hp2
  have s05 := s02.trans s24
  have hl1 := hout.len
  have hl2' := hzs.len
  rw [List.length_map] at hl1 hl2'
  refine ⟨l, D2, out, zs, rfl, rfl, hl5, hD5, szl (by omega), ?_⟩
  have kp : ∀ b o, (N b ∧ b ≠ l) → H5 b = some o → (upd H5 l (.lst (out ++ zs))) b = some o := fun b o hb e => by rw [upd_ne hb.2]; exact e
  have hall : DtAll N (upd H5 l (.lst (out ++ zs))) (out ++ zs) ((pairsN (.tuple ds) (.dict kv)).map pairD) := by
    have := (ho5.to (fun _ q => q) kp).app (hz5.to (fun _ q => q) kp)
    have e : (pairsN (.tuple ds) (.dict kv)).map pairD = (accs.map fun y => pairD (accP y)) ++ (kv.map fun y => pairD (roomP y)) := by
      show List.map pairD (List.map accP (ds.flatMap (accOf 40)) ++ List.map roomP kv) = _
      rw [hacc, List.map_append, List.map_map, List.map_map]
      rfl
    rw [e]
    exact this.to (fun _ q => q.1) fun _ _ _ e => e
  have s06 : Same H0 (upd H5 l (.lst (out ++ zs))) := same_mut s05 hl0
  have hp6 : (upd H5 l (.lst (out ++ zs))) p = some (.ins CN dx []) := by rw [upd_ne lp.symm]; exact hp5
  have hl6 : (upd H5 l (.lst (out ++ zs))) l = some (.lst (out ++ zs)) := upd_same
  generalize upd H5 l (.lst (out ++ zs)) = H6 at s06 hp6 hl6 hall
  have hpN : (pairsN (.tuple ds) (.dict kv)).length ≤ 100000 := by
    show (List.map accP (ds.flatMap (accOf 40)) ++ List.map roomP kv).length ≤ _
    rw [hacc, List.length_append, List.length_map, List.length_map]
    omega
  have hfe := formsN_eq hnd
  have hfd := formsN_dep hnd
  clear hzs hD4 hz5 hD5 hl5 ho5 hp5 s05 s24 hout hp2 s02 hrd2 s4 hback hdt hfree
  -- if ..
  have hpdep : ∀ q ∈ pairsN (.tuple ds) (.dict kv), PyData.depth q.2 ≤ 60 := fun q hq => by
    obtain ⟨i, e⟩ := hpi q hq
    rw [e]
    simp [PyData.depth]
  refine ⟨_, rfl, N, l, _, _, rfl, hl6, hall, hpN, hpdep, fun e1 H7 s7 => ⟨rfl, _, rfl, ?_⟩, fun kvA eA H7 DA s7 nDA hDA => ⟨rfl, _, rfl, ?_⟩⟩
  · refine iteT (iteT ?_)
    exact hbad (by rw [e1]; rfl) H7 (s06.trans s7)
  refine iteF ?_
  have s07 := s06.trans s7
  refine ⟨_, rfl, N, v5, ds, rfl, h5.mono s07, hnd, by omega, nN s07, fun H8 l2 xs2 s8 nl2 hl2 hxs2 => ?_⟩
  rw [hfe] at hxs2
  have s08 := s07.trans s8
  refine ⟨N, l2, xs2, _, rfl, hl2, hxs2, ?_, hfd, fun e1 H9 s9 => ⟨rfl, _, rfl, ?_⟩, fun kvL eL H9 DL s9 nDL hDL => ⟨rfl, _, rfl, ?_⟩⟩
  · have := congrArg List.length hfe
    rw [List.length_map] at this
    omega
  · refine iteT ?_
    exact hbad (by rw [e1]; exact Bool.and_false _) H9 (s08.trans s9)
  refine iteF ?_
  have s69 := s7.trans (s8.trans s9)
  refine h6 D N H0 H9 p dx rd l v1 v2 v4 v5 sz given kept ds kv kvs _ kvA kvL _ _ _ _ (s06.trans s69) np (s69 _ _ hp6) h1 h2 h4 h5 hN hrd hnd hfl hfd hpi hpN (s69 _ _ hl6) (hall.mono s69) hfe eA eL (hA _ eA) (hL _ eL) (hgood (by rw [eA, eL]; rfl))
end
end K1

namespace K1
open PySem PySem.Spec PyProof.Rows L2 Ls
theorem names_v {N : Addr → Prop} {H : Hp} : ∀ {ds : List PyData} {xs : List V}, (∀ d ∈ ds, isWord d = true) → DtAll N H xs ds → xs = (ds.map nameOf).map V.str
  | [], _, _, .nil => rfl
  | d :: ds, _, h, .cons h1 h2 => by
    obtain ⟨x, rfl⟩ := isWord_str (h d List.mem_cons_self)
    cases h1 with
    | str _ => rw [names_v (fun d hd => h d (List.mem_cons_of_mem _ hd)) h2]; rfl
/-- the sizes that the walk leans on -/
structure NestSz (body : PyData) (rm : Rooms) : Prop where
  acc : ((itemsD body).flatMap (accOf 40)).length ≤ 50000
  frm : ((itemsD body).flatMap (frmOf 40)).length ≤ 50000
  lA : ∀ kvA, oneForm (pairsN body rm) = some kvA → kvA.length < 64
  lL : ∀ kvL, oneForm (formsN body) = some kvL → kvL.length < 64
def spNest (CN CB : Addr) : Sp := fun vs H Q E => ∃ (N : Addr → Prop) (H0 : Hp) (p dx : Addr) (v1 v2 v3 v4 v5 : V) (sz given : PyData) (rm : Rooms) (kept body : PyData), vs = [.ref p, v1, v2, v3, v4, v5] ∧ Same H0 H ∧ H0 p = none ∧ H p = some (.ins CN dx []) ∧
  Dt N H0 v1 sz ∧ Dt N H0 v2 given ∧ RmAt N H0 v3 rm ∧ Dt N H0 v4 kept ∧ Dt N H0 v5 body ∧ (∀ a, H0 a = none → N a) ∧ (okHead sz given rm kept body = true → NestSz body rm) ∧
  (nestOk sz given rm kept body = false → ∀ H', Same H0 H' → E (.ref CB) none H') ∧ (nestOk sz given rm kept body = true → ∀ H', Same H0 H' → NestAt N CN H' p sz given rm kept body → Q .non H')
section
variable {P : Program} {w : World} {K : PySem.W.Frag} {mg : Str → Option Value} {base : Heap} {f CN CB fD : Addr} {S : Addr → Option Sp} {fd : FuncData} {k : Nat}
theorem ok_nest (F : FunD K "__init__" "Nest.__init__" (defArgs s_Nest___init__) (defBody s_Nest___init__) (defScope s_Nest___init__) [] [] f fd) (G : Facts mg) (NC : NCls K CN) (BN : ExcF K mg "BadNest" CB) (hD : mg "is_difference" = some (.ref fD)) (hSD : S fD = some (spTest isDiff)) (kD : PySem.W.keepIn K (.ref fD) = true)
    (C_one_form : Cal P w K mg base 1 "one_form" spOneForm []) (C_accesses : Cal P w K mg base 42 "accesses" (spItems accOf 40) []) (C_forms : Cal P w K mg base 42 "forms" (spItems frmOf 40) [])
    (C_u_is_names : Cal P w K mg base 2 "_is_names" (spTest1 isNames) []) (C_u_is_row : Cal P w K mg base 3 "_is_row" (spRow S) []) (C_u_are_rooms : Cal P w K mg base 3 "_are_rooms" spRooms []) (C_u_is_body : Cal P w K mg base 129 "_is_body" (spBody 40) []) :
    FnOk P w K mg base (L2.CX P w) 131 f fd ["self", "sizes", "given", "rooms", "kept", "body"] (spNest CN CB) := by
  refine F.ok sc_Nest___init__ (fun vs H Q E h => ?_) (fun cdv A outer s H vs Q E hr h => ?_)
  · obtain ⟨N, H0, p, dx, v1, v2, v3, v4, v5, sz, given, rm, kept, body, rfl, _⟩ := h
    rfl
  · obtain ⟨N, H0, p, dx, v1, v2, v3, v4, v5, sz, given, rm, kept, body, rfl, s0, np, hp, h1, h2, h3, h4, h5, hN, hsz, hbad, hgood⟩ := h
    have hu := hu_of hr
    obtain ⟨t3, p3, hi3⟩ := init_a (CN := CN) (CB := CB) (outer := outer) (H00 := H) (E := E) (f := f) (cdv := cdv) (A := A) (s := s) G NC BN C_one_form C_accesses C_forms hr
    refine ⟨_, (pss_cons (ps_if (PW.pt (pw_or (pt_not (pt_val (pe_c C_u_is_names hr (by decide) (by rfl) (pa_cons (pv 1) pa_nil)))) (pw_or (pt_not (pt_chain op_le op_le pe_int (pe_callB (kLen K) (by rfl) G.len_ PySem.boot_len (pa_cons (pv 1) pa_nil)) pe_int)) (pw_or1 (pt_not (pt_val (pe_c C_u_is_names hr (by decide) (by rfl) (pa_cons (pv 4) pa_nil)))))))) (pss_one (ps_raise rfl (takes_of rfl rfl rfl rfl) (pmk_own PySem.F.excBase_ValueError BN.xP BN.gP BN.kP (raises_own BN.bP BN.tP) (by rfl)))) pss_nil)
      (pss_cons (ps_if (PW.pt (pw_or (pt_not (pt_val (pe_c C_u_is_row hr (by decide) (by rfl) (pa_cons (pv 2) (pa_cons pe_int (pa_cons pe_int (pa_cons (pe_glob (v := .ref fD) (by rfl) hD rfl) (pa_cons (pv 1) pa_nil)))))))) (pw_or1 (pt_not (pt_val (pe_c C_u_are_rooms hr (by decide) (by rfl) (pa_cons (pv 3) (pa_cons (pv 1) pa_nil)))))))) (pss_one (ps_raise rfl (takes_of rfl rfl rfl rfl) (pmk_own PySem.F.excBase_ValueError BN.xP BN.gP BN.kP (raises_own BN.bP BN.tP) (by rfl)))) pss_nil)
      (pss_cons (ps_if (pt_not (pt_val (pe_c C_u_is_body hr (by decide) (by rfl) (pa_cons (pv 5) (pa_cons (pv 1) (pa_cons pe_int pa_nil)))))) (pss_one (ps_raise rfl (takes_of rfl rfl rfl rfl) (pmk_own PySem.F.excBase_ValueError BN.xP BN.gP BN.kP (raises_own BN.bP BN.tP) (by rfl)))) pss_nil)
      p3))), ?_⟩
    have hb : okHead sz given rm kept body = false → ∀ H', Same H0 H' → E (.ref CB) none H' := fun e => hbad (by unfold nestOk; rw [e, Bool.false_and])
    refine ⟨_, rfl, N, v1, sz, rfl, h1.mono s0, fun H1 s1 => ⟨_, rfl, ?_⟩⟩
    have s01 := s0.trans s1
    have hp1 := s1 _ _ hp
    cases w1 : isNames sz with
    | false => exact iteT (iteT (hb (by unfold okHead; rw [w1, Bool.false_and]) H1 s01))
    | true =>
      refine iteF ?_
      have hd1 := h1
      cases h1 with
      | lst n e h => cases w1
      | int _ => cases w1
      | bl _ => cases w1
      | non => cases w1
      | str _ => cases w1
      | @tup a xs ss n e h =>
        have hss : ss.all isWord = true := by
          simp only [isNames, Bool.and_eq_true] at w1
          exact w1.1
        have hxs := names_v (List.all_eq_true.mp hss) h
        have hsl : ((ss.map nameOf).length : Nat) ≤ 1000 := by rw [List.length_map]; exact n.2
        have hnt : H0 a = some (.tup ((ss.map nameOf).map V.str)) := by rw [e, hxs]
        have hsl2 : xs.length = ss.length := h.len
        refine ⟨_, rfl, a, xs, rfl, .inr (sqt (s01 _ _ e)), _, _, rfl, rfl, _, rfl, ?_⟩
        rw [hsl2]
        have hL : (itemsD (.tuple ss)) = ss := rfl
        cases g1 : decide ((1 : Int) ≤ (ss.length : Int)) with
        | false => exact iteF ⟨_, rfl, iteT (iteT (hb (by unfold okHead; rw [hL, g1, Bool.false_and, Bool.and_false]) H1 s01))⟩
        | true =>
          refine iteT ⟨_, _, rfl, rfl, _, rfl, ?_⟩
          cases g2 : decide ((ss.length : Int) ≤ 3) with
          | false => exact iteT (iteT (hb (by unfold okHead; rw [hL, g2, Bool.false_and, Bool.and_false, Bool.and_false]) H1 s01))
          | true =>
            refine iteF ?_
            refine ⟨_, rfl, N, v4, kept, rfl, h4.mono s01, fun H2 s2 => ⟨_, rfl, ?_⟩⟩
            have s02 := s01.trans s2
            cases w2 : isNames kept with
            | false => exact iteT (hb (by unfold okHead; rw [hL, w2, Bool.false_and, Bool.and_false, Bool.and_false, Bool.and_false]) H2 s02)
            | true =>
              refine iteF ?_
              have hrw : okHead (.tuple ss) given rm kept body = (isRow 0 12 isDiff given (ss.map nameOf) && (areRooms (ss.map nameOf) rm && isBodyW (isNode 40) body (ss.map nameOf))) := by
                unfold okHead
                rw [w1, w2, hL, g1, g2]
                rfl
              rw [hrw] at hb hsz
              refine ⟨_, rfl, _, rfl, N, v2, fD, a, 0, 12, isDiff, given, _, rfl, h2.mono s02, hSD, s02 _ _ hnt, hsl, by decide, fun H3 s3 => ⟨_, rfl, ?_⟩⟩
              have s03 := s02.trans s3
              cases w3 : isRow 0 12 isDiff given (ss.map nameOf) with
              | false => exact iteT (iteT (hb (by rw [w3]; rfl) H3 s03))
              | true =>
                refine iteF ?_
                refine ⟨_, rfl, _, rfl, N, v3, a, rm, _, rfl, h3.mono s03, s03 _ _ hnt, hsl, fun H4 s4 => ⟨_, rfl, ?_⟩⟩
                have s04 := s03.trans s4
                cases w4 : areRooms (ss.map nameOf) rm with
                | false => exact iteT (hb (by rw [w3, w4]; rfl) H4 s04)
                | true =>
                  refine iteF ?_
                  refine ⟨_, rfl, _, rfl, N, v5, a, 1, body, _, rfl, by decide, h5.mono s04, s04 _ _ hnt, (by have h3 := of_decide_eq_true g2; rw [List.length_map]; omega), fun H5 s5 => ⟨_, rfl, ?_⟩⟩
                  have s05 := s04.trans s5
                  cases w5 : isBodyW (isNode 40) body (ss.map nameOf) with
                  | false => exact iteT (hb (by rw [w3, w4, w5]; rfl) H5 s05)
                  | true =>
                    refine iteF ?_
                    have hz := hsz (by rw [w3, w4, w5]; rfl)
                    have hnk : ∀ g, nestOk (.tuple ss) given rm kept body = g ↔ ((oneForm (pairsN body rm)).isSome && (oneForm (formsN body)).isSome) = g := fun g => by
                      unfold nestOk
                      rw [hrw, w3, w4, w5]
                      rfl
                    obtain ⟨ds, rfl, hds⟩ := isBodyW_tup w5
                    have hnd : ∀ x ∈ ds, Nd 40 x := fun x hx => nd_of 40 x _ (hds x hx)
                    cases h3 with
                    | no h => cases w4
                    | @dict rd kvs kv n' e' hkv hky hkl =>
                      have hrg : ∀ q ∈ kv, RmGood q := fun q hq => by
                        have := List.all_eq_true.mp w4 q hq
                        simp only [Bool.and_eq_true] at this
                        obtain ⟨k0, d0⟩ := q
                        obtain ⟨x, ex⟩ := isWord_str this.1
                        cases k0 with
                        | inl i => cases ex
                        | inr x' =>
                          have hkd := hky _ hq
                          have h2' := this.2
                          cases d0 with
                          | tuple ps =>
                            cases hkd with
                            | str hs => exact ⟨x', ps, rfl, hs.1, hs.2⟩
                          | _ => cases h2'
                      exact hi3 _ N H0 H5 p dx rd _ v2 v4 v5 _ given kept ds kv kvs _ _ _ _ _ s05 np ((s1.trans (s2.trans (s3.trans (s4.trans s5)))) _ _ hp) hd1 h2 h4 h5 hN e' hkv hkl hrg hnd hz.acc hz.frm hz.lA hz.lL (fun g => hbad ((hnk _).mpr g)) (fun g H' s' na _ => hgood ((hnk _).mpr g) H' s' na)
end
end K1

/-! ### the head's facts of own exceptions with an __init__ -/
namespace Ls
open PySem PySem.Spec PyProof.Rows L2 NdefX He
def oexB (K : PySem.W.Frag) (C : Addr) : Bool := (match K.lookup C with
  | some ⟨.type t, _, .cls cd, sl⟩ => (t == "type") && (match cd.mro, sl.toList with
    | .ref C' :: bm, [_, _, _, _, some (.builtin n), _] => C' == C && (n == "ValueError.__new__" && (!cd.hasDel && (cd.hasDict && PySem.HandSPX.refsVE bm)))
    | _, _ => false)
  | _ => false) && (eqO (PySem.W.findIn K (.ref C) "__setattr__") (some (some (.builtin "object.__setattr__"))) && (decide (PySem.W.subIn K (.ref C) (.type "BaseException") = some true) && (decide (PySem.W.typeIn K (.ref C) = some (.type "type")) && PySem.W.keepIn K (.ref C))))
theorem oexB_ok {K : PySem.W.Frag} {C : Addr} (h : oexB K C = true) : OexC K C := by
  obtain ⟨h1, h2⟩ := ba h
  obtain ⟨h3, h4⟩ := ba h2
  obtain ⟨h5, h6⟩ := ba h4
  obtain ⟨h7, h8⟩ := ba h6
  refine ⟨?_, eqO_ok h3, of_decide_eq_true h5, of_decide_eq_true h7, h8⟩
  split at h1
  · rename_i t dd cd sl ho
    obtain ⟨ht, h1⟩ := ba h1
    split at h1
    · rename_i C' bm k0 k1 k2 k3 n k5 hm hs
      obtain ⟨e1, h1⟩ := ba h1
      obtain ⟨e2, h1⟩ := ba h1
      obtain ⟨e3, h1⟩ := ba h1
      obtain ⟨e4, e5⟩ := ba h1
      have e1 := eq_of_beq e1
      have e2 := eq_of_beq e2
      have ht := eq_of_beq ht
      have e3' : cd.hasDel = false := by simpa using e3
      clear e3
      have e3 := e3'
      clear e3'
      obtain ⟨nm, bs, mro, ns, qn, hd, sn, sub, ab, col, del⟩ := cd
      dsimp only at hm e3 e4
      subst hm e3 e4 e1 e2 ht
      have hsl : sl = #[k0, k1, k2, k3, some (.builtin "ValueError.__new__"), k5] := by
        obtain ⟨l⟩ := sl
        simp only at hs
        rw [hs]
      subst hsl
      exact ⟨nm, qn, ns, bs, bm, sn, sub, ab, col, dd, k0, k1, k2, k3, k5, ho, e5⟩
    · cases h1
  · cases h1
def excB (K : PySem.W.Frag) (D : Addr) : Bool := eqO (PySem.W.findIn K (.ref D) "__getattribute__") (some (some (.builtin "BaseException.__getattribute__"))) && (eqO (PySem.W.findIn K (.ref D) "__getattr__") (some none) && (decide (PySem.W.subIn K (.ref D) (.type "BaseException") = some true) &&
  (PySem.W.hasDictIn K D && (eqO (PySem.W.findIn K (.ref D) "__class__") (some (some (.builtin "object.__class__"))) && (eqO (PySem.W.specialIn K (.builtin "object.__class__") "__get__") (some (some (.builtin "getset_descriptor.__get__"))) &&
  (decide (PySem.W.takesIn K (.builtin "object.__class__") = some true) && decide (PySem.W.mroIn K D (.type "object") = some true)))))))
theorem excB_ok {K : PySem.W.Frag} {D : Addr} (h : excB K D = true) : ExcC K D := by
  obtain ⟨h1, h⟩ := ba h
  obtain ⟨h2, h⟩ := ba h
  obtain ⟨h3, h⟩ := ba h
  obtain ⟨h4, h⟩ := ba h
  obtain ⟨h5, h⟩ := ba h
  obtain ⟨h6, h⟩ := ba h
  obtain ⟨h7, h8⟩ := ba h
  exact ⟨eqO_ok h1, eqO_ok h2, of_decide_eq_true h3, h4, eqO_ok h5, eqO_ok h6, of_decide_eq_true h7, of_decide_eq_true h8⟩
theorem ExcC.xf {K : PySem.W.Frag} {D : Addr} (h : ExcC K D) : XfC K D := ⟨h.hg, h.hk, h.hs, h.hd⟩
/-! the __init__ -/
abbrev FnS : Type := Option (Str × Str × Arguments × FuncBody × Scope × Addr × List Str × Addr)
def fIn (K : PySem.W.Frag) (x : Str) : Addr := ma K (ga K x) "__init__"
def fnS (K : PySem.W.Frag) (x : Str) : FnS := match K.lookup (fIn K x) with
  | some ⟨_, _, .func fd, _⟩ => some (fd.name, fd.qualname, fd.params, fd.body, fd.scope, fd.globals, fd.closure.map (·.1), fd.builtins)
  | _ => none
structure SupD where
  cls : Str
  qual : Str
  params : Arguments
  body : List Stmt
  scope : Scope
def SupD.val (d : SupD) : FnS := some ("__init__", d.qual, d.params, .stmts d.body, d.scope, mainGlobals, ["__class__"], builtinsNs)
def ccOf (fd : FuncData) : Addr := match fd.closure with
  | [(_, c)] => c
  | _ => 0
def codOf (fd : FuncData) : Addr := match fd.code with
  | .ref c => c
  | _ => 0
def NF.ofD (d : SupD) (fd : FuncData) : NF := ⟨"__init__", d.qual, d.params, d.body, d.scope, [(("__class__" : Str), ccOf fd)], codOf fd⟩
def fileB (K : PySem.W.Frag) (c : Addr) (fl : Str) : Bool := match K.lookup c with
  | some ⟨_, _, .fields vs, _⟩ => (match (vs[2]? : Option Value) with
    | some (Value.str f _) => f == fl
    | _ => false)
  | _ => false
def cellB (K : PySem.W.Frag) (c C : Addr) : Bool := match K.lookup c with
  | some ⟨_, _, .cell (some (.ref D)), _⟩ => D == C
  | _ => false
def noneB (v : Value) : Bool := match v with
  | .none => true
  | _ => false
def refB (v : Value) : Bool := match v with
  | .ref _ => true
  | _ => false
def SupD.ok (K : PySem.W.Frag) (fl : Str) (d : SupD) : Bool := oexB K (ga K d.cls) && (eqO (PySem.W.findIn K (.ref (ga K d.cls)) "__init__") (some (some (.ref (fIn K d.cls)))) && (decide (PySem.W.typeIn K (.ref (fIn K d.cls)) = some (.type "function")) && ((match K.lookup (fIn K d.cls) with
  | some ⟨_, _, .func fd, _⟩ => noneB fd.defaults && (noneB fd.kwdefaults && (fd.annotations.isNone && (refB fd.code && (PySem.W.codeIn K fd.code d.qual && (cellB K (ccOf fd) (ga K d.cls) && fileB K (codOf fd) fl)))))
  | _ => false) && (eqO (PySem.W.nsIn K mainGlobals "super") (some none) && (eqO (PySem.W.nsIn K cStatics "thirdparty.any") (some none) && (eqO (PySem.W.ks_superIn K (ga K d.cls) (ga K d.cls) "__init__") (some (some (.builtin "ValueError.__init__"))) &&
  (decide (PySem.W.subIn K (.ref (ga K d.cls)) (.type "ValueError") = some true) && decide (PySem.W.mroIn K (ga K d.cls) (.ref (ga K d.cls)) = some true))))))))
theorem SupD.supC {P : Program} {K : PySem.W.Frag} {fl : Str} {d : SupD} (e : fnS K d.cls = d.val) (c : d.ok K fl = true) (hf : ((P.main.file : Str) == fl) = true) (ht : (P.main.scope.names.lookup ("super" : Str)).isSome = false) :
    ∃ (fd : FuncData) (cc cf : Addr), SupC P K (ga K d.cls) (fIn K d.cls) cc ⟨"__init__", d.qual, d.params, d.body, d.scope, [(("__class__" : Str), cc)], cf⟩ fd := by
  obtain ⟨c1, c⟩ := ba c
  obtain ⟨c2, c⟩ := ba c
  obtain ⟨c3, c⟩ := ba c
  obtain ⟨c4, c⟩ := ba c
  obtain ⟨c5, c⟩ := ba c
  obtain ⟨c6, c⟩ := ba c
  obtain ⟨c7, c⟩ := ba c
  obtain ⟨c8, c9⟩ := ba c
  unfold fnS at e
  cases q : K.lookup (fIn K d.cls) with
  | none => rw [q] at c4; cases c4
  | some o =>
    obtain ⟨oc, od, dt, osl⟩ := o
    rw [q] at c4 e
    cases dt with
    | func fd =>
      obtain ⟨n1, n2, n3, n4, n5, n6, n7, n8, n9, n10, n11, n12, n13, n14, n15⟩ := fd
      have e2 : (some (n1, n2, n3, n4, n5, n6, n7.map (·.1), n15) : FnS) = some (("__init__" : Str), d.qual, d.params, FuncBody.stmts d.body, d.scope, mainGlobals, ([("__class__" : Str)] : List Str), builtinsNs) := e
      simp only [Option.some.injEq, Prod.mk.injEq] at e2
      obtain ⟨h1, h2, h3, h4, h5, h6, h7, h8⟩ := e2
      subst h1 h2 h3 h4 h5 h6 h8
      have c4 : (noneB n8 && (noneB n9 && (n12.isNone && (refB n13 && (PySem.W.codeIn K n13 d.qual && (cellB K (ccOf ⟨"__init__", d.qual, d.params, .stmts d.body, d.scope, mainGlobals, n7, n8, n9, n10, n11, n12, n13, n14, builtinsNs⟩) (ga K d.cls) && fileB K (codOf ⟨"__init__", d.qual, d.params, .stmts d.body, d.scope, mainGlobals, n7, n8, n9, n10, n11, n12, n13, n14, builtinsNs⟩) fl)))))) = true := c4
      obtain ⟨g1, c4⟩ := ba c4
      obtain ⟨g2, c4⟩ := ba c4
      obtain ⟨g3, c4⟩ := ba c4
      obtain ⟨g4, c4⟩ := ba c4
      obtain ⟨g5, c4⟩ := ba c4
      obtain ⟨g6, g7⟩ := ba c4
      have z8 : n8 = .none := by cases n8 <;> first | rfl | cases g1
      have z9 : n9 = .none := by cases n9 <;> first | rfl | cases g2
      have z12 : n12 = none := by cases n12 <;> first | rfl | cases g3
      subst z8 z9 z12
      cases n13 with
      | ref cf =>
        cases n7 with
        | nil => cases h7
        | cons p r =>
          cases r with
          | cons _ _ => exact absurd (congrArg List.length h7) (by simp)
          | nil =>
            obtain ⟨pn, cc⟩ := p
            simp only [List.map_cons, List.map_nil, List.cons.injEq, and_true] at h7
            subst h7
            have g6 : cellB K cc (ga K d.cls) = true := g6
            have g7 : fileB K cf fl = true := g7
            refine ⟨_, cc, cf, oexB_ok c1, eqO_ok c2, of_decide_eq_true c3, ⟨oc, od, n10, n11, n14, osl, rfl, q⟩, g5, rfl, ?_, ?_, eqO_ok c5, ht, eqO_ok c6, eqO_ok c7, of_decide_eq_true c8, of_decide_eq_true c9⟩
            · unfold cellB at g6
              split at g6
              · rename_i cl cld D csl hl
                exact ⟨cl, cld, csl, by rw [hl, eq_of_beq g6]⟩
              · cases g6
            · unfold fileB at g7
              split at g7
              · rename_i cl cld vs csl hl
                split at g7
                · rename_i f tf hv
                  exact ⟨cl, cld, vs, csl, f, tf, hl, hv, by rw [eq_of_beq g7]; exact hf⟩
                · cases g7
              · cases g7
      | _ => cases g4
    | _ => cases c4
/-! the hook -/
inductive Fx where
  | exc (x : Str)
  | isi (x y : Str) (b : Bool)
  | isb (x : Str) (t : String) (b : Bool)
def Fx.ok (K : PySem.W.Frag) : Fx → Bool
  | .exc x => excB K (ga K x)
  | .isi x y b => decide (PySem.W.kitOne K (.ref (ga K x)) (.ref (ga K y)) = some b)
  | .isb x t b => decide (PySem.W.kitOne K (.ref (ga K x)) (.type t) = some b)
structure Hd where
  fa : List Fa
  fn : List DefD
  fx : List Fx
  su : List SupD
  file : Str
abbrev AlS : Type := AlD × Bool × List FnS
def obsS (d : Hd) (K : PySem.W.Frag) : AlS := (obsD d.fa d.fn K, (d.fx.all fun f => f.ok K) && (d.su.all fun u => u.ok K d.file), d.su.map fun u => fnS K u.cls)
def valS (d : Hd) : AlS := (valD d.fn, true, d.su.map SupD.val)
def asS (g : Addr → Option Obj) (n : Nat) : List Addr := asD g n ++ [cStatics]
def obsSG (n : Nat) (d : Hd) (g : Addr → Option Obj) : AlS := obsS d (frG g (asS g n))
def SaysS (d : Hd) (K : PySem.W.Frag) : Prop := obsS d K = valS d
def hookS (n : Nat) (d : Hd) : PySem.W.Hook where
  α := AlS
  obs := fun s => obsSG n d s.heap.get?
  val := fun _ => valS d
  says := fun _ h => ∃ K : PySem.W.Frag, K.In h ∧ SaysS d K
  of := fun _ _ e => ⟨_, frG_in, e⟩
  keeps := fun _ _ _ ⟨K, hK, c⟩ k => ⟨K, hK.keeps k, c⟩
theorem obsSG_eq {n : Nat} {d : Hd} {g : Addr → Option Obj} {s : Shared} (h : ∀ a, g a = s.heap.get? a) : obsSG n d g = (hookS n d).obs s := by
  rw [show g = s.heap.get? from funext h]; rfl
section
variable {d : Hd} {K : PySem.W.Frag}
theorem SaysS.d_ (c : SaysS d K) : SaysD d.fa d.fn K := congrArg (fun z : AlS => z.1) c
theorem SaysS.x (c : SaysS d K) (i : Nat) {f : Fx} (h : d.fx[i]? = some f := by rfl) : f.ok K = true :=
  List.all_eq_true.mp (ba (show ((d.fx.all fun f => f.ok K) && (d.su.all fun u => u.ok K d.file)) = true from congrArg (fun z : AlS => z.2.1) c)).1 f (List.mem_of_getElem? h)
theorem SaysS.u (c : SaysS d K) (i : Nat) {u : SupD} {P : Program} (hf : ((P.main.file : Str) == d.file) = true) (ht : (P.main.scope.names.lookup ("super" : Str)).isSome = false) (h : d.su[i]? = some u := by rfl) :
    ∃ (fd : FuncData) (cc cf : Addr), SupC P K (ga K u.cls) (fIn K u.cls) cc ⟨"__init__", u.qual, u.params, u.body, u.scope, [(("__class__" : Str), cc)], cf⟩ fd := by
  have c2 := List.all_eq_true.mp (ba (show ((d.fx.all fun f => f.ok K) && (d.su.all fun u => u.ok K d.file)) = true from congrArg (fun z : AlS => z.2.1) c)).2 u (List.mem_of_getElem? h)
  have e : d.su.map (fun u => fnS K u.cls) = d.su.map SupD.val := congrArg (fun z : AlS => z.2.2) c
  have e2 : (d.su.map fun u => fnS K u.cls)[i]? = (d.su.map SupD.val)[i]? := by rw [e]
  rw [List.getElem?_map, List.getElem?_map, h] at e2
  exact SupD.supC (Option.some.inj e2) c2 hf ht
end
end Ls

namespace Ls
open PySem PySem.Spec PyProof.Rows L2 NdefX
section
variable {P : Program} {w : World} {K : PySem.W.Frag} {mg : Str → Option Value} {base : Heap} {F : NF} {C f cc : Addr} {fd : FuncData}
/-- super().__init__(text); self.fld = arg -/
theorem ok_exc1 (U : SupC P K C f cc F fd) {p0 p1 p2 p3 p4 p5 q0 q1 q2 q3 : Pos} {txt fld arg : Str} {kd : Nat}
    (hbd : F.body = [.Expr (.Call (.Attribute (.Call (.Name "super" p0) [] [] p1) "__init__" p2) [.Constant (.str txt) kd p5] [] p3) p4, .Assign [.Attribute (.Name "self" q0) fld q1] (.Name arg q2) q3])
    (S : NScope ["self", arg, "__class__"] ["self", arg] ["__class__"] F.scope)
    {ar : Arg} (har : (F.params.posonlyargs ++ F.params.args).head? = some ar) (har1 : ar.arg = "self") (hks : F.scope.names.lookup ("super" : Str) = some .globalImplicit)
    (hcall : ∀ L, ∃ pl, eval (.Call (.Attribute (.Call (.Name "super" p0) [] [] p1) "__init__" p2) [.Constant (.str txt) kd p5] [] p3) (envF F f L) = (do
      let ov ← attributeBase (.Call (.Name "super" p0) [] [] p1) "__init__" (envF F f L) (eval (.Call (.Name "super" p0) [] [] p1) (envF F f L))
      standAt p2.atName
      let (fx, first) ← holding [ov] (getMethod ov "__init__" pl)
      callWith p3 fx first (backTo p3 (starEach [.Constant (.str txt) kd p5] (envF F f L))) []))
    (hint : ∀ L, interactive (envF F f L) = false) (hsw : ∀ L, swapsWith (.Call (.Attribute (.Call (.Name "super" p0) [] [] p1) "__init__" p2) [.Constant (.str txt) kd p5] [] p3) none p4.line (envF F f L) = pure false)
    (hsw2 : ∀ L, swapsWith (.Name arg q2) (some (.Attribute (.Name "self" q0) fld q1)) q3.line (envF F f L) = pure false)
    (hd1 : (arg == ("__debug__" : Str)) = false) (hd2 : (arg == ("__classdict__" : Str)) = false) (no : PySem.W.findIn K (.ref C) fld = some none) : FnOk P w K mg base CX0 1 f fd ["self", arg] (spExc1 C fld) := by
  refine fn_sup (k := 0) (ps := [arg]) (N := ["self", arg, "__class__"]) U hbd S har har1 hks hcall hint hsw (fun vs H Q E h => ?_) (fun vs H Q E h => ?_) (fun A outer s H vs Q E hr h => ?_)
  · obtain ⟨a, v, rfl, _⟩ := h
    rfl
  · obtain ⟨a, v, rfl, ha, _⟩ := h
    exact ⟨a, _, rfl, ha⟩
  · obtain ⟨a, v, rfl, ha, hk⟩ := h
    refine ⟨tOst K fld (tVar 0) (tVar 1), pss_one (ps_ost (pe_var (i := 0) rfl (.inl (S.par _ (by simp))) (by decide) (by decide)) (pe_var (i := 1) rfl (.inl (S.par _ (by simp))) hd1 hd2) (hsw2 _)), ?_⟩
    exact ⟨v, rfl, .ref a, rfl, a, C, rfl, U.oex, no, .inl ⟨ha, fun dx hn hne => hk dx hn hne⟩⟩
end
end Ls
namespace Ls
open PySem PySem.Spec PyProof.Rows L2
/-! enumerate(x), x a local that holds a list or a tuple -/
def iEnumV (K : PySem.W.Frag) (i : Nat) : TI := fun σ H R => ∃ a xs J, σ[i]? = some (some (.ref a)) ∧ ((SqL K H a xs ∧ J = Ite K a) ∨ (SqT K H a xs ∧ J = IteT K a)) ∧ R J H
theorem kpi_enumV {X : Cx} {K : PySem.W.Frag} {i : Nat} {x : Str} {p pos p2 tpos : Pos} {elts : List Expr} {kk : Nat} (hg : Gl X "enumerate") (hm : X.mg "enumerate" = none) (ha : PE X (.Name x p2) (tVar i)) (h : X.K = K := by rfl)
    (hs : starEach [.Name x p2] X.env = [(false, eval (.Name x p2) X.env)] := by rfl) : PI X (.Tuple elts kk tpos) (.Call (.Name "enumerate" p) [.Name x p2] [] pos) (iEnumV K i) := by
  subst h
  refine ⟨fun pins s σ H R I q => ?_⟩
  obtain ⟨a, xs, J, hσ, hj, r⟩ := q
  rcases hj with ⟨hx, rfl⟩ | ⟨hx, rfl⟩
  · exact (pi_enum hg hm (pa_cons ha pa_nil hs) hs).run pins s σ H R I ⟨.ref a, hσ, a, xs, rfl, hx, r⟩
  · exact (pi_enumT hg hm (pa_cons ha pa_nil hs) hs).run pins s σ H R I ⟨.ref a, hσ, a, xs, rfl, hx, r⟩
/-- the walk of either -/
theorem enumV {K : PySem.W.Frag} {H : Hp} {a : Addr} {xs : List V} (h : H a = some (.tup xs) ∨ H a = some (.lst xs)) :
    ∃ (J : It) (Gd : Hp → Prop), (∀ H', Same H H' → (SqL K H' a xs ∧ J = Ite K a) ∨ (SqT K H' a xs ∧ J = IteT K a)) ∧ Walk J xs.length Gd (YPair (fun i => some (.int (i : Nat))) (fun i => xs[i]?)) ∧ ∀ H', Same H H' → Gd H' :=
  h.elim (fun h => ⟨_, _, fun H' s => .inr ⟨sqt (s _ _ h), rfl⟩, walk_enumT, fun H' s => sqt (s _ _ h)⟩) fun h => ⟨_, _, fun H' s => .inl ⟨sq (s _ _ h), rfl⟩, walk_enum, fun H' s => sq (s _ _ h)⟩
end Ls
namespace Ls
open PySem PySem.Spec PyProof.Rows L2
theorem pe_c0 {X : Cx} {x : Str} {k j : Nat} {sp : Sp} {dvs : List V} {p pos : Pos} (c : Cal X.prog X.w X.K X.mg X.base k x sp dvs) (hr : Room j X.A) (hk : k ≤ j) (hg : Gl X x) (hdb : (x == ("__debug__" : Str)) = false := by decide) : PE X (.Call (.Name x p) [] [] pos) (tCall sp dvs E0 tNil) := by
  have ⟨f, fd, ps, ds, F, hm, kp, b, d⟩ := c.ex
  exact pe_call0 F (hr.mono hk) hg hm kp b d pass0 hdb
end Ls
namespace Ls
open PySem PySem.Spec PyProof.Rows L2
/-! a for whose body's reading hangs on its ends (a try within): kept whole -/
def ForOk (J : It) (g : TG) (tb : TS) (D : Ends) (σ : L2.St) (H1 : Hp) : Prop := tFor (fun _ _ R => R J H1) g tb D σ H1
theorem tFor_ok {wi : TI} {g : TG} {tb : TS} {D : Ends} {σ : L2.St} {H : Hp} (h : wi σ H fun J H1 => ForOk J g tb D σ H1) : tFor wi g tb D σ H := h
theorem for_ok {J : It} {n : Nat} {G : Hp → Prop} {Y : Nat → Hp → V → Hp → Prop} (w : Walk J n G Y) {g : TG} {tb : TS} {D : Ends} {σ : L2.St} {H : Hp} (Pv : Nat → L2.St → Hp → Prop) (h0 : Pv 0 σ H) (hG : ∀ i σ H, i ≤ n → Pv i σ H → G H)
    (hs : ∀ i x σ H H', i < n → Pv i σ H → Y i H x H' → g x σ H' fun σ2 H2 => tb { D with nx := Pv (i + 1), ct := Pv (i + 1), bk := D.nx } σ2 H2) (hd : ∀ σ H, Pv n σ H → D.nx σ H) : ForOk J g tb D σ H :=
  for_it w Pv h0 hG hs hd
end Ls

/-! ### expressions that are data -/
namespace Ls
open PySem PySem.Spec PyProof.Rows L2
def rGetL (K : PySem.W.Frag) : R2 := fun x y H Q => ∃ p xs i v, x = .ref p ∧ y = .int i ∧ 0 ≤ i ∧ SqL K H p xs ∧ atI xs i = some v ∧ Q v H
theorem get_list {X : Cx} {K : PySem.W.Frag} (hK : X.K = K := by rfl) : PGet X (rGetL K) := by
  subst hK
  intro pins s σ H x y v u Q I rx ry h
  obtain ⟨p, xs, i, z, rfl, rfl, h0, hq, he, q⟩ := h
  cases rx
  obtain ⟨t, rfl⟩ := ry
  obtain ⟨its, r, pl, hz⟩ := I.list hq
  obtain ⟨j, h1, h2, h3, h4, h5⟩ := atI_get he
  obtain ⟨w, ew, rw'⟩ := r.get h2
  have hn := line63
  have hl := r.length
  have hj : i.toNat = j := by
    rw [seqIndex_of h0 h5] at h1
    exact Option.some.inj h1
  exact wpAny_getItem_list pl.isList h0 (by omega) (by rw [hj]; simpa using ew) ⟨z, H, I, rw', q⟩
structure EnvD (sl : Nat) (N : Addr → Prop) (Γ : List (Nat × PyData)) (σ : L2.St) (H : Hp) : Prop where
  v : ∀ p ∈ Γ, ∃ v, σ[p.1]? = some (some v) ∧ Dt N H v p.2
  n : ∀ a, H a = none → N a
  l : sl ≤ σ.length
theorem EnvD.mono {sl : Nat} {N : Addr → Prop} {Γ : List (Nat × PyData)} {σ : L2.St} {H H' : Hp} (h : EnvD sl N Γ σ H) (s : Same H H') : EnvD sl N Γ σ H' :=
  ⟨fun p hp => by obtain ⟨v, e, d⟩ := h.v p hp; exact ⟨v, e, d.mono s⟩, fun a e => h.n a (s.free e), h.l⟩
def tD (sl : Nat) (N : Addr → Prop) (Γ : List (Nat × PyData)) (d : PyData) : TE := fun σ H Q => EnvD sl N Γ σ H ∧ ∀ v H', Same H H' → Dt N H' v d → Q v H'
def tDs (sl : Nat) (N : Addr → Prop) (Γ : List (Nat × PyData)) (ds : List PyData) : TA := fun σ H Q => EnvD sl N Γ σ H ∧ ∀ vs H', Same H H' → DtAll N H' vs ds → Q vs H'
section
variable {X : Cx} {e e2 : Expr} {es : List Expr} {t t' : TE} {ta ta' : TA}
theorem pe_weak (h : PE X e t) (k : ∀ σ H Q, t' σ H Q → t σ H Q) : PE X e t' := ⟨fun pins s σ H Q I q => h.run pins s σ H Q I (k _ _ _ q)⟩
theorem pa_weak (h : PA X es ta) (k : ∀ σ H Q, ta' σ H Q → ta σ H Q) : PA X es ta' := ⟨fun pos pins s σ H Q I q => h.run pos pins s σ H Q I (k _ _ _ q)⟩
variable {sl : Nat} {N : Addr → Prop} {Γ : List (Nat × PyData)} {d d2 : PyData} {ds ds2 : List PyData}
theorem de_c {v : V} (h : PE X e (tC v)) (hd : ∀ H, Dt N H v d) : PE X e (tD sl N Γ d) := pe_weak h fun σ H Q q => q.2 v H (Same.refl H) (hd H)
theorem de_non {j pos} : PE X (.Constant .none j pos) (tD sl N Γ .none) := de_c pe_non fun H => .non
theorem de_bl {b j pos} : PE X (.Constant (.bool b) j pos) (tD sl N Γ (.bool b)) := de_c pe_bl fun H => .bl b
theorem de_int {i j pos} : PE X (.Constant (.int i) j pos) (tD sl N Γ (.int i)) := de_c pe_int fun H => .int i
theorem de_str {x j pos} (h : (decide (x.length ≤ 1000) && PySem.PyData.strOk x) = true) : PE X (.Constant (.str x) j pos) (tD sl N Γ (.str x)) := de_c pe_str fun H => .str ⟨of_decide_eq_true (Bool.and_eq_true_iff.mp h).1, (Bool.and_eq_true_iff.mp h).2⟩
theorem de_neg {i j pos pos'} : PE X (.UnaryOp .USub (.Constant (.int i) j pos) pos') (tD sl N Γ (.int (-i))) := pe_weak (pe_un un_neg pe_int) fun σ H Q q => ⟨i, rfl, q.2 _ H (Same.refl H) (.int _)⟩
theorem de_var (i : Nat) (h : PE X e (tVar i)) (m : (i, d) ∈ Γ) : PE X e (tD sl N Γ d) := pe_weak h fun σ H Q q => by
  obtain ⟨v, e, hd⟩ := q.1.v _ m
  exact ⟨v, e, q.2 v H (Same.refl H) hd⟩
theorem das_nil : PA X [] (tDs sl N Γ []) := pa_weak pa_nil fun σ H Q q => q.2 [] H (Same.refl H) .nil
theorem das_cons (h1 : PE X e (tD sl N Γ d)) (h2 : PA X es (tDs sl N Γ ds)) (hs : starEach (e :: es) X.env = (false, eval e X.env) :: starEach es X.env := by rfl) : PA X (e :: es) (tDs sl N Γ (d :: ds)) :=
  pa_weak (pa_cons h1 h2 hs) fun σ H Q q => ⟨q.1, fun v H1 s1 hd => ⟨q.1.mono s1, fun vs H2 s2 hds => q.2 _ H2 (s1.trans s2) (.cons (hd.mono s2) hds)⟩⟩
theorem szD {vs : List V} {H : Hp} (h : DtAll N H vs ds) (l : ds.length ≤ 1000) : vs.length ≤ sizeLine := by
  rw [h.len]
  have : 1000 ≤ sizeLine := by decide
  omega
theorem de_tup {k pos} (h : PA X es (tDs sl N Γ ds)) (l : ds.length ≤ 1000) : PE X (.Tuple es k pos) (tD sl N Γ (.tuple ds)) :=
  pe_weak (pe_tup h) fun σ H Q q => ⟨q.1, fun vs H1 s1 hds => ⟨szD hds l, fun p np => q.2 _ _ (s1.trans (same_upd np)) (.tup ⟨q.1.n p (s1.free np), l⟩ upd_same (hds.mono (same_upd np)))⟩⟩
theorem de_lst {pos} (h : PA X es (tDs sl N Γ ds)) (l : ds.length ≤ 1000) : PE X (.List es pos) (tD sl N Γ (.list ds)) :=
  pe_weak (pe_lst h) fun σ H Q q => ⟨q.1, fun vs H1 s1 hds => ⟨szD hds l, fun p np => q.2 _ _ (s1.trans (same_upd np)) (.lst ⟨q.1.n p (s1.free np), l⟩ upd_same (hds.mono (same_upd np)))⟩⟩
theorem dtall_rep {H : Hp} {vs : List V} (h : DtAll N H vs ds) : ∀ n : Nat, DtAll N H (List.replicate n vs).flatten (List.replicate n ds).flatten
  | 0 => .nil
  | n + 1 => by
    rw [List.replicate_succ, List.replicate_succ, List.flatten_cons, List.flatten_cons]
    exact h.app (dtall_rep h n)
theorem de_rep {k : Int} {pos} {K : PySem.W.Frag} (h1 : PE X e (tD sl N Γ (.tuple ds))) (h2 : PE X e2 (tC (.int k))) (c : (decide (ds ≠ []) && (decide (2 ≤ k) && (decide (k ≤ 1000) && (decide (ds.length ≤ 1000) && decide ((List.replicate k.toNat ds).flatten.length ≤ 1000))))) = true) (hK : X.K = K := by rfl) : PE X (.BinOp e .Mult e2 pos) (tD sl N Γ (.tuple (List.replicate k.toNat ds).flatten)) :=
  pe_weak (pe_op op_repT h1 h2) fun σ H Q q => ⟨q.1, fun v H1 s1 hd => by
    simp only [Bool.and_eq_true, decide_eq_true_eq] at c
    obtain ⟨c1, c2, c3, c4, c5⟩ := c
    cases hd with
    | @tup a xs _ n e h =>
      have hl := h.len
      refine ⟨a, k, xs, rfl, rfl, sqt e, fun z => c1 (by rw [z] at hl; exact List.eq_nil_of_length_eq_zero hl.symm), c2, c3, by omega, fun p np => q.2 _ _ (s1.trans (same_upd np)) (.tup ⟨q.1.n p (s1.free np), c5⟩ upd_same ((dtall_rep h _).mono (same_upd np)))⟩⟩
theorem de_cat {pos} (h1 : PE X e (tD sl N Γ (.tuple ds))) (h2 : PE X e2 (tD sl N Γ (.tuple ds2))) (l : (ds ++ ds2).length ≤ 1000) : PE X (.BinOp e .Add e2 pos) (tD sl N Γ (.tuple (ds ++ ds2))) :=
  pe_weak (pe_op kCatT h1 h2) fun σ H Q q => ⟨q.1, fun v H1 s1 hd => ⟨q.1.mono s1, fun v2 H2 s2 hd2 => by
    cases hd with
    | @tup a xs _ n e h =>
      cases hd2 with
      | @tup b ys _ n2 e2 h2 =>
        have h' := h.mono s2
        have hl := h.len
        have hl2 := h2.len
        rw [List.length_append] at l
        have s : 1000 ≤ sizeLine := by decide
        refine ⟨a, b, xs, ys, rfl, rfl, s2 _ _ e, e2, by omega, fun H' p s' hp e' => q.2 _ _ (s1.trans (s2.trans s')) (.tup ⟨?_, by rw [List.length_append]; exact l⟩ e' ((h'.app h2).mono s'))⟩
        rcases hp with hp | rfl | rfl
        · exact q.1.n p ((s1.trans s2).free hp)
        · exact n.1
        · exact n2.1⟩⟩
theorem de_list {K : PySem.W.Frag} {x p pos} (h : PE X (.Call (.Name x p) [e] [] pos) (tCB (rListQ K) (tCons (tD sl N Γ (.tuple ds)) tNil))) (l : ds.length ≤ 1000) : PE X (.Call (.Name x p) [e] [] pos) (tD sl N Γ (.list ds)) :=
  pe_weak h fun σ H Q q => ⟨q.1, fun v H1 s1 hd => by
    cases hd with
    | @tup a xs _ n e h => exact ⟨a, xs, rfl, .inr (sqt e), fun l' nl => q.2 _ _ (s1.trans (same_upd nl)) (.lst ⟨q.1.n _ (s1.free nl), l⟩ upd_same (h.mono (same_upd nl)))⟩⟩
theorem dN (sl : Nat) (N : Addr → Prop) (Γ : List (Nat × PyData)) (h : PE X e (tD sl N Γ d)) : PE X e (tD sl N Γ d) := h
theorem de_cut {d' : PyData} (h : PE X e (tD sl N Γ d)) (hd : d = d') : PE X e (tD sl N Γ d') := hd ▸ h
theorem de_tuple {x p pos} (h : PE X (.Call (.Name x p) [e] [] pos) (tCB rTupQ (tCons (tD sl N Γ (.list ds)) tNil))) : PE X (.Call (.Name x p) [e] [] pos) (tD sl N Γ (.tuple ds)) :=
  pe_weak h fun σ H Q q => ⟨q.1, fun v H1 s1 hd => by
    cases hd with
    | @lst a xs _ n e h => exact ⟨a, xs, rfl, .inl e, fun H' l' s' hl e' => q.2 _ _ (s1.trans s') (.tup ⟨by
        rcases hl with hl | rfl
        · exact q.1.n _ (s1.free hl)
        · exact n.1, n.2⟩ e' (h.mono s'))⟩⟩
theorem de_catL {pos} (h1 : PE X e (tD sl N Γ (.list ds))) (h2 : PE X e2 (tD sl N Γ (.list ds2))) (l : (ds ++ ds2).length ≤ 1000) : PE X (.BinOp e .Add e2 pos) (tD sl N Γ (.list (ds ++ ds2))) :=
  pe_weak (pe_op op_cat h1 h2) fun σ H Q q => ⟨q.1, fun v H1 s1 hd => ⟨q.1.mono s1, fun v2 H2 s2 hd2 => by
    cases hd with
    | @lst a xs _ n e h =>
      cases hd2 with
      | @lst b ys _ n2 e2 h2 =>
        have h' := h.mono s2
        have hl := h.len
        have hl2 := h2.len
        rw [List.length_append] at l
        have s : 1000 ≤ sizeLine := by decide
        exact ⟨a, b, xs, ys, rfl, rfl, s2 _ _ e, e2, by omega, fun p hp => q.2 _ _ ((s1.trans s2).trans (same_upd hp)) (.lst ⟨q.1.n p ((s1.trans s2).free hp), by rw [List.length_append]; exact l⟩ upd_same ((h'.app h2).mono (same_upd hp)))⟩⟩⟩
/-- f(), a new list of data -/
def spBadL (ds : List PyData) : Sp := fun vs H Q _ => ∃ (N : Addr → Prop), vs = [] ∧ (∀ a, H a = none → N a) ∧ ∀ H' l xs, Same H H' → H l = none → H' l = some (.lst xs) → DtAll N H' xs ds → Q (.ref l) H'
theorem de_call (h : PE X e (tCall (spBadL ds) [] E0 tNil)) (l : ds.length ≤ 1000) : PE X e (tD sl N Γ (.list ds)) :=
  pe_weak h fun σ H Q q => ⟨N, rfl, q.1.n, fun H' a xs s na e hx => q.2 _ _ s (.lst ⟨q.1.n _ na, l⟩ e hx)⟩
def tXp (sl : Nat) {α : Type} (Γ : α → List (Nat × PyData)) (d : α → PyData) : TE := fun σ H Q => ∃ N x, tD sl N (Γ x) (d x) σ H Q
theorem de_x {α : Type} {Γ : α → List (Nat × PyData)} {d : α → PyData} (h : ∀ N x, PE X e (tD sl N (Γ x) (d x))) : PE X e (tXp sl Γ d) := ⟨fun pins s σ H Q I ⟨N, x, q⟩ => (h N x).run pins s σ H Q I q⟩
theorem EnvD.offD {σ : L2.St} {H H' : Hp} {D : Addr} {o : HO} (h : EnvD sl N Γ σ H) (nD : H D = none) (s : Same H H') (hD : H' D = some o) : EnvD sl (fun b => N b ∧ b ≠ D) Γ σ H' :=
  ⟨fun p hp => by
    obtain ⟨u, e, g⟩ := h.v p hp
    exact ⟨u, e, (g.off nD).mono s⟩, fun a ha => ⟨h.n a (s.free ha), fun z => by rw [z, hD] at ha; cases ha⟩, h.l⟩
theorem EnvD.wiped {σ : L2.St} {H : Hp} {i : Nat} {v : V} (h : EnvD sl N Γ σ H) (hi : (Γ.all fun p => decide (p.1 ≠ i)) = true) (hl : i < sl) (hv : Dt N H v d) : EnvD sl N ((i, d) :: Γ) ((wipe σ [i]).set i (some v)) H :=
  ⟨fun p hp => by
    rcases List.mem_cons.mp hp with rfl | hp
    · exact ⟨v, by have := h.l; simp [wipe, show i < σ.length by omega], hv⟩
    · obtain ⟨u, e, g⟩ := h.v p hp
      have hne : p.1 ≠ i := of_decide_eq_true (List.all_eq_true.mp hi p hp)
      exact ⟨u, by simp [wipe, List.getElem?_set, Ne.symm hne, e], g⟩, h.n, by have := h.l; simpa [wipe] using this⟩
/-- [e for x in list]: data -/
theorem de_lcl {K : PySem.W.Frag} {i : Nat} {dd : PyData → PyData} (h : PE X e (tLc (iList K (tD sl N Γ (.list ds))) (gName i) tYes (tXp sl (fun a : PyData => (i, a) :: Γ) dd) [i])) (hi : (Γ.all fun p => decide (p.1 ≠ i)) = true) (hl : i < sl) :
    PE X e (tD sl N Γ (.list (ds.map dd))) :=
  pe_weak h fun σ H Q q => ⟨q.1, fun v H1 s1 hd => by
    cases hd with
    | @lst a xs _ n e h =>
      have hlen := h.len
      refine ⟨a, rfl, ⟨_, sq e⟩, fun D nD => ?_⟩
      have hx' := h.off nD
      refine lc_it (walk_list (K := K) (a := a) (xs := xs)) (fun j H' => Same H1 H' ∧ ∃ out, H' D = some (.lst out) ∧ DtAll (fun b => N b ∧ b ≠ D) H' out ((ds.take j).map dd)) ⟨same_upd nD, [], upd_same, .nil⟩ (fun j H' _ ⟨s, _⟩ => sq (s _ _ e)) ?_ ?_
      · rintro j y H8 H' hj ⟨s2, out, hD2, hout⟩ ⟨rfl, ey⟩
        rw [hlen] at hj
        obtain ⟨v', hv, hvd⟩ := h.get (List.getElem?_eq_getElem hj)
        rw [hv] at ey
        cases ey
        have hol := hout.len
        rw [List.length_map, List.length_take] at hol
        have hsn : ds.take (j + 1) = ds.take j ++ [ds[j]] := by rw [List.take_succ, List.getElem?_eq_getElem hj]; rfl
        refine ⟨by simp [wipe], fun b => N b ∧ b ≠ D, ds[j], ((q.1.mono s1).offD nD s2 hD2).wiped hi hl ((hvd.off nD).mono s2), fun u H3 s3 hu' => ?_⟩
        refine ⟨out, s3 _ _ hD2, szlt (by have := n.2; omega), same_mut (s2.trans s3) nD, _, upd_same, ?_⟩
        have kp : ∀ b o, (N b ∧ b ≠ D) → H3 b = some o → (upd H3 D (.lst (out ++ [u]))) b = some o := fun b o hb e => by rw [upd_ne hb.2]; exact e
        rw [hsn, List.map_append]
        exact ((hout.mono s3).to (fun _ q => q) kp).app (.cons (hu'.to (fun _ q => q) kp) .nil)
      · rintro H2 ⟨s2, out, hD2, hout⟩
        rw [hlen, List.take_length] at hout
        exact q.2 _ _ (s1.trans s2) (.lst ⟨q.1.n _ (s1.free nD), by rw [List.length_map]; exact n.2⟩ hD2 (hout.to (fun _ q => q.1) fun _ _ _ e => e))⟩
/-- [e for x in range(n)]: data -/
theorem de_lcr {i n : Nat} {m : Int} {dd : Int → PyData} (h : PE X e (tLc (iRng1 (tCons (tC (.int m)) tNil)) (gName i) tYes (tXp sl (fun a : Int => (i, .int a) :: Γ) dd) [i])) (hi : (Γ.all fun p => decide (p.1 ≠ i)) = true) (hl : i < sl) (hm : m = (n : Int)) (hn : n ≤ 1000) :
    PE X e (tD sl N Γ (.list ((List.range n).map fun j : Nat => dd (j : Int)))) :=
  pe_weak h fun σ H Q q => by
    subst hm
    refine ⟨(n : Int), rfl, by omega, by omega, fun D nD => ?_⟩
    refine lc_it (walk_range (lo := 0) (n := (n : Int).toNat)) (fun j H' => Same H H' ∧ ∃ out, H' D = some (.lst out) ∧ DtAll (fun b => N b ∧ b ≠ D) H' out ((List.range j).map fun j : Nat => dd (j : Int))) ⟨same_upd nD, [], upd_same, .nil⟩ (fun _ _ _ _ => True.intro) ?_ ?_
    · rintro j y H8 H' hj ⟨s2, out, hD2, hout⟩ ⟨rfl, rfl⟩
      have hol := hout.len
      rw [List.length_map, List.length_range] at hol
      refine ⟨by simp [wipe], fun b => N b ∧ b ≠ D, (0 : Int) + j, (q.1.offD nD s2 hD2).wiped hi hl (.int _), fun u H3 s3 hu' => ?_⟩
      refine ⟨out, s3 _ _ hD2, szlt (by omega), same_mut (s2.trans s3) nD, _, upd_same, ?_⟩
      have kp : ∀ b o, (N b ∧ b ≠ D) → H3 b = some o → (upd H3 D (.lst (out ++ [u]))) b = some o := fun b o hb e => by rw [upd_ne hb.2]; exact e
      rw [List.range_succ, List.map_append]
      refine ((hout.mono s3).to (fun _ q => q) kp).app (.cons ?_ .nil)
      have := hu'.to (fun _ q => q) kp
      rw [Int.zero_add] at this
      exact this
    · rintro H2 ⟨s2, out, hD2, hout⟩
      rw [show (n : Int).toNat = n from rfl] at hout
      exact q.2 _ _ s2 (.lst ⟨q.1.n _ nD, by rw [List.length_map, List.length_range]; exact hn⟩ hD2 (hout.to (fun _ q => q.1) fun _ _ _ e => e))
theorem EnvD.nil {σ : L2.St} {H : Hp} (h : ∀ a, H a = none → N a) (l : sl ≤ σ.length) : EnvD sl N [] σ H := ⟨fun p hp => (by cases hp), h, l⟩
theorem EnvD.cons {σ : L2.St} {H : Hp} {i : Nat} {v : V} (h : EnvD sl N Γ σ H) (hv : Dt N H v d) (e : σ[i]? = some (some v)) : EnvD sl N ((i, d) :: Γ) σ H :=
  ⟨fun p hp => by
    rcases List.mem_cons.mp hp with rfl | hp
    · exact ⟨v, e, hv⟩
    · exact h.v p hp, h.n, h.l⟩
/-- a list display of data, no part of it the list itself -/
def tDL (sl : Nat) (N : Addr → Prop) (Γ : List (Nat × PyData)) (ds : List PyData) : TE := fun σ H Q => EnvD sl N Γ σ H ∧ ∀ l xs H', Same H H' → H l = none → H' l = some (.lst xs) → DtAll (fun b => N b ∧ b ≠ l) H' xs ds → Q (.ref l) H'
theorem de_lstL {pos} (h : PA X es (tDs sl N Γ ds)) (l : ds.length ≤ 1000) : PE X (.List es pos) (tDL sl N Γ ds) :=
  pe_weak (pe_lst h) fun σ H Q q => ⟨q.1, fun vs H1 s1 hds => ⟨szD hds l, fun p np => q.2 _ _ _ (s1.trans (same_upd np)) (s1.free np) upd_same ((hds.off np).mono (same_upd np))⟩⟩
theorem dL (sl : Nat) (N : Addr → Prop) (Γ : List (Nat × PyData)) (h : PE X e (tDL sl N Γ ds)) : PE X e (tDL sl N Γ ds) := h
theorem dX (sl : Nat) {α : Type} {dd : α → PyData} (Γ : α → List (Nat × PyData)) (h : ∀ N x, PE X e (tD sl N (Γ x) (dd x))) : PE X e (tXp sl Γ dd) := de_x h
end
end Ls

namespace K1
open PySem PySem.Spec PyProof.Rows L2 Ls
/-! ### what the script draws -/
theorem SqL.mono {K : PySem.W.Frag} {H H' : Hp} (s : Same H H') {a : Addr} {xs : List V} (h : SqL K H a xs) : SqL K H' a xs := by
  rcases h with h | h
  · rcases h with h | ⟨o, h⟩
    · exact .inl (.inl (s _ _ h))
    · exact .inl (.inr ⟨o, s _ _ h⟩)
  · exact .inr h
def Scr (K : PySem.W.Frag) (H : Hp) (a : Addr) (ns : List Int) : Prop := SqL K H a (ns.map V.int) ∧ ns.length ≤ 1000
theorem Scr.mono {K : PySem.W.Frag} {H H' : Hp} (s : Same H H') {a : Addr} {ns : List Int} (h : Scr K H a ns) : Scr K H' a ns := ⟨SqL.mono s h.1, h.2⟩
theorem dpInts (K : PySem.W.Frag) (H : Hp) : ∀ ns : List Int, DpAll K H (ns.map V.int) (ns.map PyData.int)
  | [] => .nil
  | n :: ns => .cons (.int n) (dpInts K H ns)
theorem eqv_nil (ns : List Int) : PyData.eqv (.list (ns.map PyData.int)) (.list []) = ns.isEmpty := by
  cases ns with
  | nil => simp [PyData.eqv, PyData.eqvAll]
  | cons n ns => simp [PyData.eqv, PyData.eqvAll]
def spNumber (K : PySem.W.Frag) : Sp := fun vs H Q _ => ∃ (a : Addr) (ns : List Int) (i : Int), vs = [.ref a, .int i] ∧ Scr K H a ns ∧ ∀ H' n, Same H H' → Q (.int n) H'
/-- only the draw has changed -/
def Kp (dr : Addr) (H H' : Hp) : Prop := ∀ b o, b ≠ dr → H b = some o → H' b = some o
theorem Kp.refl {dr : Addr} {H : Hp} : Kp dr H H := fun _ _ _ e => e
theorem Kp.trans {dr : Addr} {H1 H2 H3 : Hp} (h : Kp dr H1 H2) (g : Kp dr H2 H3) : Kp dr H1 H3 := fun b o n e => g b o n (h b o n e)
theorem Kp.same {dr : Addr} {H1 H2 : Hp} (s : Same H1 H2) : Kp dr H1 H2 := fun b o _ e => s b o e
theorem Kp.upd {dr : Addr} {H : Hp} {o : HO} : Kp dr H (upd H dr o) := fun b o' n e => by rw [upd_ne n]; exact e
/-- the draw: a script and a counter; the script is another object -/
structure Drw (K : PySem.W.Frag) (H : Hp) (dr : Addr) (ns : List Int) : Prop where
  ex : ∃ (sc : Addr) (c : Int), H dr = some (.lst [.ref sc, .int c]) ∧ ∀ H', Kp dr H H' → Scr K H' sc ns
theorem Drw.mono {K : PySem.W.Frag} {H H' : Hp} {dr : Addr} {ns : List Int} (h : Drw K H dr ns) (s : Same H H') : Drw K H' dr ns := by
  obtain ⟨sc, c, h1, h3⟩ := h.ex
  exact ⟨sc, c, s _ _ h1, fun H2 k => h3 H2 ((Kp.same s).trans k)⟩
def spTake (K : PySem.W.Frag) : Sp := fun vs H Q _ => ∃ (dr : Addr) (ns : List Int) (m : Int), vs = [.ref dr, .int m] ∧ Drw K H dr ns ∧ 0 < m ∧ ∀ H' n, Kp dr H H' → Drw K H' dr ns → 0 ≤ n → n < m → Q (.int n) H'
def spPick (K : PySem.W.Frag) : Sp := fun vs H Q _ => ∃ (dr it : Addr) (ns : List Int) (xs : List V), vs = [.ref dr, .ref it] ∧ Drw K H dr ns ∧ H it = some (.lst xs) ∧ it ≠ dr ∧ xs ≠ [] ∧ ∀ (H' : Hp) (j : Nat) (v : V), Kp dr H H' → Drw K H' dr ns → xs[j]? = some v → Q v H'
section
variable {P : Program} {w : World} {K : PySem.W.Frag} {mg : Str → Option Value} {base : Heap} {f : Addr} {fd : FuncData} {k : Nat}
theorem sc_u_law_number : FnScope ["script", "index", "cell", "blend"] ["script", "index"] (defScope s_u_law_number) := ⟨rfl, rfl, rfl, by decide +kernel, rfl, by decide +kernel, by decide +kernel⟩
theorem ok_number (F : FnP K "_law_number" s_u_law_number [] f fd) (G : Facts mg) : FnOk P w K mg base CX0 1 f fd ["script", "index"] (spNumber K) := by
  refine F.ok sc_u_law_number (fun vs H Q E h => ?_) (fun cdv A outer s H vs Q E hr h => ?_)
  · obtain ⟨a, ns, i, rfl, _⟩ := h
    rfl
  · obtain ⟨a, ns, i, rfl, ⟨hS, hlen⟩, hk⟩ := h
    have hu := hu_of hr
    refine ⟨_, PSs.nox (pss_cons (ps_if (pt_cmpR (kEqD K hr.units) (pv 0) (pe_lst pa_nil) (nomark _)) (pss_one (ps_ret (pe_callTy call_int1 (by rfl) G.int_ (by decide +kernel) (pa_cons (pe_op op_mod (pe_op op_add (pe_op op_mul (pv 1) pe_int) pe_int) pe_int) pa_nil)))) pss_nil)
      (pss_cons (ps_set (i := 2) sc_u_law_number.nd rfl (.inl rfl) (pe_ix (kIxL K) (pv 0) (pe_op op_mod (pv 1) (pe_callB (kLen K) (by rfl) G.len_ PySem.boot_len (pa_cons (pv 0) pa_nil))) (fun _ _ => rfl)))
      (pss_cons (ps_if (pt_cmpR op_ge (pe_callB call_abs (by rfl) G.abs_ (by decide +kernel) (pa_cons (pv 2) pa_nil)) (pe_op op_pow pe_int pe_int) (nomark _)) (pss_one (ps_set (i := 2) sc_u_law_number.nd rfl (.inl rfl) (pe_op op_mod (pv 2) (pe_op op_pow pe_int pe_int)))) pss_nil)
      (pss_cons (ps_set (i := 3) sc_u_law_number.nd rfl (.inl rfl) (pe_op op_mod (pe_op op_add (pe_op op_mul (pe_op op_add (pv 2) (pe_op op_mul pe_int (pv 1))) pe_int) (pe_op op_mul pe_int (pe_callB (kLen K) (by rfl) G.len_ PySem.boot_len (pa_cons (pv 0) pa_nil)))) pe_int))
      (pss_one (ps_ret (pe_callTy call_int1 (by rfl) G.int_ (by decide +kernel) (pa_cons (pe_op op_mod (pe_op op_add (pe_op op_mul (pe_op op_mod (pe_op op_mul (pv 3) pe_int) pe_int) pe_int) (pv 1)) pe_int) pa_nil)))))))), ?_⟩
    refine ⟨_, rfl, by show 0 ≤ sizeLine; decide, fun p np => ?_⟩
    have s1 := same_upd np (o := .lst [])
    refine ⟨_, _, .lst (SqL.mono s1 hS) (dpInts K _ ns), .lst (sq upd_same) .nil, PySem.W.shaped_ints ns, rfl, _, rfl, ?_⟩
    rw [eqv_nil]
    have hS1 := SqL.mono s1 hS
    generalize upd H p (.lst []) = H1 at s1 hS1
    by_cases he : ns = []
    · subst he
      refine iteT ⟨_, rfl, _, _, rfl, rfl, .inr ⟨by decide, by decide⟩, _, _, rfl, rfl, _, _, rfl, rfl, (by decide : (0 : Int) < 2147483647), .inl ⟨_, rfl, ?_⟩⟩
      exact hk _ _ s1
    · rw [show ns.isEmpty = false by cases ns with | nil => exact absurd rfl he | cons _ _ => rfl]
      have hl0 : (0 : Int) < (ns.length : Int) := by
        cases ns with
        | nil => exact absurd rfl he
        | cons _ _ => simp
      have hlm : (ns.map V.int).length = ns.length := List.length_map _
      have m1 := Int.emod_nonneg i (b := (ns.length : Int)) (by omega)
      have m2 := Int.emod_lt_of_pos i hl0
      obtain ⟨m, hm1, hm2⟩ : ∃ m : Nat, i % (ns.length : Int) = (m : Int) ∧ m < ns.length := ⟨(i % (ns.length : Int)).toNat, by omega, by omega⟩
      have hat : atI (ns.map V.int) (i % (ns.length : Int)) = some (.int ns[m]) := by
        rw [hm1]
        exact atI_nat (by rw [List.getElem?_map, List.getElem?_eq_getElem hm2]; rfl)
      refine iteF ⟨_, rfl, _, rfl, _, rfl, a, _, rfl, .inl hS1, ?_⟩
      rw [hlm]
      refine ⟨_, _, rfl, rfl, hl0, a, _, _, _, rfl, rfl, hS1, hat, ?_⟩
      generalize ns[m] = cell
      refine ⟨_, rfl, cell, rfl, _, _, rfl, rfl, ⟨by decide, by decide, by decide⟩, _, _, rfl, rfl, _, rfl, ?_⟩
      by_cases hc : (10 : Int) ^ (60 : Int).toNat ≤ (if cell < 0 then -cell else cell)
      · rw [decide_eq_true hc]
        refine iteT ⟨_, rfl, _, _, rfl, rfl, ⟨by decide, by decide, by decide⟩, _, _, rfl, rfl, Int.pow_pos (by decide), ?_⟩
        refine ⟨_, rfl, _, rfl, _, _, rfl, rfl, .inl ⟨by decide, by decide⟩, _, _, rfl, rfl, _, _, rfl, rfl, .inr ⟨by decide, by decide⟩, _, rfl, a, _, rfl, .inl hS1, _, _, rfl, rfl, .inl ⟨by decide, by decide⟩, _, _, rfl, rfl, _, _, rfl, rfl, (by decide : (0 : Int) < 2147483647), ?_⟩
        refine ⟨_, rfl, _, _, rfl, rfl, .inr ⟨by decide, by decide⟩, _, _, rfl, rfl, (by decide : (0 : Int) < 2147483629), _, _, rfl, rfl, .inr ⟨by decide, by decide⟩, _, rfl, _, _, rfl, rfl, _, _, rfl, rfl, (by decide : (0 : Int) < 2147483587), .inl ⟨_, rfl, ?_⟩⟩
        exact hk _ _ s1
      · rw [decide_eq_false hc]
        refine iteF ⟨_, rfl, _, rfl, _, _, rfl, rfl, .inl ⟨by decide, by decide⟩, _, _, rfl, rfl, _, _, rfl, rfl, .inr ⟨by decide, by decide⟩, _, rfl, a, _, rfl, .inl hS1, _, _, rfl, rfl, .inl ⟨by decide, by decide⟩, _, _, rfl, rfl, _, _, rfl, rfl, (by decide : (0 : Int) < 2147483647), ?_⟩
        refine ⟨_, rfl, _, _, rfl, rfl, .inr ⟨by decide, by decide⟩, _, _, rfl, rfl, (by decide : (0 : Int) < 2147483629), _, _, rfl, rfl, .inr ⟨by decide, by decide⟩, _, rfl, _, _, rfl, rfl, _, _, rfl, rfl, (by decide : (0 : Int) < 2147483587), .inl ⟨_, rfl, ?_⟩⟩
        exact hk _ _ s1
theorem sc_u_law_take : FnScope ["draw", "many"] ["draw", "many"] (defScope s_u_law_take) := ⟨rfl, rfl, rfl, by decide +kernel, rfl, by decide +kernel, by decide +kernel⟩
theorem ok_take (F : FnP K "_law_take" s_u_law_take [] f fd) (G : Facts mg) (C_u_law_number : Cal P w K mg base 1 "_law_number" (spNumber K) []) : FnOk P w K mg base CX0 2 f fd ["draw", "many"] (spTake K) := by
  refine F.ok sc_u_law_take (fun vs H Q E h => ?_) (fun cdv A outer s H vs Q E hr h => ?_)
  · obtain ⟨dr, ns, m, rfl, _⟩ := h
    rfl
  · obtain ⟨dr, ns, m, rfl, hd, hm, hk⟩ := h
    have hu := hu_of hr
    refine ⟨_, PSs.nox (pss_cons (ps_augS (pv 0) pe_int get_list pe_int ip_add set_list)
      (pss_one (ps_ret (pe_op op_mod (pe_callTy call_int1 (by rfl) G.int_ (by decide +kernel) (pa_cons (pe_c C_u_law_number hr (by decide) (by rfl) (pa_cons (pe_ix (kIxL K) (pv 0) pe_int (fun _ _ => rfl)) (pa_cons (pe_callTy call_int1 (by rfl) G.int_ (by decide +kernel) (pa_cons (pe_ix (kIxL K) (pv 0) pe_int (fun _ _ => rfl)) pa_nil)) pa_nil))) pa_nil)) (pv 1))))), ?_⟩
    obtain ⟨sc, c, h1, hS⟩ := hd.ex
    refine ⟨_, rfl, dr, _, 1, _, rfl, rfl, by decide, sq h1, rfl, _, _, rfl, rfl, dr, _, 1, 1, rfl, rfl, h1, rfl, ?_⟩
    have hdr : (upd H dr (.lst [.ref sc, .int (c + 1)])) dr = some (.lst [.ref sc, .int (c + 1)]) := upd_same
    have hS2 : Scr K (upd H dr (.lst [.ref sc, .int (c + 1)])) sc ns := hS _ Kp.upd
    have hkp : Kp dr H (upd H dr (.lst [.ref sc, .int (c + 1)])) := Kp.upd
    refine ⟨_, rfl, dr, _, _, _, rfl, rfl, sq hdr, rfl, _, rfl, dr, _, _, _, rfl, rfl, sq hdr, rfl, .inl ⟨_, rfl, sc, ns, _, rfl, hS2, fun H2 n s2 => .inl ⟨_, rfl, _, rfl, _, _, rfl, rfl, hm, ?_⟩⟩⟩
    exact hk H2 _ (hkp.trans (Kp.same s2)) ⟨sc, c + 1, s2 _ _ hdr, fun H3 k3 => hS H3 (hkp.trans ((Kp.same s2).trans k3))⟩ (Int.emod_nonneg _ (by omega)) (Int.emod_lt_of_pos _ hm)
theorem sc_u_law_pick : FnScope ["draw", "items"] ["draw", "items"] (defScope s_u_law_pick) := ⟨rfl, rfl, rfl, by decide +kernel, rfl, by decide +kernel, by decide +kernel⟩
theorem ok_pick (F : FnP K "_law_pick" s_u_law_pick [] f fd) (G : Facts mg) (C_u_law_take : Cal P w K mg base 2 "_law_take" (spTake K) []) : FnOk P w K mg base CX0 3 f fd ["draw", "items"] (spPick K) := by
  refine F.ok sc_u_law_pick (fun vs H Q E h => ?_) (fun cdv A outer s H vs Q E hr h => ?_)
  · obtain ⟨dr, it, ns, xs, rfl, _⟩ := h
    rfl
  · obtain ⟨dr, it, ns, xs, rfl, hd, hi, hne, hxs, hk⟩ := h
    have hu := hu_of hr
    refine ⟨_, PSs.nox (pss_one (ps_ret (pe_ix (kIxL K) (pv 1) (pe_c C_u_law_take hr (by decide) (by rfl) (pa_cons (pv 0) (pa_cons (pe_callB (kLen K) (by rfl) G.len_ PySem.boot_len (pa_cons (pv 1) pa_nil)) pa_nil))) (fun _ _ => rfl)))), ?_⟩
    have hl0 : (0 : Int) < (xs.length : Int) := by
      cases xs with
      | nil => exact absurd rfl hxs
      | cons _ _ => simp
    refine ⟨_, rfl, _, rfl, _, rfl, it, xs, rfl, .inl (sq hi), dr, ns, _, rfl, hd, hl0, fun H' n kp hd' h0 hlt => ?_⟩
    have hj : n.toNat < xs.length := by omega
    have hn : n = (n.toNat : Int) := by omega
    rw [hn]
    exact ⟨it, xs, _, _, rfl, rfl, sq (kp _ _ hne hi), atI_nat (List.getElem?_eq_getElem hj), hk H' n.toNat _ kp hd' (List.getElem?_eq_getElem hj)⟩
end
end K1

namespace K1
open PySem PySem.Spec PyProof.Rows L2 Ls
/-! ### lists of data -/
def u_law_bad_atomsD : List PyData := [.tuple [.str "n"], .tuple [.str "n", .int 1, .int 2], .list [.str "n", .int 1], .tuple [.str "n", .bool true], .tuple [.str "n", .str "1"], .tuple [.str "n", .int 10000], .tuple [.str "n", .int (-10000)], .tuple [.str "x", .int 0], .tuple [.str "", .int 0], .tuple [.none, .int 0], .tuple [.int 0, .int 0], .str "n", .int 3, .none, .tuple [.str "N", .int 0], .tuple [.str "n", .none]]
def u_law_bad_accessesD : List PyData := [.tuple [.str "a"], .tuple [.str "a", .list [.tuple [.str "n", .int 0]]], .list [.str "a", .tuple []], .tuple [.str "A", .tuple []], .tuple [.str "up", .tuple []], .tuple [.str "a", .tuple [.str "n", .int 0]], .tuple [.str "a", .tuple (List.replicate 5 [.tuple [.str "n", .int 0]]).flatten], .tuple [.int 3, .tuple []], .none, .tuple [.str "abcdefghijklm", .tuple []], .tuple [.str "", .tuple []], .tuple [.str "a", .none], .tuple [.str "2a", .tuple []], .tuple [.str "a b", .tuple []]]
abbrev runF : PyData := .tuple [.str "run", .str "f", .tuple [], .tuple [.str "a", .tuple []], .tuple []]
def deepD : Nat → PyData
  | 0 => runF
  | n + 1 => .tuple [.str "test", .tuple [.tuple [.str "n", .str "0", .int 3]], .tuple [deepD n]]
def spDeep : Sp := fun vs H Q _ => ∃ (N : Addr → Prop) (n : Nat), vs = [.int (n : Int)] ∧ n ≤ 1000 ∧ (∀ a, H a = none → N a) ∧ ∀ H' v, Same H H' → Dt N H' v (deepD n) → Q v H'
section
variable {P : Program} {w : World} {K : PySem.W.Frag} {mg : Str → Option Value} {base : Heap} {f : Addr} {fd : FuncData} {k : Nat}
theorem sc_u_law_bad_atoms : FnScope [] [] (defScope s_u_law_bad_atoms) := ⟨rfl, rfl, rfl, by decide +kernel, rfl, by decide +kernel, by decide +kernel⟩
theorem ok_bad_atoms (F : FnP K "_law_bad_atoms" s_u_law_bad_atoms [] f fd) (G : Facts mg) : FnOk P w K mg base CX0 1 f fd [] (spBadL u_law_bad_atomsD) := by
  refine F.ok sc_u_law_bad_atoms (fun vs H Q E h => ?_) (fun cdv A outer s H vs Q E hr h => ?_)
  · obtain ⟨N, rfl, _⟩ := h
    rfl
  · obtain ⟨N, rfl, hN, hk⟩ := h
    refine ⟨_, PSs.nox (pss_one (ps_ret (dL 0 N [] (de_lstL (das_cons (de_tup (das_cons (de_str (by decide +kernel)) das_nil) (Nat.le_of_ble_eq_true rfl)) (das_cons (de_tup (das_cons (de_str (by decide +kernel)) (das_cons de_int (das_cons de_int das_nil))) (Nat.le_of_ble_eq_true rfl)) (das_cons (de_lst (das_cons (de_str (by decide +kernel)) (das_cons de_int das_nil)) (Nat.le_of_ble_eq_true rfl)) (das_cons (de_tup (das_cons (de_str (by decide +kernel)) (das_cons de_bl das_nil)) (Nat.le_of_ble_eq_true rfl)) (das_cons (de_tup (das_cons (de_str (by decide +kernel)) (das_cons (de_str (by decide +kernel)) das_nil)) (Nat.le_of_ble_eq_true rfl)) (das_cons (de_tup (das_cons (de_str (by decide +kernel)) (das_cons de_int das_nil)) (Nat.le_of_ble_eq_true rfl)) (das_cons (de_tup (das_cons (de_str (by decide +kernel)) (das_cons de_neg das_nil)) (Nat.le_of_ble_eq_true rfl)) (das_cons (de_tup (das_cons (de_str (by decide +kernel)) (das_cons de_int das_nil)) (Nat.le_of_ble_eq_true rfl)) (das_cons (de_tup (das_cons (de_str (by decide +kernel)) (das_cons de_int das_nil)) (Nat.le_of_ble_eq_true rfl)) (das_cons (de_tup (das_cons de_non (das_cons de_int das_nil)) (Nat.le_of_ble_eq_true rfl)) (das_cons (de_tup (das_cons de_int (das_cons de_int das_nil)) (Nat.le_of_ble_eq_true rfl)) (das_cons (de_str (by decide +kernel)) (das_cons de_int (das_cons de_non (das_cons (de_tup (das_cons (de_str (by decide +kernel)) (das_cons de_int das_nil)) (Nat.le_of_ble_eq_true rfl)) (das_cons (de_tup (das_cons (de_str (by decide +kernel)) (das_cons de_non das_nil)) (Nat.le_of_ble_eq_true rfl)) das_nil)))))))))))))))) (Nat.le_of_ble_eq_true rfl))))), ?_⟩
    exact ⟨EnvD.nil hN (Nat.zero_le _), fun l xs H' s nl e hx => hk H' l xs s nl e (hx.to (fun _ q => q.1) fun _ _ _ e => e)⟩
theorem sc_u_law_bad_accesses : FnScope [] [] (defScope s_u_law_bad_accesses) := ⟨rfl, rfl, rfl, by decide +kernel, rfl, by decide +kernel, by decide +kernel⟩
theorem ok_bad_accesses (F : FnP K "_law_bad_accesses" s_u_law_bad_accesses [] f fd) (G : Facts mg) : FnOk P w K mg base CX0 1 f fd [] (spBadL u_law_bad_accessesD) := by
  refine F.ok sc_u_law_bad_accesses (fun vs H Q E h => ?_) (fun cdv A outer s H vs Q E hr h => ?_)
  · obtain ⟨N, rfl, _⟩ := h
    rfl
  · obtain ⟨N, rfl, hN, hk⟩ := h
    refine ⟨_, PSs.nox (pss_one (ps_ret (dL 0 N [] (de_lstL (das_cons (de_tup (das_cons (de_str (by decide +kernel)) das_nil) (Nat.le_of_ble_eq_true rfl)) (das_cons (de_tup (das_cons (de_str (by decide +kernel)) (das_cons (de_lst (das_cons (de_tup (das_cons (de_str (by decide +kernel)) (das_cons de_int das_nil)) (Nat.le_of_ble_eq_true rfl)) das_nil) (Nat.le_of_ble_eq_true rfl)) das_nil)) (Nat.le_of_ble_eq_true rfl)) (das_cons (de_lst (das_cons (de_str (by decide +kernel)) (das_cons (de_tup das_nil (Nat.le_of_ble_eq_true rfl)) das_nil)) (Nat.le_of_ble_eq_true rfl)) (das_cons (de_tup (das_cons (de_str (by decide +kernel)) (das_cons (de_tup das_nil (Nat.le_of_ble_eq_true rfl)) das_nil)) (Nat.le_of_ble_eq_true rfl)) (das_cons (de_tup (das_cons (de_str (by decide +kernel)) (das_cons (de_tup das_nil (Nat.le_of_ble_eq_true rfl)) das_nil)) (Nat.le_of_ble_eq_true rfl)) (das_cons (de_tup (das_cons (de_str (by decide +kernel)) (das_cons (de_tup (das_cons (de_str (by decide +kernel)) (das_cons de_int das_nil)) (Nat.le_of_ble_eq_true rfl)) das_nil)) (Nat.le_of_ble_eq_true rfl)) (das_cons (de_tup (das_cons (de_str (by decide +kernel)) (das_cons (de_rep (k := 5) (K := K) (de_tup (das_cons (de_tup (das_cons (de_str (by decide +kernel)) (das_cons de_int das_nil)) (Nat.le_of_ble_eq_true rfl)) das_nil) (Nat.le_of_ble_eq_true rfl)) pe_int (by decide +kernel)) das_nil)) (Nat.le_of_ble_eq_true rfl)) (das_cons (de_tup (das_cons de_int (das_cons (de_tup das_nil (Nat.le_of_ble_eq_true rfl)) das_nil)) (Nat.le_of_ble_eq_true rfl)) (das_cons de_non (das_cons (de_tup (das_cons (de_str (by decide +kernel)) (das_cons (de_tup das_nil (Nat.le_of_ble_eq_true rfl)) das_nil)) (Nat.le_of_ble_eq_true rfl)) (das_cons (de_tup (das_cons (de_str (by decide +kernel)) (das_cons (de_tup das_nil (Nat.le_of_ble_eq_true rfl)) das_nil)) (Nat.le_of_ble_eq_true rfl)) (das_cons (de_tup (das_cons (de_str (by decide +kernel)) (das_cons de_non das_nil)) (Nat.le_of_ble_eq_true rfl)) (das_cons (de_tup (das_cons (de_str (by decide +kernel)) (das_cons (de_tup das_nil (Nat.le_of_ble_eq_true rfl)) das_nil)) (Nat.le_of_ble_eq_true rfl)) (das_cons (de_tup (das_cons (de_str (by decide +kernel)) (das_cons (de_tup das_nil (Nat.le_of_ble_eq_true rfl)) das_nil)) (Nat.le_of_ble_eq_true rfl)) das_nil)))))))))))))) (Nat.le_of_ble_eq_true rfl))))), ?_⟩
    exact ⟨EnvD.nil hN (Nat.zero_le _), fun l xs H' s nl e hx => hk H' l xs s nl e (hx.to (fun _ q => q.1) fun _ _ _ e => e)⟩
theorem sc_u_law_deep : FnScope ["many", "node", "turn"] ["many"] (defScope s_u_law_deep) := ⟨rfl, rfl, rfl, by decide +kernel, rfl, by decide +kernel, by decide +kernel⟩
theorem ok_deep (F : FnP K "_law_deep" s_u_law_deep [] f fd) (G : Facts mg) : FnOk P w K mg base CX0 1 f fd ["many"] spDeep := by
  refine F.ok sc_u_law_deep (fun vs H Q E h => ?_) (fun cdv A outer s H vs Q E hr h => ?_)
  · obtain ⟨N, n, rfl, _⟩ := h
    rfl
  · obtain ⟨N, n, rfl, hn, hN, hk⟩ := h
    have hu := hu_of hr
    refine ⟨_, PSs.nox (pss_cons (ps_set (i := 1) sc_u_law_deep.nd rfl (.inl rfl) (dN 3 N [] (de_tup (das_cons (de_str (by decide +kernel)) (das_cons (de_str (by decide +kernel)) (das_cons (de_tup das_nil (Nat.le_of_ble_eq_true rfl)) (das_cons (de_tup (das_cons (de_str (by decide +kernel)) (das_cons (de_tup das_nil (Nat.le_of_ble_eq_true rfl)) das_nil)) (Nat.le_of_ble_eq_true rfl)) (das_cons (de_tup das_nil (Nat.le_of_ble_eq_true rfl)) das_nil))))) (Nat.le_of_ble_eq_true rfl))))
      (pss_cons (ps_for PassesOwn.never rfl (pi_range1 (by rfl) G.range_ (pa_cons (pv 0) pa_nil)) (pg_name (i := 2) sc_u_law_deep.nd rfl (by first | exact .inl rfl | exact .inr rfl))
        (pss_one (ps_set (i := 1) sc_u_law_deep.nd rfl (.inl rfl) (dX 3 (fun a : PyData => [(1, a)]) (fun _ a => (de_tup (das_cons (de_str (by decide +kernel)) (das_cons (de_tup (das_cons (de_tup (das_cons (de_str (by decide +kernel)) (das_cons (de_str (by decide +kernel)) (das_cons de_int das_nil))) (Nat.le_of_ble_eq_true rfl)) das_nil) (Nat.le_of_ble_eq_true rfl)) (das_cons (de_tup (das_cons (de_var 1 (pv 1) (.head _)) das_nil) (Nat.le_of_ble_eq_true rfl)) das_nil))) (Nat.le_of_ble_eq_true rfl)))))))
      (pss_one (ps_ret (pv 1))))), ?_⟩
    refine ⟨EnvD.nil hN (Nat.le_of_ble_eq_true rfl), fun v H1 s1 hv => ?_⟩
    refine ⟨_, rfl, (n : Int), rfl, by omega, by omega, ?_⟩
    refine for_it (walk_range (lo := 0) (n := (n : Int).toNat)) (fun i σ H' => ∃ u z, σ = [some (.int (n : Int)), some u, z] ∧ Same H H' ∧ Dt N H' u (deepD i)) ⟨_, _, rfl, s1, hv⟩ (fun _ _ _ _ _ => True.intro) ?_ ?_
    · rintro i y σ H9 H' hi ⟨u, z, rfl, s2, hu2⟩ ⟨rfl, rfl⟩
      exact ⟨N, deepD i, (EnvD.nil (fun a e => hN a (s2.free e)) (Nat.le_of_ble_eq_true rfl)).cons hu2 rfl, fun v' H3 s3 hv' => ⟨v', _, rfl, s2.trans s3, hv'⟩⟩
    · rintro σ H' ⟨u, z, rfl, s2, hu2⟩
      exact ⟨_, rfl, hk H' u s2 hu2⟩
end
end K1

namespace K1
open PySem PySem.Spec PyProof.Rows L2 Ls
abbrev lowsD : PyData := .tuple [.tuple [.str "0", .int 0]]
abbrev highsD : PyData := .tuple [.tuple [.str "n", .int 0]]
def nodes1 : List PyData := [.tuple [], .none, .str "run", .list [.str "run", .str "f", .tuple [], .tuple [.str "a", .tuple []], .tuple []], .tuple [.str "walk", .str "f", .tuple [], .tuple [.str "a", .tuple []], .tuple []], .tuple [.str "run", .str "f", .tuple [], .tuple [.str "a", .tuple []]], .tuple ((itemsD runF) ++ [.tuple []]), .tuple [.str "run", .str "F", .tuple [], .tuple [.str "a", .tuple []], .tuple []], .tuple [.str "run", .str "f", .list [], .tuple [.str "a", .tuple []], .tuple []], .tuple [.str "run", .str "f", .tuple [], .tuple [.str "a", .tuple []], .list []], .tuple [.str "run", .str "f", .tuple (List.replicate 9 [.tuple [.str "n", .int 0]]).flatten, .tuple [.str "a", .tuple []], .tuple []], .tuple [.str "run", .str "f", .tuple [], .tuple [.str "a", .tuple []], .tuple (List.replicate 7 [.tuple [.str "b", .tuple []]]).flatten], .tuple [.str "loop", .str "i", lowsD, highsD, .bool false], .tuple [.str "loop", .str "i", lowsD, highsD, .int 0, .tuple [runF]], .tuple [.str "loop", .str "i", lowsD, highsD, .none, .tuple [runF]], .tuple [.str "loop", .str "i", lowsD, highsD, .bool false, .tuple []], .tuple [.str "loop", .str "i", lowsD, highsD, .bool false, .list [runF]], .tuple [.str "loop", .str "n", lowsD, highsD, .bool false, .tuple [runF]], .tuple [.str "loop", .str "I", lowsD, highsD, .bool false, .tuple [runF]], .tuple [.str "loop", .str "i", .tuple [], highsD, .bool false, .tuple [runF]], .tuple [.str "loop", .str "i", lowsD, .tuple [], .bool false, .tuple [runF]], .tuple [.str "loop", .str "i", .tuple (List.replicate 2 (itemsD lowsD)).flatten, highsD, .bool false, .tuple [runF]], .tuple [.str "loop", .str "i", .list (itemsD lowsD), highsD, .bool false, .tuple [runF]], .tuple [.str "loop", .str "i", .tuple [.tuple [.str "i", .int 0]], highsD, .bool false, .tuple [runF]], .tuple [.str "loop", .str "i", .tuple ((List.range 13).map fun at_ : Nat => (.tuple [.str "0", (.int (at_ : Nat))] : PyData)), highsD, .bool false, .tuple [runF]], .tuple [.str "loop", .str "from", lowsD, highsD, .bool false, .tuple [runF]], .tuple [.str "test", .tuple [], .tuple [runF]], .tuple [.str "test", .tuple [.tuple [.str "n", .str "0", .int 3]], .tuple []], .tuple [.str "test", .tuple (List.replicate 2 [.tuple [.str "n", .str "0", .int 3]]).flatten, .tuple [runF]], .tuple [.str "test", .tuple [.tuple [.str "n", .str "n", .int 3]], .tuple [runF]], .tuple [.str "test", .tuple [.tuple [.str "n", .str "0", .bool true]], .tuple [runF]], .tuple [.str "test", .tuple [.tuple [.str "n", .str "x", .int 3]], .tuple [runF]], .tuple [.str "test", .tuple [.list [.str "n", .str "0", .int 3]], .tuple [runF]], .tuple [.str "test", .list [.tuple [.str "n", .str "0", .int 3]], .tuple [runF]], .tuple [.str "test", .tuple [.tuple [.str "n", .str "0", .int 3]], runF], .tuple [.str "test", .tuple [.tuple [.str "n", .str "0", .int 3]], .tuple [runF], .tuple []], .tuple [.str "test", .tuple ((List.range 13).map fun at_ : Nat => (.tuple [.str "n", .str "0", (.int (at_ : Nat))] : PyData)), .tuple [runF]], .tuple [.str "test", .tuple [.tuple [.str "0", .str "0", .int 3]], .tuple [runF]]]
def nodes2 : List PyData := (u_law_bad_atomsD.map fun atom_ : PyData => (.tuple [.str "run", .str "f", .tuple [atom_], .tuple [.str "a", .tuple []], .tuple []] : PyData))
def nodes3 : List PyData := ((u_law_bad_accessesD.map fun access_ : PyData => (.tuple [.str "run", .str "f", .tuple [], access_, .tuple []] : PyData)) ++ (u_law_bad_accessesD.map fun access_ : PyData => (.tuple [.str "run", .str "f", .tuple [], .tuple [.str "c", .tuple []], .tuple [access_]] : PyData)))
def nodes4 : List PyData := (u_law_bad_atomsD.map fun atom_ : PyData => (.tuple [.str "loop", .str "i", .tuple [atom_], highsD, .bool false, .tuple [runF]] : PyData))
def badNodesD : List PyData := nodes1 ++ nodes2 ++ nodes3 ++ nodes4
section
variable {P : Program} {w : World} {K : PySem.W.Frag} {mg : Str → Option Value} {base : Heap} {f : Addr} {fd : FuncData} {k : Nat}
theorem sc_u_law_bad_nodes : FnScope ["run", "lows", "highs", "found", "at", "atom", "access"] [] (defScope s_u_law_bad_nodes) := ⟨rfl, rfl, rfl, by decide +kernel, rfl, by decide +kernel, by decide +kernel⟩
theorem ok_bad_nodes (F : FnP K "_law_bad_nodes" s_u_law_bad_nodes [] f fd) (G : Facts mg) (C_u_law_bad_atoms : Cal P w K mg base 1 "_law_bad_atoms" (spBadL u_law_bad_atomsD) []) (C_u_law_bad_accesses : Cal P w K mg base 1 "_law_bad_accesses" (spBadL u_law_bad_accessesD) []) : FnOk P w K mg base CX0 2 f fd [] (spBadL badNodesD) := by
  refine F.ok sc_u_law_bad_nodes (fun vs H Q E h => ?_) (fun cdv A outer s H vs Q E hr h => ?_)
  · obtain ⟨N, rfl, _⟩ := h
    rfl
  · obtain ⟨N, rfl, hN, hk⟩ := h
    have hu := hu_of hr
    refine ⟨_, PSs.nox (pss_cons (ps_set (i := 0) sc_u_law_bad_nodes.nd rfl (.inr rfl) (dN 7 N [] (de_tup (das_cons (de_str (by decide +kernel)) (das_cons (de_str (by decide +kernel)) (das_cons (de_tup das_nil (Nat.le_of_ble_eq_true rfl)) (das_cons (de_tup (das_cons (de_str (by decide +kernel)) (das_cons (de_tup das_nil (Nat.le_of_ble_eq_true rfl)) das_nil)) (Nat.le_of_ble_eq_true rfl)) (das_cons (de_tup das_nil (Nat.le_of_ble_eq_true rfl)) das_nil))))) (Nat.le_of_ble_eq_true rfl))))
      (pss_cons (ps_asg (dN 7 N [] (de_tup (das_cons (de_tup (das_cons (de_tup (das_cons (de_str (by decide +kernel)) (das_cons de_int das_nil)) (Nat.le_of_ble_eq_true rfl)) das_nil) (Nat.le_of_ble_eq_true rfl)) (das_cons (de_tup (das_cons (de_tup (das_cons (de_str (by decide +kernel)) (das_cons de_int das_nil)) (Nat.le_of_ble_eq_true rfl)) das_nil) (Nat.le_of_ble_eq_true rfl)) das_nil)) (Nat.le_of_ble_eq_true rfl))) (kpg_tup K rfl (pgs_cons (pg_name (i := 1) sc_u_law_bad_nodes.nd rfl (by first | exact .inl rfl | exact .inr rfl)) (pgs_cons (pg_name (i := 2) sc_u_law_bad_nodes.nd rfl (by first | exact .inl rfl | exact .inr rfl)) pgs_nil))))
      (pss_cons (ps_set (i := 3) sc_u_law_bad_nodes.nd rfl (.inl rfl) (dL 7 N [(0, runF), (1, lowsD), (2, highsD)] (de_lstL (das_cons (de_tup das_nil (Nat.le_of_ble_eq_true rfl)) (das_cons de_non (das_cons (de_str (by decide +kernel)) (das_cons (de_lst (das_cons (de_str (by decide +kernel)) (das_cons (de_str (by decide +kernel)) (das_cons (de_tup das_nil (Nat.le_of_ble_eq_true rfl)) (das_cons (de_tup (das_cons (de_str (by decide +kernel)) (das_cons (de_tup das_nil (Nat.le_of_ble_eq_true rfl)) das_nil)) (Nat.le_of_ble_eq_true rfl)) (das_cons (de_tup das_nil (Nat.le_of_ble_eq_true rfl)) das_nil))))) (Nat.le_of_ble_eq_true rfl)) (das_cons (de_tup (das_cons (de_str (by decide +kernel)) (das_cons (de_str (by decide +kernel)) (das_cons (de_tup das_nil (Nat.le_of_ble_eq_true rfl)) (das_cons (de_tup (das_cons (de_str (by decide +kernel)) (das_cons (de_tup das_nil (Nat.le_of_ble_eq_true rfl)) das_nil)) (Nat.le_of_ble_eq_true rfl)) (das_cons (de_tup das_nil (Nat.le_of_ble_eq_true rfl)) das_nil))))) (Nat.le_of_ble_eq_true rfl)) (das_cons (de_tup (das_cons (de_str (by decide +kernel)) (das_cons (de_str (by decide +kernel)) (das_cons (de_tup das_nil (Nat.le_of_ble_eq_true rfl)) (das_cons (de_tup (das_cons (de_str (by decide +kernel)) (das_cons (de_tup das_nil (Nat.le_of_ble_eq_true rfl)) das_nil)) (Nat.le_of_ble_eq_true rfl)) das_nil)))) (Nat.le_of_ble_eq_true rfl)) (das_cons (de_cat (de_var 0 (pv 0) (.head _)) (de_tup (das_cons (de_tup das_nil (Nat.le_of_ble_eq_true rfl)) das_nil) (Nat.le_of_ble_eq_true rfl)) (by decide +kernel)) (das_cons (de_tup (das_cons (de_str (by decide +kernel)) (das_cons (de_str (by decide +kernel)) (das_cons (de_tup das_nil (Nat.le_of_ble_eq_true rfl)) (das_cons (de_tup (das_cons (de_str (by decide +kernel)) (das_cons (de_tup das_nil (Nat.le_of_ble_eq_true rfl)) das_nil)) (Nat.le_of_ble_eq_true rfl)) (das_cons (de_tup das_nil (Nat.le_of_ble_eq_true rfl)) das_nil))))) (Nat.le_of_ble_eq_true rfl)) (das_cons (de_tup (das_cons (de_str (by decide +kernel)) (das_cons (de_str (by decide +kernel)) (das_cons (de_lst das_nil (Nat.le_of_ble_eq_true rfl)) (das_cons (de_tup (das_cons (de_str (by decide +kernel)) (das_cons (de_tup das_nil (Nat.le_of_ble_eq_true rfl)) das_nil)) (Nat.le_of_ble_eq_true rfl)) (das_cons (de_tup das_nil (Nat.le_of_ble_eq_true rfl)) das_nil))))) (Nat.le_of_ble_eq_true rfl)) (das_cons (de_tup (das_cons (de_str (by decide +kernel)) (das_cons (de_str (by decide +kernel)) (das_cons (de_tup das_nil (Nat.le_of_ble_eq_true rfl)) (das_cons (de_tup (das_cons (de_str (by decide +kernel)) (das_cons (de_tup das_nil (Nat.le_of_ble_eq_true rfl)) das_nil)) (Nat.le_of_ble_eq_true rfl)) (das_cons (de_lst das_nil (Nat.le_of_ble_eq_true rfl)) das_nil))))) (Nat.le_of_ble_eq_true rfl)) (das_cons (de_tup (das_cons (de_str (by decide +kernel)) (das_cons (de_str (by decide +kernel)) (das_cons (de_rep (k := 9) (K := K) (de_tup (das_cons (de_tup (das_cons (de_str (by decide +kernel)) (das_cons de_int das_nil)) (Nat.le_of_ble_eq_true rfl)) das_nil) (Nat.le_of_ble_eq_true rfl)) pe_int (by decide +kernel)) (das_cons (de_tup (das_cons (de_str (by decide +kernel)) (das_cons (de_tup das_nil (Nat.le_of_ble_eq_true rfl)) das_nil)) (Nat.le_of_ble_eq_true rfl)) (das_cons (de_tup das_nil (Nat.le_of_ble_eq_true rfl)) das_nil))))) (Nat.le_of_ble_eq_true rfl)) (das_cons (de_tup (das_cons (de_str (by decide +kernel)) (das_cons (de_str (by decide +kernel)) (das_cons (de_tup das_nil (Nat.le_of_ble_eq_true rfl)) (das_cons (de_tup (das_cons (de_str (by decide +kernel)) (das_cons (de_tup das_nil (Nat.le_of_ble_eq_true rfl)) das_nil)) (Nat.le_of_ble_eq_true rfl)) (das_cons (de_rep (k := 7) (K := K) (de_tup (das_cons (de_tup (das_cons (de_str (by decide +kernel)) (das_cons (de_tup das_nil (Nat.le_of_ble_eq_true rfl)) das_nil)) (Nat.le_of_ble_eq_true rfl)) das_nil) (Nat.le_of_ble_eq_true rfl)) pe_int (by decide +kernel)) das_nil))))) (Nat.le_of_ble_eq_true rfl)) (das_cons (de_tup (das_cons (de_str (by decide +kernel)) (das_cons (de_str (by decide +kernel)) (das_cons (de_var 1 (pv 1) (.tail _ (.head _))) (das_cons (de_var 2 (pv 2) (.tail _ (.tail _ (.head _)))) (das_cons de_bl das_nil))))) (Nat.le_of_ble_eq_true rfl)) (das_cons (de_tup (das_cons (de_str (by decide +kernel)) (das_cons (de_str (by decide +kernel)) (das_cons (de_var 1 (pv 1) (.tail _ (.head _))) (das_cons (de_var 2 (pv 2) (.tail _ (.tail _ (.head _)))) (das_cons de_int (das_cons (de_tup (das_cons (de_var 0 (pv 0) (.head _)) das_nil) (Nat.le_of_ble_eq_true rfl)) das_nil)))))) (Nat.le_of_ble_eq_true rfl)) (das_cons (de_tup (das_cons (de_str (by decide +kernel)) (das_cons (de_str (by decide +kernel)) (das_cons (de_var 1 (pv 1) (.tail _ (.head _))) (das_cons (de_var 2 (pv 2) (.tail _ (.tail _ (.head _)))) (das_cons de_non (das_cons (de_tup (das_cons (de_var 0 (pv 0) (.head _)) das_nil) (Nat.le_of_ble_eq_true rfl)) das_nil)))))) (Nat.le_of_ble_eq_true rfl)) (das_cons (de_tup (das_cons (de_str (by decide +kernel)) (das_cons (de_str (by decide +kernel)) (das_cons (de_var 1 (pv 1) (.tail _ (.head _))) (das_cons (de_var 2 (pv 2) (.tail _ (.tail _ (.head _)))) (das_cons de_bl (das_cons (de_tup das_nil (Nat.le_of_ble_eq_true rfl)) das_nil)))))) (Nat.le_of_ble_eq_true rfl)) (das_cons (de_tup (das_cons (de_str (by decide +kernel)) (das_cons (de_str (by decide +kernel)) (das_cons (de_var 1 (pv 1) (.tail _ (.head _))) (das_cons (de_var 2 (pv 2) (.tail _ (.tail _ (.head _)))) (das_cons de_bl (das_cons (de_lst (das_cons (de_var 0 (pv 0) (.head _)) das_nil) (Nat.le_of_ble_eq_true rfl)) das_nil)))))) (Nat.le_of_ble_eq_true rfl)) (das_cons (de_tup (das_cons (de_str (by decide +kernel)) (das_cons (de_str (by decide +kernel)) (das_cons (de_var 1 (pv 1) (.tail _ (.head _))) (das_cons (de_var 2 (pv 2) (.tail _ (.tail _ (.head _)))) (das_cons de_bl (das_cons (de_tup (das_cons (de_var 0 (pv 0) (.head _)) das_nil) (Nat.le_of_ble_eq_true rfl)) das_nil)))))) (Nat.le_of_ble_eq_true rfl)) (das_cons (de_tup (das_cons (de_str (by decide +kernel)) (das_cons (de_str (by decide +kernel)) (das_cons (de_var 1 (pv 1) (.tail _ (.head _))) (das_cons (de_var 2 (pv 2) (.tail _ (.tail _ (.head _)))) (das_cons de_bl (das_cons (de_tup (das_cons (de_var 0 (pv 0) (.head _)) das_nil) (Nat.le_of_ble_eq_true rfl)) das_nil)))))) (Nat.le_of_ble_eq_true rfl)) (das_cons (de_tup (das_cons (de_str (by decide +kernel)) (das_cons (de_str (by decide +kernel)) (das_cons (de_tup das_nil (Nat.le_of_ble_eq_true rfl)) (das_cons (de_var 2 (pv 2) (.tail _ (.tail _ (.head _)))) (das_cons de_bl (das_cons (de_tup (das_cons (de_var 0 (pv 0) (.head _)) das_nil) (Nat.le_of_ble_eq_true rfl)) das_nil)))))) (Nat.le_of_ble_eq_true rfl)) (das_cons (de_tup (das_cons (de_str (by decide +kernel)) (das_cons (de_str (by decide +kernel)) (das_cons (de_var 1 (pv 1) (.tail _ (.head _))) (das_cons (de_tup das_nil (Nat.le_of_ble_eq_true rfl)) (das_cons de_bl (das_cons (de_tup (das_cons (de_var 0 (pv 0) (.head _)) das_nil) (Nat.le_of_ble_eq_true rfl)) das_nil)))))) (Nat.le_of_ble_eq_true rfl)) (das_cons (de_tup (das_cons (de_str (by decide +kernel)) (das_cons (de_str (by decide +kernel)) (das_cons (de_rep (k := 2) (K := K) (de_var 1 (pv 1) (.tail _ (.head _))) pe_int (by decide +kernel)) (das_cons (de_var 2 (pv 2) (.tail _ (.tail _ (.head _)))) (das_cons de_bl (das_cons (de_tup (das_cons (de_var 0 (pv 0) (.head _)) das_nil) (Nat.le_of_ble_eq_true rfl)) das_nil)))))) (Nat.le_of_ble_eq_true rfl)) (das_cons (de_tup (das_cons (de_str (by decide +kernel)) (das_cons (de_str (by decide +kernel)) (das_cons (de_list (K := K) (pe_callTy (kList K) (by rfl) G.list_ (by decide +kernel) (pa_cons (de_var 1 (pv 1) (.tail _ (.head _))) pa_nil)) (by decide +kernel)) (das_cons (de_var 2 (pv 2) (.tail _ (.tail _ (.head _)))) (das_cons de_bl (das_cons (de_tup (das_cons (de_var 0 (pv 0) (.head _)) das_nil) (Nat.le_of_ble_eq_true rfl)) das_nil)))))) (Nat.le_of_ble_eq_true rfl)) (das_cons (de_tup (das_cons (de_str (by decide +kernel)) (das_cons (de_str (by decide +kernel)) (das_cons (de_tup (das_cons (de_tup (das_cons (de_str (by decide +kernel)) (das_cons de_int das_nil)) (Nat.le_of_ble_eq_true rfl)) das_nil) (Nat.le_of_ble_eq_true rfl)) (das_cons (de_var 2 (pv 2) (.tail _ (.tail _ (.head _)))) (das_cons de_bl (das_cons (de_tup (das_cons (de_var 0 (pv 0) (.head _)) das_nil) (Nat.le_of_ble_eq_true rfl)) das_nil)))))) (Nat.le_of_ble_eq_true rfl)) (das_cons (de_tup (das_cons (de_str (by decide +kernel)) (das_cons (de_str (by decide +kernel)) (das_cons (de_tuple (pe_callTy kTuple (by rfl) G.tuple_ (by decide +kernel) (pa_cons (de_lcr (n := 13) (pe_lc (own := [("at", 4)]) (g := gName 4) (tt := tYes) rfl sc_u_law_bad_nodes.nd (pi_range1 (by rfl) G.range_ (pa_cons pe_int pa_nil)) (blkOk_by (by kernel_rfl)) (fun _ _ _ _ _ => (pg_name (i := 4) sc_u_law_bad_nodes.nd rfl (by first | exact .inl rfl | exact .inr rfl))) (fun _ _ _ _ _ => pts_nil) (fun _ _ _ _ _ => (dX 7 (fun at2 : Int => (4, .int at2) :: [(0, runF), (1, lowsD), (2, highsD)]) (fun _ at2 => (de_tup (das_cons (de_str (by decide +kernel)) (das_cons (de_var 4 (pv 4) (.head _)) das_nil)) (Nat.le_of_ble_eq_true rfl)))))) (by decide) (by decide) rfl (by decide)) pa_nil))) (das_cons (de_var 2 (pv 2) (.tail _ (.tail _ (.head _)))) (das_cons de_bl (das_cons (de_tup (das_cons (de_var 0 (pv 0) (.head _)) das_nil) (Nat.le_of_ble_eq_true rfl)) das_nil)))))) (Nat.le_of_ble_eq_true rfl)) (das_cons (de_tup (das_cons (de_str (by decide +kernel)) (das_cons (de_str (by decide +kernel)) (das_cons (de_var 1 (pv 1) (.tail _ (.head _))) (das_cons (de_var 2 (pv 2) (.tail _ (.tail _ (.head _)))) (das_cons de_bl (das_cons (de_tup (das_cons (de_var 0 (pv 0) (.head _)) das_nil) (Nat.le_of_ble_eq_true rfl)) das_nil)))))) (Nat.le_of_ble_eq_true rfl)) (das_cons (de_tup (das_cons (de_str (by decide +kernel)) (das_cons (de_tup das_nil (Nat.le_of_ble_eq_true rfl)) (das_cons (de_tup (das_cons (de_var 0 (pv 0) (.head _)) das_nil) (Nat.le_of_ble_eq_true rfl)) das_nil))) (Nat.le_of_ble_eq_true rfl)) (das_cons (de_tup (das_cons (de_str (by decide +kernel)) (das_cons (de_tup (das_cons (de_tup (das_cons (de_str (by decide +kernel)) (das_cons (de_str (by decide +kernel)) (das_cons de_int das_nil))) (Nat.le_of_ble_eq_true rfl)) das_nil) (Nat.le_of_ble_eq_true rfl)) (das_cons (de_tup das_nil (Nat.le_of_ble_eq_true rfl)) das_nil))) (Nat.le_of_ble_eq_true rfl)) (das_cons (de_tup (das_cons (de_str (by decide +kernel)) (das_cons (de_rep (k := 2) (K := K) (de_tup (das_cons (de_tup (das_cons (de_str (by decide +kernel)) (das_cons (de_str (by decide +kernel)) (das_cons de_int das_nil))) (Nat.le_of_ble_eq_true rfl)) das_nil) (Nat.le_of_ble_eq_true rfl)) pe_int (by decide +kernel)) (das_cons (de_tup (das_cons (de_var 0 (pv 0) (.head _)) das_nil) (Nat.le_of_ble_eq_true rfl)) das_nil))) (Nat.le_of_ble_eq_true rfl)) (das_cons (de_tup (das_cons (de_str (by decide +kernel)) (das_cons (de_tup (das_cons (de_tup (das_cons (de_str (by decide +kernel)) (das_cons (de_str (by decide +kernel)) (das_cons de_int das_nil))) (Nat.le_of_ble_eq_true rfl)) das_nil) (Nat.le_of_ble_eq_true rfl)) (das_cons (de_tup (das_cons (de_var 0 (pv 0) (.head _)) das_nil) (Nat.le_of_ble_eq_true rfl)) das_nil))) (Nat.le_of_ble_eq_true rfl)) (das_cons (de_tup (das_cons (de_str (by decide +kernel)) (das_cons (de_tup (das_cons (de_tup (das_cons (de_str (by decide +kernel)) (das_cons (de_str (by decide +kernel)) (das_cons de_bl das_nil))) (Nat.le_of_ble_eq_true rfl)) das_nil) (Nat.le_of_ble_eq_true rfl)) (das_cons (de_tup (das_cons (de_var 0 (pv 0) (.head _)) das_nil) (Nat.le_of_ble_eq_true rfl)) das_nil))) (Nat.le_of_ble_eq_true rfl)) (das_cons (de_tup (das_cons (de_str (by decide +kernel)) (das_cons (de_tup (das_cons (de_tup (das_cons (de_str (by decide +kernel)) (das_cons (de_str (by decide +kernel)) (das_cons de_int das_nil))) (Nat.le_of_ble_eq_true rfl)) das_nil) (Nat.le_of_ble_eq_true rfl)) (das_cons (de_tup (das_cons (de_var 0 (pv 0) (.head _)) das_nil) (Nat.le_of_ble_eq_true rfl)) das_nil))) (Nat.le_of_ble_eq_true rfl)) (das_cons (de_tup (das_cons (de_str (by decide +kernel)) (das_cons (de_tup (das_cons (de_lst (das_cons (de_str (by decide +kernel)) (das_cons (de_str (by decide +kernel)) (das_cons de_int das_nil))) (Nat.le_of_ble_eq_true rfl)) das_nil) (Nat.le_of_ble_eq_true rfl)) (das_cons (de_tup (das_cons (de_var 0 (pv 0) (.head _)) das_nil) (Nat.le_of_ble_eq_true rfl)) das_nil))) (Nat.le_of_ble_eq_true rfl)) (das_cons (de_tup (das_cons (de_str (by decide +kernel)) (das_cons (de_lst (das_cons (de_tup (das_cons (de_str (by decide +kernel)) (das_cons (de_str (by decide +kernel)) (das_cons de_int das_nil))) (Nat.le_of_ble_eq_true rfl)) das_nil) (Nat.le_of_ble_eq_true rfl)) (das_cons (de_tup (das_cons (de_var 0 (pv 0) (.head _)) das_nil) (Nat.le_of_ble_eq_true rfl)) das_nil))) (Nat.le_of_ble_eq_true rfl)) (das_cons (de_tup (das_cons (de_str (by decide +kernel)) (das_cons (de_tup (das_cons (de_tup (das_cons (de_str (by decide +kernel)) (das_cons (de_str (by decide +kernel)) (das_cons de_int das_nil))) (Nat.le_of_ble_eq_true rfl)) das_nil) (Nat.le_of_ble_eq_true rfl)) (das_cons (de_var 0 (pv 0) (.head _)) das_nil))) (Nat.le_of_ble_eq_true rfl)) (das_cons (de_tup (das_cons (de_str (by decide +kernel)) (das_cons (de_tup (das_cons (de_tup (das_cons (de_str (by decide +kernel)) (das_cons (de_str (by decide +kernel)) (das_cons de_int das_nil))) (Nat.le_of_ble_eq_true rfl)) das_nil) (Nat.le_of_ble_eq_true rfl)) (das_cons (de_tup (das_cons (de_var 0 (pv 0) (.head _)) das_nil) (Nat.le_of_ble_eq_true rfl)) (das_cons (de_tup das_nil (Nat.le_of_ble_eq_true rfl)) das_nil)))) (Nat.le_of_ble_eq_true rfl)) (das_cons (de_tup (das_cons (de_str (by decide +kernel)) (das_cons (de_tuple (pe_callTy kTuple (by rfl) G.tuple_ (by decide +kernel) (pa_cons (de_lcr (n := 13) (pe_lc (own := [("at", 4)]) (g := gName 4) (tt := tYes) rfl sc_u_law_bad_nodes.nd (pi_range1 (by rfl) G.range_ (pa_cons pe_int pa_nil)) (blkOk_by (by kernel_rfl)) (fun _ _ _ _ _ => (pg_name (i := 4) sc_u_law_bad_nodes.nd rfl (by first | exact .inl rfl | exact .inr rfl))) (fun _ _ _ _ _ => pts_nil) (fun _ _ _ _ _ => (dX 7 (fun at1 : Int => (4, .int at1) :: [(0, runF), (1, lowsD), (2, highsD)]) (fun _ at1 => (de_tup (das_cons (de_str (by decide +kernel)) (das_cons (de_str (by decide +kernel)) (das_cons (de_var 4 (pv 4) (.head _)) das_nil))) (Nat.le_of_ble_eq_true rfl)))))) (by decide) (by decide) rfl (by decide)) pa_nil))) (das_cons (de_tup (das_cons (de_var 0 (pv 0) (.head _)) das_nil) (Nat.le_of_ble_eq_true rfl)) das_nil))) (Nat.le_of_ble_eq_true rfl)) (das_cons (de_tup (das_cons (de_str (by decide +kernel)) (das_cons (de_tup (das_cons (de_tup (das_cons (de_str (by decide +kernel)) (das_cons (de_str (by decide +kernel)) (das_cons de_int das_nil))) (Nat.le_of_ble_eq_true rfl)) das_nil) (Nat.le_of_ble_eq_true rfl)) (das_cons (de_tup (das_cons (de_var 0 (pv 0) (.head _)) das_nil) (Nat.le_of_ble_eq_true rfl)) das_nil))) (Nat.le_of_ble_eq_true rfl)) das_nil)))))))))))))))))))))))))))))))))))))) (Nat.le_of_ble_eq_true rfl))))
      (pss_cons (ps_aug (i := 3) sc_u_law_bad_nodes.nd rfl (by first | exact .inl rfl | exact .inr rfl) (dX 7 (fun _ : Unit => [(0, runF), (1, lowsD), (2, highsD)]) (fun _ _ => (de_lcl (K := K) (pe_lc (own := [("atom", 5)]) (g := gName 5) (tt := tYes) rfl sc_u_law_bad_nodes.nd (kpi_list K (de_call (pe_c0 C_u_law_bad_atoms hr (by decide) (by rfl)) (by decide +kernel))) (blkOk_by (by kernel_rfl)) (fun _ _ _ _ _ => (pg_name (i := 5) sc_u_law_bad_nodes.nd rfl (by first | exact .inl rfl | exact .inr rfl))) (fun _ _ _ _ _ => pts_nil) (fun _ _ _ _ _ => (dX 7 (fun atom3 : PyData => (5, atom3) :: [(0, runF), (1, lowsD), (2, highsD)]) (fun _ atom3 => (de_tup (das_cons (de_str (by decide +kernel)) (das_cons (de_str (by decide +kernel)) (das_cons (de_tup (das_cons (de_var 5 (pv 5) (.head _)) das_nil) (Nat.le_of_ble_eq_true rfl)) (das_cons (de_tup (das_cons (de_str (by decide +kernel)) (das_cons (de_tup das_nil (Nat.le_of_ble_eq_true rfl)) das_nil)) (Nat.le_of_ble_eq_true rfl)) (das_cons (de_tup das_nil (Nat.le_of_ble_eq_true rfl)) das_nil))))) (Nat.le_of_ble_eq_true rfl)))))) (by decide) (by decide)))) iop_ext)
      (pss_cons (ps_aug (i := 3) sc_u_law_bad_nodes.nd rfl (by first | exact .inl rfl | exact .inr rfl) (dX 7 (fun _ : Unit => [(0, runF), (1, lowsD), (2, highsD)]) (fun _ _ => (de_catL (de_lcl (K := K) (pe_lc (own := [("access", 6)]) (g := gName 6) (tt := tYes) rfl sc_u_law_bad_nodes.nd (kpi_list K (de_call (pe_c0 C_u_law_bad_accesses hr (by decide) (by rfl)) (by decide +kernel))) (blkOk_by (by kernel_rfl)) (fun _ _ _ _ _ => (pg_name (i := 6) sc_u_law_bad_nodes.nd rfl (by first | exact .inl rfl | exact .inr rfl))) (fun _ _ _ _ _ => pts_nil) (fun _ _ _ _ _ => (dX 7 (fun access4 : PyData => (6, access4) :: [(0, runF), (1, lowsD), (2, highsD)]) (fun _ access4 => (de_tup (das_cons (de_str (by decide +kernel)) (das_cons (de_str (by decide +kernel)) (das_cons (de_tup das_nil (Nat.le_of_ble_eq_true rfl)) (das_cons (de_var 6 (pv 6) (.head _)) (das_cons (de_tup das_nil (Nat.le_of_ble_eq_true rfl)) das_nil))))) (Nat.le_of_ble_eq_true rfl)))))) (by decide) (by decide)) (de_lcl (K := K) (pe_lc (own := [("access", 6)]) (g := gName 6) (tt := tYes) rfl sc_u_law_bad_nodes.nd (kpi_list K (de_call (pe_c0 C_u_law_bad_accesses hr (by decide) (by rfl)) (by decide +kernel))) (blkOk_by (by kernel_rfl)) (fun _ _ _ _ _ => (pg_name (i := 6) sc_u_law_bad_nodes.nd rfl (by first | exact .inl rfl | exact .inr rfl))) (fun _ _ _ _ _ => pts_nil) (fun _ _ _ _ _ => (dX 7 (fun access5 : PyData => (6, access5) :: [(0, runF), (1, lowsD), (2, highsD)]) (fun _ access5 => (de_tup (das_cons (de_str (by decide +kernel)) (das_cons (de_str (by decide +kernel)) (das_cons (de_tup das_nil (Nat.le_of_ble_eq_true rfl)) (das_cons (de_tup (das_cons (de_str (by decide +kernel)) (das_cons (de_tup das_nil (Nat.le_of_ble_eq_true rfl)) das_nil)) (Nat.le_of_ble_eq_true rfl)) (das_cons (de_tup (das_cons (de_var 6 (pv 6) (.head _)) das_nil) (Nat.le_of_ble_eq_true rfl)) das_nil))))) (Nat.le_of_ble_eq_true rfl)))))) (by decide) (by decide)) (by decide +kernel)))) iop_ext)
      (pss_one (ps_ret (pe_op op_cat (pv 3) (dX 7 (fun _ : Unit => [(0, runF), (1, lowsD), (2, highsD)]) (fun _ _ => (de_lcl (K := K) (pe_lc (own := [("atom", 5)]) (g := gName 5) (tt := tYes) rfl sc_u_law_bad_nodes.nd (kpi_list K (de_call (pe_c0 C_u_law_bad_atoms hr (by decide) (by rfl)) (by decide +kernel))) (blkOk_by (by kernel_rfl)) (fun _ _ _ _ _ => (pg_name (i := 5) sc_u_law_bad_nodes.nd rfl (by first | exact .inl rfl | exact .inr rfl))) (fun _ _ _ _ _ => pts_nil) (fun _ _ _ _ _ => (dX 7 (fun atom6 : PyData => (5, atom6) :: [(0, runF), (1, lowsD), (2, highsD)]) (fun _ atom6 => (de_tup (das_cons (de_str (by decide +kernel)) (das_cons (de_str (by decide +kernel)) (das_cons (de_tup (das_cons (de_var 5 (pv 5) (.head _)) das_nil) (Nat.le_of_ble_eq_true rfl)) (das_cons (de_var 2 (pv 2) (.tail _ (.tail _ (.tail _ (.head _))))) (das_cons de_bl (das_cons (de_tup (das_cons (de_var 0 (pv 0) (.tail _ (.head _))) das_nil) (Nat.le_of_ble_eq_true rfl)) das_nil)))))) (Nat.le_of_ble_eq_true rfl)))))) (by decide) (by decide)))))))))))), ?_⟩
    refine ⟨EnvD.nil hN (Nat.le_of_ble_eq_true rfl), fun v0 H1 s1 h0 => ?_⟩
    have nN : ∀ {H' : Hp}, Same H H' → ∀ a, H' a = none → N a := fun s a e => hN a (s.free e)
    refine ⟨EnvD.nil (nN s1) (Nat.le_of_ble_eq_true rfl), fun vt H2 s2 ht => ?_⟩
    cases ht with
    | @tup t xt _ nt et ht =>
    obtain ⟨v1, v2, rfl, h1, h2⟩ := dt2 ht
    refine ⟨t, _, rfl, sqt et, rfl, _, _, rfl, _, _, rfl, rfl, ?_⟩
    have h0 := h0.mono s2
    have s02 := s1.trans s2
    clear ht
    refine ⟨(((EnvD.nil (nN s02) (Nat.le_of_ble_eq_true rfl)).cons h2 rfl).cons h1 rfl).cons h0 rfl, fun l xs H3 s3 nl el hx => ?_⟩
    have h0 := (h0.off nl).mono s3
    have h1 := (h1.off nl).mono s3
    have h2 := (h2.off nl).mono s3
    have s03 := s02.trans s3
    have nl0 := s02.free nl
    have hN3 : ∀ {H' : Hp}, Same H3 H' → ∀ a, H' a = none → N a ∧ a ≠ l := fun s a e => ⟨nN s03 a (s.free e), fun z => by
      have := s _ _ el
      rw [← z, e] at this
      cases this⟩
    have kp : ∀ {H' : Hp} {o : HO}, ∀ b o', (N b ∧ b ≠ l) → H' b = some o' → (upd H' l o) b = some o' := fun b o' hb e => by rw [upd_ne hb.2]; exact e
    have hxl := hx.len
    -- found += ..
    refine ⟨_, rfl, _, (), (((EnvD.nil (hN3 (Same.refl _)) (Nat.le_of_ble_eq_true rfl)).cons h2 rfl).cons h1 rfl).cons h0 rfl, fun vb H4 s4 hb => ?_⟩
    cases hb with
    | @lst b zs _ nb eb hz =>
    have hzl := hz.len
    refine ⟨l, b, xs, zs, rfl, rfl, s4 _ _ el, eb, szl (by rw [hxl, hzl]; decide +kernel), ?_⟩
    have h0 := (h0.mono s4).to (fun _ q => q) (kp (o := .lst (xs ++ zs)))
    have h1 := (h1.mono s4).to (fun _ q => q) (kp (o := .lst (xs ++ zs)))
    have h2 := (h2.mono s4).to (fun _ q => q) (kp (o := .lst (xs ++ zs)))
    have hx4 := ((hx.mono s4).app hz).to (fun _ q => q) (kp (o := .lst (xs ++ zs)))
    have el4 : (upd H4 l (.lst (xs ++ zs))) l = some (.lst (xs ++ zs)) := upd_same
    have s04 := same_mut (o := .lst (xs ++ zs)) (s03.trans s4) nl0
    generalize upd H4 l (.lst (xs ++ zs)) = H5 at h0 h1 h2 hx4 el4 s04
    clear hz hx hzl hxl
    generalize xs ++ zs = ys at hx4 el4
    have hyl := hx4.len
    have hN5 : ∀ {H' : Hp}, Same H5 H' → ∀ a, H' a = none → N a ∧ a ≠ l := fun s a e => ⟨nN s04 a (s.free e), fun z => by
      have := s _ _ el4
      rw [← z, e] at this
      cases this⟩
    refine ⟨_, rfl, _, (), (((EnvD.nil (hN5 (Same.refl _)) (Nat.le_of_ble_eq_true rfl)).cons h2 rfl).cons h1 rfl).cons h0 rfl, fun vb2 H6 s6 hb => ?_⟩
    cases hb with
    | @lst b2 zs2 _ nb2 eb2 hz2 =>
    have hzl2 := hz2.len
    refine ⟨l, b2, ys, zs2, rfl, rfl, s6 _ _ el4, eb2, szl (by rw [hyl, hzl2]; decide +kernel), ?_⟩
    have h0 := (h0.mono s6).to (fun _ q => q) (kp (o := .lst (ys ++ zs2)))
    have h2 := (h2.mono s6).to (fun _ q => q) (kp (o := .lst (ys ++ zs2)))
    have h1 := (h1.mono s6).to (fun _ q => q) (kp (o := .lst (ys ++ zs2)))
    have hx6 := ((hx4.mono s6).app hz2).to (fun _ q => q) (kp (o := .lst (ys ++ zs2)))
    have el6 : (upd H6 l (.lst (ys ++ zs2))) l = some (.lst (ys ++ zs2)) := upd_same
    have s06 := same_mut (o := .lst (ys ++ zs2)) (s04.trans s6) nl0
    generalize upd H6 l (.lst (ys ++ zs2)) = H7 at h0 h2 h1 hx6 el6 s06
    generalize ys ++ zs2 = us at hx6 el6
    have hul := hx6.len
    have hN7 : ∀ {H' : Hp}, Same H7 H' → ∀ a, H' a = none → N a ∧ a ≠ l := fun s a e => ⟨nN s06 a (s.free e), fun z => by
      have := s _ _ el6
      rw [← z, e] at this
      cases this⟩
    refine ⟨_, rfl, _, (), (((EnvD.nil (hN7 (Same.refl _)) (Nat.le_of_ble_eq_true rfl)).cons h2 rfl).cons h1 rfl).cons h0 rfl, fun vb3 H8 s8 hb => ?_⟩
    cases hb with
    | @lst b3 zs3 _ nb3 eb3 hz3 =>
    have hzl3 := hz3.len
    refine ⟨l, b3, us, zs3, rfl, rfl, s8 _ _ el6, eb3, szl (by rw [hul, hzl3]; decide +kernel), fun p np => ?_⟩
    refine hk _ p _ ((s06.trans s8).trans (same_upd np)) ((s06.trans s8).free np) upd_same ?_
    exact (((hx6.mono s8).app hz3).mono (same_upd np)).to (fun _ q => q.1) fun _ _ _ e => e
end
end K1

namespace Ls
open PySem PySem.Spec PyProof.Rows L2
/-- isinstance of a caught error without a dict, its class told later -/
def rIsN (K : PySem.W.Frag) (cls : Value) (d : Option Addr) (a : Addr) : List V → Hp → VK → Prop := fun xs H Q => ∃ D, cls = .ref D ∧ d = none ∧ ExcC K D ∧ rIsE K D a xs H Q
theorem call_isN {X : Cx} {a : Addr} {oe : Obj} {cls : Value} {d : Option Addr} {pn : List (Addr × Obj)} (hz : Zc cls d oe) (hf : ∃ vs, oe.data = .fields vs) : CallR (X.suite a ((a, oe) :: pn)) (.builtin "isinstance") (rIsN X.K cls d a) := by
  intro pins s σ H xs us Q I r h
  obtain ⟨D, rfl, rfl, C, h⟩ := h
  exact call_isE (X := X) C hz hf pins s σ H xs us Q I r h
end Ls
namespace K1
open PySem PySem.Spec PyProof.Rows L2 Ls
/-- what the walk asks of an own error E, of LoopshedsError -/
structure ErrF (K : PySem.W.Frag) (CE CL : Addr) : Prop where
  ec : ExcC K CE
  eE : PySem.W.exmOne K (.ref CE) (.ref CE) = some true
  kL : PySem.W.kitOne K (.ref CE) (.ref CL) = some true
  kV : PySem.W.kitOne K (.ref CE) (.type "ValueError") = some true
def spLRefused : Sp := fun vs H Q _ => ∃ (N : Addr → Prop) (v1 v2 v3 v4 v5 : V) (sz given : PyData) (rm : Rooms) (kept body : PyData), vs = [v1, v2, v3, v4, v5] ∧
  Dt N H v1 sz ∧ Dt N H v2 given ∧ RmAt N H v3 rm ∧ Dt N H v4 kept ∧ Dt N H v5 body ∧ (∀ a, H a = none → N a) ∧ (okHead sz given rm kept body = true → NestSz body rm) ∧ nestOk sz given rm kept body = false ∧ ∀ H', Same H H' → Q (.bl true) H'
section
variable {P : Program} {w : World} {K : PySem.W.Frag} {mg : Str → Option Value} {base : Heap} {f CN CB CL : Addr} {fd : FuncData} {k : Nat}
theorem sc_u_law_refused : FnScope ["sizes", "given", "rooms", "kept", "body", "error"] ["sizes", "given", "rooms", "kept", "body"] (defScope s_u_law_refused) := ⟨rfl, rfl, rfl, by decide +kernel, rfl, by decide +kernel, by decide +kernel⟩
theorem ok_lrefused (F : FnP K "_law_refused" s_u_law_refused [] f fd) (G : Facts mg) (BN : ExcF K mg "BadNest" CB) (EB : ErrF K CB CL) (hCL : mg "LoopshedsError" = some (.ref CL)) (MX_Nest : MakX P w K mg base 131 "Nest" CN (spNest CN CB)) :
    FnOk P w K mg base CX0 133 f fd ["sizes", "given", "rooms", "kept", "body"] spLRefused := by
  refine F.ok sc_u_law_refused (fun vs H Q E h => ?_) (fun cdv A outer s H vs Q E hr h => ?_)
  · obtain ⟨N, v1, v2, v3, v4, v5, sz, given, rm, kept, body, rfl, _⟩ := h
    rfl
  · obtain ⟨N, v1, v2, v3, v4, v5, sz, given, rm, kept, body, rfl, h1, h2, h3, h4, h5, hN, hsz, hno, hk⟩ := h
    have hu := hu_of hr
    refine ⟨_, PSs.nox (pss_cons (ps_try_as (i := 5) rfl rfl sc_u_law_refused.nd rfl rfl ⟨rfl, by decide, .inl BN.gP⟩ takes0 (fun W pn xe tk _ => (pss_one (ps_expr (pe_mkxS MX_Nest tk hr (by decide) (by rfl) (pa_cons (pv 0) (pa_cons (pv 1) (pa_cons (pv 2) (pa_cons (pv 3) (pa_cons (pv 4) pa_nil))))))))) (fun a oe cls d pn hz hd => (pss_one (ps_ret (pe_and (pe_callB (call_isN hz hd) (by rfl) G.isinstance_ (by decide +kernel) (pa_cons (pv 5) (pa_cons (pe_glob (v := .ref CL) (by rfl) hCL rfl) pa_nil))) (pe_one (pe_callB (call_isN hz hd) (by rfl) G.isinstance_ (by decide +kernel) (pa_cons (pv 5) (pa_cons (pe_ty "ValueError" (by rfl) G.ValueError_ (by decide +kernel)) pa_nil)))))))))
      (pss_one (ps_ret pe_bl))), ?_⟩
    refine ⟨_, rfl, _, rfl, _, rfl, _, rfl, _, rfl, fun x dx nx ndx hne => ?_⟩
    have s0 : Same H (upd (upd H dx (.own x)) x (.ins CN dx [])) := same_mut (same_upd ndx) nx
    refine ⟨N, H, x, dx, v1, v2, v3, v4, v5, sz, given, rm, kept, body, rfl, s0, nx, upd_same, h1, h2, h3, h4, h5, hN, hsz, fun _ H' s' => ?_, fun e => by rw [hno] at e; cases e⟩
    refine ⟨true, EB.eE, fun _ e he => ?_, fun z => nomatch z⟩
    refine ⟨_, rfl, CB, rfl, rfl, EB.ec, .ref CL, .ref CL, true, rfl, fun u r => r, EB.kL, _, rfl, iteT ?_⟩
    exact ⟨_, rfl, CB, rfl, rfl, EB.ec, .ty "ValueError", .type "ValueError", true, rfl, fun u r => r, EB.kV, hk H' s'⟩
end
end K1

namespace K1
open PySem PySem.Spec PyProof.Rows L2 Ls
/-! ### bad heads -/
theorem cut_from (xs : List V) (n : Nat) : cutV xs (some (n : Int)) none = xs.drop n := by
  unfold cutV
  rw [HT.sIx_nat, HT.sIx_none, List.take_of_length_le (by rw [List.length_drop]; omega)]
  by_cases h : n ≤ xs.length
  · rw [Nat.min_eq_left h]
  · rw [Nat.min_eq_right (by omega), List.drop_eq_nil_of_le (Nat.le_refl _), List.drop_eq_nil_of_le (by omega)]
theorem cut_upto (xs : List V) (n : Nat) : cutV xs none (some (n : Int)) = xs.take n := by
  unfold cutV
  rw [HT.sIx_nat, HT.sIx_none, List.drop_zero, Nat.sub_zero, ← List.take_eq_take_min]
section
variable {X : Cx} {e e2 : Expr} {es : List Expr} {sl : Nat} {N : Addr → Prop} {Γ : List (Nat × PyData)} {d d2 : PyData} {ds ds2 : List PyData}
theorem de_ix (k : Nat) {K : PySem.W.Frag} {i : Expr} {pos : Pos} (h : PE X (.Subscript e i pos) (tOp (rIxT K) (tD sl N Γ (.tuple ds)) (tC (.int (k : Int))))) (hk : ds[k]? = some d) : PE X (.Subscript e i pos) (tD sl N Γ d) :=
  pe_weak h fun σ H Q q => ⟨q.1, fun v H1 s1 hd => by
    cases hd with
    | @tup a xs _ n e h =>
      obtain ⟨v, hv, hvd⟩ := h.get hk
      exact ⟨a, xs, _, v, rfl, rfl, sqt e, atI_nat hv, q.2 v H1 s1 hvd⟩⟩
theorem de_take (k : Nat) {p2 pos : Pos} {hi : Expr} (h : PE X (.Subscript e (.Slice none (some hi) none p2) pos) (tSl rSlU (tD sl N Γ (.tuple ds)) tNoPart (tPart (tC (.int (k : Int)))))) : PE X (.Subscript e (.Slice none (some hi) none p2) pos) (tD sl N Γ (.tuple (ds.take k))) :=
  pe_weak h fun σ H Q q => ⟨q.1, fun v H1 s1 hd => by
    cases hd with
    | @tup a xs _ n e h =>
      refine ⟨k, rfl, a, xs, rfl, e, fun H' p s hp e' => q.2 _ _ (s1.trans s) (.tup ⟨?_, ?_⟩ e' ?_)⟩
      · rcases hp with hp | rfl
        · exact q.1.n _ (s1.free hp)
        · exact n.1
      · rw [List.length_take]; have := n.2; omega
      · rw [cut_upto]; exact (h.take k).mono s⟩
/-- rooms, as they are written -/
def tRm (sl : Nat) (N : Addr → Prop) (Γ : List (Nat × PyData)) (r : Rooms) : TE := fun σ H Q => EnvD sl N Γ σ H ∧ ∀ v H', Same H H' → RmAt N H' v r → Q v H'
theorem rm_d (h : PE X e (tD sl N Γ d)) : PE X e (tRm sl N Γ (.no d)) := pe_weak h fun σ H Q q => ⟨q.1, fun v H' s hd => q.2 v H' s (.no hd)⟩
theorem rm_0 {pos : Pos} : PE X (.Dict [] [] pos) (tRm sl N Γ (.dict [])) := pe_weak pe_dnewK fun σ H Q q p np => q.2 _ _ (same_upd np) (.dict (q.1.n p np) upd_same .nil (fun p hp => by cases hp) (Nat.zero_le _))
def keyOk : Key → Bool
  | .inl _ => true
  | .inr x => decide (x.length ≤ 1000) && PySem.PyData.strOk x
theorem keyOk.dt {k : Key} (h : keyOk k = true) {H : Hp} : Dt N H (kV k) (keyData k) := by
  cases k with
  | inl i => exact .int i
  | inr x => exact .str ⟨of_decide_eq_true (Bool.and_eq_true_iff.mp h).1, (Bool.and_eq_true_iff.mp h).2⟩
theorem rm_1 {k : Key} {pos : Pos} (hk : PE X e (tC (kV k))) (hv : PE X e2 (tD sl N Γ d)) (ho : keyOk k = true) : PE X (.Dict [some e] [e2] pos) (tRm sl N Γ (.dict [(k, d)])) :=
  pe_weak (pe_disp (pps_cons hk hv pps_nil) rfl rfl (fun z => by cases z) (Nat.le_of_ble_eq_true rfl)) fun σ H Q q p np => by
    have s1 := same_upd np (o := .dK [])
    refine ⟨q.1.mono s1, fun v H2 s2 hd => ⟨s2 _ _ upd_same, [(k, v)], rfl, Nat.le_of_ble_eq_true rfl, ?_⟩⟩
    have hp : H2 p = some (.dK []) := s2 _ _ upd_same
    have hoff : ∀ b xs, H2 b = some (.lst xs) ∨ H2 b = some (.tup xs) → b ≠ p := fun b xs q z => by
      rw [z, hp] at q
      rcases q with q | q <;> cases q
    have kp : ∀ b o, (N b ∧ b ≠ p) → H2 b = some o → (upd H2 p (.dK (mergeK [] [(k, v)]))) b = some o := fun b o hb e => by rw [upd_ne hb.2]; exact e
    have hd2 := (hd.offg hoff).to (M := N) (fun _ q => q.1) kp
    refine q.2 _ _ (same_mut (s1.trans s2) np) (.dict (q.1.n p np) upd_same (.cons ⟨rfl, hd2⟩ .nil) (fun q' hq => ?_) (Nat.le_of_ble_eq_true rfl))
    rw [List.mem_singleton.mp hq]
    exact keyOk.dt ho
def EntryAt (N : Addr → Prop) (H : Hp) (v : V) (er : Int × Rooms) : Prop := ∃ a x, v = .ref a ∧ N a ∧ H a = some (.tup [.int er.1, x]) ∧ RmAt N H x er.2
theorem EntryAt.to {N M : Addr → Prop} {H H' : Hp} (hn : ∀ a, N a → M a) (s : ∀ b o, N b → H b = some o → H' b = some o) {v : V} {er : Int × Rooms} (h : EntryAt N H v er) : EntryAt M H' v er := by
  obtain ⟨a, x, e, n, ha, hx⟩ := h
  exact ⟨a, x, e, hn _ n, s _ _ n ha, hx.to hn s⟩
def tEr (sl : Nat) (N : Addr → Prop) (Γ : List (Nat × PyData)) (er : Int × Rooms) : TE := fun σ H Q => EnvD sl N Γ σ H ∧ ∀ v H', Same H H' → EntryAt N H' v er → Q v H'
def tErs (sl : Nat) (N : Addr → Prop) (Γ : List (Nat × PyData)) (er : List (Int × Rooms)) : TA := fun σ H Q => EnvD sl N Γ σ H ∧ ∀ vs H', Same H H' → Paired (EntryAt N H') vs er → Q vs H'
theorem ee {i : Int} {r : Rooms} {j pos' k pos} (h : PE X e2 (tRm sl N Γ r)) (hs : starEach (e2 :: []) X.env = (false, eval e2 X.env) :: starEach [] X.env := by rfl) (hs2 : starEach (.Constant (.int i) j pos' :: [e2]) X.env = (false, eval (.Constant (.int i) j pos') X.env) :: starEach [e2] X.env := by rfl) : PE X (.Tuple [.Constant (.int i) j pos', e2] k pos) (tEr sl N Γ (i, r)) :=
  pe_weak (pe_tup (pa_cons pe_int (pa_cons h pa_nil hs) hs2)) fun σ H Q q => ⟨q.1, fun v H1 s1 hr => ⟨by show 2 ≤ sizeLine; decide, fun p np => q.2 _ _ (s1.trans (same_upd np)) ⟨p, v, rfl, q.1.n p (s1.free np), upd_same, hr.mono (same_upd np)⟩⟩⟩
theorem ees_nil : PA X [] (tErs sl N Γ []) := pa_weak pa_nil fun σ H Q q => q.2 [] H (Same.refl H) .nil
theorem ees_cons {er : Int × Rooms} {ers : List (Int × Rooms)} (h1 : PE X e (tEr sl N Γ er)) (h2 : PA X es (tErs sl N Γ ers)) (hs : starEach (e :: es) X.env = (false, eval e X.env) :: starEach es X.env := by rfl) : PA X (e :: es) (tErs sl N Γ (er :: ers)) :=
  pa_weak (pa_cons h1 h2 hs) fun σ H Q q => ⟨q.1, fun v H1 s1 hd => ⟨q.1.mono s1, fun vs H2 s2 hds => q.2 _ H2 (s1.trans s2) (.cons (hd.to (fun _ q => q) fun b o _ e => s2 b o e) hds)⟩⟩
end
abbrev runN : PyData := .tuple [.str "run", .str "g", .tuple (List.replicate 8 [.tuple [.str "n", .int 9999]]).flatten, .tuple [.str "z", .tuple (List.replicate 4 [.tuple [.str "0", .int (-9999)]]).flatten], .tuple (List.replicate 6 [.tuple [.str "z", .tuple (List.replicate 4 [.tuple [.str "n", .int 0]]).flatten]]).flatten]
abbrev bodyN : PyData := .tuple [runN]
abbrev pairD2 : PyData := .tuple [.tuple [.str "0", .int 0], .tuple [.str "n", .int 0]]
def headsD : List (Int × Rooms) := [((0 : Int), .no (.list [.str "n"])), ((0 : Int), .no (.tuple [])), ((0 : Int), .no (.tuple [.str "n", .str "n"])), ((0 : Int), .no (.tuple [.str "n", .str "b", .str "c", .str "d"])), ((0 : Int), .no (.tuple [.str "N"])), ((0 : Int), .no (.str "n")), ((0 : Int), .no (.tuple [.str "n", .int 3])), ((0 : Int), .no (.tuple [.str "to"])), ((0 : Int), .no (.none)), ((1 : Int), .no (.list [.tuple [.str "n", .str "0", .int 3]])), ((1 : Int), .no (.tuple [.tuple [.str "n", .str "x", .int 3]])), ((1 : Int), .no (.tuple [.tuple [.str "n", .str "n", .int 3]])), ((1 : Int), .no (.tuple [.tuple [.str "n", .str "0", .int 3, .int 4]])), ((1 : Int), .no (.tuple [.tuple [.str "n", .str "0", .int 10000]])), ((1 : Int), .no (.tuple ((List.range 13).map fun at_ : Nat => (.tuple [.str "n", .str "0", (.int (at_ : Nat))] : PyData)))), ((1 : Int), .no (.none)), ((1 : Int), .no (.tuple [.tuple [.str "n", .str "0"]])), ((2 : Int), .no (.none)), ((2 : Int), .no (.tuple [])), ((2 : Int), .dict [((.inr ("A" : Str) : Key), .tuple [])]), ((2 : Int), .dict [((.inl 3 : Key), .tuple [])]), ((2 : Int), .dict [((.inr ("q" : Str) : Key), .list [])]), ((2 : Int), .dict [((.inr ("q" : Str) : Key), .tuple [.tuple [.str "0", .str "n"]])]), ((2 : Int), .dict [((.inr ("q" : Str) : Key), .tuple [.tuple (((itemsD pairD2)).take 1)])]), ((2 : Int), .dict [((.inr ("q" : Str) : Key), .tuple (List.replicate 5 [pairD2]).flatten)]), ((2 : Int), .dict [((.inr ("q" : Str) : Key), .tuple [.tuple [.tuple [.str "0", .int 0], .tuple [.str "i", .int 0]]])]), ((2 : Int), .dict [((.inr ("q" : Str) : Key), .list [pairD2])]), ((3 : Int), .no (.list [.str "a"])), ((3 : Int), .no (.tuple [.str "a", .str "a"])), ((3 : Int), .no (.tuple [.str "A"])), ((3 : Int), .no (.tuple [.int 3])), ((3 : Int), .no (.none)), ((3 : Int), .no (.str "a")), ((4 : Int), .no (.list (itemsD bodyN))), ((4 : Int), .no (.none)), ((4 : Int), .no (((itemsD bodyN).getD 0 .none))), ((4 : Int), .no (.str ""))]
def isNoB : Rooms → Bool
  | .no _ => true
  | .dict _ => false
theorem heads_ok : (headsD.all fun q => decide (0 ≤ q.1) && (decide (q.1 ≤ 4) && (decide (q.1 = 2) || isNoB q.2))) = true := by decide +kernel
def partD (i j : Int) (r : Rooms) (d : PyData) : PyData := if i = j then (match r with | .no d' => d' | .dict _ => .none) else d
def partR (i : Int) (r : Rooms) : Rooms := if i = 2 then r else .dict []
def spHeads (K : PySem.W.Frag) : Sp := fun vs H Q _ => ∃ (dr : Addr) (ns : List Int) (v : V), vs = [.ref dr, v] ∧ Drw K H dr ns ∧ Dt (fun b => b ≠ dr) H v bodyN ∧
  ∀ (H' : Hp) (l : Addr) (w0 w1 w2 w3 w4 : V) (i : Int) (r : Rooms), Kp dr H H' → Drw K H' dr ns → (i, r) ∈ headsD → H' l = some (.lst [w0, w1, w2, w3, w4]) → l ≠ dr →
    Dt (fun b => b ≠ dr) H' w0 (partD i 0 r (.tuple [.str "n"])) → Dt (fun b => b ≠ dr) H' w1 (partD i 1 r (.tuple [])) → RmAt (fun b => b ≠ dr) H' w2 (partR i r) → Dt (fun b => b ≠ dr) H' w3 (partD i 3 r (.tuple [.str "a"])) → Dt (fun b => b ≠ dr) H' w4 (partD i 4 r bodyN) → Q (.ref l) H'
section
variable {P : Program} {w : World} {K : PySem.W.Frag} {mg : Str → Option Value} {base : Heap} {f : Addr} {fd : FuncData} {k : Nat}
theorem sc_u_law_bad_heads : FnScope ["draw", "body", "good", "pair", "at", "wrong"] ["draw", "body"] (defScope s_u_law_bad_heads) := ⟨rfl, rfl, rfl, by decide +kernel, rfl, by decide +kernel, by decide +kernel⟩
theorem ok_heads (F : FnP K "_law_bad_heads" s_u_law_bad_heads [] f fd) (G : Facts mg) (C_u_law_pick : Cal P w K mg base 3 "_law_pick" (spPick K) []) : FnOk P w K mg base CX0 4 f fd ["draw", "body"] (spHeads K) := by
  refine F.ok sc_u_law_bad_heads (fun vs H Q E h => ?_) (fun cdv A outer s H vs Q E hr h => ?_)
  · obtain ⟨dr, ns, v, rfl, _⟩ := h
    rfl
  · obtain ⟨dr, ns, v, rfl, hd, hv, hk⟩ := h
    have hu := hu_of hr
    refine ⟨_, PSs.nox (pss_cons (ps_set (i := 2) sc_u_law_bad_heads.nd rfl (.inl rfl) (pe_lst (pa_cons (dN 6 (fun b => b ≠ dr) [] (de_tup (das_cons (de_str (by decide +kernel)) das_nil) (Nat.le_of_ble_eq_true rfl))) (pa_cons (dN 6 (fun b => b ≠ dr) [] (de_tup das_nil (Nat.le_of_ble_eq_true rfl))) (pa_cons (rm_0 (sl := 6) (N := fun b => b ≠ dr) (Γ := [])) (pa_cons (dN 6 (fun b => b ≠ dr) [] (de_tup (das_cons (de_str (by decide +kernel)) das_nil) (Nat.le_of_ble_eq_true rfl))) (pa_cons (pv 1) pa_nil)))))))
      (pss_cons (ps_set (i := 3) sc_u_law_bad_heads.nd rfl (.inl rfl) (dN 6 (fun b => b ≠ dr) [] (de_tup (das_cons (de_tup (das_cons (de_str (by decide +kernel)) (das_cons de_int das_nil)) (Nat.le_of_ble_eq_true rfl)) (das_cons (de_tup (das_cons (de_str (by decide +kernel)) (das_cons de_int das_nil)) (Nat.le_of_ble_eq_true rfl)) das_nil)) (Nat.le_of_ble_eq_true rfl))))
      (pss_cons (ps_asg (pe_c C_u_law_pick hr (by decide) (by rfl) (pa_cons (pv 0) (pa_cons (pe_lst (ees_cons (sl := 6) (N := fun b => b ≠ dr) (Γ := [(1, bodyN), (3, pairD2)]) (ee (rm_d (de_lst (das_cons (de_str (by decide +kernel)) das_nil) (Nat.le_of_ble_eq_true rfl)))) (ees_cons (ee (rm_d (de_tup das_nil (Nat.le_of_ble_eq_true rfl)))) (ees_cons (ee (rm_d (de_tup (das_cons (de_str (by decide +kernel)) (das_cons (de_str (by decide +kernel)) das_nil)) (Nat.le_of_ble_eq_true rfl)))) (ees_cons (ee (rm_d (de_tup (das_cons (de_str (by decide +kernel)) (das_cons (de_str (by decide +kernel)) (das_cons (de_str (by decide +kernel)) (das_cons (de_str (by decide +kernel)) das_nil)))) (Nat.le_of_ble_eq_true rfl)))) (ees_cons (ee (rm_d (de_tup (das_cons (de_str (by decide +kernel)) das_nil) (Nat.le_of_ble_eq_true rfl)))) (ees_cons (ee (rm_d (de_str (by decide +kernel)))) (ees_cons (ee (rm_d (de_tup (das_cons (de_str (by decide +kernel)) (das_cons de_int das_nil)) (Nat.le_of_ble_eq_true rfl)))) (ees_cons (ee (rm_d (de_tup (das_cons (de_str (by decide +kernel)) das_nil) (Nat.le_of_ble_eq_true rfl)))) (ees_cons (ee (rm_d de_non)) (ees_cons (ee (rm_d (de_lst (das_cons (de_tup (das_cons (de_str (by decide +kernel)) (das_cons (de_str (by decide +kernel)) (das_cons de_int das_nil))) (Nat.le_of_ble_eq_true rfl)) das_nil) (Nat.le_of_ble_eq_true rfl)))) (ees_cons (ee (rm_d (de_tup (das_cons (de_tup (das_cons (de_str (by decide +kernel)) (das_cons (de_str (by decide +kernel)) (das_cons de_int das_nil))) (Nat.le_of_ble_eq_true rfl)) das_nil) (Nat.le_of_ble_eq_true rfl)))) (ees_cons (ee (rm_d (de_tup (das_cons (de_tup (das_cons (de_str (by decide +kernel)) (das_cons (de_str (by decide +kernel)) (das_cons de_int das_nil))) (Nat.le_of_ble_eq_true rfl)) das_nil) (Nat.le_of_ble_eq_true rfl)))) (ees_cons (ee (rm_d (de_tup (das_cons (de_tup (das_cons (de_str (by decide +kernel)) (das_cons (de_str (by decide +kernel)) (das_cons de_int (das_cons de_int das_nil)))) (Nat.le_of_ble_eq_true rfl)) das_nil) (Nat.le_of_ble_eq_true rfl)))) (ees_cons (ee (rm_d (de_tup (das_cons (de_tup (das_cons (de_str (by decide +kernel)) (das_cons (de_str (by decide +kernel)) (das_cons de_int das_nil))) (Nat.le_of_ble_eq_true rfl)) das_nil) (Nat.le_of_ble_eq_true rfl)))) (ees_cons (ee (rm_d (de_tuple (pe_callTy kTuple (by rfl) G.tuple_ (by decide +kernel) (pa_cons (de_lcr (n := 13) (pe_lc (own := [("at", 4)]) (g := gName 4) (tt := tYes) rfl sc_u_law_bad_heads.nd (pi_range1 (by rfl) G.range_ (pa_cons pe_int pa_nil)) (blkOk_by (by kernel_rfl)) (fun _ _ _ _ _ => (pg_name (i := 4) sc_u_law_bad_heads.nd rfl (by first | exact .inl rfl | exact .inr rfl))) (fun _ _ _ _ _ => pts_nil) (fun _ _ _ _ _ => (dX 6 (fun at1 : Int => (4, .int at1) :: [(1, bodyN), (3, pairD2)]) (fun _ at1 => (de_tup (das_cons (de_str (by decide +kernel)) (das_cons (de_str (by decide +kernel)) (das_cons (de_var 4 (pv 4) (.head _)) das_nil))) (Nat.le_of_ble_eq_true rfl)))))) (by decide) (by decide) rfl (by decide)) pa_nil))))) (ees_cons (ee (rm_d de_non)) (ees_cons (ee (rm_d (de_tup (das_cons (de_tup (das_cons (de_str (by decide +kernel)) (das_cons (de_str (by decide +kernel)) das_nil)) (Nat.le_of_ble_eq_true rfl)) das_nil) (Nat.le_of_ble_eq_true rfl)))) (ees_cons (ee (rm_d de_non)) (ees_cons (ee (rm_d (de_tup das_nil (Nat.le_of_ble_eq_true rfl)))) (ees_cons (ee (rm_1 (k := (.inr "A" : Key)) pe_str (de_tup das_nil (Nat.le_of_ble_eq_true rfl)) (by decide +kernel))) (ees_cons (ee (rm_1 (k := (.inl 3 : Key)) pe_int (de_tup das_nil (Nat.le_of_ble_eq_true rfl)) (by decide +kernel))) (ees_cons (ee (rm_1 (k := (.inr "q" : Key)) pe_str (de_lst das_nil (Nat.le_of_ble_eq_true rfl)) (by decide +kernel))) (ees_cons (ee (rm_1 (k := (.inr "q" : Key)) pe_str (de_tup (das_cons (de_tup (das_cons (de_str (by decide +kernel)) (das_cons (de_str (by decide +kernel)) das_nil)) (Nat.le_of_ble_eq_true rfl)) das_nil) (Nat.le_of_ble_eq_true rfl)) (by decide +kernel))) (ees_cons (ee (rm_1 (k := (.inr "q" : Key)) pe_str (de_tup (das_cons (de_take 1 (pe_slice kSlT (de_var 3 (pv 3) (.tail _ (.head _))) po_none (po_some pe_int))) das_nil) (Nat.le_of_ble_eq_true rfl)) (by decide +kernel))) (ees_cons (ee (rm_1 (k := (.inr "q" : Key)) pe_str (de_rep (k := 5) (K := K) (de_tup (das_cons (de_var 3 (pv 3) (.tail _ (.head _))) das_nil) (Nat.le_of_ble_eq_true rfl)) pe_int (by decide +kernel)) (by decide +kernel))) (ees_cons (ee (rm_1 (k := (.inr "q" : Key)) pe_str (de_tup (das_cons (de_tup (das_cons (de_tup (das_cons (de_str (by decide +kernel)) (das_cons de_int das_nil)) (Nat.le_of_ble_eq_true rfl)) (das_cons (de_tup (das_cons (de_str (by decide +kernel)) (das_cons de_int das_nil)) (Nat.le_of_ble_eq_true rfl)) das_nil)) (Nat.le_of_ble_eq_true rfl)) das_nil) (Nat.le_of_ble_eq_true rfl)) (by decide +kernel))) (ees_cons (ee (rm_1 (k := (.inr "q" : Key)) pe_str (de_lst (das_cons (de_var 3 (pv 3) (.tail _ (.head _))) das_nil) (Nat.le_of_ble_eq_true rfl)) (by decide +kernel))) (ees_cons (ee (rm_d (de_lst (das_cons (de_str (by decide +kernel)) das_nil) (Nat.le_of_ble_eq_true rfl)))) (ees_cons (ee (rm_d (de_tup (das_cons (de_str (by decide +kernel)) (das_cons (de_str (by decide +kernel)) das_nil)) (Nat.le_of_ble_eq_true rfl)))) (ees_cons (ee (rm_d (de_tup (das_cons (de_str (by decide +kernel)) das_nil) (Nat.le_of_ble_eq_true rfl)))) (ees_cons (ee (rm_d (de_tup (das_cons de_int das_nil) (Nat.le_of_ble_eq_true rfl)))) (ees_cons (ee (rm_d de_non)) (ees_cons (ee (rm_d (de_str (by decide +kernel)))) (ees_cons (ee (rm_d (de_list (K := K) (pe_callTy (kList K) (by rfl) G.list_ (by decide +kernel) (pa_cons (de_var 1 (pv 1) (.head _)) pa_nil)) (by decide +kernel)))) (ees_cons (ee (rm_d de_non)) (ees_cons (ee (rm_d (de_ix 0 (K := K) (pe_ix (kIxT K) (de_var 1 (pv 1) (.head _)) pe_int (fun _ _ => rfl)) rfl))) (ees_cons (ee (rm_d (de_str (by decide +kernel)))) ees_nil)))))))))))))))))))))))))))))))))))))) pa_nil))) (kpg_tup K rfl (pgs_cons (pg_name (i := 4) sc_u_law_bad_heads.nd rfl (by first | exact .inl rfl | exact .inr rfl)) (pgs_cons (pg_name (i := 5) sc_u_law_bad_heads.nd rfl (by first | exact .inl rfl | exact .inr rfl)) pgs_nil))))
      (pss_one (ps_ret (pe_op op_cat (pe_op op_cat (pe_slice (kSlL K) (pv 2) po_none (po_some (pv 4))) (pe_lst (pa_cons (pv 5) pa_nil))) (pe_slice (kSlL K) (pv 2) (po_some (pe_op op_add (pv 4) pe_int)) po_none))))))), ?_⟩
    have nN : ∀ {H' : Hp}, Same H H' → ∀ a, H' a = none → a ≠ dr := fun s a e z => by
      obtain ⟨sc, c, h1, _⟩ := hd.ex
      have := s _ _ h1
      rw [← z, e] at this
      cases this
    refine ⟨EnvD.nil (nN (Same.refl H)) (Nat.le_of_ble_eq_true rfl), fun a0 H1 s1 h0 => ⟨EnvD.nil (nN s1) (Nat.le_of_ble_eq_true rfl), fun a1 H2 s2 h1 => ⟨EnvD.nil (nN (s1.trans s2)) (Nat.le_of_ble_eq_true rfl), fun a2 H3 s3 h2 => ⟨EnvD.nil (nN (s1.trans (s2.trans s3))) (Nat.le_of_ble_eq_true rfl), fun a3 H4 s4 h3 => ⟨_, rfl, by show 5 ≤ sizeLine; decide, fun g ng => ?_⟩⟩⟩⟩⟩
    have s5 := same_upd ng (o := .lst [a0, a1, a2, a3, v])
    have sA := s1.trans (s2.trans (s3.trans (s4.trans s5)))
    have h0 := h0.mono (s2.trans (s3.trans (s4.trans s5)))
    have h1 := h1.mono (s3.trans (s4.trans s5))
    have h2 := h2.mono (s4.trans s5)
    have h3 := h3.mono s5
    have hg : (upd H4 g (.lst [a0, a1, a2, a3, v])) g = some (.lst [a0, a1, a2, a3, v]) := upd_same
    have gdr : g ≠ dr := nN (s1.trans (s2.trans (s3.trans s4))) g ng
    generalize upd H4 g (.lst [a0, a1, a2, a3, v]) = H5 at sA h0 h1 h2 h3 hg
    have hv5 := hv.mono sA
    clear s1 s2 s3 s4 s5 ng
    refine ⟨EnvD.nil (nN sA) (Nat.le_of_ble_eq_true rfl), fun pr H6 s6 hp => ?_⟩
    have sB := sA.trans s6
    refine ⟨_, rfl, ((EnvD.nil (nN sB) (Nat.le_of_ble_eq_true rfl)).cons hp rfl).cons (hv5.mono s6) rfl, fun vs H7 s7 hvs => ⟨?_, fun it nit => ?_⟩⟩
    · rw [plen hvs]
      decide +kernel
    have s8 := same_upd nit (o := .lst vs)
    have sC := sB.trans (s7.trans s8)
    have s58 := s6.trans (s7.trans s8)
    have hit : (upd H7 it (.lst vs)) it = some (.lst vs) := upd_same
    have hvs8 := pmono (fun _ _ q => EntryAt.to (fun _ q => q) (fun b o _ e => s8 b o e) q) hvs
    have itdr : it ≠ dr := nN (sB.trans s7) it nit
    generalize upd H7 it (.lst vs) = H8 at s58 sC hit hvs8
    refine ⟨dr, it, ns, vs, rfl, hd.mono sC, hit, itdr, ?_, fun H9 j u kp hd9 hj => ?_⟩
    · intro z
      have := plen hvs
      rw [z] at this
      exact absurd this (by decide +kernel)
    obtain ⟨er, her, hpe⟩ : ∃ er, headsD[j]? = some er ∧ EntryAt (fun b => b ≠ dr) H8 u er := by
      have hlt : j < vs.length := (List.getElem?_eq_some_iff.mp hj).1
      have hlt2 : j < headsD.length := by have := plen hvs; exact this ▸ hlt
      obtain ⟨u', hu', q⟩ := pget hvs8 (List.getElem?_eq_getElem hlt2)
      rw [hu'] at hj
      cases hj
      exact ⟨_, List.getElem?_eq_getElem hlt2, q⟩
    obtain ⟨i, r⟩ := er
    have hmem : (i, r) ∈ headsD := List.mem_iff_getElem?.mpr ⟨j, her⟩
    obtain ⟨t, x, rfl, nt, ht, hx⟩ := hpe
    have kD : ∀ {y : V} {d : PyData}, Dt (fun b => b ≠ dr) H5 y d → Dt (fun b => b ≠ dr) H9 y d := fun q => (q.mono s58).to (fun _ q => q) kp
    refine ⟨t, _, rfl, sqt (kp _ _ nt ht), rfl, _, _, rfl, _, _, rfl, rfl, ?_⟩
    have hx9 := hx.to (fun _ q => q) kp
    have hg9 := kp _ _ gdr (s58 _ _ hg)
    have h0 := kD h0
    have h1 := kD h1
    have h2 := (h2.mono s58).to (fun _ q => q) kp
    have h3 := kD h3
    have hv9 := kD hv5
    have kpA : Kp dr H H9 := (Kp.same sC).trans kp
    have hok := List.all_eq_true.mp heads_ok _ hmem
    simp only [Bool.and_eq_true, Bool.or_eq_true, decide_eq_true_eq] at hok
    obtain ⟨hi0, hi4, hir⟩ := hok
    obtain ⟨n, rfl⟩ : ∃ n : Nat, i = (n : Int) := ⟨i.toNat, by omega⟩
    clear kD hvs8 hvs hit s58 hg hv5 ht hx her hj
    refine ⟨_, rfl, _, rfl, _, rfl, g, _, rfl, sq hg9, fun p1 n1 => ?_⟩
    have t1 := same_upd n1 (o := .lst (cutV [a0, a1, a2, a3, v] none (some (n : Int))))
    refine ⟨_, rfl, by show 1 ≤ sizeLine; decide, fun p2 n2 => ?_⟩
    have t2 := same_upd n2 (o := .lst [x])
    refine ⟨p1, p2, _, [x], rfl, rfl, t2 _ _ upd_same, upd_same, ?_, fun p3 n3 => ?_⟩
    · rw [cut_upto, List.length_take]
      exact szl (by simp only [List.length_cons, List.length_nil]; omega)
    have t3 := t1.trans (t2.trans (same_upd n3 (o := .lst (cutV [a0, a1, a2, a3, v] none (some (n : Int)) ++ [x]))))
    have hp3 : (upd (upd (upd H9 p1 (.lst (cutV [a0, a1, a2, a3, v] none (some (n : Int))))) p2 (.lst [x])) p3 (.lst (cutV [a0, a1, a2, a3, v] none (some (n : Int)) ++ [x]))) p3 = some (.lst (cutV [a0, a1, a2, a3, v] none (some (n : Int)) ++ [x])) := upd_same
    generalize upd (upd (upd H9 p1 (.lst (cutV [a0, a1, a2, a3, v] none (some (n : Int))))) p2 (.lst [x])) p3 (.lst (cutV [a0, a1, a2, a3, v] none (some (n : Int)) ++ [x])) = H10 at t3 hp3
    refine ⟨_, rfl, _, rfl, _, _, rfl, rfl, _, rfl, g, _, rfl, sq (t3 _ _ hg9), fun p4 n4 => ?_⟩
    have t4 := same_upd n4 (o := .lst (cutV [a0, a1, a2, a3, v] (some ((n : Int) + 1)) none))
    refine ⟨p3, p4, _, _, rfl, rfl, t4 _ _ hp3, upd_same, ?_, fun p5 n5 => ?_⟩
    · have h1 := cutV_length [a0, a1, a2, a3, v] none (some (n : Int))
      have h2 := cutV_length [a0, a1, a2, a3, v] (some ((n : Int) + 1)) none
      simp only [List.length_append, List.length_cons, List.length_nil] at h1 h2 ⊢
      exact szl (by omega)
    have t5 := t3.trans (t4.trans (same_upd n5 (o := .lst ((cutV [a0, a1, a2, a3, v] none (some (n : Int)) ++ [x]) ++ cutV [a0, a1, a2, a3, v] (some ((n : Int) + 1)) none))))
    have hp5 : (upd (upd H10 p4 (.lst (cutV [a0, a1, a2, a3, v] (some ((n : Int) + 1)) none))) p5 (.lst ((cutV [a0, a1, a2, a3, v] none (some (n : Int)) ++ [x]) ++ cutV [a0, a1, a2, a3, v] (some ((n : Int) + 1)) none))) p5 = some (.lst ((cutV [a0, a1, a2, a3, v] none (some (n : Int)) ++ [x]) ++ cutV [a0, a1, a2, a3, v] (some ((n : Int) + 1)) none)) := upd_same
    have p5dr : p5 ≠ dr := fun z => by
      have h9 : ∃ o, H9 dr = some o := by obtain ⟨sc, c, h1, _⟩ := hd9.ex; exact ⟨_, h1⟩
      obtain ⟨o, h9⟩ := h9
      have := t4 _ _ (t3 _ _ h9)
      rw [← z, n5] at this
      cases this
    show Q (.ref p5) (upd (upd H10 p4 (.lst (cutV [a0, a1, a2, a3, v] (some ((n : Int) + 1)) none))) p5 (.lst ((cutV [a0, a1, a2, a3, v] none (some (n : Int)) ++ [x]) ++ cutV [a0, a1, a2, a3, v] (some ((n : Int) + 1)) none)))
    generalize upd (upd H10 p4 (.lst (cutV [a0, a1, a2, a3, v] (some ((n : Int) + 1)) none))) p5 (.lst ((cutV [a0, a1, a2, a3, v] none (some (n : Int)) ++ [x]) ++ cutV [a0, a1, a2, a3, v] (some ((n : Int) + 1)) none)) = H11 at t5 hp5
    rw [show (n : Int) + 1 = ((n + 1 : Nat) : Int) from rfl, cut_upto, cut_from] at hp5
    have h0 := h0.mono t5
    have h1 := h1.mono t5
    have h2 := h2.mono t5
    have h3 := h3.mono t5
    have hv9 := hv9.mono t5
    have hx9 := hx9.mono t5
    have kpB := kpA.trans (Kp.same t5)
    have hd11 := hd9.mono t5
    have hno : ∀ {u : V}, isNoB r = true → RmAt (fun b => b ≠ dr) H11 u r → ∃ d', r = .no d' ∧ Dt (fun b => b ≠ dr) H11 u d' := fun e q => by
      cases q with
      | no h => exact ⟨_, rfl, h⟩
      | dict => cases e
    have hc : n = 0 ∨ n = 1 ∨ n = 2 ∨ n = 3 ∨ n = 4 := by omega
    rcases hc with rfl | rfl | rfl | rfl | rfl
    · obtain ⟨d', rfl, hd'⟩ := hno (hir.resolve_left (by decide)) hx9
      exact hk H11 p5 x a1 a2 a3 v _ _ kpB hd11 hmem hp5 p5dr hd' h1 h2 h3 hv9
    · obtain ⟨d', rfl, hd'⟩ := hno (hir.resolve_left (by decide)) hx9
      exact hk H11 p5 a0 x a2 a3 v _ _ kpB hd11 hmem hp5 p5dr h0 hd' h2 h3 hv9
    · exact hk H11 p5 a0 a1 x a3 v _ _ kpB hd11 hmem hp5 p5dr h0 h1 hx9 h3 hv9
    · obtain ⟨d', rfl, hd'⟩ := hno (hir.resolve_left (by decide)) hx9
      exact hk H11 p5 a0 a1 a2 x v _ _ kpB hd11 hmem hp5 p5dr h0 h1 h2 hd' hv9
    · obtain ⟨d', rfl, hd'⟩ := hno (hir.resolve_left (by decide)) hx9
      exact hk H11 p5 a0 a1 a2 a3 x _ _ kpB hd11 hmem hp5 p5dr h0 h1 h2 h3 hd'
end
end K1

/-! ### own operators of a class with a dict: x in o -/
namespace Ls
open PySem PySem.Spec PyProof.Rows L2
section
open PySem.W
variable {prog : Program} {w : World} {A : Around} {E : Value → Shared → Prop} {s : Shared} {K : Frag} {c C f : Addr} {oc : Obj} {od : Option Obj} {x : Value}
theorem contains_own {Q : Bool → Shared → Prop} (X : K.In s.heap) (I : InstAt s.heap c oc C od) (hs : findIn K (.ref C) "__contains__" = some (some (.ref f))) (hf : typeIn K (.ref f) = some (.type "function"))
    (h : wpAny (model prog w) A (call (.ref f) [.ref c, x]) (fun r s1 => ∃ b, r = Value.bool b ∧ Q b s1) E s) : wpAny (model prog w) A (contains (.ref c) x) Q E s := by
  unfold contains
  refine wpAny_holding ?_
  show wpAny _ _ (specialOf (.ref c) "__contains__" >>= _) _ _ _
  refine wpAny_bind (wpAny_bind (I.type.here ((looks_findIn X hs).here ?_)))
  refine KFB.if_not rfl ?_
  show wpAny _ _ (callSpecialUnlessNone? (.ref c) "__contains__" [x] _ >>= _) _ _ _
  refine wpAny_bind ?_
  unfold callSpecialUnlessNone?
  refine wpAny_bind (wpAny_bind (I.type.here ((looks_findIn X hs).here ?_)))
  refine wpAny_holding (wpAny_bind ((bind_fn X _ hf).here ?_))
  refine KFB.if_not rfl ?_
  refine wpAny_bind (wpAny_mono h (fun r s1 hr => ?_) fun _ _ z => z)
  obtain ⟨b, rfl, q⟩ := hr
  exact wpAny_pure (wpAny_truthy_bool q)
end
section
variable {X : Cx} {CX : CXT} {k : Nat} {g C : Addr} {fd : FuncData} {ps : List Str} {sp : Sp} {E : XK}
/-- x in o, o of the class at C, whose __contains__ keeps sp -/
def rInOwn (C : Addr) (sp : Sp) (E : XK) : R2 := fun x y H Q => ∃ a dx fs, y = .ref a ∧ H a = some (.ins C dx fs) ∧ sp [.ref a, x] H (fun v H1 => ∃ b, v = .bl b ∧ Q (.bl b) H1) E
theorem op_inOwn (hm : Meth X.K C "__contains__" g) (F : FnOk X.prog X.w X.K X.mg X.base CX k g fd ps sp) (hr : Room k X.A) (hb : Binds X.K fd ps []) (hx : Passes CX X E) : OpR X (compareOp .In) (rInOwn C sp E) := by
  intro pins s σ H x y v u Q I rx ry h
  obtain ⟨a, dx, fs, rfl, ea, q⟩ := h
  obtain rfl : u = Value.ref a := ry
  obtain ⟨mA, O, _, _, _, _⟩ := ins_get I.hok ea
  obtain ⟨od, J, _⟩ := O.look
  show wpAny _ _ (contains (.ref a) v >>= fun b => pure (Value.bool b)) _ _ _
  refine wpAny_bind (contains_own I.kIn J hm.at_ (beq_iff_eq.mp hm.fn) (wpAny_mono (run_fn (us := [.ref a, v]) (vs := [.ref a, x]) F hr hb .nil hx I (.cons rfl (.cons rx .nil)) q) (fun r s1 z => ?_) fun _ _ z => z))
  obtain ⟨z', H', I', rz, b, rfl, qz⟩ := z
  obtain rfl : r = Value.bool b := rz
  exact ⟨b, rfl, wpAny_pure ⟨.bl b, H', I', rfl, qz⟩⟩
/-- x not in o -/
def rNiOwn (C : Addr) (sp : Sp) (E : XK) : R2 := fun x y H Q => ∃ a dx fs, y = .ref a ∧ H a = some (.ins C dx fs) ∧ sp [.ref a, x] H (fun v H1 => ∃ b, v = .bl b ∧ Q (.bl (!b)) H1) E
theorem op_niOwn (hm : Meth X.K C "__contains__" g) (F : FnOk X.prog X.w X.K X.mg X.base CX k g fd ps sp) (hr : Room k X.A) (hb : Binds X.K fd ps []) (hx : Passes CX X E) : OpR X (compareOp .NotIn) (rNiOwn C sp E) := by
  intro pins s σ H x y v u Q I rx ry h
  obtain ⟨a, dx, fs, rfl, ea, q⟩ := h
  obtain rfl : u = Value.ref a := ry
  obtain ⟨mA, O, _, _, _, _⟩ := ins_get I.hok ea
  obtain ⟨od, J, _⟩ := O.look
  show wpAny _ _ (contains (.ref a) v >>= fun b => pure (Value.bool (!b))) _ _ _
  refine wpAny_bind (contains_own I.kIn J hm.at_ (beq_iff_eq.mp hm.fn) (wpAny_mono (run_fn (us := [.ref a, v]) (vs := [.ref a, x]) F hr hb .nil hx I (.cons rfl (.cons rx .nil)) q) (fun r s1 z => ?_) fun _ _ z => z))
  obtain ⟨z', H', I', rz, b, rfl, qz⟩ := z
  obtain rfl : r = Value.bool b := rz
  exact ⟨b, rfl, wpAny_pure ⟨.bl (!b), H', I', rfl, qz⟩⟩
end
section
variable {X : Cx}
theorem kAny (K : PySem.W.Frag) (hc : X.calm = true) (h : X.K = K := by rfl) : CallR X (.builtin "any") (rAny K) := by subst h; exact cr_any hc
theorem kMax (K : PySem.W.Frag) (hc : X.calm = true) (h : X.K = K := by rfl) : CallR X (.builtin "max") (rMax K) := by subst h; exact cr_max hc
theorem kMin (K : PySem.W.Frag) (hc : X.calm = true) (h : X.K = K := by rfl) : CallR X (.builtin "min") (rMin K) := by subst h; exact cr_min hc
end
end Ls

/-! LsKw: a new instance of a class whose __init__ has keyword-only parameters. -/
namespace Ls
open PySem PySem.Spec PyProof.Rows L2
/-- C(e, .., k = v, ..): n written values, the keywords ks; gV: what __init__ then sees -/
structure MakK (P : Program) (w : World) (K : PySem.W.Frag) (mg : Str → Option Value) (base : Heap) (k : Nat) (x : Str) (C : Addr) (sp : Sp) (n : Nat) (ks : List Str) (gV : List V → List V → List V) : Prop where
  ex : ∃ (f : Addr) (fd : FuncData) (ps : List Str) (g : List Value → List Value → List Value), Mk K C f ∧ FnOk P w K mg base CX0 k f fd ps sp ∧ mg x = some (.ref C) ∧ KBn K fd ps (n + 1) ks g gV
section
variable {X : Cx} {e : Expr} {es : List Expr} {kws : List Keyword} {t tk : TA} {p pos : Pos} {x : Str} {k j n : Nat} {sp : Sp} {C : Addr} {ks : List Str} {gV : List V → List V → List V}
theorem pe_mkK (c : MakK X.prog X.w X.K X.mg X.base k x C sp n ks gV) (hr : Room j X.A) (hk : k + 1 ≤ j) (hg : Gl X x) (ha : PA X (e :: es) t) (hkw : PK X kws tk)
    (hall : (backToKw pos (keywordEach kws X.env)).all (·.1.isSome) = true := by rfl) (hks : (backToKw pos (keywordEach kws X.env)).filterMap (·.1) = ks := by rfl) (hdb : (x == ("__debug__" : Str)) = false := by decide)
    (he : starEach (e :: es) X.env = (false, eval e X.env) :: starEach es X.env := by rfl) (hpl : ((backTo pos (starEach (e :: es) X.env)).any (·.1) || (backToKw pos (keywordEach kws X.env)).any (·.1.isNone)) = false := by rfl) :
    PE X (.Call (.Name x p) (e :: es) kws pos) (tMakeK C n ks.length sp gV E0 t tk) := by
  have ⟨f, fd, ps, g, M, F, hm, b⟩ := c.ex
  exact pe_makeK M F (hr.mono hk) hg hm b pass0 ha hkw hall hks hdb he hpl
end
/-! ### a method f(self, *r) -/
theorem cxnew0 : CXNew CX0 := fun _ _ _ _ _ _ _ _ _ _ _ _ h => h
theorem FunD.okV {P : Program} {w : World} {K : PySem.W.Frag} {mg : Str → Option Value} {base : Heap} {x qual : Str} {params : Arguments} {body : List Stmt} {scope : Scope} {kws : List (Str × V)} {f : Addr} {fd : FuncData} {N : List Str} {pa pv : Str} {nmax k : Nat} {sp : Sp}
    (F : FunD K x qual params body scope [] kws f fd) (S : FnScope N [pa, pv] scope) (hz : nmax ≤ sizeLine)
    (hb : ∀ (kV doc pm : Value) (an : Option Addr) (cdv ct u : Value) (rest : List Value), rest.length ≤ nmax → bindArgs (PySem.W.fnOf x qual params body scope .none kV doc pm an cdv ct) ⟨u :: rest, []⟩ = (newTuple rest >>= fun t => pure [(pa, u), (pv, t)]))
    (hbody : ∀ (cdv : Value) (A : Around) (outer : List Env) (s : Shared) (H : Hp) (vs : List V) (Q : VK) (E : XK), Room k (A.deeper (envOfC qual scope s.heap.objs.size f cdv)) → sp vs H Q E →
      ∃ t, PSs (cxOf CX0 P w K mg base N qual scope f cdv A outer s H E) body t ∧ t { nx := fun _ H' => Q .non H', rt := Q } (start N vs) H) :
    FnR P w K mg base CX0 (k + 1) f (fun vs H Q E => ∃ v rest, vs = v :: rest ∧ rest.length ≤ nmax ∧ ∀ p, H p = none → sp [v, .ref p] (upd H p (.tup rest)) Q E) := by
  obtain ⟨oc, od, dV, kV, doc, pm, an, cdv, ct, osl, rfl, lk, hcd, hD, _⟩ := F.ex
  rcases hD with ⟨_, rfl⟩ | ⟨e, _⟩
  case inr => exact absurd rfl e
  exact fn_ofV lk hcd S hz (hb kV doc pm an cdv ct) cxnew0 fun A outer s H vs Q E hr hsp => hbody cdv A outer s H vs Q E hr hsp
end Ls

/-! LsMeth: own methods as callers need them: raising ones (also within a try), ones with star arguments, classmethods; cls(..) within a classmethod; != of None or dicts. -/
namespace Ls
open PySem PySem.Spec PyProof.Rows L2 ClX
section
variable (P : Program) (w : World) (K : PySem.W.Frag) (mg : Str → Option Value) (base : Heap) (k : Nat) (C : Addr) (m : Str) (sp : Sp)
/-- a method that may raise -/
structure MetX : Prop where
  cl : Cls K C
  ex : ∃ (f : Addr) (fd : FuncData) (ps : List Str), Meth K C m f ∧ FnOk P w K mg base (L2.CX P w) k f fd ps sp ∧ Binds K fd ps []
/-- a method that raises nothing -/
structure MetS : Prop where
  cl : Cls K C
  ex : ∃ (f : Addr) (fd : FuncData) (ps : List Str), Meth K C m f ∧ FnOk P w K mg base CX0 k f fd ps sp ∧ Binds K fd ps []
/-- .. by position -/
structure MetR : Prop where
  cl : Cls K C
  ex : ∃ (f : Addr), Meth K C m f ∧ FnR P w K mg base CX0 k f sp
/-- a classmethod -/
structure MetCl : Prop where
  ex : ∃ (mc : Value) (p g : Addr), CRead K C mc ∧ CMet K C mc m p g ∧ FnR P w K mg base CX0 k g sp
end
/-- o.m() within a try -/
def tMethX (C : Addr) (m : Str) (sp : Sp) (W : WX) (ta : TE) : TE := fun σ H Q => ta σ H fun x H1 => ∃ a dx fs, x = .ref a ∧ H1 a = some (.ins C dx fs) ∧ fs.lookup m = none ∧ sp [x] H1 Q (WE W σ)
def tMakeV (i : Nat) (C : Addr) (n : Nat) (sp : Sp) (gV : List V → List V → List V) (t : TA) : TE := fun σ H Q => σ[i]? = some (some (.ref C)) ∧ t σ H fun vs H1 => vs.length = n ∧ ∀ x dx, H1 x = none → H1 dx = none → dx ≠ x →
  sp (gV (.ref x :: vs) []) (upd (upd H1 dx (.own x)) x (.ins C dx [])) (fun v H3 => v = .non ∧ Q (.ref x) H3) E0
section
variable {X : Cx} {W : WX} {E : XK} {o e : Expr} {es : List Expr} {ta : TE} {t : TA} {p pos apos : Pos} {x m : Str} {k j : Nat} {sp : Sp} {C : Addr} {pl : Sem Bool}
theorem pe_mx0 (c : MetX X.prog X.w X.K X.mg X.base k C m sp) (tk : Takes X W) (hE : ∀ cls d σ H, E cls d H → W cls d σ H) (hr : Room j X.A) (hk : k ≤ j) (he : PE X o ta)
    (ht : eval (.Call (.Attribute o m apos) [] [] pos) X.env = (do
      let ov ← eval o X.env
      standAt apos.atName
      let (f, first) ← holding [ov] (getMethod ov m pl)
      callWith pos f first (backTo pos (starEach [] X.env)) (backToKw pos (keywordEach [] X.env))) := by rfl) :
    PE X (.Call (.Attribute o m apos) [] [] pos) (tMeth C m sp [] E ta tNil) := by
  have ⟨f, fd, ps, hm, F, b⟩ := c.ex
  exact pe_meth0 he c.cl hm F (hr.mono hk) b .nil (passes_call tk hE) ht
theorem pe_mxS0 (c : MetX X.prog X.w X.K X.mg X.base k C m sp) (tk : Takes X W) (hr : Room j X.A) (hk : k ≤ j) (he : PE X o ta)
    (ht : eval (.Call (.Attribute o m apos) [] [] pos) X.env = (do
      let ov ← eval o X.env
      standAt apos.atName
      let (f, first) ← holding [ov] (getMethod ov m pl)
      callWith pos f first (backTo pos (starEach [] X.env)) (backToKw pos (keywordEach [] X.env))) := by rfl) :
    PE X (.Call (.Attribute o m apos) [] [] pos) (tMethX C m sp W ta) := by
  have ⟨f, fd, ps, hm, F, b⟩ := c.ex
  refine ⟨fun pins s σ H Q I h => ?_⟩
  refine PySem.W.methodCall_KW (pl := pl) (thn (he.run pins s σ H _ I h) fun u s1 ⟨x, H1, I1, rx, a, dx, fs, ex, ea, l, q⟩ => ?_) ht
  subst ex
  obtain rfl : u = Value.ref a := rx
  refine getmeth_ok I1 ea c.cl hm l ?_
  exact PySem.W.callWith_K0 (first := [.ref a]) I1.kIn hm.kp (run_fnS (E := WE W) (us := [.ref a]) (vs := [.ref a]) F (hr.mono hk) b (passAt tk σ) I1 (.cons rfl .nil) q)
theorem pe_mr (c : MetR X.prog X.w X.K X.mg X.base k C m sp) (hr : Room j X.A) (hk : k ≤ j) (he : PE X o ta) (ha : PA X (e :: es) t)
    (hst : starEach (e :: es) X.env = (false, eval e X.env) :: starEach es X.env := by rfl) (hpl : (backTo pos (starEach es X.env)).any (·.1) = false := by rfl)
    (ht : eval (.Call (.Attribute o m apos) (e :: es) [] pos) X.env = (do
      let ov ← eval o X.env
      standAt apos.atName
      let (f, first) ← holding [ov] (getMethod ov m pl)
      callWith pos f first (backTo pos (starEach (e :: es) X.env)) (backToKw pos (keywordEach [] X.env))) := by rfl) :
    PE X (.Call (.Attribute o m apos) (e :: es) [] pos) (tMethR C m sp E0 ta t) := by
  have ⟨f, hm, F⟩ := c.ex
  exact pe_methR he c.cl hm F (hr.mono hk) pass0 ha hst hpl ht
theorem pe_mcl (c : MetCl X.prog X.w X.K X.mg X.base k C m sp) (hr : Room j X.A) (hk : k ≤ j) (he : PE X o ta) (ha : PA X (e :: es) t)
    (hst : starEach (e :: es) X.env = (false, eval e X.env) :: starEach es X.env := by rfl) (hpl : (backTo pos (starEach es X.env)).any (·.1) = false := by rfl)
    (ht : eval (.Call (.Attribute o m apos) (e :: es) [] pos) X.env = (do
      let ov ← eval o X.env
      standAt apos.atName
      let (f, first) ← holding [ov] (getMethod ov m pl)
      callWith pos f first (backTo pos (starEach (e :: es) X.env)) (backToKw pos (keywordEach [] X.env))) := by rfl) :
    PE X (.Call (.Attribute o m apos) (e :: es) [] pos) (tCMeth C sp E0 ta t) := by
  have ⟨mc, q, g, r, cm, F⟩ := c.ex
  exact pe_cmeth he r cm F (hr.mono hk) pass0 ha hst hpl ht
theorem kNiOwn (c : MetS X.prog X.w X.K X.mg X.base k C "__contains__" sp) (hr : Room j X.A) (hk : k ≤ j) : OpR X (compareOp .NotIn) (rNiOwn C sp E0) := by
  have ⟨f, fd, ps, hm, F, b⟩ := c.ex
  exact op_niOwn hm F (hr.mono hk) b pass0
theorem kInOwn (c : MetS X.prog X.w X.K X.mg X.base k C "__contains__" sp) (hr : Room j X.A) (hk : k ≤ j) : OpR X (compareOp .In) (rInOwn C sp E0) := by
  have ⟨f, fd, ps, hm, F, b⟩ := c.ex
  exact op_inOwn hm F (hr.mono hk) b pass0
/-- cls(e, ..), cls a local name that holds the class -/
theorem pe_mkV {i n : Nat} {nm : Str} {gV : List V → List V → List V} (c : MakK X.prog X.w X.K X.mg X.base k nm C sp n [] gV) (hr : Room j X.A) (hk : k + 1 ≤ j) (hN : X.N[i]? = some x) (hv : Vis X.env.scope x) (ha : PA X (e :: es) t)
    (hd : (x == ("__debug__" : Str)) = false := by decide) (hcd : (x == ("__classdict__" : Str)) = false := by decide)
    (he : starEach (e :: es) X.env = (false, eval e X.env) :: starEach es X.env := by rfl) (hpl : (backTo pos (starEach es X.env)).any (·.1) = false := by rfl) : PE X (.Call (.Name x p) (e :: es) [] pos) (tMakeV i C n sp gV t) := by
  have ⟨f, fd, ps, g, M, F, hm, b⟩ := c.ex
  refine ⟨fun pins s σ H Q I h => ?_⟩
  obtain ⟨hs, h⟩ := h
  refine wpAny_Call_Name_kw (thn ((pe_var (pos := p) (i := i) hN hv hd hcd).run pins s σ H (fun v H1 => v = .ref C ∧ H1 = H) I ⟨.ref C, hs, rfl, rfl⟩) fun u s1 ⟨v, H1, I1, r1, ev, eH⟩ => ?_)
  subst ev
  rw [eH] at I1
  cases r1
  refine PySem.W.callWith_K (h₀ := X.base) I.ok.mod.kin M.kp (thn (ha.run pos pins s1 σ H _ I1 h) fun us s2 ⟨vs, H2, I2, r, l1, q⟩ => ⟨I2.kIn, ?_⟩) he hpl
  exact run_makeK (ws := []) (zs := []) M F (hr.mono hk) b pass0 I2 r .nil l1 rfl q
/-- None or dicts: != -/
def rNeO : R2 := fun x y H Q => rNe x y H Q ∨ rNeDA x y H Q
theorem op_neO (hu : X.A.units < cLine) : OpR X (compareOp .NotEq) rNeO := fun pins s σ H x y v u Q I rx ry h => h.elim (op_ne pins s σ H x y v u Q I rx ry) (op_ne_dictA hu pins s σ H x y v u Q I rx ry)
end
end Ls

/-! ### own operators: o op o', ~o, bool(o), methods without arguments -/
namespace Ls
open PySem PySem.Spec PyProof.Rows L2
section
open PySem.W
variable {prog : Program} {w : World} {A : Around} {E : Value → Shared → Prop} {s : Shared} {K : Frag} {x C f : Addr} {ox : Obj} {od : Option Obj}
theorem truthy_own {M : Model} {Q : Bool → Shared → Prop} (X : K.In s.heap) (I : InstAt s.heap x ox C od) (hs : findIn K (.ref C) "__bool__" = some (some (.ref f))) (hf : isFn K (.ref f) = true)
    (h : wpAny M A (call (.ref f) [.ref x]) (PySem.W.BoolBack Q) E s) : wpAny M A (truthy (.ref x)) Q E s := by
  unfold truthy
  refine wpAny_bind (m := callSpecial? (.ref x) (Str.ofString "__bool__")) (special_fn X I hs (beq_iff_eq.mp hf) (wpAny_mono h (fun r s' hr => ?_) fun _ _ y => y))
  cases r <;> first | exact hr.elim | skip
  exact wpAny_pure hr
theorem bool_in (v : Value) : MeetsIn prog w (Builtin.«bool.__new__» ⟨[.type "bool", v], []⟩) (fun A R s => wpAny (model prog w) A.in1 (truthy v) (fun b s' => R (.ok (.ret (.bool b))) s') (fun e s' => R (.error e) s') s) :=
  .of_wp fun A R s h => by
    obtain ⟨hp, g, d, tk, os⟩ := s
    have f1 := F.conv_sub_bool
    repeat (any_goals (first | assumption | (with_reducible refine wpAny_mono h ?_ ?_) | wp_step))
    all_goals first | exact fun _ _ z => z | exact fun b s' z => wpAny_pure ⟨_, rfl, z⟩ | skip
theorem inv_own {M : Model} {Q : Value → Shared → Prop} (X : K.In s.heap) (I : InstAt s.heap x ox C od) (hs : findIn K (.ref C) "__invert__" = some (some (.ref f))) (hf : isFn K (.ref f) = true)
    (h : wpAny M A (call (.ref f) [.ref x]) Q E s) : wpAny M A (unaryOp .Invert (.ref x)) Q E s := by
  unfold unaryOp
  refine wpAny_holding ?_
  exact wpAny_bind (special_fn X I hs (beq_iff_eq.mp hf) (wpAny_mono h (fun _ _ z => wpAny_pure z) fun _ _ z => z))
theorem bin_own {op : Operator} {b : Value} {Q : Value → Shared → Prop} (X : K.In s.heap) (I : InstAt s.heap x ox C od) (hb : Looks (model prog w) s.heap (typeOf b) (.ref C)) (hc : selfFirst K C = true)
    (hs : findIn K (.ref C) (PySem.dunder op.info.2) = some (some (.ref f))) (hf : isFn K (.ref f) = true)
    (h : wpAny (model prog w) A (call (.ref f) [.ref x, b]) (PySem.W.CmpBack Q) E s) : wpAny (model prog w) A (binaryOp op (.ref x) b) Q E s := by
  obtain ⟨cd, hcd, hm⟩ := any_some hc
  obtain ⟨rest, hm⟩ : ∃ rest, cd.mro = .ref C :: rest := by
    cases q : cd.mro with
    | nil => rw [q] at hm; cases hm
    | cons a r => rw [q] at hm; exact ⟨r, by rw [List.head?_cons] at hm; cases (beq_iff_eq.mp hm); rfl⟩
  unfold binaryOp
  refine wpAny_holding (wpAny_bind ?_)
  unfold binaryOp1
  refine wpAny_bind (I.type.here (wpAny_bind (hb.here (wpAny_bind ((fills_K X hcd hm hs).here ?_)))))
  simp only [beq_self_eq_true, if_true]
  refine wpAny_bind (wpAny_pure ?_)
  simp only [Bool.and_false, Bool.false_eq_true, if_false, Bool.false_and]
  refine wpAny_bind (wpAny_pure ?_)
  simp only [Bool.false_eq_true, if_false]
  refine wpAny_bind (m := tryMethod (.ref x) _ b) ?_
  unfold tryMethod
  refine wpAny_bind (special_fn X I hs (beq_iff_eq.mp hf) (wpAny_mono h (fun v s' hv => ?_) fun _ _ e => e))
  cases v <;> first | exact hv.elim | exact wpAny_pure (wpAny_pure (wpAny_pure hv))
end
section
variable {X : Cx} {CX : CXT} {k j : Nat} {g C : Addr} {fd : FuncData} {ps : List Str} {sp : Sp} {E : XK}
/-- bool(o) of an instance -/
def rBoolOwn (C : Addr) (sp : Sp) : List V → Hp → VK → Prop := fun xs H Q => ∃ a dx fs, xs = [V.ref a] ∧ H a = some (.ins C dx fs) ∧ sp [.ref a] H (fun z H' => ∃ b, z = .bl b ∧ Q (.bl b) H') E0
theorem kBoolOwn (c : MetS X.prog X.w X.K X.mg X.base k C "__bool__" sp) (hr : Room j X.A) (hk : k + 2 ≤ j) : CallR X (.type "bool") (rBoolOwn C sp) := by
  have ⟨f, fd, ps, hm, F, hb⟩ := c.ex
  intro pins s σ H xs us Q I r h
  obtain ⟨a, dx, fs, rfl, ea, q⟩ := h
  obtain ⟨u, rfl, ru⟩ := r.one
  cases (show u = Value.ref a from ru)
  obtain ⟨mA, O, _, _, _, _⟩ := ins_get I.hok ea
  obtain ⟨od, J, _⟩ := O.look
  have hr2 : Room k X.A.in1.in1 := (show Room (k + 1) X.A.in1 from Room.in1 (hr.mono hk)).in1
  have F' : FnR X.prog X.w X.K X.mg X.base CX0 k f sp := (FnOk.raw F hb .nil).imp fun vs H Q E h => by rw [List.append_nil]; exact h
  refine callType_newIn PySem.F.called_bool PySem.F.newNe_bool (PySem.F.typeCall_bool_1 _) (PySem.F.newCall_bool_1 _) (fun obj => PySem.F.args_object_init_2 obj _) PySem.F.entry_bool_new (bool_in _) ?_
  refine truthy_own I.kIn J hm.at_ hm.fn (wpAny_mono (wpAny_call (SlX.run_at (us := [.ref a]) (ws := [.ref a]) F' hr2 I.env0.in1.in1 pass0 I (.cons rfl .nil) q)) (fun v s' z => ?_) fun _ _ x => x)
  obtain ⟨z', H', I', rz, b, ei, qz⟩ := z
  subst ei
  obtain rfl : v = Value.bool b := rz
  exact ⟨rfl, .bl b, H', I', rfl, qz⟩
/-- ~o of an instance -/
def rUnOwn (C : Addr) (sp : Sp) : V → Hp → VK → Prop := fun x H Q => ∃ a dx fs, x = V.ref a ∧ H a = some (.ins C dx fs) ∧ sp [.ref a] H Q E0
theorem kInvOwn (c : MetS X.prog X.w X.K X.mg X.base k C "__invert__" sp) (hr : Room j X.A) (hk : k ≤ j) : UnR X (unaryOp .Invert) (rUnOwn C sp) := by
  have ⟨f, fd, ps, hm, F, hb⟩ := c.ex
  intro pins s σ H x v Q I rx h
  obtain ⟨a, dx, fs, rfl, ea, q⟩ := h
  obtain rfl : v = Value.ref a := rx
  obtain ⟨mA, O, _, _, _, _⟩ := ins_get I.hok ea
  obtain ⟨od, J, _⟩ := O.look
  exact inv_own I.kIn J hm.at_ hm.fn (run_fn (us := [.ref a]) (vs := [.ref a]) F (hr.mono hk) hb .nil pass0 I (.cons rfl .nil) q)
/-- o op o', both of the class -/
def rBinOwn (C : Addr) (sp : Sp) : R2 := fun x y H Q => ∃ a b dx fs dx' fs', x = V.ref a ∧ y = V.ref b ∧ H a = some (.ins C dx fs) ∧ H b = some (.ins C dx' fs') ∧ sp [.ref a, .ref b] H (fun z H' => ∃ r, z = .ref r ∧ Q (.ref r) H') E0
theorem kBinOwn {op : Operator} {nm : Str} (c : MetS X.prog X.w X.K X.mg X.base k C nm sp) (hc : PySem.W.selfFirst X.K C = true) (hnm : nm = PySem.dunder op.info.2) (hr : Room j X.A) (hk : k ≤ j) : OpR X (binaryOp op) (rBinOwn C sp) := by
  subst hnm
  have ⟨f, fd, ps, hm, F, hb⟩ := c.ex
  intro pins s σ H x y v u Q I rx ry h
  obtain ⟨a, b, dx, fs, dx', fs', rfl, rfl, ea, eb, q⟩ := h
  obtain rfl : v = Value.ref a := rx
  obtain rfl : u = Value.ref b := ry
  obtain ⟨mA, O, _, _, _, _⟩ := ins_get I.hok ea
  obtain ⟨od, J, _⟩ := O.look
  obtain ⟨mB, O2, _, _, _, _⟩ := ins_get I.hok eb
  obtain ⟨od2, J2, _⟩ := O2.look
  refine bin_own I.kIn J J2.type hc hm.at_ hm.fn (wpAny_mono (run_fn (us := [.ref a, .ref b]) (vs := [.ref a, .ref b]) F (hr.mono hk) hb .nil pass0 I (.cons rfl (.cons rfl .nil)) q) (fun r s' z => ?_) fun _ _ x => x)
  obtain ⟨z', H', I', rz, p, ei, qz⟩ := z
  subst ei
  obtain rfl : r = Value.ref p := rz
  exact ⟨.ref p, H', I', rfl, qz⟩
end
end Ls
namespace Ls
open PySem PySem.Spec PyProof.Rows L2
/-! ### properties and methods without arguments as callers need them -/
section
variable (P : Program) (w : World) (K : PySem.W.Frag) (mg : Str → Option Value) (base : Heap) (k : Nat) (C : Addr) (m : Str) (sp : Sp)
structure MetP : Prop where
  cl : Cls K C
  ex : ∃ (p g : Addr) (fd : FuncData) (ps : List Str), PropOf K C m p g ∧ FnOk P w K mg base CX0 k g fd ps sp ∧ Binds K fd ps []
end
section
variable {X : Cx} {k j : Nat} {C : Addr} {m : Str} {sp : Sp} {o : Expr} {ta : TE} {p pos apos : Pos} {pl : Sem Bool}
theorem pe_mp (c : MetP X.prog X.w X.K X.mg X.base k C m sp) (hr : Room j X.A) (hk : k + 1 ≤ j) (he : PE X o ta)
    (hab : attributeBase o m X.env (eval o X.env) = eval o X.env := by rfl) : PE X (.Attribute o m pos) (tProp C sp [] E0 ta) := by
  have ⟨p, g, fd, ps, hp, F, b⟩ := c.ex
  exact pe_prop he c.cl hp F (hr.mono hk) b .nil pass0 hab
theorem pe_ms0 (c : MetS X.prog X.w X.K X.mg X.base k C m sp) (hr : Room j X.A) (hk : k ≤ j) (he : PE X o ta)
    (ht : eval (.Call (.Attribute o m apos) [] [] pos) X.env = (do
      let ov ← eval o X.env
      standAt apos.atName
      let (f, first) ← holding [ov] (getMethod ov m pl)
      callWith pos f first (backTo pos (starEach [] X.env)) (backToKw pos (keywordEach [] X.env))) := by rfl) :
    PE X (.Call (.Attribute o m apos) [] [] pos) (tMeth C m sp [] E0 ta tNil) := by
  have ⟨f, fd, ps, hm, F, b⟩ := c.ex
  exact pe_meth0 he c.cl hm F (hr.mono hk) b .nil pass0 ht
/-- o.m() of a method by position -/
theorem pe_mr0 (c : MetR X.prog X.w X.K X.mg X.base k C m sp) (hr : Room j X.A) (hk : k ≤ j) (he : PE X o ta)
    (ht : eval (.Call (.Attribute o m apos) [] [] pos) X.env = (do
      let ov ← eval o X.env
      standAt apos.atName
      let (f, first) ← holding [ov] (getMethod ov m pl)
      callWith pos f first (backTo pos (starEach [] X.env)) (backToKw pos (keywordEach [] X.env))) := by rfl) :
    PE X (.Call (.Attribute o m apos) [] [] pos) (tMethR C m sp E0 ta tNil) := by
  have ⟨f, hm, F⟩ := c.ex
  refine ⟨fun pins s σ H Q I h => ?_⟩
  refine PySem.W.methodCall_KW (pl := pl) (thn (he.run pins s σ H _ I h) fun u s1 ⟨x, H1, I1, rx, a, dx, fs, ex, ea, l, q⟩ => ?_) ht
  subst ex
  obtain rfl : u = Value.ref a := rx
  refine getmeth_ok I1 ea c.cl hm l ?_
  exact PySem.W.callWith_K0 (first := [.ref a]) I1.kIn hm.kp (wpAny_call (run_fnR (us := [.ref a]) (vs := [.ref a]) F (hr.mono hk) pass0 I1 (.cons rfl .nil) q))
end
end Ls

namespace K1
open PySem PySem.Spec PyProof.Rows L2 Ls NdefX
/-! ### what a nest tells -/
def spArrays (CN : Addr) : Sp := fun vs H Q _ => ∃ (N : Addr → Prop) (p : Addr) (sz given : PyData) (rm : Rooms) (kept body : PyData), vs = [.ref p] ∧ NestAt N CN H p sz given rm kept body ∧
  ∀ H' l kvA ys, Same H H' → H l = none → H' l = some (.dK (arrK kvA ys)) → oneForm (pairsN body rm) = some kvA → ys.Perm (kvA.map (·.1)) → sortedS ys = true → Q (.ref l) H'
def spLabels (CN : Addr) : Sp := fun vs H Q _ => ∃ (N : Addr → Prop) (p : Addr) (sz given : PyData) (rm : Rooms) (kept body : PyData), vs = [.ref p] ∧ NestAt N CN H p sz given rm kept body ∧
  ∀ H' l kvL ys, Same H H' → H l = none → H' l = some (.lst (ys.map V.str)) → oneForm (formsN body) = some kvL → ys.Perm (kvL.map (·.1)) → sortedS ys = true → Q (.ref l) H'
section
variable {P : Program} {w : World} {K : PySem.W.Frag} {mg : Str → Option Value} {base : Heap} {f C CN CB CL cc cf : Addr} {fd : FuncData} {k : Nat}
theorem sc_Nest_arrays : FnScope ["self"] ["self"] (defScope s_Nest_arrays) := ⟨rfl, rfl, rfl, by decide +kernel, rfl, by decide +kernel, by decide +kernel⟩
theorem ok_arrays (F : FunD K "arrays" "Nest.arrays" (defArgs s_Nest_arrays) (defBody s_Nest_arrays) (defScope s_Nest_arrays) [] [] f fd) (G : Facts mg) (NC : NCls K CN) : FnOk P w K mg base CX0 1 f fd ["self"] (spArrays CN) := by
  refine F.ok sc_Nest_arrays (fun vs H Q E h => ?_) (fun cdv A outer s H vs Q E hr h => ?_)
  · obtain ⟨N, p, sz, given, rm, kept, body, rfl, _⟩ := h
    rfl
  · obtain ⟨N, p, sz, given, rm, kept, body, rfl, hn, hk⟩ := h
    refine ⟨_, PSs.nox (pss_one (ps_ret (pe_callTy call_dictD (by rfl) G.dict_ (by decide +kernel) (pa_cons (kfld K (pv 0)) pa_nil)))), ?_⟩
    obtain ⟨dx, fs, v1, v2, v4, v5, rd, ad, ll, kvs, kvA, kvL, ysA, ysL, hp, l1, l2, l3, l4, l5, l6, l7, d1, d2, d4, d5, hrd, eA, pA, sA, hA, eL, pL, sL, hL, no⟩ := hn.ex
    refine ⟨_, rfl, p, CN, dx, fs, _, rfl, hp, NC.cl, NC.nA, l6, ad, _, rfl, .inl hA, fun l nl => ?_⟩
    exact hk _ l _ _ (same_upd nl) nl upd_same eA pA sA
theorem sc_Nest_labels : FnScope ["self"] ["self"] (defScope s_Nest_labels) := ⟨rfl, rfl, rfl, by decide +kernel, rfl, by decide +kernel, by decide +kernel⟩
theorem ok_labels (F : FunD K "labels" "Nest.labels" (defArgs s_Nest_labels) (defBody s_Nest_labels) (defScope s_Nest_labels) [] [] f fd) (G : Facts mg) (NC : NCls K CN) : FnOk P w K mg base CX0 1 f fd ["self"] (spLabels CN) := by
  refine F.ok sc_Nest_labels (fun vs H Q E h => ?_) (fun cdv A outer s H vs Q E hr h => ?_)
  · obtain ⟨N, p, sz, given, rm, kept, body, rfl, _⟩ := h
    rfl
  · obtain ⟨N, p, sz, given, rm, kept, body, rfl, hn, hk⟩ := h
    refine ⟨_, PSs.nox (pss_one (ps_ret (pe_callTy (kList K) (by rfl) G.list_ (by decide +kernel) (pa_cons (kfld K (pv 0)) pa_nil)))), ?_⟩
    obtain ⟨dx, fs, v1, v2, v4, v5, rd, ad, ll, kvs, kvA, kvL, ysA, ysL, hp, l1, l2, l3, l4, l5, l6, l7, d1, d2, d4, d5, hrd, eA, pA, sA, hA, eL, pL, sL, hL, no⟩ := hn.ex
    refine ⟨_, rfl, p, CN, dx, fs, _, rfl, hp, NC.cl, NC.nL, l7, ll, _, rfl, .inl (sq hL), fun l nl => ?_⟩
    exact hk _ l _ _ (same_upd nl) nl upd_same eL pL sL
theorem ok_NoNode (U : SupC P K C f cc ⟨"__init__", "NoNode.__init__", defArgs s_NoNode___init__, defBody s_NoNode___init__, defScope s_NoNode___init__, [(("__class__" : Str), cc)], cf⟩ fd) (no : PySem.W.findIn K (.ref C) "path" = some none) :
    FnOk P w K mg base CX0 1 f fd ["self", "path"] (spExc1 C "path") :=
  ok_exc1 U rfl (nscope_by (show nscB _ _ _ (defScope s_NoNode___init__) = true by decide +kernel)) rfl rfl rfl (fun L => ⟨_, rfl⟩) (fun L => rfl) (fun L => rfl) (fun L => rfl) (by decide) (by decide) no
end
end K1

namespace K1
open PySem PySem.Spec PyProof.Rows L2 Ls
/-! ### the node at a path -/
def walkP : List PyData → PyData → List PyData → Option PyData
  | [], nd, _ => some nd
  | .int i :: ps, _, bd => if 0 ≤ i ∧ i < (bd.length : Int) then walkP ps (bd.getD i.toNat .none) (itemsD (bodyOf (bd.getD i.toNat .none))) else none
  | _ :: _, _, _ => none
def nodeAt (path : PyData) (ds : List PyData) : Option PyData := match path with
  | .tuple ps => if ps = [] then none else walkP ps .none ds
  | _ => none
theorem bodyOf_tup {n : Nat} {d : PyData} (h : Nd n d) : ∃ m bs, bodyOf d = .tuple bs ∧ ∀ x ∈ bs, Nd m x := by
  cases h with
  | loop h => exact ⟨_, _, rfl, h⟩
  | run _ _ _ => exact ⟨0, [], rfl, fun x hx => by cases hx⟩
  | test h => exact ⟨_, _, rfl, h⟩
def spNodeAt (CN CE : Addr) : Sp := fun vs H Q E => ∃ (N : Addr → Prop) (p : Addr) (v : V) (sz given : PyData) (rm : Rooms) (kept path : PyData) (ds : List PyData), vs = [.ref p, v] ∧ NestAt N CN H p sz given rm kept (.tuple ds) ∧ (∀ x ∈ ds, Nd 40 x) ∧ (∀ a, H a = none → N a) ∧ Dt N H v path ∧
  (nodeAt path ds = none → ∀ H' d, Same H H' → H d = none → H' d = some (.xd [("path", v)]) → E (.ref CE) (some d) H') ∧ ∀ nd, nodeAt path ds = some nd → ∀ H' v', Same H H' → Dt N H' v' nd → Q v' H'
section
variable {P : Program} {w : World} {K : PySem.W.Frag} {mg : Str → Option Value} {base : Heap} {f CN CE : Addr} {fd : FuncData} {k : Nat}
theorem sc_node_at : FnScope ["nest", "path", "node", "body", "at"] ["nest", "path"] (defScope s_node_at) := ⟨rfl, rfl, rfl, by decide +kernel, rfl, by decide +kernel, by decide +kernel⟩
theorem ok_node_at (F : FnP K "node_at" s_node_at [] f fd) (G : Facts mg) (NC : NCls K CN) (NN : ExcS P w K mg base "NoNode" CE "path") (C_body_of : Cal P w K mg base 1 "body_of" spBodyOf []) : FnOk P w K mg base (L2.CX P w) 3 f fd ["nest", "path"] (spNodeAt CN CE) := by
  refine F.ok sc_node_at (fun vs H Q E h => ?_) (fun cdv A outer s H vs Q E hr h => ?_)
  · obtain ⟨N, p, v, sz, given, rm, kept, path, ds, rfl, _⟩ := h
    rfl
  · obtain ⟨N, p, v, sz, given, rm, kept, path, ds, rfl, hn, hnd, hN, hpath, hbad, hgood⟩ := h
    have hu := hu_of hr
    refine ⟨_, (pss_cons (ps_par (i := 2) (j := 3) (by rfl) sc_node_at.nd rfl rfl (by decide) rfl rfl (pa_cons pe_non (pa_cons (kfld K (pv 0)) pa_nil)) (by rfl))
      (pss_cons (ps_if (PW.pt (pw_or (pt_not (pt_val (pe_callB (kIsi K) (by rfl) G.isinstance_ (by decide +kernel) (pa_cons (pv 1) (pa_cons (pe_ty "tuple" (by rfl) G.tuple_ (by decide +kernel)) pa_nil))))) (pw_or1 (pt_cmpR (kEqE (K := K) hr.units) (pv 1) (pe_tup pa_nil) (nomark _))))) (pss_one (ps_raise rfl (takes_of rfl rfl rfl rfl) (pmk_sup NN hr (by decide) (by rfl) (pv 1)))) pss_nil)
      (pss_cons (ps_for (passes_of rfl) rfl (kpi_tup K (pv 1)) (pg_name (i := 4) sc_node_at.nd rfl (by first | exact .inl rfl | exact .inr rfl))
        (pss_cons (ps_if (PW.pt (pw_or (pt_not (pt_val (pe_callB (kIsi K) (by rfl) G.isinstance_ (by decide +kernel) (pa_cons (pv 4) (pa_cons (pe_ty "int" (by rfl) G.int_ (by decide +kernel)) pa_nil))))) (pw_or (pt_val (pe_callB (kIsi K) (by rfl) G.isinstance_ (by decide +kernel) (pa_cons (pv 4) (pa_cons (pe_ty "bool" (by rfl) G.bool_ (by decide +kernel)) pa_nil)))) (pw_or1 (pt_not (pt_chain op_le op_lt pe_int (pv 4) (pe_callB (kLen K) (by rfl) G.len_ PySem.boot_len (pa_cons (pv 3) pa_nil)))))))) (pss_one (ps_raise rfl (takes_of rfl rfl rfl rfl) (pmk_sup NN hr (by decide) (by rfl) (pv 1)))) pss_nil)
        (pss_cons (ps_set (i := 2) sc_node_at.nd rfl (.inl rfl) (pe_ix (kIxT K) (pv 3) (pv 4) (fun _ _ => rfl)))
        (pss_one (ps_set (i := 3) sc_node_at.nd rfl (.inl rfl) (pe_c C_body_of hr (by decide) (by rfl) (pa_cons (pv 2) pa_nil)))))))
      (pss_one (ps_ret (pv 2)))))), ?_⟩
    obtain ⟨dx, fs, v1, v2, v4, v5, rd, ad, ll, kvs, kvA, kvL, ysA, ysL, hp, l1, l2, l3, l4, l5, l6, l7, d1, d2, d4, d5, hrd, eA, pA, sA, hA, eL, pL, sL, hL, no⟩ := hn.ex
    have hf := no
    have nB : NoAttr K CN "body" := NC.nB
    refine ⟨_, rfl, p, CN, dx, fs, _, rfl, hp, NC.cl, nB, l5, _, _, rfl, ?_⟩
    have fin : nodeAt path ds = none → ∀ {QQ : XK}, (∀ d H', Same H H' → H d = none → H' d = some (.xd [("path", v)]) → QQ (.ref CE) (some d) H') → True := fun _ _ _ => True.intro
    obtain ⟨t, ty, ki⟩ := hpath.ty (K := K) (T := "tuple") (by simp)
    refine ⟨_, rfl, _, _, _, _, _, rfl, .ty "tuple", ty, ki, _, rfl, ?_⟩
    have hb0 : nodeAt path ds = none → ∀ H1 d H2, Same H H1 → Same H1 H2 → H1 d = none → H2 d = some (.xd [("path", v)]) → E (.ref CE) (some d) H2 := fun e H1 d H2 s1 s2 nd he => hbad e H2 d (s1.trans s2) (s1.free nd) he
    have hpd := hpath
    cases hpath with
    | lst n e h => exact iteT (iteT ⟨_, rfl, mk1 fun d H2 s nd he => hb0 rfl H d H2 (Same.refl H) s nd he⟩)
    | int _ => exact iteT (iteT ⟨_, rfl, mk1 fun d H2 s nd he => hb0 rfl H d H2 (Same.refl H) s nd he⟩)
    | bl _ => exact iteT (iteT ⟨_, rfl, mk1 fun d H2 s nd he => hb0 rfl H d H2 (Same.refl H) s nd he⟩)
    | non => exact iteT (iteT ⟨_, rfl, mk1 fun d H2 s nd he => hb0 rfl H d H2 (Same.refl H) s nd he⟩)
    | str _ => exact iteT (iteT ⟨_, rfl, mk1 fun d H2 s nd he => hb0 rfl H d H2 (Same.refl H) s nd he⟩)
    | @tup a xs ps n e h =>
      have hl := h.len
      refine iteF ⟨_, rfl, by show 0 ≤ sizeLine; decide, fun b nb => ?_⟩
      have s1 := same_upd nb (o := .tup [])
      have hb : (upd H b (.tup [])) b = some (.tup []) := upd_same
      generalize upd H b (.tup []) = H1 at s1 hb
      refine ⟨_, (hpd.mono s1).dp, Dt.dp (N := fun _ => True) (.tup ⟨True.intro, Nat.zero_le _⟩ hb .nil), hpd.lay, _, rfl, ?_⟩
      rw [eqv_nilT]
      by_cases he : ps = []
      · subst he
        exact iteT ⟨_, rfl, mk1 fun d H2 s nd he => hb0 rfl H1 d H2 s1 s nd he⟩
      have hne : isNilD (.tuple ps) = false := by
        cases ps with
        | nil => exact absurd rfl he
        | cons _ _ => rfl
      rw [hne]
      have hw : nodeAt (.tuple ps) ds = walkP ps .none ds := if_neg he
      refine iteF ⟨_, rfl, a, rfl, ⟨_, sqt (s1 _ _ e)⟩, ?_⟩
      refine for_it (walk_tup (K := K) (a := a) (xs := xs)) (fun j σ H' => ∃ u w z4 nd bs m, σ = [some (.ref p), some (.ref a), some u, some w, z4] ∧ Same H H' ∧ Dt N H' w (.tuple bs) ∧ Dt N H' u nd ∧ (∀ x ∈ bs, Nd m x) ∧ walkP ps .none ds = walkP (ps.drop j) nd bs)
        ⟨_, _, _, _, _, _, rfl, s1, d5.mono s1, .non, hnd, rfl⟩ (fun j σ H' _ ⟨_, _, _, _, _, _, _, s, _⟩ => sqt (s _ _ e)) ?_ ?_
      · rintro j y σ H9 H2 hj ⟨u, w, z4, nd, bs, m, rfl, s2, hw2, hu2, hbs, hwk⟩ ⟨rfl, ey⟩
        rw [hl] at hj
        obtain ⟨v', hv, hvd⟩ := h.get (List.getElem?_eq_getElem hj)
        rw [hv] at ey
        cases ey
        have hdr : ps.drop j = ps[j] :: ps.drop (j + 1) := List.drop_eq_getElem_cons hj
        rw [hdr] at hwk
        have hvd2 := hvd.mono s2
        generalize ps[j] = dj at hvd2 hwk
        have hbad2 : walkP (dj :: ps.drop (j + 1)) nd bs = none → ∀ d H3, Same H2 H3 → H2 d = none → H3 d = some (.xd [("path", .ref a)]) → E (.ref CE) (some d) H3 := fun e d H3 s3 nd' he => hb0 (by rw [hw, hwk, e]) H2 d H3 s2 s3 nd' he
        obtain ⟨t, ty, ki⟩ := hvd2.ty (K := K) (T := "int") (by simp)
        refine ⟨_, rfl, _, _, _, _, _, rfl, .ty "int", ty, ki, _, rfl, ?_⟩
        cases hvd2 with
        | lst n e h => exact iteT (iteT ⟨_, rfl, mk1 fun d H3 s nd he => hbad2 rfl d H3 s nd he⟩)
        | tup n e h => exact iteT (iteT ⟨_, rfl, mk1 fun d H3 s nd he => hbad2 rfl d H3 s nd he⟩)
        | non => exact iteT (iteT ⟨_, rfl, mk1 fun d H3 s nd he => hbad2 rfl d H3 s nd he⟩)
        | str _ => exact iteT (iteT ⟨_, rfl, mk1 fun d H3 s nd he => hbad2 rfl d H3 s nd he⟩)
        | bl b' =>
          obtain ⟨t, ty, ki⟩ := (Dt.bl (N := N) (H := H2) b').ty (K := K) (T := "bool") (by simp)
          refine iteF ⟨_, rfl, _, _, _, _, _, rfl, .ty "bool", ty, ki, _, rfl, ?_⟩
          exact iteT (iteT ⟨_, rfl, mk1 fun d H3 s nd he => hbad2 rfl d H3 s nd he⟩)
        | int i =>
          obtain ⟨t, ty, ki⟩ := (Dt.int (N := N) (H := H2) i).ty (K := K) (T := "bool") (by simp)
          refine iteF ⟨_, rfl, _, _, _, _, _, rfl, .ty "bool", ty, ki, _, rfl, iteF ?_⟩
          cases hw2 with
          | @tup aw xw _ nw ew hxw =>
            have hlw := hxw.len
            refine ⟨_, rfl, _, _, rfl, rfl, _, rfl, ?_⟩
            by_cases g1 : (0 : Int) ≤ i
            case neg =>
              rw [decide_eq_false g1]
              exact iteF ⟨_, rfl, iteT ⟨_, rfl, mk1 fun d H3 s nd he => hbad2 (if_neg fun z => g1 z.1) d H3 s nd he⟩⟩
            rw [decide_eq_true g1]
            refine iteT ⟨_, rfl, aw, xw, rfl, .inr (sqt ew), _, _, rfl, rfl, _, rfl, ?_⟩
            rw [hlw]
            by_cases g2 : i < (bs.length : Int)
            case neg =>
              rw [decide_eq_false g2]
              exact iteT ⟨_, rfl, mk1 fun d H3 s nd he => hbad2 (if_neg fun z => g2 z.2) d H3 s nd he⟩
            rw [decide_eq_true g2]
            refine iteF ?_
            obtain ⟨m', rfl⟩ : ∃ m' : Nat, i = (m' : Int) := ⟨i.toNat, by omega⟩
            have hm' : m' < bs.length := by omega
            obtain ⟨y2, hy2, hyd⟩ := hxw.get (List.getElem?_eq_getElem hm')
            refine ⟨_, rfl, _, rfl, aw, xw, _, y2, rfl, rfl, sqt ew, atI_nat hy2, ?_⟩
            have hnx := hbs _ (List.getElem_mem hm')
            have hgd : bs.getD (Int.toNat (m' : Int)) .none = bs[m'] := by
              rw [Int.toNat_natCast, List.getD_eq_getElem?_getD, List.getElem?_eq_getElem hm']
              rfl
            have hwk2 : walkP (.int (m' : Int) :: ps.drop (j + 1)) nd bs = walkP (ps.drop (j + 1)) bs[m'] (itemsD (bodyOf bs[m'])) := by
              show (if _ then _ else _) = _
              rw [if_pos ⟨g1, g2⟩, hgd]
            obtain ⟨m2, bs2, hbo, hbs2⟩ := bodyOf_tup hnx
            refine ⟨_, rfl, N, y2, m, _, rfl, hyd, hnx, fun a e => hN a (s2.free e), fun H3 w2 s3 hw3 => ?_⟩
            rw [hbo] at hw3 hwk2
            exact ⟨y2, w2, _, bs[m'], bs2, m2, rfl, s2.trans s3, hw3, hyd.mono s3, hbs2, hwk.trans hwk2⟩
      · rintro σ H2 ⟨u, w, z4, nd, bs, m, rfl, s2, hw2, hu2, hbs, hwk⟩
        rw [hl, List.drop_length] at hwk
        exact ⟨_, rfl, hgood nd (hw.trans hwk) H2 u s2 hu2⟩
end
end K1

namespace K1
open PySem PySem.Spec PyProof.Rows L2 Ls
/-! ### statements -/
structure SCls (K : PySem.W.Frag) (C : Addr) : Prop where
  cl : Cls K C
  n0 : NoAttr K C "label"
  n1 : NoAttr K C "stamp"
  n2 : NoAttr K C "target"
  n3 : NoAttr K C "reads"
  n4 : NoAttr K C "path"
  n5 : NoAttr K C "loops"
  n6 : NoAttr K C "tests"
  n7 : NoAttr K C "heads"
  n8 : NoAttr K C "around"
  n9 : NoAttr K C "counters"
def RowIs (N : Addr → Prop) (H : Hp) (ra : Addr) : Prop := (∃ c lo hi b bs, Dt N H (.ref ra) (.tuple [.str "loop", c, lo, hi, b, bs])) ∨ ∃ rows bs, Dt N H (.ref ra) (.tuple [.str "test", .tuple rows, bs])
theorem RowIs.mono {N : Addr → Prop} {H H' : Hp} (s : Same H H') {ra : Addr} (h : RowIs N H ra) : RowIs N H' ra := by
  rcases h with ⟨c, lo, hi, b, bs, h⟩ | ⟨rows, bs, h⟩
  · exact .inl ⟨c, lo, hi, b, bs, h.mono s⟩
  · exact .inr ⟨rows, bs, h.mono s⟩
def AroundAt (N : Addr → Prop) (H : Hp) (y : V) : Prop := ∃ t ra hd, y = .ref t ∧ H t = some (.tup [.ref ra, hd]) ∧ RowIs N H ra
theorem AroundAt.mono {N : Addr → Prop} {H H' : Hp} (s : Same H H') {y : V} (h : AroundAt N H y) : AroundAt N H' y := by
  obtain ⟨t, ra, hd, e, ht, hr⟩ := h
  exact ⟨t, ra, hd, e, s _ _ ht, hr.mono s⟩
def LoopAt (D : Addr) (H : Hp) (y : V) : Prop := ∃ q x xs, y = .ref q ∧ q ≠ D ∧ H q = some (.tup (x :: xs))
theorem LoopAt.to {D : Addr} {H H' : Hp} (k : Kp D H H') {y : V} (h : LoopAt D H y) : LoopAt D H' y := by
  obtain ⟨q, x, xs, e, hn, hq⟩ := h
  exact ⟨q, x, xs, e, hn, k _ _ hn hq⟩
theorem cut15 (a b c d e f : V) : cutV [a, b, c, d, e, f] (some 1) (some 5) = [b, c, d, e] := rfl
def spStmt (CS : Addr) : Sp := fun vs H Q _ => ∃ (N : Addr → Prop) (H0 : Hp) (p dx ar : Addr) (v1 v2 : V) (a0 a1 a2 a3 a4 : PyData) (items : List V), vs = [.ref p, v1, v2, .ref ar] ∧ Same H0 H ∧ H0 p = none ∧ H p = some (.ins CS dx []) ∧
  Dt N H0 v1 (.tuple [a0, a1, a2, a3, a4]) ∧ H0 ar = some (.lst items) ∧ items.length ≤ 100 ∧ (∀ y ∈ items, AroundAt N H0 y) ∧ ∀ H', Same H0 H' → Q .non H'
section
variable {P : Program} {w : World} {K : PySem.W.Frag} {mg : Str → Option Value} {base : Heap} {f CS : Addr} {fd : FuncData} {k : Nat}
/-- setting a field of the new object -/
theorem setF {H0 H : Hp} {p dx : Addr} {C : Addr} {fs : List (Str × V)} {n : Nat} {Qx : Hp → Prop} {fn : Str} {y : V} (s : Same H0 H) (np : H0 p = none) (hp : H p = some (.ins C dx fs)) (hl : fs.length ≤ n) (hn : n < 900) (cl : Cls K C) (no : NoAttr K C fn)
    (q : ∀ H' fs', Same H0 H' → Kp p H H' → H' p = some (.ins C dx fs') → fs'.length ≤ n + 1 → fs'.lookup fn = some y → (∀ g, g ≠ fn → fs'.lookup g = fs.lookup g) → Qx H') :
    ∃ a C' dx' fs', V.ref p = .ref a ∧ H a = some (.ins C' dx' fs') ∧ Cls K C' ∧ NoAttr K C' fn ∧ fs'.length < 1000 ∧ Qx (upd H a (.ins C' dx' (putF fn y fs'))) := by
  refine ⟨p, C, dx, fs, rfl, hp, cl, no, by omega, q _ (putF fn y fs) (same_mut s np) Kp.upd upd_same ?_ ?_ ?_⟩
  · have := length_putF fn y fs
    omega
  · rw [lookup_putF, if_pos rfl]
  · intro g hg
    rw [lookup_putF, if_neg hg]
theorem sc_Statement___init__ : FnScope ["self", "node", "path", "around", "row", "head", "one", "loop"] ["self", "node", "path", "around"] (defScope s_Statement___init__) := ⟨rfl, rfl, rfl, by decide +kernel, rfl, by decide +kernel, by decide +kernel⟩
theorem ok_stmt (F : FunD K "__init__" "Statement.__init__" (defArgs s_Statement___init__) (defBody s_Statement___init__) (defScope s_Statement___init__) [] [] f fd) (G : Facts mg) (SC : SCls K CS) : FnOk P w K mg base CX0 1 f fd ["self", "node", "path", "around"] (spStmt CS) := by
  refine F.ok sc_Statement___init__ (fun vs H Q E h => ?_) (fun cdv A outer s H vs Q E hr h => ?_)
  · obtain ⟨N, H0, p, dx, ar, v1, v2, a0, a1, a2, a3, a4, items, rfl, _⟩ := h
    rfl
  · obtain ⟨N, H0, p, dx, ar, v1, v2, a0, a1, a2, a3, a4, items, rfl, s0, np, hp, h1, har, hil, hit, hk⟩ := h
    have hu := hu_of hr
    refine ⟨_, PSs.nox (pss_cons (ps_fld (pv 0) (pe_ix (kIxT K) (pv 1) pe_int (fun _ _ => rfl)) rfl)
      (pss_cons (ps_fld (pv 0) (pe_ix (kIxT K) (pv 1) pe_int (fun _ _ => rfl)) rfl)
      (pss_cons (ps_fld (pv 0) (pe_ix (kIxT K) (pv 1) pe_int (fun _ _ => rfl)) rfl)
      (pss_cons (ps_fld (pv 0) (pe_ix (kIxT K) (pv 1) pe_int (fun _ _ => rfl)) rfl)
      (pss_cons (ps_fld (pv 0) (pv 2) rfl)
      (pss_cons (ps_fld (pv 0) (pe_lc (own := [("row", 4), ("head", 5)]) (g := gTup K 2 (gCons (gName 4) (gCons (gName 5) (gNil)))) rfl sc_Statement___init__.nd  (kpi_list K (pv 3)) (blkOk_by (by kernel_rfl)) (fun _ _ _ _ _ => (kpg_tup K rfl (pgs_cons (pg_name (i := 4) sc_Statement___init__.nd rfl (by first | exact .inl rfl | exact .inr rfl)) (pgs_cons (pg_name (i := 5) sc_Statement___init__.nd rfl (by first | exact .inl rfl | exact .inr rfl)) pgs_nil)))) (fun _ _ _ _ _ => (pts_one (pt_cmpR op_eq (pe_ix (kIxT K) (pv 4) pe_int (fun _ _ => rfl)) pe_str (nomark _)))) (fun _ _ _ _ _ => (pe_slice kSlT (pv 4) (po_some pe_int) (po_some pe_int)))) rfl)
      (pss_cons (ps_fld (pv 0) (pe_lc2 (own := [("row", 4), ("head", 5), ("one", 6)]) (vs1 := [6]) (g := gTup K 2 (gCons (gName 4) (gCons (gName 5) (gNil)))) (g1 := gName 6) (tt1 := tYes) rfl sc_Statement___init__.nd (kpi_list K (pv 3)) (blkOk_by (by kernel_rfl)) (by decide) (fun _ _ _ _ _ => (kpg_tup K rfl (pgs_cons (pg_name (i := 4) sc_Statement___init__.nd rfl (by first | exact .inl rfl | exact .inr rfl)) (pgs_cons (pg_name (i := 5) sc_Statement___init__.nd rfl (by first | exact .inl rfl | exact .inr rfl)) pgs_nil)))) (fun _ _ _ _ _ => (pts_one (pt_cmpR op_eq (pe_ix (kIxT K) (pv 4) pe_int (fun _ _ => rfl)) pe_str (nomark _)))) (fun _ _ _ _ _ => (kpi_tup K (pe_ix (kIxT K) (pv 4) pe_int (fun _ _ => rfl)))) (fun _ _ _ _ _ => (pg_name (i := 6) sc_Statement___init__.nd rfl (by first | exact .inl rfl | exact .inr rfl))) (fun _ _ _ _ _ => pts_nil) (fun _ _ _ _ _ => (pv 6))) rfl)
      (pss_cons (ps_fld (pv 0) (pe_lc (own := [("row", 4), ("head", 5)]) (g := gTup K 2 (gCons (gName 4) (gCons (gName 5) (gNil)))) rfl sc_Statement___init__.nd  (kpi_list K (pv 3)) (blkOk_by (by kernel_rfl)) (fun _ _ _ _ _ => (kpg_tup K rfl (pgs_cons (pg_name (i := 4) sc_Statement___init__.nd rfl (by first | exact .inl rfl | exact .inr rfl)) (pgs_cons (pg_name (i := 5) sc_Statement___init__.nd rfl (by first | exact .inl rfl | exact .inr rfl)) pgs_nil)))) (fun _ _ _ _ _ => (pts_one (pt_cmpR op_eq (pe_ix (kIxT K) (pv 4) pe_int (fun _ _ => rfl)) pe_str (nomark _)))) (fun _ _ _ _ _ => (pv 5))) rfl)
      (pss_cons (ps_fld (pv 0) (pe_lc (own := [("row", 4), ("head", 5)]) (g := gTup K 2 (gCons (gName 4) (gCons (gName 5) (gNil)))) (tt := tYes) rfl sc_Statement___init__.nd  (kpi_list K (pv 3)) (blkOk_by (by kernel_rfl)) (fun _ _ _ _ _ => (kpg_tup K rfl (pgs_cons (pg_name (i := 4) sc_Statement___init__.nd rfl (by first | exact .inl rfl | exact .inr rfl)) (pgs_cons (pg_name (i := 5) sc_Statement___init__.nd rfl (by first | exact .inl rfl | exact .inr rfl)) pgs_nil)))) (fun _ _ _ _ _ => pts_nil) (fun _ _ _ _ _ => (pv 4))) rfl)
      (pss_one (ps_fld (pv 0) (pe_callTy kTuple (by rfl) G.tuple_ (by decide +kernel) (pa_cons (pe_lc (own := [("loop", 7)]) (g := gName 7) (tt := tYes) rfl sc_Statement___init__.nd  (kpi_list K (kfld K (pv 0))) (blkOk_by (by kernel_rfl)) (fun _ _ _ _ _ => (pg_name (i := 7) sc_Statement___init__.nd rfl (by first | exact .inl rfl | exact .inr rfl))) (fun _ _ _ _ _ => pts_nil) (fun _ _ _ _ _ => (pe_ix (kIxT K) (pv 7) pe_int (fun _ _ => rfl)))) pa_nil)) rfl))))))))))), ?_⟩
    have hd1 := h1
    cases h1 with
    | @tup an xs _ nn en hx =>
    obtain ⟨x0, _, rfl, g0, hx⟩ := dt1 hx
    obtain ⟨x1, _, rfl, g1, hx⟩ := dt1 hx
    obtain ⟨x2, x3, x4, rfl, g2, g3, g4⟩ := dt3 hx
    refine ⟨_, rfl, an, _, _, _, rfl, rfl, sqt (s0 _ _ en), atI_nat (j := 1) rfl, _, rfl, setF s0 np hp (Nat.le_refl 0) (by decide) SC.cl SC.n0 fun H1 fs1 s1 _ hp1 hl1 _ _ => ?_⟩
    refine ⟨_, rfl, an, _, _, _, rfl, rfl, sqt (s1 _ _ en), atI_nat (j := 2) rfl, _, rfl, setF s1 np hp1 hl1 (by decide) SC.cl SC.n1 fun H2 fs2 s2 _ hp2 hl2 _ _ => ?_⟩
    refine ⟨_, rfl, an, _, _, _, rfl, rfl, sqt (s2 _ _ en), atI_nat (j := 3) rfl, _, rfl, setF s2 np hp2 hl2 (by decide) SC.cl SC.n2 fun H3 fs3 s3 _ hp3 hl3 _ _ => ?_⟩
    refine ⟨_, rfl, an, _, _, _, rfl, rfl, sqt (s3 _ _ en), atI_nat (j := 4) rfl, _, rfl, setF s3 np hp3 hl3 (by decide) SC.cl SC.n3 fun H4 fs4 s4 _ hp4 hl4 _ _ => ?_⟩
    refine ⟨_, rfl, _, rfl, setF s4 np hp4 hl4 (by decide) SC.cl SC.n4 fun H5 fs5 s5 _ hp5 hl5 _ _ => ?_⟩
    -- loops
    refine ⟨_, rfl, ar, rfl, ⟨_, sq (s5 _ _ har)⟩, fun D nD => ?_⟩
    have nD0 := s5.free nD
    refine lc_it (walk_list (K := K) (a := ar) (xs := items)) (fun j H' => Same H5 H' ∧ ∃ out, H' D = some (.lst out) ∧ out.length ≤ j ∧ ∀ y ∈ out, LoopAt D H' y) ⟨same_upd nD, [], upd_same, Nat.le_refl _, fun y hy => by cases hy⟩ (fun j H' _ ⟨s, _⟩ => sq (s _ _ (s5 _ _ har))) ?_ ?_
    · rintro j y H8 H' hj ⟨s6, out, hD, hol, hout⟩ ⟨rfl, ey⟩
      have s06 := s5.trans s6
      have hya := hit y (List.mem_of_getElem? ey)
      obtain ⟨t, ra, hd, rfl, ht, hrow⟩ := hya.mono s06
      have hj100 : j < 100 := by omega
      refine ⟨t, _, rfl, sqt ht, rfl, _, _, rfl, _, _, rfl, rfl, rfl, ?_⟩
      rcases hrow with ⟨c, lo, hi, b, bs, hr⟩ | ⟨rows, bs, hr⟩
      · cases hr with
        | @tup _ xr _ nr er hxr =>
        obtain ⟨r0, _, rfl, q0, hxr⟩ := dt1 hxr
        obtain ⟨r1, _, rfl, q1, hxr⟩ := dt1 hxr
        obtain ⟨r2, _, rfl, q2, hxr⟩ := dt1 hxr
        obtain ⟨r3, r4, r5, rfl, q3, q4, q5⟩ := dt3 hxr
        cases Dt.str_ q0
        refine ⟨_, rfl, ra, _, _, _, rfl, rfl, sqt er, atI_nat (j := 0) rfl, rfl, _, rfl, ?_⟩
        rw [decide_eq_true rfl]
        refine iteT ⟨_, rfl, 1, rfl, 5, rfl, ra, _, rfl, er, fun H7 q s7 hq e7 => ?_⟩
        have s67 := s6.trans s7
        have hD7 := s7 _ _ hD
        rw [cut15] at e7
        have qD : q ≠ D := fun z => by rw [z, hD7] at e7; cases e7
        refine ⟨out, hD7, szlt (by omega), same_mut s67 nD, _, upd_same, by rw [List.length_append]; exact Nat.add_le_add_right hol 1, fun z hz => ?_⟩
        rcases List.mem_append.mp hz with hz | hz
        · exact (hout z hz).to fun b o nb e => by rw [upd_ne nb]; exact s7 _ _ e
        · rw [List.mem_singleton.mp hz]
          exact ⟨q, _, _, rfl, qD, by rw [upd_ne qD]; exact e7⟩
      · cases hr with
        | @tup _ xr _ nr er hxr =>
        obtain ⟨r0, r1, r2, rfl, q0, q1, q2⟩ := dt3 hxr
        cases Dt.str_ q0
        refine ⟨_, rfl, ra, _, _, _, rfl, rfl, sqt er, atI_nat (j := 0) rfl, rfl, _, rfl, ?_⟩
        rw [decide_eq_false (by decide)]
        exact iteF ⟨s6, out, hD, Nat.le_succ_of_le hol, hout⟩
    rintro H6 ⟨s56, loops, hLp, hLl, hLa⟩
    have pD : D ≠ p := (ne_of_none hp5 nD).symm
    have hLp2 : ∀ {H' : Hp}, Kp p H6 H' → H' D = some (.lst loops) := fun k => k _ _ pD hLp
    refine ⟨_, rfl, setF (s5.trans s56) np (s56 _ _ hp5) hl5 (by decide) SC.cl SC.n5 fun H7 fs7 s7 k7 hp7 hl7 lk7 _ => ?_⟩
    -- tests
    refine ⟨_, rfl, ar, rfl, ⟨_, sq (s7 _ _ har)⟩, fun D2 nD2 => ?_⟩
    refine lc2_it (walk_list (K := K) (a := ar) (xs := items)) (fun j H' => Same H7 H' ∧ ∃ out, H' D2 = some (.lst out) ∧ out.length ≤ 1000 * j) ⟨same_upd nD2, [], upd_same, Nat.zero_le _⟩ (fun j H' _ ⟨s, _⟩ => sq (s _ _ (s7 _ _ har))) ?_ ?_
    · rintro j y H8 H' hj ⟨s6, out, hD, hol⟩ ⟨rfl, ey⟩
      have s06 := s7.trans s6
      obtain ⟨t, ra, hd, rfl, ht, hrow⟩ := hit y (List.mem_of_getElem? ey)
      have hj100 : j < 100 := by omega
      refine ⟨t, _, rfl, sqt (s06 _ _ ht), rfl, _, _, rfl, _, _, rfl, rfl, rfl, ?_⟩
      rcases hrow with ⟨c, lo, hi, b, bs, hr⟩ | ⟨rows, bs, hr⟩
      · cases hr with
        | @tup _ xr _ nr er hxr =>
        obtain ⟨r0, _, rfl, q0, hxr⟩ := dt1 hxr
        cases Dt.str_ q0
        refine ⟨_, rfl, ra, _, _, _, rfl, rfl, sqt (s06 _ _ er), atI_nat (j := 0) rfl, rfl, _, rfl, ?_⟩
        rw [decide_eq_false (by decide)]
        exact iteF ⟨s6, out, hD, by omega⟩
      · cases hr with
        | @tup _ xr _ nr er hxr =>
        obtain ⟨r0, r1, r2, rfl, q0, q1, q2⟩ := dt3 hxr
        cases Dt.str_ q0
        refine ⟨_, rfl, ra, _, _, _, rfl, rfl, sqt (s06 _ _ er), atI_nat (j := 0) rfl, rfl, _, rfl, ?_⟩
        rw [decide_eq_true rfl]
        cases q1 with
        | @tup rt xt _ nt et hxt =>
        have hxtl := hxt.len
        refine iteT ⟨_, rfl, ra, _, _, _, rfl, rfl, sqt (s06 _ _ er), atI_nat (j := 1) rfl, rt, rfl, ⟨_, sqt (s06 _ _ et)⟩, ?_⟩
        refine lc_in (walk_tup (K := K) (a := rt) (xs := xt)) (fun m H' => Same H7 H' ∧ ∃ out, H' D2 = some (.lst out) ∧ out.length ≤ 1000 * j + m) ⟨s6, out, hD, hol⟩ (fun m H' _ ⟨s, _⟩ => sqt ((s7.trans s) _ _ et)) ?_ ?_
        · rintro m y H9 H8 hm ⟨s8, out2, hD8, hol2⟩ ⟨rfl, ey2⟩
          have := nt.2
          refine ⟨rfl, _, rfl, out2, hD8, szlt (by omega), same_mut s8 nD2, _, upd_same, by rw [List.length_append]; exact Nat.add_le_add_right hol2 1⟩
        · rintro H8 ⟨s8, out2, hD8, hol2⟩
          have := nt.2
          exact ⟨s8, out2, hD8, by omega⟩
    rintro H8 ⟨s78, _, _, _⟩
    refine ⟨_, rfl, setF (s7.trans s78) np (s78 _ _ hp7) hl7 (by decide) SC.cl SC.n6 fun H9 fs9 s9 k9 hp9 hl9 _ o9 => ?_⟩
    have k79 : Kp p H7 H9 := (Kp.same s78).trans k9
    clear k9 s78
    -- heads
    refine ⟨_, rfl, ar, rfl, ⟨_, sq (s9 _ _ har)⟩, fun D3 nD3 => ?_⟩
    refine lc_it (walk_list (K := K) (a := ar) (xs := items)) (fun j H' => Same H9 H' ∧ ∃ out, H' D3 = some (.lst out) ∧ out.length ≤ j) ⟨same_upd nD3, [], upd_same, Nat.le_refl _⟩ (fun j H' _ ⟨s, _⟩ => sq (s _ _ (s9 _ _ har))) ?_ ?_
    · rintro j y H8 H' hj ⟨s6, out, hD, hol⟩ ⟨rfl, ey⟩
      have s06 := s9.trans s6
      obtain ⟨t, ra, hd, rfl, ht, hrow⟩ := (hit y (List.mem_of_getElem? ey)).mono s06
      have hj100 : j < 100 := by omega
      refine ⟨t, _, rfl, sqt ht, rfl, _, _, rfl, _, _, rfl, rfl, rfl, ?_⟩
      rcases hrow with ⟨c, lo, hi, b, bs, hr⟩ | ⟨rows, bs, hr⟩
      · cases hr with
        | @tup _ xr _ nr er hxr =>
        obtain ⟨r0, _, rfl, q0, hxr⟩ := dt1 hxr
        cases Dt.str_ q0
        refine ⟨_, rfl, ra, _, _, _, rfl, rfl, sqt er, atI_nat (j := 0) rfl, rfl, _, rfl, ?_⟩
        rw [decide_eq_true rfl]
        exact iteT ⟨_, rfl, out, hD, szlt (by omega), same_mut s6 nD3, _, upd_same, by rw [List.length_append]; exact Nat.add_le_add_right hol 1⟩
      · cases hr with
        | @tup _ xr _ nr er hxr =>
        obtain ⟨r0, _, rfl, q0, hxr⟩ := dt1 hxr
        cases Dt.str_ q0
        refine ⟨_, rfl, ra, _, _, _, rfl, rfl, sqt er, atI_nat (j := 0) rfl, rfl, _, rfl, ?_⟩
        rw [decide_eq_false (by decide)]
        exact iteF ⟨s6, out, hD, Nat.le_succ_of_le hol⟩
    rintro H10 ⟨s910, _, _, _⟩
    refine ⟨_, rfl, setF (s9.trans s910) np (s910 _ _ hp9) hl9 (by decide) SC.cl SC.n7 fun H11 fs11 s11 k11 hp11 hl11 _ o11 => ?_⟩
    have k711 : Kp p H7 H11 := k79.trans ((Kp.same s910).trans k11)
    clear k11 s910 k79
    -- around
    refine ⟨_, rfl, ar, rfl, ⟨_, sq (s11 _ _ har)⟩, fun D4 nD4 => ?_⟩
    refine lc_it (walk_list (K := K) (a := ar) (xs := items)) (fun j H' => Same H11 H' ∧ ∃ out, H' D4 = some (.lst out) ∧ out.length ≤ j) ⟨same_upd nD4, [], upd_same, Nat.le_refl _⟩ (fun j H' _ ⟨s, _⟩ => sq (s _ _ (s11 _ _ har))) ?_ ?_
    · rintro j y H8 H' hj ⟨s6, out, hD, hol⟩ ⟨rfl, ey⟩
      have s06 := s11.trans s6
      obtain ⟨t, ra, hd, rfl, ht, hrow⟩ := (hit y (List.mem_of_getElem? ey)).mono s06
      have hj100 : j < 100 := by omega
      refine ⟨t, _, rfl, sqt ht, rfl, _, _, rfl, _, _, rfl, rfl, rfl, ?_⟩
      exact ⟨_, rfl, out, hD, szlt (by omega), same_mut s6 nD4, _, upd_same, by rw [List.length_append]; exact Nat.add_le_add_right hol 1⟩
    rintro H12 ⟨s1112, _, _, _⟩
    refine ⟨_, rfl, setF (s11.trans s1112) np (s1112 _ _ hp11) hl11 (by decide) SC.cl SC.n8 fun H13 fs13 s13 k13 hp13 hl13 _ o13 => ?_⟩
    have k713 : Kp p H7 H13 := k711.trans ((Kp.same s1112).trans k13)
    have kL := k7.trans k713
    clear k13 s1112 k711
    have hlk : fs13.lookup ("loops" : Str) = some (V.ref D) := by
      rw [o13 _ (by decide), o11 _ (by decide), o9 _ (by decide), lk7]
    have hD13 := hLp2 kL
    -- counters
    have hp6 := (s5.trans s56)
    have hp6' := s56 _ _ hp5
    refine ⟨_, rfl, p, CS, dx, fs13, _, rfl, hp13, SC.cl, SC.n5, hlk, D, rfl, ⟨_, sq hD13⟩, fun D5 nD5 => ?_⟩
    refine lc_it (walk_list (K := K) (a := D) (xs := loops)) (fun j H' => Same H13 H' ∧ ∃ out, H' D5 = some (.lst out) ∧ out.length ≤ j) ⟨same_upd nD5, [], upd_same, Nat.le_refl _⟩ (fun j H' _ ⟨s, _⟩ => sq (s _ _ hD13)) ?_ ?_
    · rintro j y H8 H' hj ⟨s6, out, hD, hol⟩ ⟨rfl, ey⟩
      obtain ⟨q, x, xs, rfl, hn, hq⟩ := hLa y (List.mem_of_getElem? ey)
      have qp : q ≠ p := ne_of hq hp6' (by intro z; cases z)
      have hq13 := s6 _ _ (kL _ _ qp hq)
      exact ⟨rfl, _, rfl, q, _, _, _, rfl, rfl, sqt hq13, atI_nat (j := 0) rfl, out, hD, szlt (by omega), same_mut s6 nD5, _, upd_same, by rw [List.length_append]; exact Nat.add_le_add_right hol 1⟩
    rintro H14 ⟨s1314, out, hD5, _⟩
    refine ⟨D5, out, rfl, .inl hD5, fun H15 l s15 _ hl5 => ?_⟩
    have s1315 := s1314.trans s15
    exact ⟨_, rfl, setF (s13.trans s1315) np (s1315 _ _ hp13) hl13 (by decide) SC.cl SC.n9 fun H16 fs16 s16 _ _ _ _ _ => hk H16 s16⟩
end
end K1

namespace K1
open PySem PySem.Spec PyProof.Rows L2 Ls
inductive NdT : Nat → PyData → Prop where
  | loop {n : Nat} {c lo hi b : PyData} {bs : List PyData} (h : ∀ x ∈ bs, NdT n x) : NdT (n + 1) (.tuple [.str "loop", c, lo, hi, b, .tuple bs])
  | run {n : Nat} {l st t rs : PyData} : NdT (n + 1) (.tuple [.str "run", l, st, t, rs])
  | test {n : Nat} {rows bs : List PyData} (h : ∀ x ∈ bs, NdT n x) : NdT (n + 1) (.tuple [.str "test", .tuple rows, .tuple bs])
def ndT : Nat → PyData → Bool
  | n + 1, .tuple [.str x, _, _, _, _, .tuple bs] => decide (V.str x = V.str "loop") && bs.all (ndT n)
  | _ + 1, .tuple [.str x, _, _, _, _] => decide (V.str x = V.str "run")
  | n + 1, .tuple [.str x, .tuple _, .tuple bs] => decide (V.str x = V.str "test") && bs.all (ndT n)
  | _, _ => false
theorem ndT_of : ∀ (n : Nat) (d : PyData), ndT n d = true → NdT n d := by
  intro n
  induction n with
  | zero => intro d h; simp [ndT] at h
  | succ n ih =>
    intro d h
    unfold ndT at h
    split at h
    · simp only [Bool.and_eq_true, List.all_eq_true] at h
      rename_i e
      cases e
      cases dstr h.1
      exact .loop fun x hx => ih x (h.2 x hx)
    · rename_i e
      cases e
      cases dstr h
      exact .run
    · simp only [Bool.and_eq_true, List.all_eq_true] at h
      rename_i e
      cases e
      cases dstr h.1
      exact .test fun x hx => ih x (h.2 x hx)
    · cases h
def spGather (n : Nat) : Sp := fun vs H Q _ => ∃ (N : Addr → Prop) (v : V) (ds : List PyData) (pt ar : Addr) (ps items : List V), vs = [v, .ref pt, .ref ar] ∧ Dt N H v (.tuple ds) ∧ (∀ x ∈ ds, Nd n x) ∧ (∀ x ∈ ds, NdT n x) ∧ H pt = some (.tup ps) ∧ ps.length + n ≤ 100 ∧ H ar = some (.lst items) ∧ items.length + n ≤ 100 ∧
  (∀ y ∈ items, AroundAt N H y) ∧ (∀ a, H a = none → N a) ∧ (ds.flatMap (frmOf n)).length ≤ 100000 ∧ ∀ H' l xs, Same H H' → H l = none → H' l = some (.lst xs) → xs.length = (ds.flatMap (frmOf n)).length → Q (.ref l) H'
section
variable {P : Program} {w : World} {K : PySem.W.Frag} {mg : Str → Option Value} {base : Heap} {f CS CN : Addr} {fd : FuncData} {k : Nat}
theorem sc_u_gather : FnScope ["body", "path", "around", "found", "at", "node"] ["body", "path", "around"] (defScope s_u_gather) := ⟨rfl, rfl, rfl, by decide +kernel, rfl, by decide +kernel, by decide +kernel⟩
theorem ok_gather (n : Nat) (F : FnP K "_gather" s_u_gather [] f fd) (G : Facts mg) (C_body_of : Cal P w K mg base 1 "body_of" spBodyOf []) (M_Statement : Mak P w K mg base 1 "Statement" CS (spStmt CS) []) (C_gather : ∀ m, n = m + 1 → Cal P w K mg base (m + 3) "_gather" (spGather m) []) (c0 : n = 0 → Cal P w K mg base 1 "_gather" spNo []) : FnOk P w K mg base CX0 (n + 3) f fd ["body", "path", "around"] (spGather n) := by
  refine F.ok sc_u_gather (fun vs H Q E h => ?_) (fun cdv A outer s H vs Q E hr h => ?_)
  · obtain ⟨N, v, ds, pt, ar, ps, items, rfl, _⟩ := h
    rfl
  · obtain ⟨N, v, ds, pt, ar, ps, items, rfl, hd, hn, hnT, hpt, hps, har, hit, hitA, hN, hsz, hk⟩ := h
    have hu := hu_of hr
    obtain ⟨spc, lv, hlv, C_u_gather, hspc⟩ : ∃ (spc : Sp) (lv : Nat), lv ≤ n + 2 ∧ Cal P w K mg base lv "_gather" spc [] ∧ ∀ m, n = m + 1 → spc = spGather m := by
      cases n with
      | zero => exact ⟨_, _, by omega, c0 rfl, fun m e => by omega⟩
      | succ m =>
        refine ⟨_, _, Nat.le_refl _, C_gather m rfl, fun m' e => ?_⟩
        cases e
        rfl
    refine ⟨_, PSs.nox (pss_cons (ps_set (i := 3) sc_u_gather.nd rfl (.inl rfl) (pe_lst pa_nil))
      (pss_cons (ps_for PassesOwn.never rfl (kpi_enumT K (by rfl) G.enumerate_ (pa_cons (pv 0) pa_nil)) (kpg_tup K rfl (pgs_cons (pg_name (i := 4) sc_u_gather.nd rfl (by first | exact .inl rfl | exact .inr rfl)) (pgs_cons (pg_name (i := 5) sc_u_gather.nd rfl (by first | exact .inl rfl | exact .inr rfl)) pgs_nil)))
        (pss_one (ps_if (pt_cmpR op_eq (pe_ix (kIxT K) (pv 5) pe_int (fun _ _ => rfl)) pe_str (nomark _)) (pss_one (ps_expr (pe_bm PySem.F.plainAttrs_list PySem.F.slot_list_append PySem.F.type_list_append mt_append (pv 3) (pa_cons (pe_mk M_Statement hr (by omega) (by rfl) (pa_cons (pv 5) (pa_cons (pe_op kCatT (pv 1) (pe_tup (pa_cons (pv 4) pa_nil))) (pa_cons (pv 2) pa_nil)))) pa_nil)))) (pss_one (ps_expr (pe_bm PySem.F.plainAttrs_list PySem.F.slot_list_extend PySem.F.type_list_extend mt_extend (pv 3) (pa_cons (pe_c C_u_gather hr (by omega) (by rfl) (pa_cons (pe_c C_body_of hr (by omega) (by rfl) (pa_cons (pv 5) pa_nil)) (pa_cons (pe_op kCatT (pv 1) (pe_tup (pa_cons (pv 4) pa_nil))) (pa_cons (pe_op op_cat (pv 2) (pe_lst (pa_cons (pe_tup (pa_cons (pv 5) (pa_cons (pe_op kCatT (pv 1) (pe_tup (pa_cons (pv 4) pa_nil))) pa_nil))) pa_nil))) pa_nil)))) pa_nil)))))))
      (pss_one (ps_ret (pv 3))))), ?_⟩
    cases hd with
    | @tup a xs _ n0 e h =>
      have hl := h.len
      refine ⟨by show 0 ≤ sizeLine; decide, fun D nD => ?_⟩
      have h' := h.off nD
      have s1 := same_upd nD (o := .lst [])
      have hD1 : (upd H D (.lst [])) D = some (.lst []) := upd_same
      generalize upd H D (.lst []) = H1 at s1 hD1 ⊢
      refine ⟨_, rfl, a, _, rfl, sqt (s1 _ _ e), ?_⟩
      refine for_it (walk_enumT (K := K) (a := a) (xs := xs)) (fun i σ H' => ∃ z4 z5 out, σ = [some (.ref a), some (.ref pt), some (.ref ar), some (.ref D), z4, z5] ∧ Same H H' ∧ H' D = some (.lst out) ∧ out.length = ((ds.take i).flatMap (frmOf n)).length) ⟨_, _, [], rfl, s1, hD1, rfl⟩ (fun i σ H' _ ⟨_, _, _, _, s, _⟩ => sqt (s _ _ e)) ?_ ?_
      · rintro i y σ H9 H2 hi ⟨z4, z5, out, rfl, s2, hD2, hol⟩ hY
        cases hY with | intro T' hY =>
        obtain ⟨y1, y2, rfl, nT, rfl, e1, e2⟩ := hY
        rw [hl] at hi
        obtain ⟨v', hv, hvd⟩ := h.get (List.getElem?_eq_getElem hi)
        cases e1
        have e2 : xs[i]? = some y2 := e2
        rw [hv] at e2
        cases e2
        have hx := hn _ (List.getElem_mem hi)
        have hxT := hnT _ (List.getElem_mem hi)
        have s3 := s2.trans (same_upd nT (o := .tup [V.int (i : Nat), y2]))
        have hT : (upd H9 T' (.tup [V.int (i : Nat), y2])) T' = some (.tup [V.int (i : Nat), y2]) := upd_same
        have hD3 := (same_upd nT (o := .tup [V.int (i : Nat), y2])) _ _ hD2
        generalize upd H9 T' (.tup [V.int (i : Nat), y2]) = H3 at s3 hT hD3
        have hvd2 := hvd.mono s3
        have hle : ((ds.take (i + 1)).flatMap (frmOf n)).length ≤ 100000 := by
          have : (ds.flatMap (frmOf n)).length = ((ds.take (i + 1)).flatMap (frmOf n)).length + ((ds.drop (i + 1)).flatMap (frmOf n)).length := by
            rw [← List.length_append, ← List.flatMap_append, List.take_append_drop]
          omega
        have hsn : (ds.take (i + 1)).flatMap (frmOf n) = (ds.take i).flatMap (frmOf n) ++ frmOf n ds[i] := by rw [tsn hi, List.flatMap_append]; simp
        rw [hsn, List.length_append] at hle
        have fin : ∀ (us : List V) (H4 : Hp) (z4 z5 : Option V), Same H3 H4 → us.length = (frmOf n ds[i]).length → ∃ z4' z5' out', ([some (.ref a), some (.ref pt), some (.ref ar), some (.ref D), z4, z5] : L2.St) = [some (.ref a), some (.ref pt), some (.ref ar), some (.ref D), z4', z5'] ∧ Same H (upd H4 D (.lst (out ++ us))) ∧ (upd H4 D (.lst (out ++ us))) D = some (.lst out') ∧ out'.length = ((ds.take (i + 1)).flatMap (frmOf n)).length := fun us H4 z4 z5 s4 hus =>
          ⟨z4, z5, _, rfl, same_mut (s3.trans s4) nD, upd_same, by rw [hsn, List.length_append, List.length_append, hol, hus]⟩
        have hN3 : ∀ {H' : Hp}, Same H3 H' → ∀ a, H' a = none → N a := fun s a ha => hN a (s3.free (s.free ha))
        generalize ds[i] = dx at hx hxT hvd2 fin hle
        refine ⟨T', _, rfl, sqt hT, rfl, _, _, rfl, _, _, rfl, rfl, ?_⟩
        have hpt3 := s3 _ _ hpt
        have har3 := s3 _ _ har
        have hi100 : i < 1000 := by have := n0.2; omega
        cases hx with
        | @run m l st t rs ht hr' hl6 =>
          cases hvd2 with
          | @tup ax xx _ n2 ex hx2 =>
            have hv2 := Dt.tup n2 ex hx2
            obtain ⟨x0, _, rfl, g0, hx2⟩ := dt1 hx2
            cases Dt.str_ g0
            refine ⟨_, rfl, ax, _, _, _, rfl, rfl, sqt ex, atI_nat (j := 0) rfl, rfl, _, rfl, ?_⟩
            rw [decide_eq_true rfl]
            refine iteT ⟨_, rfl, .inl ⟨rfl, _, sq hD3⟩, _, rfl, _, rfl, _, rfl, by show 1 ≤ sizeLine; decide, fun p np => ?_⟩
            have t1 := same_upd np (o := .tup [V.int (i : Nat)])
            refine ⟨pt, p, ps, _, rfl, rfl, t1 _ _ hpt3, upd_same, szl (by show ps.length + 1 ≤ 1000000; omega), fun H4 q s4 _ hq => ?_⟩
            have t4 := t1.trans s4
            refine ⟨_, rfl, fun x dx nx ndx hne => ?_⟩
            have s45 : Same H4 (upd (upd H4 dx (.own x)) x (.ins CS dx [])) := same_mut (same_upd ndx) nx
            refine ⟨N, H4, x, dx, ar, _, _, _, _, _, _, _, items, rfl, s45, nx, upd_same, hv2.mono t4, t4 _ _ har3, by omega, fun y hy => ((hitA y hy).mono s3).mono t4, fun H5 s5 => ⟨rfl, ?_⟩⟩
            have t5 := t4.trans s5
            refine ⟨D, out, .ref x, rfl, rfl, t5 _ _ hD3, szlt (by rw [hol]; omega), ?_⟩
            exact fin [.ref x] H5 _ _ t5 rfl
        | @loop m c lo hi b bs hb =>
          have es := hspc m rfl
          subst es
          have hbT : ∀ x ∈ bs, NdT m x := by
            cases hxT with
            | loop h => exact h
          cases hvd2 with
          | @tup ax xx _ n2 ex hx2 =>
            have hv2 := Dt.tup n2 ex hx2
            obtain ⟨x0, _, rfl, g0, hx2⟩ := dt1 hx2
            cases Dt.str_ g0
            refine ⟨_, rfl, ax, _, _, _, rfl, rfl, sqt ex, atI_nat (j := 0) rfl, rfl, _, rfl, ?_⟩
            rw [decide_eq_false (by decide)]
            refine iteF ⟨_, rfl, .inl ⟨rfl, _, sq hD3⟩, _, rfl, N, _, _, _, rfl, hv2, .loop hb, hN3 (Same.refl _), fun H4 vb t4 hvb => ?_⟩
            refine ⟨_, rfl, _, rfl, by show 1 ≤ sizeLine; decide, fun p np => ?_⟩
            have t5 := t4.trans (same_upd np (o := .tup [V.int (i : Nat)]))
            have hvb5 := hvb.mono (same_upd np (o := .tup [V.int (i : Nat)]))
            refine ⟨pt, p, ps, _, rfl, rfl, t5 _ _ hpt3, upd_same, szl (by show ps.length + 1 ≤ 1000000; omega), fun H6 q s6 _ hq => ?_⟩
            have t6 := t5.trans s6
            have hvb6 := hvb5.mono s6
            refine ⟨_, rfl, _, rfl, _, rfl, _, rfl, by show 1 ≤ sizeLine; decide, fun p2 np2 => ?_⟩
            have u7 := same_upd np2 (o := .tup [V.int (i : Nat)])
            refine ⟨pt, p2, ps, _, rfl, rfl, u7 _ _ (t6 _ _ hpt3), upd_same, szl (by show ps.length + 1 ≤ 1000000; omega), fun H8 q2 s8 _ hq2 => ⟨by show 2 ≤ sizeLine; decide, fun tt ntt => ⟨by show 1 ≤ sizeLine; decide, fun li nli => ?_⟩⟩⟩
            have w9 := same_upd ntt (o := .tup [V.ref ax, .ref q2])
            have w10 := same_upd nli (o := .lst [.ref tt])
            have u10 := (u7.trans s8).trans (w9.trans w10)
            have htt : (upd (upd H8 tt (.tup [V.ref ax, .ref q2])) li (.lst [.ref tt])) tt = some (.tup [V.ref ax, .ref q2]) := w10 _ _ upd_same
            have hli : (upd (upd H8 tt (.tup [V.ref ax, .ref q2])) li (.lst [.ref tt])) li = some (.lst [.ref tt]) := upd_same
            generalize upd (upd H8 tt (.tup [V.ref ax, .ref q2])) li (.lst [.ref tt]) = H10 at u10 htt hli ⊢
            have t10 := t6.trans u10
            refine ⟨ar, li, items, [.ref tt], rfl, rfl, t10 _ _ har3, hli, szl (by show items.length + 1 ≤ 1000000; omega), fun ar2 nar2 => ?_⟩
            have w11 := same_upd nar2 (o := .lst (items ++ [.ref tt]))
            have t11 := t10.trans w11
            refine ⟨N, vb, bs, q, ar2, _, items ++ [.ref tt], rfl, (hvb6.mono u10).mono w11, hb, hbT, (u10.trans w11) _ _ hq, by rw [List.length_append]; show ps.length + 1 + m ≤ 100; omega, upd_same, by rw [List.length_append]; show items.length + 1 + m ≤ 100; omega, fun y hy => ?_, hN3 t11, by simp only [frmOf] at hle; omega, fun H12 l us s12 nl hl12 hul => ?_⟩
            · rcases List.mem_append.mp hy with hy | hy
              · exact ((hitA y hy).mono s3).mono t11
              · rw [List.mem_singleton.mp hy]
                exact ⟨tt, ax, _, rfl, w11 _ _ htt, .inl ⟨_, _, _, _, _, hv2.mono t11⟩⟩
            · have t12 := t11.trans s12
              refine ⟨D, l, out, us, rfl, rfl, t12 _ _ hD3, hl12, szl (by simp only [frmOf] at hle; omega), ?_⟩
              exact fin us H12 _ _ t12 (by simp only [frmOf]; exact hul)
        | @test m rows bs hb =>
          have es := hspc m rfl
          subst es
          obtain ⟨rowsL, rfl, hbT⟩ : ∃ rowsL, rows = .tuple rowsL ∧ ∀ x ∈ bs, NdT m x := by
            cases hxT with
            | test h => exact ⟨_, rfl, h⟩
          cases hvd2 with
          | @tup ax xx _ n2 ex hx2 =>
            have hv2 := Dt.tup n2 ex hx2
            obtain ⟨x0, _, rfl, g0, hx2⟩ := dt1 hx2
            cases Dt.str_ g0
            refine ⟨_, rfl, ax, _, _, _, rfl, rfl, sqt ex, atI_nat (j := 0) rfl, rfl, _, rfl, ?_⟩
            rw [decide_eq_false (by decide)]
            refine iteF ⟨_, rfl, .inl ⟨rfl, _, sq hD3⟩, _, rfl, N, _, _, _, rfl, hv2, .test hb, hN3 (Same.refl _), fun H4 vb t4 hvb => ?_⟩
            refine ⟨_, rfl, _, rfl, by show 1 ≤ sizeLine; decide, fun p np => ?_⟩
            have t5 := t4.trans (same_upd np (o := .tup [V.int (i : Nat)]))
            have hvb5 := hvb.mono (same_upd np (o := .tup [V.int (i : Nat)]))
            refine ⟨pt, p, ps, _, rfl, rfl, t5 _ _ hpt3, upd_same, szl (by show ps.length + 1 ≤ 1000000; omega), fun H6 q s6 _ hq => ?_⟩
            have t6 := t5.trans s6
            have hvb6 := hvb5.mono s6
            refine ⟨_, rfl, _, rfl, _, rfl, _, rfl, by show 1 ≤ sizeLine; decide, fun p2 np2 => ?_⟩
            have u7 := same_upd np2 (o := .tup [V.int (i : Nat)])
            refine ⟨pt, p2, ps, _, rfl, rfl, u7 _ _ (t6 _ _ hpt3), upd_same, szl (by show ps.length + 1 ≤ 1000000; omega), fun H8 q2 s8 _ hq2 => ⟨by show 2 ≤ sizeLine; decide, fun tt ntt => ⟨by show 1 ≤ sizeLine; decide, fun li nli => ?_⟩⟩⟩
            have w9 := same_upd ntt (o := .tup [V.ref ax, .ref q2])
            have w10 := same_upd nli (o := .lst [.ref tt])
            have u10 := (u7.trans s8).trans (w9.trans w10)
            have htt : (upd (upd H8 tt (.tup [V.ref ax, .ref q2])) li (.lst [.ref tt])) tt = some (.tup [V.ref ax, .ref q2]) := w10 _ _ upd_same
            have hli : (upd (upd H8 tt (.tup [V.ref ax, .ref q2])) li (.lst [.ref tt])) li = some (.lst [.ref tt]) := upd_same
            generalize upd (upd H8 tt (.tup [V.ref ax, .ref q2])) li (.lst [.ref tt]) = H10 at u10 htt hli ⊢
            have t10 := t6.trans u10
            refine ⟨ar, li, items, [.ref tt], rfl, rfl, t10 _ _ har3, hli, szl (by show items.length + 1 ≤ 1000000; omega), fun ar2 nar2 => ?_⟩
            have w11 := same_upd nar2 (o := .lst (items ++ [.ref tt]))
            have t11 := t10.trans w11
            refine ⟨N, vb, bs, q, ar2, _, items ++ [.ref tt], rfl, (hvb6.mono u10).mono w11, hb, hbT, (u10.trans w11) _ _ hq, by rw [List.length_append]; show ps.length + 1 + m ≤ 100; omega, upd_same, by rw [List.length_append]; show items.length + 1 + m ≤ 100; omega, fun y hy => ?_, hN3 t11, by simp only [frmOf] at hle; omega, fun H12 l us s12 nl hl12 hul => ?_⟩
            · rcases List.mem_append.mp hy with hy | hy
              · exact ((hitA y hy).mono s3).mono t11
              · rw [List.mem_singleton.mp hy]
                exact ⟨tt, ax, _, rfl, w11 _ _ htt, .inr ⟨_, _, hv2.mono t11⟩⟩
            · have t12 := t11.trans s12
              refine ⟨D, l, out, us, rfl, rfl, t12 _ _ hD3, hl12, szl (by simp only [frmOf] at hle; omega), ?_⟩
              exact fin us H12 _ _ t12 (by simp only [frmOf]; exact hul)
      · rintro σ H2 ⟨z4, z5, out, rfl, s2, hD2, hol⟩
        rw [hl, List.take_length] at hol
        exact ⟨_, rfl, hk H2 D out s2 nD hD2 hol⟩
end
end K1

namespace K1
open PySem PySem.Spec PyProof.Rows L2 Ls
def spStatements (CN : Addr) : Sp := fun vs H Q _ => ∃ (N : Addr → Prop) (p : Addr) (sz given : PyData) (rm : Rooms) (kept : PyData) (ds : List PyData), vs = [.ref p] ∧ NestAt N CN H p sz given rm kept (.tuple ds) ∧ (∀ x ∈ ds, Nd 40 x) ∧ (∀ x ∈ ds, NdT 40 x) ∧ (∀ a, H a = none → N a) ∧ (ds.flatMap (frmOf 40)).length ≤ 100000 ∧
  ∀ H' l xs, Same H H' → H' l = some (.lst xs) → xs.length = (ds.flatMap (frmOf 40)).length → Q (.ref l) H'
def placeOk (n : Nat) : PyData → Bool
  | .int i => decide ((0 : Int) ≤ i) && decide (i < (n : Int))
  | _ => false
def spPlaceX (CN CP : Addr) : Sp := fun vs H _ E => ∃ (N : Addr → Prop) (p : Addr) (v : V) (sz given : PyData) (rm : Rooms) (kept place : PyData) (ds : List PyData), vs = [.ref p, v] ∧ NestAt N CN H p sz given rm kept (.tuple ds) ∧ (∀ x ∈ ds, Nd 40 x) ∧ (∀ x ∈ ds, NdT 40 x) ∧ (∀ a, H a = none → N a) ∧ (ds.flatMap (frmOf 40)).length ≤ 100000 ∧
  Dt N H v place ∧ placeOk (ds.flatMap (frmOf 40)).length place = false ∧ ∀ H', Same H H' → E (.ref CP) none H'
section
variable {P : Program} {w : World} {K : PySem.W.Frag} {mg : Str → Option Value} {base : Heap} {f CS CN CP CE CL : Addr} {fd : FuncData} {k : Nat}
theorem sc_statements : FnScope ["nest"] ["nest"] (defScope s_statements) := ⟨rfl, rfl, rfl, by decide +kernel, rfl, by decide +kernel, by decide +kernel⟩
theorem ok_statements (F : FnP K "statements" s_statements [] f fd) (G : Facts mg) (NC : NCls K CN) (C_u_gather : Cal P w K mg base 43 "_gather" (spGather 40) []) : FnOk P w K mg base CX0 44 f fd ["nest"] (spStatements CN) := by
  refine F.ok sc_statements (fun vs H Q E h => ?_) (fun cdv A outer s H vs Q E hr h => ?_)
  · obtain ⟨N, p, sz, given, rm, kept, ds, rfl, _⟩ := h
    rfl
  · obtain ⟨N, p, sz, given, rm, kept, ds, rfl, hn, hnd, hndT, hN, hle, hk⟩ := h
    have hu := hu_of hr
    refine ⟨_, PSs.nox (pss_one (ps_ret (pe_c C_u_gather hr (by decide) (by rfl) (pa_cons (kfld K (pv 0)) (pa_cons (pe_tup pa_nil) (pa_cons (pe_lst pa_nil) pa_nil)))))), ?_⟩
    obtain ⟨dx, fs, v1, v2, v4, v5, rd, ad, ll, kvs, kvA, kvL, ysA, ysL, hp, l1, l2, l3, l4, l5, l6, l7, d1, d2, d4, d5, hrd, eA, pA, sA, hA, eL, pL, sL, hL, no⟩ := hn.ex
    refine ⟨_, rfl, p, CN, dx, fs, _, rfl, hp, NC.cl, NC.nB, l5, by show 0 ≤ sizeLine; decide, fun pt npt => ⟨by show 0 ≤ sizeLine; decide, fun ar nar => ?_⟩⟩
    have t1 := same_upd npt (o := .tup [])
    have t2 := same_upd nar (o := .lst [])
    have hpt := t2 _ _ (upd_same (H := H) (a := pt) (o := .tup []))
    have har : (upd (upd H pt (.tup [])) ar (.lst [])) ar = some (.lst []) := upd_same
    have t := t1.trans t2
    generalize upd (upd H pt (.tup [])) ar (.lst []) = H2 at hpt har t
    exact ⟨N, _, ds, pt, ar, [], [], rfl, d5.mono t, hnd, hndT, hpt, by decide, har, by decide, fun y hy => (by cases hy), fun a e => hN a (t.free e), hle, fun H' l xs s nl hl hx => hk H' l xs (t.trans s) hl hx⟩
theorem sc_statement_at : FnScope ["nest", "place", "found"] ["nest", "place"] (defScope s_statement_at) := ⟨rfl, rfl, rfl, by decide +kernel, rfl, by decide +kernel, by decide +kernel⟩
theorem ok_statement_at (F : FnP K "statement_at" s_statement_at [] f fd) (G : Facts mg) (NP : ExcF K mg "NoPlace" CP) (C_statements : Cal P w K mg base 44 "statements" (spStatements CN) []) : FnOk P w K mg base (L2.CX P w) 45 f fd ["nest", "place"] (spPlaceX CN CP) := by
  refine F.ok sc_statement_at (fun vs H Q E h => ?_) (fun cdv A outer s H vs Q E hr h => ?_)
  · obtain ⟨N, p, v, sz, given, rm, kept, place, ds, rfl, _⟩ := h
    rfl
  · obtain ⟨N, p, v, sz, given, rm, kept, place, ds, rfl, hn, hnd, hndT, hN, hle, hpl, hbad, hk⟩ := h
    have hu := hu_of hr
    refine ⟨_, (pss_cons (ps_set (i := 2) sc_statement_at.nd rfl (.inl rfl) (pe_c C_statements hr (by decide) (by rfl) (pa_cons (pv 0) pa_nil)))
      (pss_cons (ps_if (PW.pt (pw_or (pt_not (pt_val (pe_callB (kIsi K) (by rfl) G.isinstance_ (by decide +kernel) (pa_cons (pv 1) (pa_cons (pe_ty "int" (by rfl) G.int_ (by decide +kernel)) pa_nil))))) (pw_or (pt_val (pe_callB (kIsi K) (by rfl) G.isinstance_ (by decide +kernel) (pa_cons (pv 1) (pa_cons (pe_ty "bool" (by rfl) G.bool_ (by decide +kernel)) pa_nil)))) (pw_or1 (pt_not (pt_chain op_le op_lt pe_int (pv 1) (pe_callB (kLen K) (by rfl) G.len_ PySem.boot_len (pa_cons (pv 2) pa_nil)))))))) (pss_one (ps_raise rfl (takes_of rfl rfl rfl rfl) (pmk_own PySem.F.excBase_ValueError NP.xP NP.gP NP.kP (raises_own NP.bP NP.tP) (by rfl)))) pss_nil)
      (pss_one (ps_ret (pe_ix (kIxL K) (pv 2) (pv 1) (fun _ _ => rfl)))))), ?_⟩
    refine ⟨_, rfl, N, p, sz, given, rm, kept, ds, rfl, hn, hnd, hndT, hN, hle, fun H1 l xs s1 hl hxl => ?_⟩
    have hpl := hpl.mono s1
    obtain ⟨t, ty, ki⟩ := hpl.ty (K := K) (T := "int") (by simp)
    refine ⟨_, rfl, _, _, _, _, _, rfl, .ty "int", ty, ki, _, rfl, ?_⟩
    cases hpl with
    | lst n e h => exact iteT (iteT (hk H1 s1))
    | tup n e h => exact iteT (iteT (hk H1 s1))
    | non => exact iteT (iteT (hk H1 s1))
    | str _ => exact iteT (iteT (hk H1 s1))
    | bl b' =>
      obtain ⟨t, ty, ki⟩ := (Dt.bl (N := N) (H := H1) b').ty (K := K) (T := "bool") (by simp)
      refine iteF ⟨_, rfl, _, _, _, _, _, rfl, .ty "bool", ty, ki, _, rfl, ?_⟩
      exact iteT (iteT (hk H1 s1))
    | int i =>
      obtain ⟨t, ty, ki⟩ := (Dt.int (N := N) (H := H1) i).ty (K := K) (T := "bool") (by simp)
      refine iteF ⟨_, rfl, _, _, _, _, _, rfl, .ty "bool", ty, ki, _, rfl, iteF ?_⟩
      refine ⟨_, rfl, _, _, rfl, rfl, _, rfl, ?_⟩
      have hb : (decide ((0 : Int) ≤ i) && decide (i < ((ds.flatMap (frmOf 40)).length : Int))) = false := hbad
      by_cases g1 : (0 : Int) ≤ i
      case neg =>
        rw [decide_eq_false g1]
        exact iteF ⟨_, rfl, iteT (hk H1 s1)⟩
      rw [decide_eq_true g1]
      refine iteT ⟨_, rfl, l, xs, rfl, .inl (sq hl), _, _, rfl, rfl, _, rfl, ?_⟩
      rw [hxl]
      rw [decide_eq_true g1, Bool.true_and] at hb
      rw [hb]
      exact iteT (hk H1 s1)
theorem sc_bounds : FnScope ["nest", "place"] ["nest", "place"] (defScope s_bounds) := ⟨rfl, rfl, rfl, by decide +kernel, rfl, by decide +kernel, by decide +kernel⟩
theorem ok_bounds (F : FnP K "bounds" s_bounds [] f fd) (G : Facts mg) (C_statement_at : CalX P w K mg base 45 "statement_at" (spPlaceX CN CP) []) (C_system_of_run : Cal P w K mg base 1 "system_of_run" spNo []) : FnOk P w K mg base (L2.CX P w) 46 f fd ["nest", "place"] (spPlaceX CN CP) := by
  refine F.ok sc_bounds (fun vs H Q E h => ?_) (fun cdv A outer s H vs Q E hr h => ?_)
  · obtain ⟨N, p, v, sz, given, rm, kept, place, ds, rfl, _⟩ := h
    rfl
  · obtain ⟨N, p, v, sz, given, rm, kept, place, ds, rfl, h⟩ := h
    have hu := hu_of hr
    refine ⟨_, (pss_one (ps_ret (pe_c C_system_of_run hr (by decide) (by rfl) (pa_cons (pv 0) (pa_cons (pe_cx C_statement_at (takes_of rfl rfl rfl rfl) (fun _ _ _ _ h => h) hr (by decide) (by rfl) (pa_cons (pv 0) (pa_cons (pv 1) pa_nil))) pa_nil))))), ?_⟩
    exact ⟨_, rfl, _, rfl, _, rfl, N, p, v, sz, given, rm, kept, place, ds, rfl, h⟩
end
end K1

namespace K1
open PySem PySem.Spec PyProof.Rows L2 Ls
def spNowhere (CN : Addr) : Sp := fun vs H Q _ => ∃ (N : Addr → Prop) (p : Addr) (v1 v2 : V) (sz given : PyData) (rm : Rooms) (kept path place : PyData) (ds : List PyData), vs = [.ref p, v1, v2] ∧ NestAt N CN H p sz given rm kept (.tuple ds) ∧ (∀ x ∈ ds, Nd 40 x) ∧ (∀ x ∈ ds, NdT 40 x) ∧ (∀ a, H a = none → N a) ∧ (ds.flatMap (frmOf 40)).length ≤ 100000 ∧
  Dt N H v1 path ∧ Dt N H v2 place ∧ nodeAt path ds = none ∧ (decide (PyData.depth path ≤ 64) && PyData.eqv path path) = true ∧ placeOk (ds.flatMap (frmOf 40)).length place = false ∧ ∀ H', Same H H' → Q (.bl true) H'
theorem NestAt.mono {N : Addr → Prop} {CN : Addr} {H H' : Hp} {p : Addr} {sz given : PyData} {rm : Rooms} {kept body : PyData} (h : NestAt N CN H p sz given rm kept body) (s : Same H H') : NestAt N CN H' p sz given rm kept body := by
  obtain ⟨dx, fs, v1, v2, v4, v5, rd, ad, ll, kvs, kvA, kvL, ysA, ysL, hp, l1, l2, l3, l4, l5, l6, l7, d1, d2, d4, d5, hrd, eA, pA, sA, hA, eL, pL, sL, hL, no⟩ := h.ex
  exact ⟨dx, fs, v1, v2, v4, v5, rd, ad, ll, kvs, kvA, kvL, ysA, ysL, s _ _ hp, l1, l2, l3, l4, l5, l6, l7, d1.mono s, d2.mono s, d4.mono s, d5.mono s, s _ _ hrd, eA, pA, sA, s _ _ hA, eL, pL, sL, s _ _ hL, no⟩
section
variable {P : Program} {w : World} {K : PySem.W.Frag} {mg : Str → Option Value} {base : Heap} {f CS CN CP CE CL : Addr} {fd : FuncData} {k : Nat}
theorem sc_u_law_nowhere : FnScope ["nest", "path", "place", "error"] ["nest", "path", "place"] (defScope s_u_law_nowhere) := ⟨rfl, rfl, rfl, by decide +kernel, rfl, by decide +kernel, by decide +kernel⟩
theorem ok_nowhere (F : FnP K "_law_nowhere" s_u_law_nowhere [] f fd) (G : Facts mg) (NC : NCls K CN) (NN : ExcS P w K mg base "NoNode" CE "path") (EN : ErrF K CE CL) (NP : ExcF K mg "NoPlace" CP) (EP : ErrF K CP CL) (hCL : mg "LoopshedsError" = some (.ref CL))
    (C_node_at : CalX P w K mg base 3 "node_at" (spNodeAt CN CE) []) (C_bounds : CalX P w K mg base 46 "bounds" (spPlaceX CN CP) []) : FnOk P w K mg base CX0 48 f fd ["nest", "path", "place"] (spNowhere CN) := by
  refine F.ok sc_u_law_nowhere (fun vs H Q E h => ?_) (fun cdv A outer s H vs Q E hr h => ?_)
  · obtain ⟨N, p, v1, v2, sz, given, rm, kept, path, place, ds, rfl, _⟩ := h
    rfl
  · obtain ⟨N, p, v1, v2, sz, given, rm, kept, path, place, ds, rfl, hn, hnd, hndT, hN, hle, hpath, hplace, hno, hdep, hbad, hk⟩ := h
    have hu := hu_of hr
    refine ⟨_, PSs.nox (pss_cons (ps_try_as (i := 3) rfl rfl sc_u_law_nowhere.nd rfl rfl ⟨rfl, by decide, .inl NN.gC⟩ takes0 (fun W pn xe tk _ => (pss_cons (ps_expr (pe_cxS C_node_at tk hr (by decide) (by rfl) (pa_cons (pv 0) (pa_cons (pv 1) pa_nil))))
        (pss_one (ps_ret pe_bl)))) (fun a oe cls d pn hz hd => (pss_one (ps_if (PW.pt (pw_or (pt_cmpR (kNeD K hr.units) (pe_xf NN.xf NN.no hz hd (pv 3)) (pv 1) (nomark _)) (pw_or1 (pt_not (pt_val (pe_callB (call_isD hz hd) (by rfl) G.isinstance_ (by decide +kernel) (pa_cons (pv 3) (pa_cons (pe_glob (v := .ref CL) (by rfl) hCL rfl) pa_nil)))))))) (pss_one (ps_ret pe_bl)) pss_nil))))
      (pss_one (ps_try_as (i := 3) rfl rfl sc_u_law_nowhere.nd rfl rfl ⟨rfl, by decide, .inl NP.gP⟩ takes0 (fun W pn xe tk _ => (pss_cons (ps_expr (pe_cxS C_bounds tk hr (by decide) (by rfl) (pa_cons (pv 0) (pa_cons (pv 2) pa_nil))))
        (pss_one (ps_ret pe_bl)))) (fun a oe cls d pn hz hd => (pss_one (ps_ret (pe_callB (call_isN hz hd) (by rfl) G.isinstance_ (by decide +kernel) (pa_cons (pv 3) (pa_cons (pe_glob (v := .ref CL) (by rfl) hCL rfl) pa_nil))))))))), ?_⟩
    refine ⟨_, rfl, _, rfl, N, p, v1, sz, given, rm, kept, path, ds, rfl, hn, hnd, hN, hpath, fun _ H1 d s1 nd hd => ⟨true, EN.eE, fun _ e he => ?_, fun z => nomatch z⟩, fun nd e => by rw [hno] at e; cases e⟩
    simp only [Bool.and_eq_true, decide_eq_true_eq] at hdep
    have hp1 := hpath.mono s1
    have sh : PySem.SeqAt.shaped path = true := by
      unfold PySem.SeqAt.shaped
      rw [hp1.lay, decide_eq_true hdep.1]
      rfl
    refine ⟨_, rfl, rfl, rfl, d, _, _, rfl, hd, rfl, _, rfl, path, path, hp1.dp, hp1.dp, sh, sh, _, rfl, ?_⟩
    rw [hdep.2]
    refine iteF ⟨_, rfl, .ref CL, .ref CL, true, CE, d, _, rfl, rfl, EN.ec, rfl, hd, fun u r => r, EN.kL, _, rfl, iteF ?_⟩
    refine ⟨_, rfl, _, rfl, N, p, v2, sz, given, rm, kept, place, ds, rfl, hn.mono s1, hnd, hndT, fun a e => hN a (s1.free e), hle, hplace.mono s1, hbad, fun H2 s2 => ⟨true, EP.eE, fun _ e2 he2 => ?_, fun z => nomatch z⟩⟩
    exact ⟨_, rfl, CP, rfl, rfl, EP.ec, .ref CL, .ref CL, true, rfl, fun u r => r, EP.kL, hk H2 (s1.trans s2)⟩
end
end K1

namespace K1
open PySem PySem.Spec PyProof.Rows L2 Ls
/-! ### what is plain -/
abbrev szN : PyData := .tuple [.str "n"]
abbrev nilT : PyData := .tuple []
abbrev rm0 : Rooms := .dict []
def aroundsD (node : PyData) : List PyData := [.tuple [node], .tuple [runN, node], .tuple [.tuple [.str "test", .tuple [.tuple [.str "n", .str "0", .int 3]], .tuple [runN, node]]], .tuple [.tuple [.str "loop", .str "k", .tuple [.tuple [.str "0", .int 0]], .tuple [.tuple [.str "n", .int 0]], .bool true, .tuple [node]], runN]]
theorem nodes_bad : (badNodesD.all fun d => (aroundsD d).all fun a => !okHead szN nilT rm0 nilT a) = true := by decide +kernel
theorem heads_bad : (headsD.all fun q => !okHead (partD q.1 0 q.2 (.tuple [.str "n"])) (partD q.1 1 q.2 (.tuple [])) (partR q.1 q.2) (partD q.1 3 q.2 (.tuple [.str "a"])) (partD q.1 4 q.2 bodyN)) = true := by decide +kernel
theorem deep_bad : (!okHead szN nilT rm0 nilT (.tuple [deepD 40]) && !okHead szN nilT rm0 nilT (.tuple [deepD 90])) = true := by decide +kernel
def twoD : List PyData := [.tuple [.str "run", .str "g", .tuple [], .tuple [.str "z", .tuple []], .tuple []], .tuple [.str "run", .str "h", .tuple [], .tuple [.str "z", .tuple [.tuple [.str "n", .int 0]]], .tuple []]]
def threeD : List PyData := [.tuple [.str "run", .str "g", .tuple [], .tuple [.str "z", .tuple []], .tuple []], .tuple [.str "run", .str "g", .tuple [.tuple [.str "n", .int 0]], .tuple [.str "z", .tuple []], .tuple []], .tuple [.str "run", .str "g", .tuple [], .tuple [.str "z", .tuple []], .tuple [.tuple [.str "z", .tuple []]]]]
end K1

namespace K1
open PySem PySem.Spec PyProof.Rows L2 Ls
/-! ### more expressions that are data -/
section
variable {X : Cx} {e e2 e3 e4 e5 : Expr} {es : List Expr} {sl : Nat} {N : Addr → Prop} {Γ : List (Nat × PyData)} {d d2 : PyData} {ds ds2 : List PyData}
theorem de_pow {i j : Int} {p1 p2 p3 p4 pos} (c : (decide (0 ≤ j) && (decide (j ≤ 1000000) && decide (i.natAbs < 2 ^ 64))) = true) : PE X (.BinOp (.Constant (.int i) p1 p2) .Pow (.Constant (.int j) p3 p4) pos) (tD sl N Γ (.int (i ^ j.toNat))) :=
  pe_weak (pe_op op_pow pe_int pe_int) fun σ H Q q => by
    simp only [Bool.and_eq_true, decide_eq_true_eq] at c
    exact ⟨_, _, rfl, rfl, c, q.2 _ H (Same.refl H) (.int _)⟩
theorem de_subI {i j : Int} {p3 p4 pos} (h : PE X e (tD sl N Γ (.int i))) : PE X (.BinOp e .Sub (.Constant (.int j) p3 p4) pos) (tD sl N Γ (.int (i - j))) :=
  pe_weak (pe_op op_sub h pe_int) fun σ H Q q => ⟨q.1, fun v H1 s1 hd => by
    cases hd
    exact ⟨_, _, rfl, rfl, q.2 _ H1 s1 (.int _)⟩⟩
theorem de_deep {n : Nat} (h : PE X e (tCall spDeep [] E0 (tCons (tC (.int (n : Int))) tNil))) (hn : n ≤ 1000) : PE X e (tD sl N Γ (deepD n)) :=
  pe_weak h fun σ H Q q => ⟨N, n, rfl, hn, q.1.n, fun H' v s hv => q.2 v H' s hv⟩
theorem de_ixL (k : Nat) {K : PySem.W.Frag} {i : Expr} {pos : Pos} (h : PE X (.Subscript e i pos) (tOp (rIxL K) (tD sl N Γ (.list ds)) (tC (.int (k : Int))))) (hk : ds[k]? = some d) : PE X (.Subscript e i pos) (tD sl N Γ d) :=
  pe_weak h fun σ H Q q => ⟨q.1, fun v H1 s1 hd => by
    cases hd with
    | @lst a xs _ n e h =>
      obtain ⟨v, hv, hvd⟩ := h.get hk
      exact ⟨a, xs, _, v, rfl, rfl, sq e, atI_nat hv, q.2 v H1 s1 hvd⟩⟩
theorem de_takeL (k : Nat) {K : PySem.W.Frag} {p2 pos : Pos} {hi : Expr} (h : PE X (.Subscript e (.Slice none (some hi) none p2) pos) (tSl (rSlL K) (tD sl N Γ (.list ds)) tNoPart (tPart (tC (.int (k : Int)))))) : PE X (.Subscript e (.Slice none (some hi) none p2) pos) (tD sl N Γ (.list (ds.take k))) :=
  pe_weak h fun σ H Q q => ⟨q.1, fun v H1 s1 hd => by
    cases hd with
    | @lst a xs _ n e h =>
      refine ⟨k, rfl, a, xs, rfl, sq e, fun p np => q.2 _ _ (s1.trans (same_upd np)) (.lst ⟨q.1.n _ (s1.free np), ?_⟩ (by rw [upd_same, cut_upto]) ((h.take k).mono (same_upd np)))⟩
      rw [List.length_take]; have := n.2; omega⟩
theorem rm_2 {k1 k2 : Key} {pos : Pos} {a b : Expr} (h1 : PE X a (tC (kV k1))) (v1 : PE X e (tD sl N Γ d)) (h2 : PE X b (tC (kV k2))) (v2 : PE X e2 (tD sl N Γ d2)) (ho : (keyOk k1 && (keyOk k2 && decide (k2 ≠ k1))) = true) : PE X (.Dict [some a, some b] [e, e2] pos) (tRm sl N Γ (.dict [(k1, d), (k2, d2)])) :=
  pe_weak (pe_disp (pps_cons h1 v1 (pps_cons h2 v2 pps_nil)) rfl rfl (fun z => by cases z) (Nat.le_of_ble_eq_true rfl)) fun σ H Q q p np => by
    have s1 := same_upd np (o := .dK [])
    simp only [Bool.and_eq_true, decide_eq_true_eq] at ho
    obtain ⟨o1, o2, o3⟩ := ho
    refine ⟨q.1.mono s1, fun u H2 s2 hd => ⟨(q.1.mono s1).mono s2, fun u2 H3 s3 hd2 => ⟨s3 _ _ (s2 _ _ upd_same), [(k1, u), (k2, u2)], rfl, Nat.le_of_ble_eq_true rfl, ?_⟩⟩⟩
    have hp : H3 p = some (.dK []) := s3 _ _ (s2 _ _ upd_same)
    have hoff : ∀ b xs, H3 b = some (.lst xs) ∨ H3 b = some (.tup xs) → b ≠ p := fun b xs q z => by
      rw [z, hp] at q
      rcases q with q | q <;> cases q
    have hm : mergeK [] [(k1, u), (k2, u2)] = [(k1, u), (k2, u2)] := by
      show putK (putK [] k1 u) k2 u2 = _
      rw [putK_new (kvs := []) u rfl, putK_new]
      · rfl
      · show valV [(k1, u)] k2 = none
        rw [valV_neg (fun z => o3 z.symm)]
        rfl
    rw [hm]
    have kp : ∀ b o, (N b ∧ b ≠ p) → H3 b = some o → (upd H3 p (.dK [(k1, u), (k2, u2)])) b = some o := fun b o hb e => by rw [upd_ne hb.2]; exact e
    refine q.2 _ _ (same_mut (s1.trans (s2.trans s3)) np) (.dict (q.1.n p np) upd_same (.cons ⟨rfl, ((hd.mono s3).offg hoff).to (fun _ q => q.1) kp⟩ (.cons ⟨rfl, (hd2.offg hoff).to (fun _ q => q.1) kp⟩ .nil)) (fun q' hq => ?_) (Nat.le_of_ble_eq_true rfl))
    rcases List.mem_cons.mp hq with rfl | hq
    · exact keyOk.dt o1
    · rw [List.mem_singleton.mp hq]
      exact keyOk.dt o2
/-- the five parts of a nest -/
def tP5 (sl : Nat) {α : Type} (Γ : α → List (Nat × PyData)) (sz given : α → PyData) (rm : α → Rooms) (kept body : α → PyData) : TA := fun σ H Q => ∃ N x, EnvD sl N (Γ x) σ H ∧ ∀ v1 v2 v3 v4 v5 H', Same H H' → Dt N H' v1 (sz x) → Dt N H' v2 (given x) → RmAt N H' v3 (rm x) → Dt N H' v4 (kept x) → Dt N H' v5 (body x) → Q [v1, v2, v3, v4, v5] H'
theorem pa5 {α : Type} {Γ : α → List (Nat × PyData)} {sz given : α → PyData} {rm : α → Rooms} {kept body : α → PyData} (h1 : ∀ N x, PE X e (tD sl N (Γ x) (sz x))) (h2 : ∀ N x, PE X e2 (tD sl N (Γ x) (given x))) (h3 : ∀ N x, PE X e3 (tRm sl N (Γ x) (rm x))) (h4 : ∀ N x, PE X e4 (tD sl N (Γ x) (kept x))) (h5 : ∀ N x, PE X e5 (tD sl N (Γ x) (body x)))
    (s1 : starEach [e, e2, e3, e4, e5] X.env = (false, eval e X.env) :: starEach [e2, e3, e4, e5] X.env := by rfl) (s2 : starEach [e2, e3, e4, e5] X.env = (false, eval e2 X.env) :: starEach [e3, e4, e5] X.env := by rfl) (s3 : starEach [e3, e4, e5] X.env = (false, eval e3 X.env) :: starEach [e4, e5] X.env := by rfl) (s4 : starEach [e4, e5] X.env = (false, eval e4 X.env) :: starEach [e5] X.env := by rfl) (s5 : starEach [e5] X.env = (false, eval e5 X.env) :: starEach [] X.env := by rfl) :
    PA X [e, e2, e3, e4, e5] (tP5 sl Γ sz given rm kept body) :=
  ⟨fun pos pins s σ H Q I ⟨N, x, q⟩ => (pa_cons (h1 N x) (pa_cons (h2 N x) (pa_cons (h3 N x) (pa_cons (h4 N x) (pa_cons (h5 N x) pa_nil s5) s4) s3) s2) s1).run pos pins s σ H Q I
    ⟨q.1, fun v1 H1 t1 d1 => ⟨q.1.mono t1, fun v2 H2 t2 d2 => ⟨q.1.mono (t1.trans t2), fun v3 H3 t3 d3 => ⟨q.1.mono (t1.trans (t2.trans t3)), fun v4 H4 t4 d4 => ⟨q.1.mono (t1.trans (t2.trans (t3.trans t4))), fun v5 H5 t5 d5 =>
      q.2 v1 v2 v3 v4 v5 H5 (t1.trans (t2.trans (t3.trans (t4.trans t5)))) (d1.mono (t2.trans (t3.trans (t4.trans t5)))) (d2.mono (t3.trans (t4.trans t5))) (d3.mono (t4.trans t5)) (d4.mono t5) d5⟩⟩⟩⟩⟩⟩
/-- _law_refused(..) of parts that are bad -/
def tRf (sl : Nat) {α : Type} (Γ : α → List (Nat × PyData)) (sz given : α → PyData) (rm : α → Rooms) (kept body : α → PyData) : TE := fun σ H Q => ∃ N x, EnvD sl N (Γ x) σ H ∧ (okHead (sz x) (given x) (rm x) (kept x) (body x) = true → NestSz (body x) (rm x)) ∧ nestOk (sz x) (given x) (rm x) (kept x) (body x) = false ∧ ∀ H', Same H H' → Q (.bl true) H'
theorem pe_rf {α : Type} {Γ : α → List (Nat × PyData)} {sz given : α → PyData} {rm : α → Rooms} {kept body : α → PyData} (h : PE X e (tCall spLRefused [] E0 (tP5 sl Γ sz given rm kept body))) : PE X e (tRf sl Γ sz given rm kept body) :=
  pe_weak h fun σ H Q ⟨N, x, env, hsz, hno, hk⟩ => ⟨N, x, env, fun v1 v2 v3 v4 v5 H' s d1 d2 d3 d4 d5 => ⟨N, v1, v2, v3, v4, v5, sz x, given x, rm x, kept x, body x, rfl, d1, d2, d3, d4, d5, fun a e => env.n a (s.free e), hsz, hno, fun H2 s2 => hk H2 (s.trans s2)⟩⟩
end
end K1

namespace K1
open PySem PySem.Spec PyProof.Rows L2 Ls
/-! ### the good nest -/
abbrev manyD : PyData := .tuple [.str "loop", .str "abcdefghijkl", .tuple ((List.range 12).map fun at_ : Nat => (.tuple [.str "0", (.int (at_ : Nat))] : PyData)), .tuple ((List.range 12).map fun at_ : Nat => (.tuple [.str "n", .int ((at_ : Int) - 6)] : PyData)), .bool true, .tuple [.tuple [.str "test", .tuple ((List.range 12).map fun at_ : Nat => (.tuple [.str "n", .str "0", (.int (at_ : Nat))] : PyData)), .tuple [runN]]]]
abbrev szG : PyData := .tuple [.str "n", .str "m_2", .str "x3"]
abbrev givenG : PyData := .tuple ((List.range 12).map fun at_ : Nat => (.tuple [.str "n", .str "0", (.int (at_ : Nat))] : PyData))
abbrev rmG : Rooms := .dict [((.inr ("z" : Str) : Key), .tuple (List.replicate 4 [.tuple [.tuple [.str "0", .int 0], .tuple [.str "x3", .int 9999]]]).flatten), ((.inr ("free" : Str) : Key), .tuple [])]
def namesL : List Str := ["a0", "a1", "a2", "a3", "a4", "a5", "a6", "a7", "a8"]
abbrev keptG : PyData := .tuple (namesL.map PyData.str)
abbrev bodyL : List PyData := [manyD, deepD 39]
abbrev bodyG : PyData := .tuple bodyL
theorem nest_ok : nestOk szG givenG rmG keptG bodyG = true := by decide +kernel
theorem nest_acc : decide (((itemsD bodyG).flatMap (accOf 40)).length ≤ 50000) = true := by decide +kernel
theorem nest_frm : decide (((itemsD bodyG).flatMap (frmOf 40)).length = 2) = true := by decide +kernel
theorem nest_keysA : (oneForm (pairsN bodyG rmG)).map (fun kv => (kv.map (·.1), ([("a" : Str), "free", "z"] : List Str).map fun y => intOf ((kv.lookup y).getD .none))) = some ([("z" : Str), "a", "free"], [(0 : Int), 0, 4]) := by decide +kernel
theorem nest_keysL : (oneForm (formsN bodyG)).map (fun kv => kv.map (·.1)) = some [("g" : Str), "f"] := by decide +kernel
theorem nest_sz : NestSz bodyG rmG := by
  refine ⟨of_decide_eq_true nest_acc, by have := of_decide_eq_true nest_frm; omega, fun kv e => ?_, fun kv e => ?_⟩
  · have := nest_keysA
    rw [e] at this
    have := congrArg (fun o => (o.map fun p => p.1.length)) this
    simp at this
    omega
  · have := nest_keysL
    rw [e] at this
    have := congrArg (fun o => (o.map fun p => p.length)) this
    simp at this
    omega
theorem nest_nd : ∀ x ∈ bodyL, Nd 40 x := by
  have h : (bodyL.all fun d => isNode 40 d ["n", "m_2", "x3"]) = true := by decide +kernel
  exact fun x hx => nd_of 40 x _ (List.all_eq_true.mp h x hx)
theorem nest_ndT : ∀ x ∈ bodyL, NdT 40 x := by
  have h : (bodyL.all fun d => ndT 40 d) = true := by decide +kernel
  exact fun x hx => ndT_of 40 x (List.all_eq_true.mp h x hx)
def pathsD : List PyData := [.tuple [], .tuple [.int 2], .tuple [.int 0, .int 1], .tuple [.int 0, .int 0, .int 0, .int 0], .tuple [.int (-1)], .tuple [.bool true], .list [.int 0], .int 0, .none, .tuple [.str "0"], .tuple [.int 0, .int 0, .int 1], .tuple ([.int 1] ++ (List.replicate 40 [.int 0]).flatten)]
def placesD : List PyData := [.int 2, .int (-1), .bool true, .none, .str "0", .int (10 ^ 30), .tuple [.int 0]]
def isNoneP : Option PyData → Bool
  | none => true
  | some _ => false
theorem paths_bad : (pathsD.all fun p => isNoneP (nodeAt p bodyL) && (decide (PyData.depth p ≤ 64) && PyData.eqv p p)) = true := by decide +kernel
theorem places_bad : (placesD.all fun p => !placeOk 2 p) = true := by decide +kernel
theorem two_bad : ((!nestOk szN nilT rm0 nilT (.tuple twoD) && okHead szN nilT rm0 nilT (.tuple twoD)) && (!nestOk szN nilT (.dict [((.inr ("z" : Str) : Key), .tuple [.tuple [.tuple [.str "0", .int 0], .tuple [.str "n", .int 0]]])]) nilT (.tuple (twoD.take 1)))) = true := by decide +kernel
end K1

namespace K1
open PySem PySem.Spec PyProof.Rows L2 Ls
/-! ### the law, from its end -/
def lawN : List Str := ["script", "draw", "run", "turn", "node", "around", "parts", "two", "three", "names", "at", "many", "nest", "paths", "path", "place"]
theorem node_run : nodeAt (.tuple [.int 0, .int 0, .int 0]) bodyL = some runN := by kernel_rfl
theorem node_deep : nodeAt (.tuple ([.int 1] ++ (List.replicate 39 [.int 0]).flatten)) bodyL = some runF := by kernel_rfl
theorem run_self : (PyData.eqv runN runN && decide (PyData.depth runN ≤ 64)) = true := by decide +kernel
theorem nest0_ok : nestOk szN nilT rm0 nilT nilT = true := by decide +kernel
theorem nest0_sz : NestSz nilT rm0 := by
  refine ⟨by decide +kernel, by decide +kernel, fun kv e => ?_, fun kv e => ?_⟩
  · cases e
    exact by decide
  · cases e
    exact by decide
/-- what stands there in the law -/
structure LC (K : PySem.W.Frag) (H : Hp) (dr : Addr) (ns : List Int) (v2 : V) : Prop where
  d : Drw K H dr ns
  r : Dt (fun b => b ≠ dr) H v2 runN
theorem LC.mono {K : PySem.W.Frag} {H H' : Hp} {dr : Addr} {ns : List Int} {v2 : V} (c : LC K H dr ns v2) (s : Same H H') : LC K H' dr ns v2 := ⟨c.d.mono s, c.r.mono s⟩
theorem LC.n {K : PySem.W.Frag} {H : Hp} {dr : Addr} {ns : List Int} {v2 : V} (c : LC K H dr ns v2) : ∀ a, H a = none → a ≠ dr := fun a e z => by
  obtain ⟨sc, k, h1, _⟩ := c.d.ex
  rw [← z, e] at h1
  cases h1
section
variable {P : Program} {w : World} {K : PySem.W.Frag} {mg : Str → Option Value} {base : Heap} {f CS CN CB CP CE CL : Addr} {fd : FuncData} {k : Nat}
theorem sc_law : FnScope ["script", "draw", "run", "turn", "node", "around", "parts", "two", "three", "names", "at", "many", "nest", "paths", "path", "place"] ["script"] (defScope s_law) := ⟨rfl, rfl, rfl, by decide +kernel, rfl, by decide +kernel, by decide +kernel⟩
theorem law14 (G : Facts mg) (NC : NCls K CN) (MX_Nest : MakX P w K mg base 131 "Nest" CN (spNest CN CB)) (C_u_law_nowhere : Cal P w K mg base 48 "_law_nowhere" (spNowhere CN) []) (C_node_at : CalX P w K mg base 3 "node_at" (spNodeAt CN CE) [])
    {f : Addr} {cdv : Value} {A : Around} {outer : List Env} {s : Shared} {H0 : Hp} {E : XK} (hr : Room 133 (A.deeper (envOfC "law" (defScope s_law) s.heap.objs.size f cdv))) :
    ∃ t, PSs (cxOf CX0 P w K mg base lawN "law" (defScope s_law) f cdv A outer s H0 E).nox ((defBody s_law).drop 14) t ∧
      ∀ (D : Ends) (H : Hp) (dr p : Addr) (ns : List Int) (v2 v14 v15 : V) (path place : PyData) (y0 y1 y3 y4 y5 y6 y7 y8 y9 y10 y11 y13 : Option V), LC K H dr ns v2 → NestAt (fun b => b ≠ dr) CN H p szG givenG rmG keptG bodyG → Dt (fun b => b ≠ dr) H v14 path → path ∈ pathsD → Dt (fun b => b ≠ dr) H v15 place → place ∈ placesD → (∀ H', D.rt (.bl true) H') →
        t D [y0, y1, some v2, y3, y4, y5, y6, y7, y8, y9, y10, y11, some (.ref p), y13, some v14, some v15] H := by
  have hu := hu_of hr
  refine ⟨_, (pss_one (ps_ret (pe_and (pe_c C_u_law_nowhere hr (by decide) (by rfl) (pa_cons (pv 12) (pa_cons (pv 14) (pa_cons (pv 15) pa_nil)))) (pe_and (pe_cmpR (kEqD K hr.units) (pe_cx C_node_at takes0 (fun _ _ _ _ h => h) hr (by decide) (by rfl) (pa_cons (pv 12) (pa_cons (dX 16 (fun _ : Unit => []) (fun _ _ => (de_tup (das_cons de_int (das_cons de_int (das_cons de_int das_nil))) (Nat.le_of_ble_eq_true rfl)))) pa_nil))) (pv 2) (nomark _)) (pe_and (pe_cmpR op_eq (pe_ix (kIxT K) (pe_cx C_node_at takes0 (fun _ _ _ _ h => h) hr (by decide) (by rfl) (pa_cons (pv 12) (pa_cons (dX 16 (fun _ : Unit => []) (fun _ _ => (de_cat (de_tup (das_cons de_int das_nil) (Nat.le_of_ble_eq_true rfl)) (de_rep (k := 39) (K := K) (de_tup (das_cons de_int das_nil) (Nat.le_of_ble_eq_true rfl)) pe_int (by decide +kernel)) (by decide +kernel)))) pa_nil))) pe_int (fun _ _ => rfl)) pe_str (nomark _)) (pe_one (pe_cmpR (kEqE (K := K) hr.units) (kfld K (pe_mkx MX_Nest takes0 (fun _ _ _ _ h => h) hr (by decide) (by rfl) (pa5 (sl := 16) (Γ := fun _ : Unit => []) (fun _ _ => (de_tup (das_cons (de_str (by decide +kernel)) das_nil) (Nat.le_of_ble_eq_true rfl))) (fun _ _ => (de_tup das_nil (Nat.le_of_ble_eq_true rfl))) (fun _ _ => rm_0) (fun _ _ => (de_tup das_nil (Nat.le_of_ble_eq_true rfl))) (fun _ _ => (de_tup das_nil (Nat.le_of_ble_eq_true rfl)))))) (pe_tup pa_nil) (nomark _)))))))), ?_⟩
  intro D H dr p ns v2 v14 v15 path place y0 y1 y3 y4 y5 y6 y7 y8 y9 y10 y11 y13 c hn h14 hp14 h15 hp15 hk
  have hpb := List.all_eq_true.mp paths_bad _ hp14
  have hlb := List.all_eq_true.mp places_bad _ hp15
  simp only [Bool.and_eq_true] at hpb
  have hno : nodeAt path bodyL = none := by
    cases q : nodeAt path bodyL with
    | none => rfl
    | some _ => rw [q] at hpb; cases hpb.1
  have hl2 : (bodyL.flatMap (frmOf 40)).length = 2 := of_decide_eq_true nest_frm
  have hpl : placeOk (bodyL.flatMap (frmOf 40)).length place = false := by
    rw [hl2]
    cases q : placeOk 2 place with
    | false => rfl
    | true => rw [q] at hlb; cases hlb
  refine ⟨_, rfl, _, rfl, _, rfl, _, p, v14, v15, _, _, _, _, path, place, bodyL, rfl, hn, nest_nd, nest_ndT, c.n, by omega, h14, h15, hno, by rw [hpb.2.1, hpb.2.2]; rfl, hpl, fun H1 s1 => ⟨_, rfl, iteT ?_⟩⟩
  have c := c.mono s1
  have hn := hn.mono s1
  refine ⟨_, rfl, fun b => b ≠ dr, (), EnvD.nil c.n (Nat.le_of_ble_eq_true rfl), fun u H2 s2 hu2 => ?_⟩
  have c := c.mono s2
  have hn := hn.mono s2
  refine ⟨_, p, u, _, _, _, _, _, bodyL, rfl, hn, nest_nd, c.n, hu2, fun e => (nomatch (e.symm.trans node_run)), fun nd end' H3 v3 s3 hv3 => ?_⟩
  have end' := Option.some.inj (end'.symm.trans node_run)
  subst end'
  have c := c.mono s3
  have hn := hn.mono s3
  have hrs := run_self
  simp only [Bool.and_eq_true, decide_eq_true_eq] at hrs
  have sh : ∀ {N : Addr → Prop} {H : Hp} {v : V}, Dt N H v runN → PySem.SeqAt.shaped runN = true := fun h => by
    unfold PySem.SeqAt.shaped
    rw [h.lay, decide_eq_true hrs.2]
    rfl
  refine ⟨_, rfl, runN, runN, hv3.dp, c.r.dp, sh hv3, sh hv3, ?_⟩
  rw [hrs.1]
  refine ⟨_, rfl, iteT ?_⟩
  refine ⟨_, rfl, fun b => b ≠ dr, (), EnvD.nil c.n (Nat.le_of_ble_eq_true rfl), fun u2 H4 s4 hu4 => ?_⟩
  have c := c.mono s4
  have hn := hn.mono s4
  refine ⟨_, p, u2, _, _, _, _, _, bodyL, rfl, hn, nest_nd, c.n, hu4, fun e => (nomatch (e.symm.trans node_deep)), fun nd end' H5 v5 s5 hv5 => ?_⟩
  have end' := Option.some.inj (end'.symm.trans node_deep)
  subst end'
  have c := c.mono s5
  have hn := hn.mono s5
  cases hv5 with
  | @tup a5 xs5 _ n5 e5 h5 =>
  obtain ⟨x0, _, rfl, g0, h5⟩ := dt1 h5
  cases Dt.str_ g0
  refine ⟨a5, _, _, _, rfl, rfl, sqt e5, atI_nat (j := 0) rfl, rfl, ?_⟩
  rw [decide_eq_true rfl]
  refine ⟨_, rfl, iteT ?_⟩
  refine ⟨fun b => b ≠ dr, (), EnvD.nil c.n (Nat.le_of_ble_eq_true rfl), fun v1 v2' v3' v4 v5' H6 s6 d1 d2 d3 d4 d5 x dx nx ndx hne => ?_⟩
  have c := c.mono s6
  have s0 : Same H6 (upd (upd H6 dx (.own x)) x (.ins CN dx [])) := same_mut (same_upd ndx) nx
  refine ⟨_, H6, x, dx, v1, v2', v3', v4, v5', _, _, _, _, _, rfl, s0, nx, upd_same, d1, d2, d3, d4, d5, c.n, fun _ => nest0_sz, fun e => (nomatch (e.symm.trans nest0_ok)), fun _ H7 s7 hna => ⟨rfl, ?_⟩⟩
  obtain ⟨dx', fs, w1, w2, w4, w5, rd, ad, ll, kvs, kvA, kvL, ysA, ysL, hp, l1, l2, l3, l4, l5, l6, l7, d1, d2, d4, d5, _⟩ := hna.ex
  refine ⟨x, CN, dx', fs, _, rfl, hp, NC.cl, NC.nB, l5, by show 0 ≤ sizeLine; decide, fun b nb => ?_⟩
  have s8 := same_upd nb (o := .tup [])
  refine ⟨nilT, (d5.mono s8).dp, Dt.dp (N := fun _ => True) (.tup ⟨True.intro, Nat.zero_le _⟩ upd_same .nil), d5.lay, ?_⟩
  rw [eqv_nilT]
  exact hk _
end
end K1

namespace K1
open PySem PySem.Spec PyProof.Rows L2 Ls
theorem ltOf {k : Nat} {A : Around} (h : Room k A) : A.units < cLine := by have := hu_of h; omega
theorem NestAt.kp {K : PySem.W.Frag} {CN : Addr} {H H' : Hp} {dr p : Addr} {ns : List Int} {sz given : PyData} {rm : Rooms} {kept body : PyData} (h : NestAt (fun b => b ≠ dr) CN H p sz given rm kept body) (hd : Drw K H dr ns) (k : Kp dr H H') : NestAt (fun b => b ≠ dr) CN H' p sz given rm kept body := by
  obtain ⟨dx, fs, v1, v2, v4, v5, rd, ad, ll, kvs, kvA, kvL, ysA, ysL, hp, l1, l2, l3, l4, l5, l6, l7, d1, d2, d4, d5, hrd, eA, pA, sA, hA, eL, pL, sL, hL, no⟩ := h.ex
  obtain ⟨sc, c, e, _⟩ := hd.ex
  have q : ∀ {b : Addr} {o : HO}, H b = some o → o ≠ .lst [.ref sc, .int c] → H' b = some o := fun {b o} hb hn => k b o (fun z => by rw [z, e] at hb; injection hb with hb; exact hn hb.symm) hb
  have t : ∀ {v : V} {d : PyData}, Dt (fun b => b ≠ dr) H v d → Dt (fun b => b ≠ dr) H' v d := fun g => g.to (fun _ q => q) k
  refine ⟨dx, fs, v1, v2, v4, v5, rd, ad, ll, kvs, kvA, kvL, ysA, ysL, q hp (by intro z; cases z), l1, l2, l3, l4, l5, l6, l7, t d1, t d2, t d4, t d5, q hrd (by intro z; cases z), eA, pA, sA, q hA (by intro z; cases z), eL, pL, sL, q hL ?_, no⟩
  intro z
  injection z with z
  cases ysL with
  | nil => cases z
  | cons a r => cases z
theorem LC.kp {K : PySem.W.Frag} {H H' : Hp} {dr : Addr} {ns : List Int} {v2 : V} (c : LC K H dr ns v2) (k : Kp dr H H') (d : Drw K H' dr ns) : LC K H' dr ns v2 := ⟨d, c.r.to (fun _ q => q) k⟩
section
variable {P : Program} {w : World} {K : PySem.W.Frag} {mg : Str → Option Value} {base : Heap} {f CS CN CB CP CE CL : Addr} {fd : FuncData} {k : Nat}
theorem law11 (G : Facts mg) (NC : NCls K CN) (MX_Nest : MakX P w K mg base 131 "Nest" CN (spNest CN CB)) (C_u_law_nowhere : Cal P w K mg base 48 "_law_nowhere" (spNowhere CN) []) (C_node_at : CalX P w K mg base 3 "node_at" (spNodeAt CN CE) [])
    (C_u_law_pick : Cal P w K mg base 3 "_law_pick" (spPick K) []) (C_statements : Cal P w K mg base 44 "statements" (spStatements CN) []) (Pr_arrays : MetP P w K mg base 1 CN "arrays" (spArrays CN)) (Pr_labels : MetP P w K mg base 1 CN "labels" (spLabels CN))
    {f : Addr} {cdv : Value} {A : Around} {outer : List Env} {s : Shared} {H0 : Hp} {E : XK} (hr : Room 133 (A.deeper (envOfC "law" (defScope s_law) s.heap.objs.size f cdv))) :
    ∃ t, PSs (cxOf CX0 P w K mg base lawN "law" (defScope s_law) f cdv A outer s H0 E).nox ((defBody s_law).drop 11) t ∧
      ∀ (D : Ends) (H : Hp) (dr p : Addr) (ns : List Int) (v2 : V) (y0 y3 y4 y5 y6 y7 y8 y9 y10 y11 y13 y14 y15 : Option V), LC K H dr ns v2 → NestAt (fun b => b ≠ dr) CN H p szG givenG rmG keptG bodyG → (∀ H', D.rt (.bl true) H') →
        t D [y0, some (.ref dr), some v2, y3, y4, y5, y6, y7, y8, y9, y10, y11, some (.ref p), y13, y14, y15] H := by
  have hu := hu_of hr
  obtain ⟨t14, p14, h14⟩ := law14 (CN := CN) (CB := CB) (CE := CE) (outer := outer) (H0 := H0) (E := E) G NC MX_Nest C_u_law_nowhere C_node_at hr
  refine ⟨_, (pss_cons (ps_if (PW.pt (pw_or (pt_cmpR (op_ne_dictA (ltOf hr)) (pe_mp Pr_arrays hr (by decide) (pv 12)) (pe_disp (pps_cons pe_str pe_int (pps_cons pe_str pe_int (pps_cons pe_str pe_int pps_nil))) (by rfl) (by rfl) (fun z => by cases z) (by decide)) (nomark _)) (pw_or (pt_cmpR (kNeD K hr.units) (pe_callTy (call_listD rfl) (by rfl) G.list_ (by decide +kernel) (pa_cons (pe_mp Pr_arrays hr (by decide) (pv 12)) pa_nil)) (dX 16 (fun _ : Unit => []) (fun _ _ => (de_lst (das_cons (de_str (by decide +kernel)) (das_cons (de_str (by decide +kernel)) (das_cons (de_str (by decide +kernel)) das_nil))) (Nat.le_of_ble_eq_true rfl)))) (nomark _)) (pw_or (pt_cmpR (kNeD K hr.units) (pe_mp Pr_labels hr (by decide) (pv 12)) (dX 16 (fun _ : Unit => []) (fun _ _ => (de_lst (das_cons (de_str (by decide +kernel)) (das_cons (de_str (by decide +kernel)) das_nil)) (Nat.le_of_ble_eq_true rfl)))) (nomark _)) (pw_or1 (pt_cmpR op_ne (pe_callB (kLen K) (by rfl) G.len_ PySem.boot_len (pa_cons (pe_c C_statements hr (by decide) (by rfl) (pa_cons (pv 12) pa_nil)) pa_nil)) pe_int (nomark _))))))) (pss_one (ps_ret pe_bl)) pss_nil)
      (pss_cons (ps_set (i := 13) sc_law.nd rfl (.inl rfl) (dX 16 (fun _ : Unit => []) (fun _ _ => (de_lst (das_cons (de_tup das_nil (Nat.le_of_ble_eq_true rfl)) (das_cons (de_tup (das_cons de_int das_nil) (Nat.le_of_ble_eq_true rfl)) (das_cons (de_tup (das_cons de_int (das_cons de_int das_nil)) (Nat.le_of_ble_eq_true rfl)) (das_cons (de_tup (das_cons de_int (das_cons de_int (das_cons de_int (das_cons de_int das_nil)))) (Nat.le_of_ble_eq_true rfl)) (das_cons (de_tup (das_cons de_neg das_nil) (Nat.le_of_ble_eq_true rfl)) (das_cons (de_tup (das_cons de_bl das_nil) (Nat.le_of_ble_eq_true rfl)) (das_cons (de_lst (das_cons de_int das_nil) (Nat.le_of_ble_eq_true rfl)) (das_cons de_int (das_cons de_non (das_cons (de_tup (das_cons (de_str (by decide +kernel)) das_nil) (Nat.le_of_ble_eq_true rfl)) (das_cons (de_tup (das_cons de_int (das_cons de_int (das_cons de_int das_nil))) (Nat.le_of_ble_eq_true rfl)) (das_cons (de_cat (de_tup (das_cons de_int das_nil) (Nat.le_of_ble_eq_true rfl)) (de_rep (k := 40) (K := K) (de_tup (das_cons de_int das_nil) (Nat.le_of_ble_eq_true rfl)) pe_int (by decide +kernel)) (by decide +kernel)) das_nil)))))))))))) (Nat.le_of_ble_eq_true rfl)))))
      (pss_cons (ps_par (i := 14) (j := 15) (by rfl) sc_law.nd rfl rfl (by decide) rfl rfl (pa_cons (pe_c C_u_law_pick hr (by decide) (by rfl) (pa_cons (pv 1) (pa_cons (pv 13) pa_nil))) (pa_cons (pe_c C_u_law_pick hr (by decide) (by rfl) (pa_cons (pv 1) (pa_cons (dX 16 (fun _ : Unit => []) (fun _ _ => (de_lst (das_cons de_int (das_cons de_neg (das_cons de_bl (das_cons de_non (das_cons (de_str (by decide +kernel)) (das_cons (de_pow (by decide +kernel)) (das_cons (de_tup (das_cons de_int das_nil) (Nat.le_of_ble_eq_true rfl)) das_nil))))))) (Nat.le_of_ble_eq_true rfl)))) pa_nil))) pa_nil)) (by rfl))
      p14))), ?_⟩
  intro D H dr p ns v2 y0 y3 y4 y5 y6 y7 y8 y9 y10 y11 y13 y14 y15 c hn hk
  have insP : ∀ {H : Hp}, NestAt (fun b => b ≠ dr) CN H p szG givenG rmG keptG bodyG → ∃ dx fs, H p = some (.ins CN dx fs) := fun h => by
    obtain ⟨dx, fs, v1, v2, v4, v5, rd, ad, ll, kvs, kvA, kvL, ysA, ysL, hp, _⟩ := h.ex
    exact ⟨dx, fs, hp⟩
  -- the arrays
  have arr : ∀ {kvA : List (Str × PyData)} {ys : List Str}, oneForm (pairsN bodyG rmG) = some kvA → ys.Perm (kvA.map (·.1)) → sortedS ys = true → arrK kvA ys = [((Sum.inr ("a" : Str) : Key), V.int 0), ((Sum.inr ("free" : Str) : Key), V.int 0), ((Sum.inr ("z" : Str) : Key), V.int 4)] := fun {kvA ys} e pm so => by
    have h := nest_keysA
    rw [e] at h
    have h := Option.some.inj h
    have h1 : kvA.map (·.1) = [("z" : Str), "a", "free"] := congrArg Prod.fst h
    have h2 := congrArg Prod.snd h
    rw [h1] at pm
    have : ys = [("a" : Str), "free", "z"] := sorted_uniq pm (List.isPerm_iff.mp (by decide +kernel)) so (by decide +kernel)
    subst this
    simp only [List.map_cons, List.map_nil] at h2
    injection h2 with e1 h2
    injection h2 with e2 h2
    injection h2 with e3 h2
    simp only [arrK, List.map_cons, List.map_nil, e1, e2, e3]
  obtain ⟨dx, fs, hp⟩ := insP hn
  refine ⟨_, rfl, p, dx, fs, rfl, hp, _, p, _, _, _, _, _, rfl, hn, fun H1 l kvA ys s1 nl hl eA pA sA => ?_⟩
  rw [arr eA pA sA] at hl
  have c := c.mono s1
  have hn := hn.mono s1
  -- {'a': 0, ..}
  refine fun q nq => ⟨upd_same, [((Sum.inr ("a" : Str) : Key), V.int 0), ((Sum.inr ("free" : Str) : Key), V.int 0), ((Sum.inr ("z" : Str) : Key), V.int 4)], rfl, by decide, ?_⟩
  have lq : l ≠ q := ne_of_none hl nq
  have s2 : Same H1 (upd (upd H1 q (.dK [])) q (.dK (mergeK [] [((Sum.inr ("a" : Str) : Key), V.int 0), ((Sum.inr ("free" : Str) : Key), V.int 0), ((Sum.inr ("z" : Str) : Key), V.int 4)]))) := same_mut (same_upd nq) nq
  refine ⟨l, q, _, _, rfl, rfl, s2 _ _ hl, upd_same, by decide +kernel, by decide +kernel, _, rfl, iteF ?_⟩
  generalize upd (upd H1 q (.dK [])) q (.dK (mergeK [] [((Sum.inr ("a" : Str) : Key), V.int 0), ((Sum.inr ("free" : Str) : Key), V.int 0), ((Sum.inr ("z" : Str) : Key), V.int 4)])) = H2 at s2
  have c := c.mono s2
  have hn := hn.mono s2
  -- list(nest.arrays)
  obtain ⟨dx, fs, hp⟩ := insP hn
  refine ⟨_, rfl, p, dx, fs, rfl, hp, _, p, _, _, _, _, _, rfl, hn, fun H3 l2 kvA2 ys2 s3 nl2 hl2 eA2 pA2 sA2 => ?_⟩
  rw [arr eA2 pA2 sA2] at hl2
  refine ⟨l2, _, rfl, .inl hl2, fun l3 nl3 => ?_⟩
  have s4 := s3.trans (same_upd nl3 (o := .lst (([("a" : Str), "free", "z"] : List Str).map V.str)))
  have hl3 : (upd H3 l3 (.lst (([("a" : Str), "free", "z"] : List Str).map V.str))) l3 = some (.lst (([("a" : Str), "free", "z"] : List Str).map V.str)) := upd_same
  show tXp 16 _ _ _ (upd H3 l3 (.lst (([("a" : Str), "free", "z"] : List Str).map V.str))) _
  generalize upd H3 l3 (.lst (([("a" : Str), "free", "z"] : List Str).map V.str)) = H4 at s4 hl3
  have c := c.mono s4
  have hn := hn.mono s4
  refine ⟨fun b => b ≠ dr, (), EnvD.nil c.n (Nat.le_of_ble_eq_true rfl), fun u5 H5 s5 hu5 => ?_⟩
  have c := c.mono s5
  have hn := hn.mono s5
  refine ⟨.list (([("a" : Str), "free", "z"] : List Str).map PyData.str), _, .lst (sq (s5 _ _ hl3)) (dpStrs K _ _), hu5.dp, by decide +kernel, by decide +kernel, _, rfl, ?_⟩
  rw [show PyData.eqv (.list (([("a" : Str), "free", "z"] : List Str).map PyData.str)) (.list [.str "a", .str "free", .str "z"]) = true by decide +kernel]
  refine iteF ?_
  -- nest.labels
  obtain ⟨dx, fs, hp⟩ := insP hn
  refine ⟨_, rfl, p, dx, fs, rfl, hp, _, p, _, _, _, _, _, rfl, hn, fun H6 l6 kvL ys6 s6 nl6 hl6 eL pL sL => ?_⟩
  have hys : ys6 = [("f" : Str), "g"] := by
    have h := nest_keysL
    rw [eL] at h
    have h : kvL.map (·.1) = [("g" : Str), "f"] := Option.some.inj h
    rw [h] at pL
    exact sorted_uniq pL (List.isPerm_iff.mp (by decide +kernel)) sL (by decide +kernel)
  subst hys
  have c := c.mono s6
  have hn := hn.mono s6
  refine ⟨fun b => b ≠ dr, (), EnvD.nil c.n (Nat.le_of_ble_eq_true rfl), fun u7 H7 s7 hu7 => ?_⟩
  have c := c.mono s7
  have hn := hn.mono s7
  refine ⟨.list (([("f" : Str), "g"] : List Str).map PyData.str), _, .lst (sq (s7 _ _ hl6)) (dpStrs K _ _), hu7.dp, by decide +kernel, by decide +kernel, _, rfl, ?_⟩
  rw [show PyData.eqv (.list (([("f" : Str), "g"] : List Str).map PyData.str)) (.list [.str "f", .str "g"]) = true by decide +kernel]
  refine iteF ?_
  -- len(statements(nest))
  have hl2 : (bodyL.flatMap (frmOf 40)).length = 2 := of_decide_eq_true nest_frm
  refine ⟨_, rfl, _, p, _, _, _, _, bodyL, rfl, hn, nest_nd, nest_ndT, c.n, by omega, fun H8 l8 xs8 s8 hl8 hx8 => ⟨l8, xs8, rfl, .inl (sq hl8), ?_⟩⟩
  rw [hx8, hl2]
  refine ⟨rfl, _, rfl, ?_⟩
  rw [decide_eq_true (show V.int ((2 : Nat) : Int) = V.int 2 from rfl)]
  refine iteF ?_
  have c := c.mono s8
  have hn := hn.mono s8
  -- paths
  refine ⟨fun b => b ≠ dr, (), EnvD.nil c.n (Nat.le_of_ble_eq_true rfl), fun u9 H9 s9 hu9 => ?_⟩
  have c := c.mono s9
  have hn := hn.mono s9
  cases hu9 with
  | @lst it xs9 _ n9 e9 h9 =>
  have h9l := h9.len
  refine ⟨_, rfl, _, rfl, dr, it, ns, xs9, rfl, c.d, e9, n9.1, fun z => (by rw [z] at h9l; cases h9l), fun H10 j u10 kp10 d10 hj => ?_⟩
  obtain ⟨path, hpath, hpd⟩ : ∃ path, path ∈ pathsD ∧ Dt (fun b => b ≠ dr) H10 u10 path := by
    have hlt : j < pathsD.length := by have := (List.getElem?_eq_some_iff.mp hj).1; exact h9l ▸ this
    obtain ⟨v, hv, hvd⟩ := h9.get (List.getElem?_eq_getElem (l := pathsD) hlt)
    rw [hv] at hj
    cases hj
    exact ⟨_, List.getElem_mem hlt, hvd.to (fun _ q => q) kp10⟩
  have hn := hn.kp c.d kp10
  have c := c.kp kp10 d10
  refine ⟨_, rfl, fun b => b ≠ dr, (), EnvD.nil c.n (Nat.le_of_ble_eq_true rfl), fun u11 H11 s11 hu11 => ?_⟩
  have hpd := hpd.mono s11
  have c := c.mono s11
  have hn := hn.mono s11
  cases hu11 with
  | @lst it2 xs11 _ n11 e11 h11 =>
  have h11l := h11.len
  refine ⟨dr, it2, ns, xs11, rfl, c.d, e11, n11.1, fun z => (by rw [z] at h11l; cases h11l), fun H12 j2 u12 kp12 d12 hj2 => ?_⟩
  obtain ⟨place, hplace, hld⟩ : ∃ place, place ∈ placesD ∧ Dt (fun b => b ≠ dr) H12 u12 place := by
    have hlt : j2 < placesD.length := by have := (List.getElem?_eq_some_iff.mp hj2).1; exact h11l ▸ this
    obtain ⟨v, hv, hvd⟩ := h11.get (List.getElem?_eq_getElem (l := placesD) hlt)
    rw [hv] at hj2
    cases hj2
    exact ⟨_, List.getElem_mem hlt, hvd.to (fun _ q => q) kp12⟩
  have hpd := hpd.to (M := fun b => b ≠ dr) (fun _ q => q) kp12
  have hn := hn.kp c.d kp12
  have c := c.kp kp12 d12
  exact ⟨_, _, rfl, h14 D H12 dr p ns v2 _ _ path place _ _ _ _ _ _ _ _ _ _ _ _ c hn hpd hpath hld hplace hk⟩
end
end K1

namespace K1
open PySem PySem.Spec PyProof.Rows L2 Ls
def szB (body : PyData) (rm : Rooms) : Bool := decide (((itemsD body).flatMap (accOf 40)).length ≤ 50000) && (decide (((itemsD body).flatMap (frmOf 40)).length ≤ 50000) && (((oneForm (pairsN body rm)).all fun kv => decide (kv.length < 64)) && (oneForm (formsN body)).all fun kv => decide (kv.length < 64)))
theorem NestSz.of {body : PyData} {rm : Rooms} (h : szB body rm = true) : NestSz body rm := by
  unfold szB at h
  simp only [Bool.and_eq_true, decide_eq_true_eq] at h
  obtain ⟨h1, h2, h3, h4⟩ := h
  refine ⟨h1, h2, fun kv e => ?_, fun kv e => ?_⟩
  · rw [e] at h3
    exact of_decide_eq_true h3
  · rw [e] at h4
    exact of_decide_eq_true h4
theorem names_add : ∀ j < 9, (("a" : Str) ++ (toString ((0 : Int) + (j : Nat)) : Str)) = namesL.getD j "" := by decide +kernel
theorem names_sz : ∀ j < 9, ((0 : Int) + (j : Nat)).natAbs.log2 < 1920 ∧ ("a" : Str).length + (toString ((0 : Int) + (j : Nat)) : Str).length ≤ sizeLine := by decide +kernel
theorem names_okB : (namesL.all fun x => decide (x.length ≤ 1000) && PySem.PyData.strOk x) = true := by decide +kernel
section
variable {P : Program} {w : World} {K : PySem.W.Frag} {mg : Str → Option Value} {base : Heap} {f CS CN CB CP CE CL : Addr} {fd : FuncData} {k : Nat}
theorem law8 (G : Facts mg) (NC : NCls K CN) (MX_Nest : MakX P w K mg base 131 "Nest" CN (spNest CN CB)) (C_u_law_nowhere : Cal P w K mg base 48 "_law_nowhere" (spNowhere CN) []) (C_node_at : CalX P w K mg base 3 "node_at" (spNodeAt CN CE) [])
    (C_u_law_pick : Cal P w K mg base 3 "_law_pick" (spPick K) []) (C_statements : Cal P w K mg base 44 "statements" (spStatements CN) []) (Pr_arrays : MetP P w K mg base 1 CN "arrays" (spArrays CN)) (Pr_labels : MetP P w K mg base 1 CN "labels" (spLabels CN)) (C_u_law_deep : Cal P w K mg base 1 "_law_deep" spDeep [])
    {f : Addr} {cdv : Value} {A : Around} {outer : List Env} {s : Shared} {H0 : Hp} {E : XK} (hr : Room 133 (A.deeper (envOfC "law" (defScope s_law) s.heap.objs.size f cdv))) :
    ∃ t, PSs (cxOf CX0 P w K mg base lawN "law" (defScope s_law) f cdv A outer s H0 E).nox ((defBody s_law).drop 8) t ∧
      ∀ (D : Ends) (H : Hp) (dr : Addr) (ns : List Int) (v2 : V) (y0 y3 y4 y5 y6 y7 y8 y9 y10 y11 y12 y13 y14 y15 : Option V), LC K H dr ns v2 → (∀ H', D.rt (.bl true) H') →
        t D [y0, some (.ref dr), some v2, y3, y4, y5, y6, y7, y8, y9, y10, y11, y12, y13, y14, y15] H := by
  have hu := hu_of hr
  obtain ⟨t11, p11, h11⟩ := law11 (CN := CN) (CB := CB) (CE := CE) (outer := outer) (H0 := H0) (E := E) G NC MX_Nest C_u_law_nowhere C_node_at C_u_law_pick C_statements Pr_arrays Pr_labels hr
  refine ⟨_, (pss_cons (ps_set (i := 9) sc_law.nd rfl (.inl rfl) (pe_callTy kTuple (by rfl) G.tuple_ (by decide +kernel) (pa_cons (pe_lc (own := [("at", 10)]) (g := gName 10) (tt := tYes) rfl sc_law.nd  (pi_range1 (by rfl) G.range_ (pa_cons pe_int pa_nil)) (blkOk_by (by kernel_rfl)) (fun _ _ _ _ _ => (pg_name (i := 10) sc_law.nd rfl (by first | exact .inl rfl | exact .inr rfl))) (fun _ _ _ _ _ => pts_nil) (fun _ _ _ _ _ => (pe_op op_add_str pe_str (pe_callTy call_str_int (by rfl) G.str_ (by decide +kernel) (pa_cons (pv 10) pa_nil))))) pa_nil)))
      (pss_cons (ps_set (i := 11) sc_law.nd rfl (.inl rfl) (dX 16 (fun _ : Unit => [(2, runN)]) (fun _ _ => (de_tup (das_cons (de_str (by decide +kernel)) (das_cons (de_str (by decide +kernel)) (das_cons (de_tuple (pe_callTy kTuple (by rfl) G.tuple_ (by decide +kernel) (pa_cons (de_lcr (n := 12) (pe_lc (own := [("at", 10)]) (g := gName 10) (tt := tYes) rfl sc_law.nd (pi_range1 (by rfl) G.range_ (pa_cons pe_int pa_nil)) (blkOk_by (by kernel_rfl)) (fun _ _ _ _ _ => (pg_name (i := 10) sc_law.nd rfl (by first | exact .inl rfl | exact .inr rfl))) (fun _ _ _ _ _ => pts_nil) (fun _ _ _ _ _ => (dX 16 (fun at3 : Int => (10, .int at3) :: [(2, runN)]) (fun _ at3 => (de_tup (das_cons (de_str (by decide +kernel)) (das_cons (de_var 10 (pv 10) (.head _)) das_nil)) (Nat.le_of_ble_eq_true rfl)))))) (by decide) (by decide) rfl (by decide)) pa_nil))) (das_cons (de_tuple (pe_callTy kTuple (by rfl) G.tuple_ (by decide +kernel) (pa_cons (de_lcr (n := 12) (pe_lc (own := [("at", 10)]) (g := gName 10) (tt := tYes) rfl sc_law.nd (pi_range1 (by rfl) G.range_ (pa_cons pe_int pa_nil)) (blkOk_by (by kernel_rfl)) (fun _ _ _ _ _ => (pg_name (i := 10) sc_law.nd rfl (by first | exact .inl rfl | exact .inr rfl))) (fun _ _ _ _ _ => pts_nil) (fun _ _ _ _ _ => (dX 16 (fun at2 : Int => (10, .int at2) :: [(2, runN)]) (fun _ at2 => (de_tup (das_cons (de_str (by decide +kernel)) (das_cons (de_subI (de_var 10 (pv 10) (.head _))) das_nil)) (Nat.le_of_ble_eq_true rfl)))))) (by decide) (by decide) rfl (by decide)) pa_nil))) (das_cons de_bl (das_cons (de_tup (das_cons (de_tup (das_cons (de_str (by decide +kernel)) (das_cons (de_tuple (pe_callTy kTuple (by rfl) G.tuple_ (by decide +kernel) (pa_cons (de_lcr (n := 12) (pe_lc (own := [("at", 10)]) (g := gName 10) (tt := tYes) rfl sc_law.nd (pi_range1 (by rfl) G.range_ (pa_cons pe_int pa_nil)) (blkOk_by (by kernel_rfl)) (fun _ _ _ _ _ => (pg_name (i := 10) sc_law.nd rfl (by first | exact .inl rfl | exact .inr rfl))) (fun _ _ _ _ _ => pts_nil) (fun _ _ _ _ _ => (dX 16 (fun at1 : Int => (10, .int at1) :: [(2, runN)]) (fun _ at1 => (de_tup (das_cons (de_str (by decide +kernel)) (das_cons (de_str (by decide +kernel)) (das_cons (de_var 10 (pv 10) (.head _)) das_nil))) (Nat.le_of_ble_eq_true rfl)))))) (by decide) (by decide) rfl (by decide)) pa_nil))) (das_cons (de_tup (das_cons (de_var 2 (pv 2) (.head _)) das_nil) (Nat.le_of_ble_eq_true rfl)) das_nil))) (Nat.le_of_ble_eq_true rfl)) das_nil) (Nat.le_of_ble_eq_true rfl)) das_nil)))))) (Nat.le_of_ble_eq_true rfl)))))
      (pss_cons (ps_set (i := 12) sc_law.nd rfl (.inl rfl) (pe_mkx MX_Nest takes0 (fun _ _ _ _ h => h) hr (by decide) (by rfl) (pa5 (sl := 16) (Γ := fun _ : Unit => [(9, keptG), (11, manyD)]) (fun _ _ => (de_tup (das_cons (de_str (by decide +kernel)) (das_cons (de_str (by decide +kernel)) (das_cons (de_str (by decide +kernel)) das_nil))) (Nat.le_of_ble_eq_true rfl))) (fun _ _ => (de_tuple (pe_callTy kTuple (by rfl) G.tuple_ (by decide +kernel) (pa_cons (de_lcr (n := 12) (pe_lc (own := [("at", 10)]) (g := gName 10) (tt := tYes) rfl sc_law.nd (pi_range1 (by rfl) G.range_ (pa_cons pe_int pa_nil)) (blkOk_by (by kernel_rfl)) (fun _ _ _ _ _ => (pg_name (i := 10) sc_law.nd rfl (by first | exact .inl rfl | exact .inr rfl))) (fun _ _ _ _ _ => pts_nil) (fun _ _ _ _ _ => (dX 16 (fun at4 : Int => (10, .int at4) :: [(9, keptG), (11, manyD)]) (fun _ at4 => (de_tup (das_cons (de_str (by decide +kernel)) (das_cons (de_str (by decide +kernel)) (das_cons (de_var 10 (pv 10) (.head _)) das_nil))) (Nat.le_of_ble_eq_true rfl)))))) (by decide) (by decide) rfl (by decide)) pa_nil)))) (fun _ _ => (rm_2 (k1 := (.inr "z" : Key)) (k2 := (.inr "free" : Key)) pe_str (de_rep (k := 4) (K := K) (de_tup (das_cons (de_tup (das_cons (de_tup (das_cons (de_str (by decide +kernel)) (das_cons de_int das_nil)) (Nat.le_of_ble_eq_true rfl)) (das_cons (de_tup (das_cons (de_str (by decide +kernel)) (das_cons de_int das_nil)) (Nat.le_of_ble_eq_true rfl)) das_nil)) (Nat.le_of_ble_eq_true rfl)) das_nil) (Nat.le_of_ble_eq_true rfl)) pe_int (by decide +kernel)) pe_str (de_tup das_nil (Nat.le_of_ble_eq_true rfl)) (by decide +kernel))) (fun _ _ => (de_var 9 (pv 9) (.head _))) (fun _ _ => (de_tup (das_cons (de_var 11 (pv 11) (.tail _ (.head _))) (das_cons (de_deep (n := 39) (pe_c C_u_law_deep hr (by decide) (by rfl) (pa_cons pe_int pa_nil)) (by decide)) das_nil)) (Nat.le_of_ble_eq_true rfl))))))
      p11))), ?_⟩
  intro D H dr ns v2 y0 y3 y4 y5 y6 y7 y8 y9 y10 y11 y12 y13 y14 y15 c hk
  refine ⟨9, rfl, by decide, by decide, fun L nL => ?_⟩
  refine lc_it (walk_range (lo := 0) (n := (9 : Int).toNat)) (fun j H' => Same H H' ∧ H' L = some (.lst ((List.range j).map fun i => V.str (namesL.getD i "")))) ⟨same_upd nL, upd_same⟩ (fun _ _ _ _ => True.intro) ?_ ?_
  · rintro j y H8 H' hj ⟨s2, hL⟩ ⟨rfl, rfl⟩
    have hj : j < 9 := hj
    obtain ⟨z1, z2⟩ := names_sz j hj
    refine ⟨rfl, _, rfl, _, rfl, z1, _, _, rfl, rfl, z2, _, hL, szlt (by rw [List.length_map, List.length_range]; omega), same_mut s2 nL, ?_⟩
    rw [upd_same, List.range_succ, List.map_append, List.map_cons, List.map_nil, ← names_add j hj]
  rintro H1 ⟨s1, hL⟩
  have hL : H1 L = some (.lst (namesL.map V.str)) := hL
  refine ⟨L, _, rfl, .inl hL, fun H2 nt s2 hnt e2 => ?_⟩
  have hno := List.all_eq_true.mp names_okB
  have ntr : nt ≠ dr := by
    rcases hnt with h | rfl
    · exact (c.mono s1).n _ h
    · exact c.n _ nL
  have s12 := s1.trans s2
  have c := c.mono s12
  have hkept : Dt (fun b => b ≠ dr) H2 (.ref nt) keptG := .tup ⟨ntr, by decide⟩ e2 (DtAll.strs fun x hx => by
    have := hno x hx
    exact ⟨of_decide_eq_true (Bool.and_eq_true_iff.mp this).1, (Bool.and_eq_true_iff.mp this).2⟩)
  -- many
  refine ⟨fun b => b ≠ dr, (), (EnvD.nil c.n (Nat.le_of_ble_eq_true rfl)).cons c.r rfl, fun vm H3 s3 hm => ?_⟩
  have c := c.mono s3
  have hkept := hkept.mono s3
  -- nest
  refine ⟨fun b => b ≠ dr, (), ((EnvD.nil c.n (Nat.le_of_ble_eq_true rfl)).cons hm rfl).cons hkept rfl, fun v1 v2' v3 v4 v5 H4 s4 d1 d2 d3 d4 d5 x dx nx ndx hne => ?_⟩
  have c := c.mono s4
  have s0 : Same H4 (upd (upd H4 dx (.own x)) x (.ins CN dx [])) := same_mut (same_upd ndx) nx
  refine ⟨_, H4, x, dx, v1, v2', v3, v4, v5, szG, givenG, rmG, keptG, bodyG, rfl, s0, nx, upd_same, d1, d2, d3, d4, d5, c.n, fun _ => nest_sz, fun e => (nomatch (e.symm.trans nest_ok)), fun _ H5 s5 hna => ⟨rfl, ?_⟩⟩
  exact h11 D H5 dr x ns v2 _ _ _ _ _ _ _ _ _ _ _ _ _ (c.mono s5) hna hk
end
end K1

namespace K1
open PySem PySem.Spec PyProof.Rows L2 Ls
section
variable {P : Program} {w : World} {K : PySem.W.Frag} {mg : Str → Option Value} {base : Heap} {f CS CN CB CP CE CL : Addr} {fd : FuncData} {k : Nat}
theorem law3 (G : Facts mg) (NC : NCls K CN) (MX_Nest : MakX P w K mg base 131 "Nest" CN (spNest CN CB)) (C_u_law_nowhere : Cal P w K mg base 48 "_law_nowhere" (spNowhere CN) []) (C_node_at : CalX P w K mg base 3 "node_at" (spNodeAt CN CE) [])
    (C_u_law_pick : Cal P w K mg base 3 "_law_pick" (spPick K) []) (C_statements : Cal P w K mg base 44 "statements" (spStatements CN) []) (Pr_arrays : MetP P w K mg base 1 CN "arrays" (spArrays CN)) (Pr_labels : MetP P w K mg base 1 CN "labels" (spLabels CN)) (C_u_law_deep : Cal P w K mg base 1 "_law_deep" spDeep [])
    (C_u_law_refused : Cal P w K mg base 133 "_law_refused" spLRefused [])
    {f : Addr} {cdv : Value} {A : Around} {outer : List Env} {s : Shared} {H0 : Hp} {E : XK} (hr : Room 133 (A.deeper (envOfC "law" (defScope s_law) s.heap.objs.size f cdv))) :
    ∃ t, PSs (cxOf CX0 P w K mg base lawN "law" (defScope s_law) f cdv A outer s H0 E).nox ((defBody s_law).drop 3) t ∧
      ∀ (D : Ends) (H : Hp) (dr : Addr) (ns : List Int) (v2 : V) (y0 y3 y4 y5 y6 y7 y8 y9 y10 y11 y12 y13 y14 y15 : Option V), LC K H dr ns v2 → (∀ H', D.rt (.bl true) H') →
        t D [y0, some (.ref dr), some v2, y3, y4, y5, y6, y7, y8, y9, y10, y11, y12, y13, y14, y15] H := by
  have hu := hu_of hr
  obtain ⟨t8, p8, h8⟩ := law8 (CN := CN) (CB := CB) (CE := CE) (outer := outer) (H0 := H0) (E := E) G NC MX_Nest C_u_law_nowhere C_node_at C_u_law_pick C_statements Pr_arrays Pr_labels C_u_law_deep hr
  refine ⟨_, (pss_cons (ps_set (i := 7) sc_law.nd rfl (.inl rfl) (dX 16 (fun _ : Unit => []) (fun _ _ => (de_lst (das_cons (de_tup (das_cons (de_str (by decide +kernel)) (das_cons (de_str (by decide +kernel)) (das_cons (de_tup das_nil (Nat.le_of_ble_eq_true rfl)) (das_cons (de_tup (das_cons (de_str (by decide +kernel)) (das_cons (de_tup das_nil (Nat.le_of_ble_eq_true rfl)) das_nil)) (Nat.le_of_ble_eq_true rfl)) (das_cons (de_tup das_nil (Nat.le_of_ble_eq_true rfl)) das_nil))))) (Nat.le_of_ble_eq_true rfl)) (das_cons (de_tup (das_cons (de_str (by decide +kernel)) (das_cons (de_str (by decide +kernel)) (das_cons (de_tup das_nil (Nat.le_of_ble_eq_true rfl)) (das_cons (de_tup (das_cons (de_str (by decide +kernel)) (das_cons (de_tup (das_cons (de_tup (das_cons (de_str (by decide +kernel)) (das_cons de_int das_nil)) (Nat.le_of_ble_eq_true rfl)) das_nil) (Nat.le_of_ble_eq_true rfl)) das_nil)) (Nat.le_of_ble_eq_true rfl)) (das_cons (de_tup das_nil (Nat.le_of_ble_eq_true rfl)) das_nil))))) (Nat.le_of_ble_eq_true rfl)) das_nil)) (Nat.le_of_ble_eq_true rfl)))))
      (pss_cons (ps_if (PW.pt (pw_or (pt_not (pt_val (pe_rf (sl := 16) (Γ := (fun _ : Unit => [(7, .list twoD)])) (pe_c C_u_law_refused hr (by decide) (by rfl) (pa5 (fun _ _ => (de_tup (das_cons (de_str (by decide +kernel)) das_nil) (Nat.le_of_ble_eq_true rfl))) (fun _ _ => (de_tup das_nil (Nat.le_of_ble_eq_true rfl))) (fun _ _ => rm_0) (fun _ _ => (de_tup das_nil (Nat.le_of_ble_eq_true rfl))) (fun _ _ => (de_tuple (pe_callTy kTuple (by rfl) G.tuple_ (by decide +kernel) (pa_cons (de_var 7 (pv 7) (.head _)) pa_nil))))))))) (pw_or1 (pt_not (pt_val (pe_rf (sl := 16) (Γ := (fun _ : Unit => [(7, .list twoD)])) (pe_c C_u_law_refused hr (by decide) (by rfl) (pa5 (fun _ _ => (de_tup (das_cons (de_str (by decide +kernel)) das_nil) (Nat.le_of_ble_eq_true rfl))) (fun _ _ => (de_tup das_nil (Nat.le_of_ble_eq_true rfl))) (fun _ _ => (rm_1 (k := (.inr "z" : Key)) pe_str (de_tup (das_cons (de_tup (das_cons (de_tup (das_cons (de_str (by decide +kernel)) (das_cons de_int das_nil)) (Nat.le_of_ble_eq_true rfl)) (das_cons (de_tup (das_cons (de_str (by decide +kernel)) (das_cons de_int das_nil)) (Nat.le_of_ble_eq_true rfl)) das_nil)) (Nat.le_of_ble_eq_true rfl)) das_nil) (Nat.le_of_ble_eq_true rfl)) (by decide +kernel))) (fun _ _ => (de_tup das_nil (Nat.le_of_ble_eq_true rfl))) (fun _ _ => (de_tuple (pe_callTy kTuple (by rfl) G.tuple_ (by decide +kernel) (pa_cons (de_takeL 1 (K := K) (pe_slice (kSlL K) (de_var 7 (pv 7) (.head _)) po_none (po_some pe_int))) pa_nil)))))))))))) (pss_one (ps_ret pe_bl)) pss_nil)
      (pss_cons (ps_set (i := 8) sc_law.nd rfl (.inl rfl) (dX 16 (fun _ : Unit => []) (fun _ _ => (de_lst (das_cons (de_tup (das_cons (de_str (by decide +kernel)) (das_cons (de_str (by decide +kernel)) (das_cons (de_tup das_nil (Nat.le_of_ble_eq_true rfl)) (das_cons (de_tup (das_cons (de_str (by decide +kernel)) (das_cons (de_tup das_nil (Nat.le_of_ble_eq_true rfl)) das_nil)) (Nat.le_of_ble_eq_true rfl)) (das_cons (de_tup das_nil (Nat.le_of_ble_eq_true rfl)) das_nil))))) (Nat.le_of_ble_eq_true rfl)) (das_cons (de_tup (das_cons (de_str (by decide +kernel)) (das_cons (de_str (by decide +kernel)) (das_cons (de_tup (das_cons (de_tup (das_cons (de_str (by decide +kernel)) (das_cons de_int das_nil)) (Nat.le_of_ble_eq_true rfl)) das_nil) (Nat.le_of_ble_eq_true rfl)) (das_cons (de_tup (das_cons (de_str (by decide +kernel)) (das_cons (de_tup das_nil (Nat.le_of_ble_eq_true rfl)) das_nil)) (Nat.le_of_ble_eq_true rfl)) (das_cons (de_tup das_nil (Nat.le_of_ble_eq_true rfl)) das_nil))))) (Nat.le_of_ble_eq_true rfl)) (das_cons (de_tup (das_cons (de_str (by decide +kernel)) (das_cons (de_str (by decide +kernel)) (das_cons (de_tup das_nil (Nat.le_of_ble_eq_true rfl)) (das_cons (de_tup (das_cons (de_str (by decide +kernel)) (das_cons (de_tup das_nil (Nat.le_of_ble_eq_true rfl)) das_nil)) (Nat.le_of_ble_eq_true rfl)) (das_cons (de_tup (das_cons (de_tup (das_cons (de_str (by decide +kernel)) (das_cons (de_tup das_nil (Nat.le_of_ble_eq_true rfl)) das_nil)) (Nat.le_of_ble_eq_true rfl)) das_nil) (Nat.le_of_ble_eq_true rfl)) das_nil))))) (Nat.le_of_ble_eq_true rfl)) das_nil))) (Nat.le_of_ble_eq_true rfl)))))
      (pss_cons (ps_if (PW.pt (pw_or (pt_not (pt_val (pe_rf (sl := 16) (Γ := (fun _ : Unit => [(8, .list threeD)])) (pe_c C_u_law_refused hr (by decide) (by rfl) (pa5 (fun _ _ => (de_tup (das_cons (de_str (by decide +kernel)) das_nil) (Nat.le_of_ble_eq_true rfl))) (fun _ _ => (de_tup das_nil (Nat.le_of_ble_eq_true rfl))) (fun _ _ => rm_0) (fun _ _ => (de_tup das_nil (Nat.le_of_ble_eq_true rfl))) (fun _ _ => (de_tup (das_cons (de_ixL 0 (K := K) (pe_ix (kIxL K) (de_var 8 (pv 8) (.head _)) pe_int (fun _ _ => rfl)) rfl) (das_cons (de_ixL 1 (K := K) (pe_ix (kIxL K) (de_var 8 (pv 8) (.head _)) pe_int (fun _ _ => rfl)) rfl) das_nil)) (Nat.le_of_ble_eq_true rfl)))))))) (pw_or1 (pt_not (pt_val (pe_rf (sl := 16) (Γ := (fun _ : Unit => [(8, .list threeD)])) (pe_c C_u_law_refused hr (by decide) (by rfl) (pa5 (fun _ _ => (de_tup (das_cons (de_str (by decide +kernel)) das_nil) (Nat.le_of_ble_eq_true rfl))) (fun _ _ => (de_tup das_nil (Nat.le_of_ble_eq_true rfl))) (fun _ _ => rm_0) (fun _ _ => (de_tup das_nil (Nat.le_of_ble_eq_true rfl))) (fun _ _ => (de_tup (das_cons (de_ixL 0 (K := K) (pe_ix (kIxL K) (de_var 8 (pv 8) (.head _)) pe_int (fun _ _ => rfl)) rfl) (das_cons (de_tup (das_cons (de_str (by decide +kernel)) (das_cons (de_tup (das_cons (de_tup (das_cons (de_str (by decide +kernel)) (das_cons (de_str (by decide +kernel)) (das_cons de_int das_nil))) (Nat.le_of_ble_eq_true rfl)) das_nil) (Nat.le_of_ble_eq_true rfl)) (das_cons (de_tup (das_cons (de_ixL 2 (K := K) (pe_ix (kIxL K) (de_var 8 (pv 8) (.head _)) pe_int (fun _ _ => rfl)) rfl) das_nil) (Nat.le_of_ble_eq_true rfl)) das_nil))) (Nat.le_of_ble_eq_true rfl)) das_nil)) (Nat.le_of_ble_eq_true rfl))))))))))) (pss_one (ps_ret pe_bl)) pss_nil)
      (pss_cons (ps_if (PW.pt (pw_or (pt_not (pt_val (pe_rf (sl := 16) (Γ := (fun _ : Unit => [])) (pe_c C_u_law_refused hr (by decide) (by rfl) (pa5 (fun _ _ => (de_tup (das_cons (de_str (by decide +kernel)) das_nil) (Nat.le_of_ble_eq_true rfl))) (fun _ _ => (de_tup das_nil (Nat.le_of_ble_eq_true rfl))) (fun _ _ => rm_0) (fun _ _ => (de_tup das_nil (Nat.le_of_ble_eq_true rfl))) (fun _ _ => (de_tup (das_cons (de_deep (n := 40) (pe_c C_u_law_deep hr (by decide) (by rfl) (pa_cons pe_int pa_nil)) (by decide)) das_nil) (Nat.le_of_ble_eq_true rfl)))))))) (pw_or1 (pt_not (pt_val (pe_rf (sl := 16) (Γ := (fun _ : Unit => [])) (pe_c C_u_law_refused hr (by decide) (by rfl) (pa5 (fun _ _ => (de_tup (das_cons (de_str (by decide +kernel)) das_nil) (Nat.le_of_ble_eq_true rfl))) (fun _ _ => (de_tup das_nil (Nat.le_of_ble_eq_true rfl))) (fun _ _ => rm_0) (fun _ _ => (de_tup das_nil (Nat.le_of_ble_eq_true rfl))) (fun _ _ => (de_tup (das_cons (de_deep (n := 90) (pe_c C_u_law_deep hr (by decide) (by rfl) (pa_cons pe_int pa_nil)) (by decide)) das_nil) (Nat.le_of_ble_eq_true rfl))))))))))) (pss_one (ps_ret pe_bl)) pss_nil)
      p8))))), ?_⟩
  intro D H dr ns v2 y0 y3 y4 y5 y6 y7 y8 y9 y10 y11 y12 y13 y14 y15 c hk
  refine ⟨fun b => b ≠ dr, (), EnvD.nil c.n (Nat.le_of_ble_eq_true rfl), fun v7 H1 s1 h7 => ?_⟩
  have c := c.mono s1
  refine ⟨fun b => b ≠ dr, (), (EnvD.nil c.n (Nat.le_of_ble_eq_true rfl)).cons h7 rfl, fun _ => NestSz.of (by decide +kernel), by decide +kernel, fun H2 s2 => ⟨_, rfl, iteF ?_⟩⟩
  have c := c.mono s2
  refine ⟨fun b => b ≠ dr, (), (EnvD.nil c.n (Nat.le_of_ble_eq_true rfl)).cons (h7.mono s2) rfl, fun _ => NestSz.of (by decide +kernel), by decide +kernel, fun H3 s3 => ⟨_, rfl, iteF ?_⟩⟩
  have c := c.mono s3
  refine ⟨fun b => b ≠ dr, (), EnvD.nil c.n (Nat.le_of_ble_eq_true rfl), fun v8 H4 s4 h8' => ?_⟩
  have c := c.mono s4
  refine ⟨fun b => b ≠ dr, (), (EnvD.nil c.n (Nat.le_of_ble_eq_true rfl)).cons h8' rfl, fun _ => NestSz.of (by decide +kernel), by decide +kernel, fun H5 s5 => ⟨_, rfl, iteF ?_⟩⟩
  have c := c.mono s5
  refine ⟨fun b => b ≠ dr, (), (EnvD.nil c.n (Nat.le_of_ble_eq_true rfl)).cons (h8'.mono s5) rfl, fun _ => NestSz.of (by decide +kernel), by decide +kernel, fun H6 s6 => ⟨_, rfl, iteF ?_⟩⟩
  have c := c.mono s6
  refine ⟨fun b => b ≠ dr, (), EnvD.nil c.n (Nat.le_of_ble_eq_true rfl), fun _ => NestSz.of (by decide +kernel), by decide +kernel, fun H7 s7 => ⟨_, rfl, iteF ?_⟩⟩
  have c := c.mono s7
  refine ⟨fun b => b ≠ dr, (), EnvD.nil c.n (Nat.le_of_ble_eq_true rfl), fun _ => NestSz.of (by decide +kernel), by decide +kernel, fun H8 s8 => ⟨_, rfl, iteF ?_⟩⟩
  exact h8 D H8 dr ns v2 _ _ _ _ _ _ _ _ _ _ _ _ _ _ (c.mono s8) hk
end
end K1

namespace K1
open PySem PySem.Spec PyProof.Rows L2 Ls
def spLaw (K : PySem.W.Frag) : Sp := fun vs H Q _ => ∃ (a : Addr) (ns : List Int), vs = [.ref a] ∧ Scr K H a ns ∧ ∀ H', Q (.bl true) H'
section
variable {P : Program} {w : World} {K : PySem.W.Frag} {mg : Str → Option Value} {base : Heap} {f CS CN CB CP CE CL : Addr} {fd : FuncData} {k : Nat}
theorem ok_law (F : FnP K "law" s_law [] f fd) (G : Facts mg) (NC : NCls K CN) (MX_Nest : MakX P w K mg base 131 "Nest" CN (spNest CN CB)) (C_u_law_nowhere : Cal P w K mg base 48 "_law_nowhere" (spNowhere CN) []) (C_node_at : CalX P w K mg base 3 "node_at" (spNodeAt CN CE) [])
    (C_u_law_pick : Cal P w K mg base 3 "_law_pick" (spPick K) []) (C_statements : Cal P w K mg base 44 "statements" (spStatements CN) []) (Pr_arrays : MetP P w K mg base 1 CN "arrays" (spArrays CN)) (Pr_labels : MetP P w K mg base 1 CN "labels" (spLabels CN)) (C_u_law_deep : Cal P w K mg base 1 "_law_deep" spDeep [])
    (C_u_law_refused : Cal P w K mg base 133 "_law_refused" spLRefused []) (C_u_law_bad_nodes : Cal P w K mg base 2 "_law_bad_nodes" (spBadL badNodesD) []) (C_u_law_bad_heads : Cal P w K mg base 4 "_law_bad_heads" (spHeads K) []) :
    FnOk P w K mg base CX0 134 f fd ["script"] (spLaw K) := by
  refine F.ok sc_law (fun vs H Q E h => ?_) (fun cdv A outer s H vs Q E hr h => ?_)
  · obtain ⟨a, ns, rfl, _⟩ := h
    rfl
  · obtain ⟨a, ns, rfl, hS, hk⟩ := h
    have hu := hu_of hr
    obtain ⟨t3, p3, h3⟩ := law3 (CN := CN) (CB := CB) (CE := CE) (outer := outer) (H0 := H) (E := E) G NC MX_Nest C_u_law_nowhere C_node_at C_u_law_pick C_statements Pr_arrays Pr_labels C_u_law_deep C_u_law_refused hr
    refine ⟨_, PSs.nox (pss_cons (ps_set (i := 1) sc_law.nd rfl (.inl rfl) (pe_lst (pa_cons (pv 0) (pa_cons pe_int pa_nil))))
      (pss_cons (ps_set (i := 2) sc_law.nd rfl (.inl rfl) (dX 16 (fun _ : Unit => []) (fun _ _ => (de_tup (das_cons (de_str (by decide +kernel)) (das_cons (de_str (by decide +kernel)) (das_cons (de_rep (k := 8) (K := K) (de_tup (das_cons (de_tup (das_cons (de_str (by decide +kernel)) (das_cons de_int das_nil)) (Nat.le_of_ble_eq_true rfl)) das_nil) (Nat.le_of_ble_eq_true rfl)) pe_int (by decide +kernel)) (das_cons (de_tup (das_cons (de_str (by decide +kernel)) (das_cons (de_rep (k := 4) (K := K) (de_tup (das_cons (de_tup (das_cons (de_str (by decide +kernel)) (das_cons de_neg das_nil)) (Nat.le_of_ble_eq_true rfl)) das_nil) (Nat.le_of_ble_eq_true rfl)) pe_int (by decide +kernel)) das_nil)) (Nat.le_of_ble_eq_true rfl)) (das_cons (de_rep (k := 6) (K := K) (de_tup (das_cons (de_tup (das_cons (de_str (by decide +kernel)) (das_cons (de_rep (k := 4) (K := K) (de_tup (das_cons (de_tup (das_cons (de_str (by decide +kernel)) (das_cons de_int das_nil)) (Nat.le_of_ble_eq_true rfl)) das_nil) (Nat.le_of_ble_eq_true rfl)) pe_int (by decide +kernel)) das_nil)) (Nat.le_of_ble_eq_true rfl)) das_nil) (Nat.le_of_ble_eq_true rfl)) pe_int (by decide +kernel)) das_nil))))) (Nat.le_of_ble_eq_true rfl)))))
      (pss_cons (ps_for PassesOwn.never rfl (pi_range1 (by rfl) G.range_ (pa_cons pe_int pa_nil)) (pg_name (i := 3) sc_law.nd rfl (by first | exact .inl rfl | exact .inr rfl))
        (pss_cons (ps_set (i := 4) sc_law.nd rfl (.inl rfl) (pe_c C_u_law_pick hr (by decide) (by rfl) (pa_cons (pv 1) (pa_cons (dX 16 (fun _ : Unit => []) (fun _ _ => (de_call (pe_c0 C_u_law_bad_nodes hr (by decide) (by rfl)) (by decide +kernel)))) pa_nil))))
        (pss_cons (ps_set (i := 5) sc_law.nd rfl (.inl rfl) (pe_c C_u_law_pick hr (by decide) (by rfl) (pa_cons (pv 1) (pa_cons (dX 16 (fun b : PyData => [(2, runN), (4, b)]) (fun _ b => (de_lst (das_cons (de_tup (das_cons (de_var 4 (pv 4) (.tail _ (.head _))) das_nil) (Nat.le_of_ble_eq_true rfl)) (das_cons (de_tup (das_cons (de_var 2 (pv 2) (.head _)) (das_cons (de_var 4 (pv 4) (.tail _ (.head _))) das_nil)) (Nat.le_of_ble_eq_true rfl)) (das_cons (de_tup (das_cons (de_tup (das_cons (de_str (by decide +kernel)) (das_cons (de_tup (das_cons (de_tup (das_cons (de_str (by decide +kernel)) (das_cons (de_str (by decide +kernel)) (das_cons de_int das_nil))) (Nat.le_of_ble_eq_true rfl)) das_nil) (Nat.le_of_ble_eq_true rfl)) (das_cons (de_tup (das_cons (de_var 2 (pv 2) (.head _)) (das_cons (de_var 4 (pv 4) (.tail _ (.head _))) das_nil)) (Nat.le_of_ble_eq_true rfl)) das_nil))) (Nat.le_of_ble_eq_true rfl)) das_nil) (Nat.le_of_ble_eq_true rfl)) (das_cons (de_tup (das_cons (de_tup (das_cons (de_str (by decide +kernel)) (das_cons (de_str (by decide +kernel)) (das_cons (de_tup (das_cons (de_tup (das_cons (de_str (by decide +kernel)) (das_cons de_int das_nil)) (Nat.le_of_ble_eq_true rfl)) das_nil) (Nat.le_of_ble_eq_true rfl)) (das_cons (de_tup (das_cons (de_tup (das_cons (de_str (by decide +kernel)) (das_cons de_int das_nil)) (Nat.le_of_ble_eq_true rfl)) das_nil) (Nat.le_of_ble_eq_true rfl)) (das_cons de_bl (das_cons (de_tup (das_cons (de_var 4 (pv 4) (.tail _ (.head _))) das_nil) (Nat.le_of_ble_eq_true rfl)) das_nil)))))) (Nat.le_of_ble_eq_true rfl)) (das_cons (de_var 2 (pv 2) (.head _)) das_nil)) (Nat.le_of_ble_eq_true rfl)) das_nil)))) (Nat.le_of_ble_eq_true rfl)))) pa_nil))))
        (pss_cons (ps_if (pt_not (pt_val (pe_rf (sl := 16) (Γ := (fun b : PyData => [(5, b)])) (pe_c C_u_law_refused hr (by decide) (by rfl) (pa5 (fun _ b => (de_tup (das_cons (de_str (by decide +kernel)) das_nil) (Nat.le_of_ble_eq_true rfl))) (fun _ b => (de_tup das_nil (Nat.le_of_ble_eq_true rfl))) (fun _ b => rm_0) (fun _ b => (de_tup das_nil (Nat.le_of_ble_eq_true rfl))) (fun _ b => (de_var 5 (pv 5) (.head _)))))))) (pss_one (ps_ret pe_bl)) pss_nil)
        (pss_cons (ps_set (i := 6) sc_law.nd rfl (.inl rfl) (pe_c C_u_law_bad_heads hr (by decide) (by rfl) (pa_cons (pv 1) (pa_cons (dX 16 (fun _ : Unit => [(2, runN)]) (fun _ _ => (de_tup (das_cons (de_var 2 (pv 2) (.head _)) das_nil) (Nat.le_of_ble_eq_true rfl)))) pa_nil))))
        (pss_one (ps_if (pt_not (pt_val (pe_c C_u_law_refused hr (by decide) (by rfl) (pa_cons (pe_ix (kIxL K) (pv 6) pe_int (fun _ _ => rfl)) (pa_cons (pe_ix (kIxL K) (pv 6) pe_int (fun _ _ => rfl)) (pa_cons (pe_ix (kIxL K) (pv 6) pe_int (fun _ _ => rfl)) (pa_cons (pe_ix (kIxL K) (pv 6) pe_int (fun _ _ => rfl)) (pa_cons (pe_ix (kIxL K) (pv 6) pe_int (fun _ _ => rfl)) pa_nil)))))))) (pss_one (ps_ret pe_bl)) pss_nil)))))))
      p3))), ?_⟩
    refine ⟨_, rfl, by show 2 ≤ sizeLine; decide, fun dr ndr => ?_⟩
    have hdr : (upd H dr (.lst [.ref a, .int 0])) dr = some (.lst [.ref a, .int 0]) := upd_same
    have hd1 : Drw K (upd H dr (.lst [.ref a, .int 0])) dr ns := ⟨a, 0, hdr, fun H' k => ⟨by
      have st : ∀ o, H a = some o → H' a = some o := fun o e => by
        have ha : a ≠ dr := ne_of_none e ndr
        exact k _ _ ha (by rw [upd_ne ha]; exact e)
      rcases hS.1 with h | h
      · rcases h with h | ⟨o, h⟩
        · exact .inl (.inl (st _ h))
        · exact .inl (.inr ⟨o, st _ h⟩)
      · exact .inr h, hS.2⟩⟩
    generalize upd H dr (.lst [.ref a, .int 0]) = H1 at hdr hd1
    have hn1 : ∀ b, H1 b = none → b ≠ dr := fun b e z => by rw [z, hdr] at e; cases e
    refine ⟨fun b => b ≠ dr, (), EnvD.nil hn1 (Nat.le_of_ble_eq_true rfl), fun v2 H2 s2 h2 => ?_⟩
    have c : LC K H2 dr ns v2 := ⟨hd1.mono s2, h2⟩
    refine ⟨12, rfl, by decide, by decide, ?_⟩
    refine for_it (walk_range (lo := 0) (n := (12 : Int).toNat)) (fun i σ H' => ∃ y3 y4 y5 y6, σ = [some (.ref a), some (.ref dr), some v2, y3, y4, y5, y6, none, none, none, none, none, none, none, none, none] ∧ LC K H' dr ns v2) ⟨_, _, _, _, rfl, c⟩ (fun _ _ _ _ _ => True.intro) ?_ ?_
    · rintro i y σ H9 H3 hi ⟨y3, y4, y5, y6, rfl, c⟩ ⟨rfl, rfl⟩
      refine ⟨_, rfl, fun b => b ≠ dr, (), EnvD.nil c.n (Nat.le_of_ble_eq_true rfl), fun v4 H4 s4 hv4 => ?_⟩
      have c := c.mono s4
      cases hv4 with
      | @lst a4 xs4 _ n4 e4 h4 =>
      have h4l := h4.len
      refine ⟨dr, a4, ns, xs4, rfl, c.d, e4, n4.1, fun z => (by rw [z] at h4l; exact absurd h4l (by decide +kernel)), fun H5 j u5 kp5 d5 hj => ?_⟩
      obtain ⟨node, hnode, hnd⟩ : ∃ node, node ∈ badNodesD ∧ Dt (fun b => b ≠ dr) H5 u5 node := by
        have hlt : j < badNodesD.length := by have := (List.getElem?_eq_some_iff.mp hj).1; exact h4l ▸ this
        obtain ⟨v, hv, hvd⟩ := h4.get (List.getElem?_eq_getElem (l := badNodesD) hlt)
        rw [hv] at hj
        cases hj
        exact ⟨_, List.getElem_mem hlt, hvd.to (fun _ q => q) kp5⟩
      have c := c.kp kp5 d5
      clear h4l hj n4 e4 h4
      refine ⟨_, rfl, fun b => b ≠ dr, node, ((EnvD.nil c.n (Nat.le_of_ble_eq_true rfl)).cons hnd rfl).cons c.r rfl, fun v6 H6 s6 hv6 => ?_⟩
      have c := c.mono s6
      cases hv6 with
      | @lst a6 xs6 _ n6 e6 h6 =>
      have h6l := h6.len
      refine ⟨dr, a6, ns, xs6, rfl, c.d, e6, n6.1, fun z => (by rw [z] at h6l; cases h6l), fun H7 j7 u7 kp7 d7 hj7 => ?_⟩
      obtain ⟨ar, har, hard⟩ : ∃ ar, ar ∈ aroundsD node ∧ Dt (fun b => b ≠ dr) H7 u7 ar := by
        have hlt : j7 < (aroundsD node).length := by have := (List.getElem?_eq_some_iff.mp hj7).1; exact h6l ▸ this
        obtain ⟨v, hv, hvd⟩ := h6.get (List.getElem?_eq_getElem (l := aroundsD node) hlt)
        rw [hv] at hj7
        cases hj7
        exact ⟨_, List.getElem_mem hlt, hvd.to (fun _ q => q) kp7⟩
      have c := c.kp kp7 d7
      clear h6l hj7 n6 e6 h6
      have hok : okHead szN nilT rm0 nilT ar = false := by
        have h1 := List.all_eq_true.mp (List.all_eq_true.mp nodes_bad node hnode) ar har
        cases q : okHead szN nilT rm0 nilT ar with
        | false => rfl
        | true => rw [q] at h1; cases h1
      refine ⟨fun b => b ≠ dr, ar, (EnvD.nil c.n (Nat.le_of_ble_eq_true rfl)).cons hard rfl, fun e => (nomatch (e.symm.trans hok)), by show nestOk szN nilT rm0 nilT ar = false; unfold nestOk; rw [hok, Bool.false_and], fun H8 s8 => ⟨_, rfl, iteF ?_⟩⟩
      have c := c.mono s8
      refine ⟨_, rfl, fun b => b ≠ dr, (), (EnvD.nil c.n (Nat.le_of_ble_eq_true rfl)).cons c.r rfl, fun v9 H10 s10 hv9 => ?_⟩
      have c := c.mono s10
      refine ⟨dr, ns, v9, rfl, c.d, hv9, fun H11 l w0 w1 w2 w3 w4 iq r kp11 d11 hmem hl ldr p0 p1 p2 p3 p4 => ?_⟩
      have c := c.kp kp11 d11
      have hok2 : okHead (partD iq 0 r (.tuple [.str "n"])) (partD iq 1 r (.tuple [])) (partR iq r) (partD iq 3 r (.tuple [.str "a"])) (partD iq 4 r bodyN) = false := by
        have h1 := List.all_eq_true.mp heads_bad (iq, r) hmem
        cases q : okHead (partD iq 0 r (.tuple [.str "n"])) (partD iq 1 r (.tuple [])) (partR iq r) (partD iq 3 r (.tuple [.str "a"])) (partD iq 4 r bodyN) with
        | false => rfl
        | true =>
          have h1 : (!okHead (partD iq 0 r (.tuple [.str "n"])) (partD iq 1 r (.tuple [])) (partR iq r) (partD iq 3 r (.tuple [.str "a"])) (partD iq 4 r bodyN)) = true := h1
          rw [q] at h1
          cases h1
      refine ⟨_, rfl, l, _, _, _, rfl, rfl, sq hl, atI_nat (j := 0) rfl, _, rfl, l, _, _, _, rfl, rfl, sq hl, atI_nat (j := 1) rfl, _, rfl, l, _, _, _, rfl, rfl, sq hl, atI_nat (j := 2) rfl, _, rfl, l, _, _, _, rfl, rfl, sq hl, atI_nat (j := 3) rfl, _, rfl, l, _, _, _, rfl, rfl, sq hl, atI_nat (j := 4) rfl, ?_⟩
      refine ⟨fun b => b ≠ dr, w0, w1, w2, w3, w4, _, _, _, _, _, rfl, p0, p1, p2, p3, p4, c.n, fun e => (nomatch (e.symm.trans hok2)), by unfold nestOk; rw [hok2, Bool.false_and], fun H12 s12 => ⟨_, rfl, iteF ?_⟩⟩
      exact ⟨_, _, _, _, rfl, c.mono s12⟩
    · rintro σ H3 ⟨y3, y4, y5, y6, rfl, c⟩
      exact h3 _ H3 dr ns v2 _ _ _ _ _ _ _ _ _ _ _ _ _ _ c hk
end
end K1

/-! ### the head's facts: defs at any address, own exceptions with an __init__, classmethods, empty tuples as defaults -/
namespace Ls
open PySem PySem.Spec PyProof.Rows L2 NdefX He ClX
structure CmD where
  cls : Str
  m : Str
def CmD.ok (K : PySem.W.Frag) (c : CmD) : Bool := He5.wrapB K (ga K c.cls) "classmethod" "classmethod.__get__" c.m && (PySem.W.fnIn K (He5.wf K (ga K c.cls) "classmethod" c.m) && (PySem.W.readsIn K (ga K c.cls) (.type "type") && eqO (PySem.W.specialIn K (.ref (ga K c.cls)) "__getattribute__") (some (some (.builtin "type.__getattribute__")))))
theorem CmD.read {K : PySem.W.Frag} {c : CmD} (h : c.ok K = true) : CRead K (ga K c.cls) (.type "type") := by
  obtain ⟨h1, h⟩ := ba h
  obtain ⟨h2, h⟩ := ba h
  obtain ⟨h3, h4⟩ := ba h
  exact ⟨h3, eqO_ok h4⟩
theorem CmD.met {K : PySem.W.Frag} {c : CmD} (h : c.ok K = true) : CMet K (ga K c.cls) (.type "type") c.m (ma K (ga K c.cls) c.m) (He5.wf K (ga K c.cls) "classmethod" c.m) := by
  obtain ⟨h1, h⟩ := ba h
  obtain ⟨h2, h⟩ := ba h
  exact He5.cmet_of h1 h2
/-- the keyword-only default x of the def at p, if it is an object -/
def kwdAt (p : PySem.W.Frag → Addr) (x : Str) (K : PySem.W.Frag) : Addr := match K.lookup (p K) with
  | some ⟨_, _, .func fd, _⟩ => (match fd.kwdefaults with
    | .ref D => (match PySem.W.nsIn K D x with
      | some (some (.ref a)) => a
      | _ => 0)
    | _ => 0)
  | _ => 0
def tup0B (K : PySem.W.Frag) (a : Addr) : Bool := match K.lookup a with
  | some ⟨.type c, _, .seq its _, _⟩ => (c == "tuple") && (its.size == 0)
  | _ => false
theorem tup0_ok {K : PySem.W.Frag} {a : Addr} (h : tup0B K a = true) (H : Hp) : SqT K H a [] := by
  unfold tup0B at h
  split at h
  · rename_i c od its n sl ho
    obtain ⟨h1, h2⟩ := ba h
    have e1 := eq_of_beq h1
    have e2 := eq_of_beq h2
    refine .inr ⟨_, its, n, ho, by rw [e1], rfl, by rw [e2]; exact Nat.zero_le _, ?_⟩
    obtain ⟨l⟩ := its
    have : l = [] := List.length_eq_zero_iff.mp e2
    subst this
    exact .nil
  · cases h
/-- m of the class c is a property -/
def prB (c m : Str) (K : PySem.W.Frag) : Bool := eqO (PySem.W.findIn K (.ref (ga K c)) m) (some (some (.ref (ma K (ga K c) m)))) && (eqO (PySem.W.specialIn K (.ref (ma K (ga K c) m)) "__get__") (some (some (.builtin "property.__get__"))) && (decide (PySem.W.takesIn K (.ref (ma K (ga K c) m)) = some true) && (match PySem.W.recIn K (ma K (ga K c) m) "property" with
    | some (.ref _ :: _) => true
    | _ => false)))
theorem prB_ok {K : PySem.W.Frag} {c m : Str} (h : prB c m K = true) : PropOf K (ga K c) m (ma K (ga K c) m) (He5.wf K (ga K c) "property" m) := by
  obtain ⟨h1, h⟩ := ba h
  obtain ⟨h2, h⟩ := ba h
  obtain ⟨h3, h4⟩ := ba h
  refine ⟨eqO_ok h1, eqO_ok h2, of_decide_eq_true h3, ?_⟩
  unfold He5.wf
  split at h4
  · rename_i f r e
    exact ⟨r, by rw [e]⟩
  · cases h4
structure Hd2 where
  fa : List Fa
  fn : List He5.DefA
  fx : List Fx
  su : List SupD
  cm : List CmD
  t0 : List (PySem.W.Frag → Addr)
  bs : List (PySem.W.Frag → Bool)
  file : Str
abbrev AlS2 : Type := AlD × Bool × List FnS
def obsS2 (d : Hd2) (K : PySem.W.Frag) : AlS2 := (He5.obsA d.fa d.fn K, (d.fx.all fun f => f.ok K) && ((d.su.all fun u => u.ok K d.file) && ((d.cm.all fun c => c.ok K) && ((d.t0.all fun t => tup0B K (t K)) && (d.bs.all fun b => b K)))), d.su.map fun u => fnS K u.cls)
def valS2 (d : Hd2) : AlS2 := (He5.valA d.fn, true, d.su.map SupD.val)
def obsSG2 (n : Nat) (d : Hd2) (g : Addr → Option Obj) : AlS2 := obsS2 d (frG g (asS g n))
def SaysS2 (d : Hd2) (K : PySem.W.Frag) : Prop := obsS2 d K = valS2 d
def hookS2 (n : Nat) (d : Hd2) : PySem.W.Hook where
  α := AlS2
  obs := fun s => obsSG2 n d s.heap.get?
  val := fun _ => valS2 d
  says := fun _ h => ∃ K : PySem.W.Frag, K.In h ∧ SaysS2 d K
  of := fun _ _ e => ⟨_, frG_in, e⟩
  keeps := fun _ _ _ ⟨K, hK, c⟩ k => ⟨K, hK.keeps k, c⟩
theorem obsSG2_eq {n : Nat} {d : Hd2} {g : Addr → Option Obj} {s : Shared} (h : ∀ a, g a = s.heap.get? a) : obsSG2 n d g = (hookS2 n d).obs s := by
  rw [show g = s.heap.get? from funext h]; rfl
section
variable {d : Hd2} {K : PySem.W.Frag}
theorem SaysS2.d_ (c : SaysS2 d K) : He5.SaysA d.fa d.fn K := congrArg (fun z : AlS2 => z.1) c
theorem SaysS2.b_ (c : SaysS2 d K) : ((d.fx.all fun f => f.ok K) && ((d.su.all fun u => u.ok K d.file) && ((d.cm.all fun c => c.ok K) && ((d.t0.all fun t => tup0B K (t K)) && (d.bs.all fun b => b K))))) = true := congrArg (fun z : AlS2 => z.2.1) c
theorem SaysS2.x (c : SaysS2 d K) (i : Nat) {f : Fx} (h : d.fx[i]? = some f := by rfl) : f.ok K = true := List.all_eq_true.mp (ba c.b_).1 f (List.mem_of_getElem? h)
theorem SaysS2.c_ (c : SaysS2 d K) (i : Nat) {f : CmD} (h : d.cm[i]? = some f := by rfl) : f.ok K = true := List.all_eq_true.mp (ba (ba (ba c.b_).2).2).1 f (List.mem_of_getElem? h)
theorem SaysS2.t_ (c : SaysS2 d K) (i : Nat) {t : PySem.W.Frag → Addr} (h : d.t0[i]? = some t := by rfl) (H : Hp) : SqT K H (t K) [] := tup0_ok (List.all_eq_true.mp (ba (ba (ba (ba c.b_).2).2).2).1 t (List.mem_of_getElem? h)) H
theorem SaysS2.bs_ (c : SaysS2 d K) (i : Nat) {b : PySem.W.Frag → Bool} (h : d.bs[i]? = some b := by rfl) : b K = true := List.all_eq_true.mp (ba (ba (ba (ba c.b_).2).2).2).2 b (List.mem_of_getElem? h)
theorem SaysS2.u (c : SaysS2 d K) (i : Nat) {u : SupD} {P : Program} (hf : ((P.main.file : Str) == d.file) = true) (ht : (P.main.scope.names.lookup ("super" : Str)).isSome = false) (h : d.su[i]? = some u := by rfl) :
    ∃ (fd : FuncData) (cc cf : Addr), SupC P K (ga K u.cls) (fIn K u.cls) cc ⟨"__init__", u.qual, u.params, u.body, u.scope, [(("__class__" : Str), cc)], cf⟩ fd := by
  have c2 := List.all_eq_true.mp (ba (ba c.b_).2).1 u (List.mem_of_getElem? h)
  have e : d.su.map (fun u => fnS K u.cls) = d.su.map SupD.val := congrArg (fun z : AlS2 => z.2.2) c
  have e2 : (d.su.map fun u => fnS K u.cls)[i]? = (d.su.map SupD.val)[i]? := by rw [e]
  rw [List.getElem?_map, List.getElem?_map, h] at e2
  exact SupD.supC (Option.some.inj e2) c2 hf ht
end
end Ls

namespace K1
open PySem PySem.Spec PyProof.Rows L2 Ls He ClX
/-- the global WORDS is the tuple of the words -/
def strsB : List Value → List Str → Bool
  | [], [] => true
  | .str x _ :: us, y :: ys => (x == y) && strsB us ys
  | _, _ => false
theorem strs_ok : ∀ {us : List Value} {ys : List Str}, strsB us ys = true → Vals (ys.map V.str) us
  | [], [], _ => .nil
  | .str x t :: us, y :: ys, h => by
    obtain ⟨h1, h2⟩ := ba h
    have e := eq_of_beq h1
    subst e
    exact .cons ⟨t, rfl⟩ (strs_ok h2)
  | [], _ :: _, h => by cases h
def wordsB (K : PySem.W.Frag) : Bool := match K.lookup (ga K "WORDS") with
  | some ⟨.type c, none, .seq its _, _⟩ => (c == "tuple") && strsB its.toList wordsL
  | _ => false
theorem words_ok {K : PySem.W.Frag} (h : wordsB K = true) (H : Hp) : SqT K H (ga K "WORDS") (wordsL.map V.str) := by
  unfold wordsB at h
  split at h
  · rename_i c its n sl ho
    obtain ⟨h1, h2⟩ := ba h
    have e1 := eq_of_beq h1
    have hv := strs_ok h2
    have hl := hv.length
    refine .inr ⟨_, its, n, ho, by rw [e1], rfl, ?_, hv⟩
    rw [List.length_map] at hl
    have : its.size = wordsL.length := by rw [← Array.length_toList]; exact hl.symm
    rw [this]
    exact by decide
  · cases h
end K1

namespace K1
open PySem PySem.Spec PyProof.Rows L2 Ls
def d_is_word : He5.DefA := ⟨fun K => He.fAd K ("is_word", none), "is_word", "is_word", defArgs s_is_word, defBody s_is_word, defScope s_is_word, [], []⟩
def d_is_number : He5.DefA := ⟨fun K => He.fAd K ("is_number", none), "is_number", "is_number", defArgs s_is_number, defBody s_is_number, defScope s_is_number, [], []⟩
def d_is_end : He5.DefA := ⟨fun K => He.fAd K ("is_end", none), "is_end", "is_end", defArgs s_is_end, defBody s_is_end, defScope s_is_end, [], []⟩
def d_is_atom : He5.DefA := ⟨fun K => He.fAd K ("is_atom", none), "is_atom", "is_atom", defArgs s_is_atom, defBody s_is_atom, defScope s_is_atom, [], []⟩
def d_is_difference : He5.DefA := ⟨fun K => He.fAd K ("is_difference", none), "is_difference", "is_difference", defArgs s_is_difference, defBody s_is_difference, defScope s_is_difference, [], []⟩
def d_u_is_row : He5.DefA := ⟨fun K => He.fAd K ("_is_row", none), "_is_row", "_is_row", defArgs s_u_is_row, defBody s_u_is_row, defScope s_u_is_row, [], []⟩
def d_u_is_list : He5.DefA := ⟨fun K => He.fAd K ("_is_list", none), "_is_list", "_is_list", defArgs s_u_is_list, defBody s_u_is_list, defScope s_u_is_list, [], []⟩
def d_is_access : He5.DefA := ⟨fun K => He.fAd K ("is_access", none), "is_access", "is_access", defArgs s_is_access, defBody s_is_access, defScope s_is_access, [], []⟩
def d_u_is_loop : He5.DefA := ⟨fun K => He.fAd K ("_is_loop", none), "_is_loop", "_is_loop", defArgs s_u_is_loop, defBody s_u_is_loop, defScope s_u_is_loop, [], []⟩
def d_u_is_run : He5.DefA := ⟨fun K => He.fAd K ("_is_run", none), "_is_run", "_is_run", defArgs s_u_is_run, defBody s_u_is_run, defScope s_u_is_run, [], []⟩
def d_u_is_node : He5.DefA := ⟨fun K => He.fAd K ("_is_node", none), "_is_node", "_is_node", defArgs s_u_is_node, defBody s_u_is_node, defScope s_u_is_node, [], []⟩
def d_u_is_body : He5.DefA := ⟨fun K => He.fAd K ("_is_body", none), "_is_body", "_is_body", defArgs s_u_is_body, defBody s_u_is_body, defScope s_u_is_body, [], []⟩
def d_body_of : He5.DefA := ⟨fun K => He.fAd K ("body_of", none), "body_of", "body_of", defArgs s_body_of, defBody s_body_of, defScope s_body_of, [], []⟩
def d_accesses : He5.DefA := ⟨fun K => He.fAd K ("accesses", none), "accesses", "accesses", defArgs s_accesses, defBody s_accesses, defScope s_accesses, [], []⟩
def d_forms : He5.DefA := ⟨fun K => He.fAd K ("forms", none), "forms", "forms", defArgs s_forms, defBody s_forms, defScope s_forms, [], []⟩
def d_one_form : He5.DefA := ⟨fun K => He.fAd K ("one_form", none), "one_form", "one_form", defArgs s_one_form, defBody s_one_form, defScope s_one_form, [], []⟩
def d_u_are_rooms : He5.DefA := ⟨fun K => He.fAd K ("_are_rooms", none), "_are_rooms", "_are_rooms", defArgs s_u_are_rooms, defBody s_u_are_rooms, defScope s_u_are_rooms, [], []⟩
def d_u_is_names : He5.DefA := ⟨fun K => He.fAd K ("_is_names", none), "_is_names", "_is_names", defArgs s_u_is_names, defBody s_u_is_names, defScope s_u_is_names, [], []⟩
def d_Nest___init__ : He5.DefA := ⟨fun K => He.fAd K ("Nest", some "__init__"), "__init__", "Nest.__init__", defArgs s_Nest___init__, defBody s_Nest___init__, defScope s_Nest___init__, [], []⟩
def d_Nest_labels : He5.DefA := ⟨fun K => He5.wf K (He.ga K "Nest") "property" "labels", "labels", "Nest.labels", defArgs s_Nest_labels, defBody s_Nest_labels, defScope s_Nest_labels, [], []⟩
def d_Nest_arrays : He5.DefA := ⟨fun K => He5.wf K (He.ga K "Nest") "property" "arrays", "arrays", "Nest.arrays", defArgs s_Nest_arrays, defBody s_Nest_arrays, defScope s_Nest_arrays, [], []⟩
def d_Statement___init__ : He5.DefA := ⟨fun K => He.fAd K ("Statement", some "__init__"), "__init__", "Statement.__init__", defArgs s_Statement___init__, defBody s_Statement___init__, defScope s_Statement___init__, [], []⟩
def d_u_gather : He5.DefA := ⟨fun K => He.fAd K ("_gather", none), "_gather", "_gather", defArgs s_u_gather, defBody s_u_gather, defScope s_u_gather, [], []⟩
def d_statements : He5.DefA := ⟨fun K => He.fAd K ("statements", none), "statements", "statements", defArgs s_statements, defBody s_statements, defScope s_statements, [], []⟩
def d_statement_at : He5.DefA := ⟨fun K => He.fAd K ("statement_at", none), "statement_at", "statement_at", defArgs s_statement_at, defBody s_statement_at, defScope s_statement_at, [], []⟩
def d_system_of_run : He5.DefA := ⟨fun K => He.fAd K ("system_of_run", none), "system_of_run", "system_of_run", defArgs s_system_of_run, defBody s_system_of_run, defScope s_system_of_run, [], []⟩
def d_bounds : He5.DefA := ⟨fun K => He.fAd K ("bounds", none), "bounds", "bounds", defArgs s_bounds, defBody s_bounds, defScope s_bounds, [], []⟩
def d_node_at : He5.DefA := ⟨fun K => He.fAd K ("node_at", none), "node_at", "node_at", defArgs s_node_at, defBody s_node_at, defScope s_node_at, [], []⟩
def d_u_law_number : He5.DefA := ⟨fun K => He.fAd K ("_law_number", none), "_law_number", "_law_number", defArgs s_u_law_number, defBody s_u_law_number, defScope s_u_law_number, [], []⟩
def d_u_law_take : He5.DefA := ⟨fun K => He.fAd K ("_law_take", none), "_law_take", "_law_take", defArgs s_u_law_take, defBody s_u_law_take, defScope s_u_law_take, [], []⟩
def d_u_law_pick : He5.DefA := ⟨fun K => He.fAd K ("_law_pick", none), "_law_pick", "_law_pick", defArgs s_u_law_pick, defBody s_u_law_pick, defScope s_u_law_pick, [], []⟩
def d_u_law_refused : He5.DefA := ⟨fun K => He.fAd K ("_law_refused", none), "_law_refused", "_law_refused", defArgs s_u_law_refused, defBody s_u_law_refused, defScope s_u_law_refused, [], []⟩
def d_u_law_bad_atoms : He5.DefA := ⟨fun K => He.fAd K ("_law_bad_atoms", none), "_law_bad_atoms", "_law_bad_atoms", defArgs s_u_law_bad_atoms, defBody s_u_law_bad_atoms, defScope s_u_law_bad_atoms, [], []⟩
def d_u_law_bad_accesses : He5.DefA := ⟨fun K => He.fAd K ("_law_bad_accesses", none), "_law_bad_accesses", "_law_bad_accesses", defArgs s_u_law_bad_accesses, defBody s_u_law_bad_accesses, defScope s_u_law_bad_accesses, [], []⟩
def d_u_law_bad_nodes : He5.DefA := ⟨fun K => He.fAd K ("_law_bad_nodes", none), "_law_bad_nodes", "_law_bad_nodes", defArgs s_u_law_bad_nodes, defBody s_u_law_bad_nodes, defScope s_u_law_bad_nodes, [], []⟩
def d_u_law_deep : He5.DefA := ⟨fun K => He.fAd K ("_law_deep", none), "_law_deep", "_law_deep", defArgs s_u_law_deep, defBody s_u_law_deep, defScope s_u_law_deep, [], []⟩
def d_u_law_bad_heads : He5.DefA := ⟨fun K => He.fAd K ("_law_bad_heads", none), "_law_bad_heads", "_law_bad_heads", defArgs s_u_law_bad_heads, defBody s_u_law_bad_heads, defScope s_u_law_bad_heads, [], []⟩
def d_u_law_nowhere : He5.DefA := ⟨fun K => He.fAd K ("_law_nowhere", none), "_law_nowhere", "_law_nowhere", defArgs s_u_law_nowhere, defBody s_u_law_nowhere, defScope s_u_law_nowhere, [], []⟩
def d_law : He5.DefA := ⟨fun K => He.fAd K ("law", none), "law", "law", defArgs s_law, defBody s_law, defScope s_law, [], []⟩
def fn : List He5.DefA := [d_is_word, d_is_number, d_is_end, d_is_atom, d_is_difference, d_u_is_row, d_u_is_list, d_is_access, d_u_is_loop, d_u_is_run, d_u_is_node, d_u_is_body, d_body_of, d_accesses, d_forms, d_one_form, d_u_are_rooms, d_u_is_names, d_Nest___init__, d_Nest_labels, d_Nest_arrays, d_Statement___init__, d_u_gather, d_statements, d_statement_at, d_system_of_run, d_bounds, d_node_at, d_u_law_number, d_u_law_take, d_u_law_pick, d_u_law_refused, d_u_law_bad_atoms, d_u_law_bad_accesses, d_u_law_bad_nodes, d_u_law_deep, d_u_law_bad_heads, d_u_law_nowhere, d_law]
def fa : List He.Fa := [.glo "is_word", .glo "is_number", .glo "is_end", .glo "is_atom", .glo "is_difference", .glo "_is_row", .glo "_is_list", .glo "is_access", .glo "_is_loop", .glo "_is_run", .glo "_is_node", .glo "_is_body", .glo "body_of", .glo "accesses", .glo "forms", .glo "one_form", .glo "_are_rooms", .glo "_is_names", .glo "_gather", .glo "statements", .glo "statement_at", .glo "system_of_run", .glo "bounds", .glo "node_at", .glo "_law_number", .glo "_law_take", .glo "_law_pick", .glo "_law_refused", .glo "_law_bad_atoms", .glo "_law_bad_accesses", .glo "_law_bad_nodes", .glo "_law_deep", .glo "_law_bad_heads", .glo "_law_nowhere", .glo "law", .free "len", .free "range", .free "enumerate", .free "isinstance", .free "tuple", .free "list", .free "int", .free "bool", .free "str", .free "dict", .free "sorted", .free "sum", .free "all", .free "max", .free "min", .free "abs", .free "ValueError", .int "MOST_NUMBER" 9999, .int "MOST_DEPTH" 40, .glo "Nest", .cls "Nest", .noat "Nest" "sizes", .noat "Nest" "given", .noat "Nest" "_rooms", .noat "Nest" "kept", .noat "Nest" "body", .noat "Nest" "_arrays", .noat "Nest" "_labels", .mkr "Nest", .glo "Statement", .cls "Statement", .noat "Statement" "label", .noat "Statement" "stamp", .noat "Statement" "target", .noat "Statement" "reads", .noat "Statement" "path", .noat "Statement" "loops", .noat "Statement" "tests", .noat "Statement" "heads", .noat "Statement" "around", .noat "Statement" "counters", .mkr "Statement", .glo "BadNest", .exc "BadNest", .exm "BadNest" "BadNest" true, .glo "NoPlace", .exc "NoPlace", .exm "NoPlace" "NoPlace" true, .glo "NoNode", .noat "NoNode" "path", .exm "NoNode" "NoNode" true, .glo "LoopshedsError", .glo "WORDS"]
abbrev R : PySem.W.OpenRow := PySem.W.OpenLaw.row PySem.Challenge.rw_loopsheds_k43_refused_nests
def names : List Str := (["_wall", "LoopshedsError", "BadNest", "NoNode", "NoPlace", "MOST_NUMBER", "MOST_DEPTH", "WORDS", "is_word", "is_number", "is_end", "is_atom", "is_difference", "_is_row", "_is_list", "is_access"] : List Str) ++ (["_is_loop", "_is_run", "_is_node", "_is_body", "body_of", "accesses", "forms", "one_form", "_are_rooms", "_is_names", "Nest", "Statement", "_gather", "statements", "statement_at", "loop_system"] : List Str) ++ (["size_system", "system_of_run", "bounds", "node_at", "_law_number", "_law_take", "_law_pick", "_law_atom", "_law_access", "_law_run", "_law_loop", "_law_test", "_law_body", "_law_worth", "_law_cell", "_law_holds"] : List Str) ++ (["_law_many", "_law_rounds", "_law_runs", "_law_refused", "_law_bad_atoms", "_law_bad_accesses", "_law_bad_nodes", "_law_deep", "_law_bad_heads", "_law_nowhere"] : List Str)
def fx : List Fx := [.exc "NoNode", .exc "BadNest", .exc "NoPlace", .isi "NoNode" "LoopshedsError" true, .isi "BadNest" "LoopshedsError" true, .isi "NoPlace" "LoopshedsError" true, .isb "NoNode" "ValueError" true, .isb "BadNest" "ValueError" true, .isb "NoPlace" "ValueError" true]
def su : List SupD := [⟨"NoNode", "NoNode.__init__", defArgs s_NoNode___init__, defBody s_NoNode___init__, defScope s_NoNode___init__⟩]
def cm : List CmD := []
def t0 : List (PySem.W.Frag → Addr) := []
def bs : List (PySem.W.Frag → Bool) := [prB "Nest" "arrays", prB "Nest" "labels", wordsB, fun K => decide (He.ga K "is_atom" ≠ He.ga K "is_difference")]
def hd : Hd2 := ⟨fa, fn, fx, su, cm, t0, bs, "/claim/cut.py"⟩
abbrev hk : PySem.W.Hook := hookS2 5 hd
def ob (s : PySem.W.SharedT) : AlS2 := obsSG2 5 hd (HandSHeadRun.getT s)
theorem ob_eq (s : PySem.W.SharedT) : ob s = hk.obs s.abs := obsSG2_eq (HandSHeadRun.getT_eq s)
theorem run (w : World) : HandSHeadRun.RunEq R (PySem.W.view R.prog [62]) hk ob 4000 names w := by
  intro os
  kernel_rfl
theorem facts {P : Program} {w : World} {K : PySem.W.Frag} {h : Heap} {mg : Str → Option Value} {f : Addr} (X : K.In h) (N : h.Ns mainGlobals mg) (hfa : mg ("law" : Str) = some (.ref f)) (cS : SaysS2 hd K) (hPf : ((P.main.file : Str) == hd.file) = true) (hPs : (P.main.scope.names.lookup ("super" : Str)).isSome = false) :
    ∃ fd : FuncData, (∀ (s : Shared) (v : Value), BindsTo s fd ⟨[v], []⟩ [("script", v)]) ∧ ∀ base : Heap, K.In base → base.Ns mainGlobals mg → FnOk P w K mg base CX0 134 f fd ["script"] (spLaw K) := by
  have c : He5.SaysA fa fn K := cS.d_
  obtain ⟨fd_is_word, F_is_word⟩ := c.def_ 0 (d := d_is_word) rfl
  obtain ⟨fd_is_number, F_is_number⟩ := c.def_ 1 (d := d_is_number) rfl
  obtain ⟨fd_is_end, F_is_end⟩ := c.def_ 2 (d := d_is_end) rfl
  obtain ⟨fd_is_atom, F_is_atom⟩ := c.def_ 3 (d := d_is_atom) rfl
  obtain ⟨fd_is_difference, F_is_difference⟩ := c.def_ 4 (d := d_is_difference) rfl
  obtain ⟨fd_u_is_row, F_u_is_row⟩ := c.def_ 5 (d := d_u_is_row) rfl
  obtain ⟨fd_u_is_list, F_u_is_list⟩ := c.def_ 6 (d := d_u_is_list) rfl
  obtain ⟨fd_is_access, F_is_access⟩ := c.def_ 7 (d := d_is_access) rfl
  obtain ⟨fd_u_is_loop, F_u_is_loop⟩ := c.def_ 8 (d := d_u_is_loop) rfl
  obtain ⟨fd_u_is_run, F_u_is_run⟩ := c.def_ 9 (d := d_u_is_run) rfl
  obtain ⟨fd_u_is_node, F_u_is_node⟩ := c.def_ 10 (d := d_u_is_node) rfl
  obtain ⟨fd_u_is_body, F_u_is_body⟩ := c.def_ 11 (d := d_u_is_body) rfl
  obtain ⟨fd_body_of, F_body_of⟩ := c.def_ 12 (d := d_body_of) rfl
  obtain ⟨fd_accesses, F_accesses⟩ := c.def_ 13 (d := d_accesses) rfl
  obtain ⟨fd_forms, F_forms⟩ := c.def_ 14 (d := d_forms) rfl
  obtain ⟨fd_one_form, F_one_form⟩ := c.def_ 15 (d := d_one_form) rfl
  obtain ⟨fd_u_are_rooms, F_u_are_rooms⟩ := c.def_ 16 (d := d_u_are_rooms) rfl
  obtain ⟨fd_u_is_names, F_u_is_names⟩ := c.def_ 17 (d := d_u_is_names) rfl
  obtain ⟨fd_Nest___init__, F_Nest___init__⟩ := c.def_ 18 (d := d_Nest___init__) rfl
  obtain ⟨fd_Nest_labels, F_Nest_labels⟩ := c.def_ 19 (d := d_Nest_labels) rfl
  obtain ⟨fd_Nest_arrays, F_Nest_arrays⟩ := c.def_ 20 (d := d_Nest_arrays) rfl
  obtain ⟨fd_Statement___init__, F_Statement___init__⟩ := c.def_ 21 (d := d_Statement___init__) rfl
  obtain ⟨fd_u_gather, F_u_gather⟩ := c.def_ 22 (d := d_u_gather) rfl
  obtain ⟨fd_statements, F_statements⟩ := c.def_ 23 (d := d_statements) rfl
  obtain ⟨fd_statement_at, F_statement_at⟩ := c.def_ 24 (d := d_statement_at) rfl
  obtain ⟨fd_system_of_run, F_system_of_run⟩ := c.def_ 25 (d := d_system_of_run) rfl
  obtain ⟨fd_bounds, F_bounds⟩ := c.def_ 26 (d := d_bounds) rfl
  obtain ⟨fd_node_at, F_node_at⟩ := c.def_ 27 (d := d_node_at) rfl
  obtain ⟨fd_u_law_number, F_u_law_number⟩ := c.def_ 28 (d := d_u_law_number) rfl
  obtain ⟨fd_u_law_take, F_u_law_take⟩ := c.def_ 29 (d := d_u_law_take) rfl
  obtain ⟨fd_u_law_pick, F_u_law_pick⟩ := c.def_ 30 (d := d_u_law_pick) rfl
  obtain ⟨fd_u_law_refused, F_u_law_refused⟩ := c.def_ 31 (d := d_u_law_refused) rfl
  obtain ⟨fd_u_law_bad_atoms, F_u_law_bad_atoms⟩ := c.def_ 32 (d := d_u_law_bad_atoms) rfl
  obtain ⟨fd_u_law_bad_accesses, F_u_law_bad_accesses⟩ := c.def_ 33 (d := d_u_law_bad_accesses) rfl
  obtain ⟨fd_u_law_bad_nodes, F_u_law_bad_nodes⟩ := c.def_ 34 (d := d_u_law_bad_nodes) rfl
  obtain ⟨fd_u_law_deep, F_u_law_deep⟩ := c.def_ 35 (d := d_u_law_deep) rfl
  obtain ⟨fd_u_law_bad_heads, F_u_law_bad_heads⟩ := c.def_ 36 (d := d_u_law_bad_heads) rfl
  obtain ⟨fd_u_law_nowhere, F_u_law_nowhere⟩ := c.def_ 37 (d := d_u_law_nowhere) rfl
  obtain ⟨fd_law, F_law⟩ := c.def_ 38 (d := d_law) rfl
  have G : Facts mg := ⟨He.free_ok X N (c.fact 35 (f := .free "len") rfl), He.free_ok X N (c.fact 36 (f := .free "range") rfl), He.free_ok X N (c.fact 37 (f := .free "enumerate") rfl), He.free_ok X N (c.fact 38 (f := .free "isinstance") rfl), He.free_ok X N (c.fact 39 (f := .free "tuple") rfl), He.free_ok X N (c.fact 40 (f := .free "list") rfl), He.free_ok X N (c.fact 41 (f := .free "int") rfl), He.free_ok X N (c.fact 42 (f := .free "bool") rfl), He.free_ok X N (c.fact 43 (f := .free "str") rfl), He.free_ok X N (c.fact 44 (f := .free "dict") rfl), He.free_ok X N (c.fact 45 (f := .free "sorted") rfl), He.free_ok X N (c.fact 46 (f := .free "sum") rfl), He.free_ok X N (c.fact 47 (f := .free "all") rfl), He.free_ok X N (c.fact 48 (f := .free "max") rfl), He.free_ok X N (c.fact 49 (f := .free "min") rfl), He.free_ok X N (c.fact 50 (f := .free "abs") rfl), He.free_ok X N (c.fact 51 (f := .free "ValueError") rfl), He.int_ok X N (c.fact 52 (f := .int "MOST_NUMBER" 9999) rfl), He.int_ok X N (c.fact 53 (f := .int "MOST_DEPTH" 40) rfl)⟩
  have NC : NCls K (He.ga K "Nest") := ⟨He.cls_ok (c.fact 55 (f := .cls "Nest") rfl), He.noat_ok (c.fact 56 (f := .noat "Nest" "sizes") rfl), He.noat_ok (c.fact 57 (f := .noat "Nest" "given") rfl), He.noat_ok (c.fact 58 (f := .noat "Nest" "_rooms") rfl), He.noat_ok (c.fact 59 (f := .noat "Nest" "kept") rfl), He.noat_ok (c.fact 60 (f := .noat "Nest" "body") rfl), He.noat_ok (c.fact 61 (f := .noat "Nest" "_arrays") rfl), He.noat_ok (c.fact 62 (f := .noat "Nest" "_labels") rfl)⟩
  have SC : SCls K (He.ga K "Statement") := ⟨He.cls_ok (c.fact 65 (f := .cls "Statement") rfl), He.noat_ok (c.fact 66 (f := .noat "Statement" "label") rfl), He.noat_ok (c.fact 67 (f := .noat "Statement" "stamp") rfl), He.noat_ok (c.fact 68 (f := .noat "Statement" "target") rfl), He.noat_ok (c.fact 69 (f := .noat "Statement" "reads") rfl), He.noat_ok (c.fact 70 (f := .noat "Statement" "path") rfl), He.noat_ok (c.fact 71 (f := .noat "Statement" "loops") rfl), He.noat_ok (c.fact 72 (f := .noat "Statement" "tests") rfl), He.noat_ok (c.fact 73 (f := .noat "Statement" "heads") rfl), He.noat_ok (c.fact 74 (f := .noat "Statement" "around") rfl), He.noat_ok (c.fact 75 (f := .noat "Statement" "counters") rfl)⟩
  have BN : ExcF K mg "BadNest" (He.ga K "BadNest") := ⟨(He.glo_ok X N (c.fact 77 (f := .glo "BadNest") rfl)), (He.exc_ok (c.fact 78 (f := .exc "BadNest") rfl)).1, (He.exc_ok (c.fact 78 (f := .exc "BadNest") rfl)).2.1, (He.exc_ok (c.fact 78 (f := .exc "BadNest") rfl)).2.2.1, (He.exc_ok (c.fact 78 (f := .exc "BadNest") rfl)).2.2.2, (He.exm_ok (c.fact 79 (f := .exm "BadNest" "BadNest" true) rfl))⟩
  have NP : ExcF K mg "NoPlace" (He.ga K "NoPlace") := ⟨(He.glo_ok X N (c.fact 80 (f := .glo "NoPlace") rfl)), (He.exc_ok (c.fact 81 (f := .exc "NoPlace") rfl)).1, (He.exc_ok (c.fact 81 (f := .exc "NoPlace") rfl)).2.1, (He.exc_ok (c.fact 81 (f := .exc "NoPlace") rfl)).2.2.1, (He.exc_ok (c.fact 81 (f := .exc "NoPlace") rfl)).2.2.2, (He.exm_ok (c.fact 82 (f := .exm "NoPlace" "NoPlace" true) rfl))⟩
  obtain ⟨fdE0, ccE0, cfE0, UE0⟩ := cS.u 0 (P := P) hPf hPs rfl
  obtain ⟨_, _, docE0, pmE0, ctvE0, _, eE0, _⟩ := UE0.fn
  have bE0 : Binds K fdE0 ["self", "path"] [] := by rw [eE0]; exact Binds.all fun us hl => match us, hl with | [_, _], _ => rfl
  have noE0 : PySem.W.findIn K (.ref (He.ga K "NoNode")) "path" = some none := He.noat_ok (c.fact 84 (f := .noat "NoNode" "path") rfl)
  have ecE0 : ExcC K (He.ga K "NoNode") := excB_ok (cS.x 0 (f := .exc "NoNode") rfl)
  have XE_NoNode : ∀ base : Heap, ExcS P w K mg base "NoNode" (He.ga K "NoNode") "path" := fun base => ⟨UE0.oex, noE0, (Ls.ExcC.xf ecE0), (He.glo_ok X N (c.fact 83 (f := .glo "NoNode") rfl)), _, fdE0, ["self", "path"], UE0.ini, UE0.typ, ok_NoNode UE0 noE0, bE0⟩
  have EB : ErrF K (He.ga K "BadNest") (He.ga K "LoopshedsError") := ⟨excB_ok (cS.x 1 (f := .exc "BadNest") rfl), (He.exm_ok (c.fact 79 (f := .exm "BadNest" "BadNest" true) rfl)), (of_decide_eq_true (cS.x 4 (f := .isi "BadNest" "LoopshedsError" true) rfl)), (of_decide_eq_true (cS.x 7 (f := .isb "BadNest" "ValueError" true) rfl))⟩
  have EN : ErrF K (He.ga K "NoNode") (He.ga K "LoopshedsError") := ⟨excB_ok (cS.x 0 (f := .exc "NoNode") rfl), (He.exm_ok (c.fact 85 (f := .exm "NoNode" "NoNode" true) rfl)), (of_decide_eq_true (cS.x 3 (f := .isi "NoNode" "LoopshedsError" true) rfl)), (of_decide_eq_true (cS.x 6 (f := .isb "NoNode" "ValueError" true) rfl))⟩
  have EP : ErrF K (He.ga K "NoPlace") (He.ga K "LoopshedsError") := ⟨excB_ok (cS.x 2 (f := .exc "NoPlace") rfl), (He.exm_ok (c.fact 82 (f := .exm "NoPlace" "NoPlace" true) rfl)), (of_decide_eq_true (cS.x 5 (f := .isi "NoPlace" "LoopshedsError" true) rfl)), (of_decide_eq_true (cS.x 8 (f := .isb "NoPlace" "ValueError" true) rfl))⟩
  have hCL : mg "LoopshedsError" = some (.ref (He.ga K "LoopshedsError")) := (He.glo_ok X N (c.fact 86 (f := .glo "LoopshedsError") rfl))
  have hW : mg "WORDS" = some (.ref (He.ga K "WORDS")) := (He.glo_ok X N (c.fact 87 (f := .glo "WORDS") rfl))
  have tW : ∀ H, SqT K H (He.ga K "WORDS") (wordsL.map V.str) := words_ok (cS.bs_ 2 (b := wordsB) rfl)
  have PA := prB_ok (cS.bs_ 0 (b := prB "Nest" "arrays") rfl)
  have PL := prB_ok (cS.bs_ 1 (b := prB "Nest" "labels") rfl)
  have hAD : He.ga K "is_atom" ≠ He.ga K "is_difference" := of_decide_eq_true (cS.bs_ 3 (b := fun K => decide (He.ga K "is_atom" ≠ He.ga K "is_difference")) rfl)
  have hA : mg "is_atom" = some (.ref (He.ga K "is_atom")) := (He.glo_ok X N (c.fact 3 (f := .glo "is_atom") rfl))
  have hD : mg "is_difference" = some (.ref (He.ga K "is_difference")) := (He.glo_ok X N (c.fact 4 (f := .glo "is_difference") rfl))
  have hC : mg "is_access" = some (.ref (He.ga K "is_access")) := (He.glo_ok X N (c.fact 7 (f := .glo "is_access") rfl))
  have e := hfa.symm.trans (He.glo_ok X N (c.fact 34 (f := .glo "law") rfl))
  cases e
  have b := FunD.bindsA (ps := ["script"]) F_law fun _ _ _ _ _ _ us hl => match us, hl with | [_], _ => rfl
  refine ⟨fd_law, fun s v => b s [v] rfl, fun base _ _ => ?_⟩
  have b_is_word : Binds K fd_is_word ["thing"] [] := FunD.bindsN F_is_word fun _ _ _ _ _ _ us hl => match us, hl with | [_], _ => rfl
  have b_is_number : Binds K fd_is_number ["thing"] [] := FunD.bindsN F_is_number fun _ _ _ _ _ _ us hl => match us, hl with | [_], _ => rfl
  have b_is_end : Binds K fd_is_end ["thing", "names"] [] := FunD.bindsN F_is_end fun _ _ _ _ _ _ us hl => match us, hl with | [_, _], _ => rfl
  have b_is_atom : Binds K fd_is_atom ["thing", "names"] [] := FunD.bindsN F_is_atom fun _ _ _ _ _ _ us hl => match us, hl with | [_, _], _ => rfl
  have b_is_difference : Binds K fd_is_difference ["thing", "names"] [] := FunD.bindsN F_is_difference fun _ _ _ _ _ _ us hl => match us, hl with | [_, _], _ => rfl
  have b_u_is_row : Binds K fd_u_is_row ["thing", "least", "most", "test", "names"] [] := FunD.bindsN F_u_is_row fun _ _ _ _ _ _ us hl => match us, hl with | [_, _, _, _, _], _ => rfl
  have b_u_is_list : Binds K fd_u_is_list ["thing", "test", "names"] [] := FunD.bindsN F_u_is_list fun _ _ _ _ _ _ us hl => match us, hl with | [_, _, _], _ => rfl
  have b_is_access : Binds K fd_is_access ["thing", "names"] [] := FunD.bindsN F_is_access fun _ _ _ _ _ _ us hl => match us, hl with | [_, _], _ => rfl
  have b_u_is_loop : Binds K fd_u_is_loop ["node", "names", "depth"] [] := FunD.bindsN F_u_is_loop fun _ _ _ _ _ _ us hl => match us, hl with | [_, _, _], _ => rfl
  have b_u_is_run : Binds K fd_u_is_run ["node", "names"] [] := FunD.bindsN F_u_is_run fun _ _ _ _ _ _ us hl => match us, hl with | [_, _], _ => rfl
  have b_u_is_node : Binds K fd_u_is_node ["node", "names", "depth"] [] := FunD.bindsN F_u_is_node fun _ _ _ _ _ _ us hl => match us, hl with | [_, _, _], _ => rfl
  have b_u_is_body : Binds K fd_u_is_body ["body", "names", "depth"] [] := FunD.bindsN F_u_is_body fun _ _ _ _ _ _ us hl => match us, hl with | [_, _, _], _ => rfl
  have b_body_of : Binds K fd_body_of ["node"] [] := FunD.bindsN F_body_of fun _ _ _ _ _ _ us hl => match us, hl with | [_], _ => rfl
  have b_accesses : Binds K fd_accesses ["body"] [] := FunD.bindsN F_accesses fun _ _ _ _ _ _ us hl => match us, hl with | [_], _ => rfl
  have b_forms : Binds K fd_forms ["body"] [] := FunD.bindsN F_forms fun _ _ _ _ _ _ us hl => match us, hl with | [_], _ => rfl
  have b_one_form : Binds K fd_one_form ["pairs"] [] := FunD.bindsN F_one_form fun _ _ _ _ _ _ us hl => match us, hl with | [_], _ => rfl
  have b_u_are_rooms : Binds K fd_u_are_rooms ["rooms", "sizes"] [] := FunD.bindsN F_u_are_rooms fun _ _ _ _ _ _ us hl => match us, hl with | [_, _], _ => rfl
  have b_u_is_names : Binds K fd_u_is_names ["thing"] [] := FunD.bindsN F_u_is_names fun _ _ _ _ _ _ us hl => match us, hl with | [_], _ => rfl
  have b_Nest___init__ : Binds K fd_Nest___init__ ["self", "sizes", "given", "rooms", "kept", "body"] [] := FunD.bindsN F_Nest___init__ fun _ _ _ _ _ _ us hl => match us, hl with | [_, _, _, _, _, _], _ => rfl
  have b_Nest_labels : Binds K fd_Nest_labels ["self"] [] := FunD.bindsN F_Nest_labels fun _ _ _ _ _ _ us hl => match us, hl with | [_], _ => rfl
  have b_Nest_arrays : Binds K fd_Nest_arrays ["self"] [] := FunD.bindsN F_Nest_arrays fun _ _ _ _ _ _ us hl => match us, hl with | [_], _ => rfl
  have b_Statement___init__ : Binds K fd_Statement___init__ ["self", "node", "path", "around"] [] := FunD.bindsN F_Statement___init__ fun _ _ _ _ _ _ us hl => match us, hl with | [_, _, _, _], _ => rfl
  have b_u_gather : Binds K fd_u_gather ["body", "path", "around"] [] := FunD.bindsN F_u_gather fun _ _ _ _ _ _ us hl => match us, hl with | [_, _, _], _ => rfl
  have b_statements : Binds K fd_statements ["nest"] [] := FunD.bindsN F_statements fun _ _ _ _ _ _ us hl => match us, hl with | [_], _ => rfl
  have b_statement_at : Binds K fd_statement_at ["nest", "place"] [] := FunD.bindsN F_statement_at fun _ _ _ _ _ _ us hl => match us, hl with | [_, _], _ => rfl
  have b_system_of_run : Binds K fd_system_of_run ["nest", "statement"] [] := FunD.bindsN F_system_of_run fun _ _ _ _ _ _ us hl => match us, hl with | [_, _], _ => rfl
  have b_bounds : Binds K fd_bounds ["nest", "place"] [] := FunD.bindsN F_bounds fun _ _ _ _ _ _ us hl => match us, hl with | [_, _], _ => rfl
  have b_node_at : Binds K fd_node_at ["nest", "path"] [] := FunD.bindsN F_node_at fun _ _ _ _ _ _ us hl => match us, hl with | [_, _], _ => rfl
  have b_u_law_number : Binds K fd_u_law_number ["script", "index"] [] := FunD.bindsN F_u_law_number fun _ _ _ _ _ _ us hl => match us, hl with | [_, _], _ => rfl
  have b_u_law_take : Binds K fd_u_law_take ["draw", "many"] [] := FunD.bindsN F_u_law_take fun _ _ _ _ _ _ us hl => match us, hl with | [_, _], _ => rfl
  have b_u_law_pick : Binds K fd_u_law_pick ["draw", "items"] [] := FunD.bindsN F_u_law_pick fun _ _ _ _ _ _ us hl => match us, hl with | [_, _], _ => rfl
  have b_u_law_refused : Binds K fd_u_law_refused ["sizes", "given", "rooms", "kept", "body"] [] := FunD.bindsN F_u_law_refused fun _ _ _ _ _ _ us hl => match us, hl with | [_, _, _, _, _], _ => rfl
  have b_u_law_bad_atoms : Binds K fd_u_law_bad_atoms [] [] := FunD.bindsN F_u_law_bad_atoms fun _ _ _ _ _ _ us hl => match us, hl with | [], _ => rfl
  have b_u_law_bad_accesses : Binds K fd_u_law_bad_accesses [] [] := FunD.bindsN F_u_law_bad_accesses fun _ _ _ _ _ _ us hl => match us, hl with | [], _ => rfl
  have b_u_law_bad_nodes : Binds K fd_u_law_bad_nodes [] [] := FunD.bindsN F_u_law_bad_nodes fun _ _ _ _ _ _ us hl => match us, hl with | [], _ => rfl
  have b_u_law_deep : Binds K fd_u_law_deep ["many"] [] := FunD.bindsN F_u_law_deep fun _ _ _ _ _ _ us hl => match us, hl with | [_], _ => rfl
  have b_u_law_bad_heads : Binds K fd_u_law_bad_heads ["draw", "body"] [] := FunD.bindsN F_u_law_bad_heads fun _ _ _ _ _ _ us hl => match us, hl with | [_, _], _ => rfl
  have b_u_law_nowhere : Binds K fd_u_law_nowhere ["nest", "path", "place"] [] := FunD.bindsN F_u_law_nowhere fun _ _ _ _ _ _ us hl => match us, hl with | [_, _, _], _ => rfl
  have b_law : Binds K fd_law ["script"] [] := FunD.bindsN F_law fun _ _ _ _ _ _ us hl => match us, hl with | [_], _ => rfl
  have C_is_word : Cal P w K mg base 1 "is_word" (spTest1 isWord) [] := ⟨_, fd_is_word, ["thing"], [], ok_is_word F_is_word G hW tW, (He.glo_ok X N (c.fact 0 (f := .glo "is_word") rfl)), F_is_word.kp, b_is_word, .nil⟩
  have C_is_number : Cal P w K mg base 1 "is_number" (spTest1 isNumber) [] := ⟨_, fd_is_number, ["thing"], [], ok_is_number F_is_number G, (He.glo_ok X N (c.fact 1 (f := .glo "is_number") rfl)), F_is_number.kp, b_is_number, .nil⟩
  have C_is_end : Cal P w K mg base 1 "is_end" (spTest isEnd) [] := ⟨_, fd_is_end, ["thing", "names"], [], ok_is_end F_is_end G, (He.glo_ok X N (c.fact 2 (f := .glo "is_end") rfl)), F_is_end.kp, b_is_end, .nil⟩
  have O_is_atom := ok_is_atom F_is_atom G C_is_end C_is_number
  have O_is_difference := ok_is_difference F_is_difference G C_is_end C_is_number
  have C_is_atom : Cal P w K mg base 2 "is_atom" (spTest isAtom) [] := ⟨_, fd_is_atom, ["thing", "names"], [], O_is_atom, (He.glo_ok X N (c.fact 3 (f := .glo "is_atom") rfl)), F_is_atom.kp, b_is_atom, .nil⟩
  let S1 : Addr → Option Sp := fun a => if a = He.ga K "is_atom" then some (spTest isAtom) else if a = He.ga K "is_difference" then some (spTest isDiff) else none
  have S1A : S1 (He.ga K "is_atom") = some (spTest isAtom) := if_pos rfl
  have S1D : S1 (He.ga K "is_difference") = some (spTest isDiff) := (if_neg fun z => hAD z.symm).trans (if_pos rfl)
  have AT1 : ∀ f sp, S1 f = some sp → Held P w K mg base 2 f sp := fun f sp e => by
    by_cases c1 : f = He.ga K "is_atom"
    · subst c1
      rw [S1A] at e
      cases e
      exact ⟨fd_is_atom, ["thing", "names"], O_is_atom, F_is_atom.kp, b_is_atom⟩
    · by_cases c2 : f = He.ga K "is_difference"
      · subst c2
        rw [S1D] at e
        cases e
        exact ⟨fd_is_difference, ["thing", "names"], O_is_difference, F_is_difference.kp, b_is_difference⟩
      · have : S1 f = none := (if_neg c1).trans (if_neg c2)
        rw [this] at e
        cases e
  have C_u_is_row : Cal P w K mg base 3 "_is_row" (spRow S1) [] := ⟨_, fd_u_is_row, ["thing", "least", "most", "test", "names"], [], ok_row F_u_is_row G AT1, (He.glo_ok X N (c.fact 5 (f := .glo "_is_row") rfl)), F_u_is_row.kp, b_u_is_row, .nil⟩
  have C_u_is_list : Cal P w K mg base 4 "_is_list" (spList S1) [] := ⟨_, fd_u_is_list, ["thing", "test", "names"], [], ok_list F_u_is_list G C_u_is_row, (He.glo_ok X N (c.fact 6 (f := .glo "_is_list") rfl)), F_u_is_list.kp, b_u_is_list, .nil⟩
  have O_is_access := ok_access F_is_access G hA S1A C_is_word C_u_is_row
  have C_is_access : Cal P w K mg base 4 "is_access" (spTest isAccess) [] := ⟨_, fd_is_access, ["thing", "names"], [], O_is_access, (He.glo_ok X N (c.fact 7 (f := .glo "is_access") rfl)), F_is_access.kp, b_is_access, .nil⟩
  let S2 : Addr → Option Sp := fun a => if a = He.ga K "is_access" then some (spTest isAccess) else none
  have S2C : S2 (He.ga K "is_access") = some (spTest isAccess) := if_pos rfl
  have AT2 : ∀ f sp, S2 f = some sp → Held P w K mg base 4 f sp := fun f sp e => by
    by_cases c1 : f = He.ga K "is_access"
    · subst c1
      rw [S2C] at e
      cases e
      exact ⟨fd_is_access, ["thing", "names"], O_is_access, F_is_access.kp, b_is_access⟩
    · have : S2 f = none := if_neg c1
      rw [this] at e
      cases e
  have C2_u_is_row : Cal P w K mg base 5 "_is_row" (spRow S2) [] := ⟨_, fd_u_is_row, ["thing", "least", "most", "test", "names"], [], ok_row F_u_is_row G AT2, (He.glo_ok X N (c.fact 5 (f := .glo "_is_row") rfl)), F_u_is_row.kp, b_u_is_row, .nil⟩
  have C_u_is_run : Cal P w K mg base 6 "_is_run" (spRun) [] := ⟨_, fd_u_is_run, ["node", "names"], [], ok_run F_u_is_run G hA S1A hC S2C C_is_word C_u_is_row C2_u_is_row C_is_access, (He.glo_ok X N (c.fact 9 (f := .glo "_is_run") rfl)), F_u_is_run.kp, b_u_is_run, .nil⟩
  have C0_u_is_loop : Cal P w K mg base 6 "_is_loop" (spNo) [] := ⟨_, fd_u_is_loop, ["node", "names", "depth"], [], fn_no, (He.glo_ok X N (c.fact 8 (f := .glo "_is_loop") rfl)), F_u_is_loop.kp, b_u_is_loop, .nil⟩
  have C0_u_is_body : Cal P w K mg base 6 "_is_body" (spNo) [] := ⟨_, fd_u_is_body, ["body", "names", "depth"], [], fn_no, (He.glo_ok X N (c.fact 11 (f := .glo "_is_body") rfl)), F_u_is_body.kp, b_u_is_body, .nil⟩
  have NBn : ∀ n : Nat, Cal P w K mg base (3 * n + 8) "_is_node" (spNode n) [] := fun n => by
    induction n with
    | zero => exact ⟨_, fd_u_is_node, ["node", "names", "depth"], [], ok_node0 F_u_is_node G hD S1D C_u_is_run C_u_is_list C0_u_is_loop C0_u_is_body, (He.glo_ok X N (c.fact 10 (f := .glo "_is_node") rfl)), F_u_is_node.kp, b_u_is_node, .nil⟩
    | succ n ih =>
      have CB : Cal P w K mg base (3 * n + 9) "_is_body" (spBody n) [] := ⟨_, fd_u_is_body, ["body", "names", "depth"], [], ok_body n F_u_is_body G ih, (He.glo_ok X N (c.fact 11 (f := .glo "_is_body") rfl)), F_u_is_body.kp, b_u_is_body, .nil⟩
      have CL : Cal P w K mg base (3 * n + 10) "_is_loop" (spLoop n) [] := ⟨_, fd_u_is_loop, ["node", "names", "depth"], [], ok_loop n F_u_is_loop G hA S1A C_is_word C_u_is_list CB, (He.glo_ok X N (c.fact 8 (f := .glo "_is_loop") rfl)), F_u_is_loop.kp, b_u_is_loop, .nil⟩
      have e : 3 * (n + 1) + 8 = 3 * n + 10 + 1 := by omega
      rw [e]
      exact ⟨_, fd_u_is_node, ["node", "names", "depth"], [], ok_nodeS n F_u_is_node G hD S1D C_u_is_run C_u_is_list CL CB, (He.glo_ok X N (c.fact 10 (f := .glo "_is_node") rfl)), F_u_is_node.kp, b_u_is_node, .nil⟩
  have C_u_is_body : Cal P w K mg base 129 "_is_body" (spBody 40) [] := ⟨_, fd_u_is_body, ["body", "names", "depth"], [], ok_body 40 F_u_is_body G (NBn 40), (He.glo_ok X N (c.fact 11 (f := .glo "_is_body") rfl)), F_u_is_body.kp, b_u_is_body, .nil⟩
  have C_body_of : Cal P w K mg base 1 "body_of" (spBodyOf) [] := ⟨_, fd_body_of, ["node"], [], ok_body_of F_body_of G, (He.glo_ok X N (c.fact 12 (f := .glo "body_of") rfl)), F_body_of.kp, b_body_of, .nil⟩
  have C0_accesses : Cal P w K mg base 1 "accesses" (spNo) [] := ⟨_, fd_accesses, ["body"], [], fn_no, (He.glo_ok X N (c.fact 13 (f := .glo "accesses") rfl)), F_accesses.kp, b_accesses, .nil⟩
  have AC : ∀ n : Nat, Cal P w K mg base (n + 2) "accesses" (spItems accOf n) [] := fun n => by
    induction n with
    | zero => exact ⟨_, fd_accesses, ["body"], [], ok_accesses 0 F_accesses G C_body_of (fun m e => by omega) (fun _ => C0_accesses), (He.glo_ok X N (c.fact 13 (f := .glo "accesses") rfl)), F_accesses.kp, b_accesses, .nil⟩
    | succ n ih => exact ⟨_, fd_accesses, ["body"], [], ok_accesses (n + 1) F_accesses G C_body_of (fun m e => (show n = m by omega) ▸ ih) (fun e => by omega), (He.glo_ok X N (c.fact 13 (f := .glo "accesses") rfl)), F_accesses.kp, b_accesses, .nil⟩
  have C0_forms : Cal P w K mg base 1 "forms" (spNo) [] := ⟨_, fd_forms, ["body"], [], fn_no, (He.glo_ok X N (c.fact 14 (f := .glo "forms") rfl)), F_forms.kp, b_forms, .nil⟩
  have FR : ∀ n : Nat, Cal P w K mg base (n + 2) "forms" (spItems frmOf n) [] := fun n => by
    induction n with
    | zero => exact ⟨_, fd_forms, ["body"], [], ok_forms 0 F_forms G C_body_of (fun m e => by omega) (fun _ => C0_forms), (He.glo_ok X N (c.fact 14 (f := .glo "forms") rfl)), F_forms.kp, b_forms, .nil⟩
    | succ n ih => exact ⟨_, fd_forms, ["body"], [], ok_forms (n + 1) F_forms G C_body_of (fun m e => (show n = m by omega) ▸ ih) (fun e => by omega), (He.glo_ok X N (c.fact 14 (f := .glo "forms") rfl)), F_forms.kp, b_forms, .nil⟩
  have C_accesses : Cal P w K mg base 42 "accesses" (spItems accOf 40) [] := AC 40
  have C_forms : Cal P w K mg base 42 "forms" (spItems frmOf 40) [] := FR 40
  have C_one_form : Cal P w K mg base 1 "one_form" (spOneForm) [] := ⟨_, fd_one_form, ["pairs"], [], ok_one_form F_one_form G, (He.glo_ok X N (c.fact 15 (f := .glo "one_form") rfl)), F_one_form.kp, b_one_form, .nil⟩
  have C_u_are_rooms : Cal P w K mg base 3 "_are_rooms" (spRooms) [] := ⟨_, fd_u_are_rooms, ["rooms", "sizes"], [], ok_rooms F_u_are_rooms G C_is_word C_is_atom, (He.glo_ok X N (c.fact 16 (f := .glo "_are_rooms") rfl)), F_u_are_rooms.kp, b_u_are_rooms, .nil⟩
  have C_u_is_names : Cal P w K mg base 2 "_is_names" (spTest1 isNames) [] := ⟨_, fd_u_is_names, ["thing"], [], ok_names F_u_is_names G C_is_word, (He.glo_ok X N (c.fact 17 (f := .glo "_is_names") rfl)), F_u_is_names.kp, b_u_is_names, .nil⟩
  have O_nest := ok_nest (P := P) (w := w) (base := base) F_Nest___init__ G NC BN hD S1D F_is_difference.kp C_one_form C_accesses C_forms C_u_is_names C_u_is_row C_u_are_rooms C_u_is_body
  have MX_Nest : MakX P w K mg base 131 "Nest" (He.ga K "Nest") (spNest (He.ga K "Nest") (He.ga K "BadNest")) := ⟨_, fd_Nest___init__, ["self", "sizes", "given", "rooms", "kept", "body"], He.mkr_ok (c.fact 63 (f := .mkr "Nest") rfl), O_nest, (He.glo_ok X N (c.fact 54 (f := .glo "Nest") rfl)), b_Nest___init__⟩
  have M_Statement : Mak P w K mg base 1 "Statement" (He.ga K "Statement") (spStmt (He.ga K "Statement")) [] := ⟨_, fd_Statement___init__, ["self", "node", "path", "around"], [], He.mkr_ok (c.fact 76 (f := .mkr "Statement") rfl), ok_stmt F_Statement___init__ G SC, (He.glo_ok X N (c.fact 64 (f := .glo "Statement") rfl)), b_Statement___init__, .nil⟩
  have Pr_arrays : MetP P w K mg base 1 (He.ga K "Nest") "arrays" (spArrays (He.ga K "Nest")) := ⟨NC.cl, _, _, fd_Nest_arrays, ["self"], PA, ok_arrays F_Nest_arrays G NC, b_Nest_arrays⟩
  have Pr_labels : MetP P w K mg base 1 (He.ga K "Nest") "labels" (spLabels (He.ga K "Nest")) := ⟨NC.cl, _, _, fd_Nest_labels, ["self"], PL, ok_labels F_Nest_labels G NC, b_Nest_labels⟩
  have C0_u_gather : Cal P w K mg base 1 "_gather" (spNo) [] := ⟨_, fd_u_gather, ["body", "path", "around"], [], fn_no, (He.glo_ok X N (c.fact 18 (f := .glo "_gather") rfl)), F_u_gather.kp, b_u_gather, .nil⟩
  have GA : ∀ n : Nat, Cal P w K mg base (n + 3) "_gather" (spGather n) [] := fun n => by
    induction n with
    | zero => exact ⟨_, fd_u_gather, ["body", "path", "around"], [], ok_gather 0 F_u_gather G C_body_of M_Statement (fun m e => by omega) (fun _ => C0_u_gather), (He.glo_ok X N (c.fact 18 (f := .glo "_gather") rfl)), F_u_gather.kp, b_u_gather, .nil⟩
    | succ n ih => exact ⟨_, fd_u_gather, ["body", "path", "around"], [], ok_gather (n + 1) F_u_gather G C_body_of M_Statement (fun m e => (show n = m by omega) ▸ ih) (fun e => by omega), (He.glo_ok X N (c.fact 18 (f := .glo "_gather") rfl)), F_u_gather.kp, b_u_gather, .nil⟩
  have C_statements : Cal P w K mg base 44 "statements" (spStatements (He.ga K "Nest")) [] := ⟨_, fd_statements, ["nest"], [], ok_statements F_statements G NC (GA 40), (He.glo_ok X N (c.fact 19 (f := .glo "statements") rfl)), F_statements.kp, b_statements, .nil⟩
  have C_statement_at : CalX P w K mg base 45 "statement_at" (spPlaceX (He.ga K "Nest") (He.ga K "NoPlace")) [] := ⟨_, fd_statement_at, ["nest", "place"], [], ok_statement_at F_statement_at G NP C_statements, (He.glo_ok X N (c.fact 20 (f := .glo "statement_at") rfl)), F_statement_at.kp, b_statement_at, .nil⟩
  have C0_system_of_run : Cal P w K mg base 1 "system_of_run" (spNo) [] := ⟨_, fd_system_of_run, ["nest", "statement"], [], fn_no, (He.glo_ok X N (c.fact 21 (f := .glo "system_of_run") rfl)), F_system_of_run.kp, b_system_of_run, .nil⟩
  have C_bounds : CalX P w K mg base 46 "bounds" (spPlaceX (He.ga K "Nest") (He.ga K "NoPlace")) [] := ⟨_, fd_bounds, ["nest", "place"], [], ok_bounds F_bounds G C_statement_at C0_system_of_run, (He.glo_ok X N (c.fact 22 (f := .glo "bounds") rfl)), F_bounds.kp, b_bounds, .nil⟩
  have C_node_at : CalX P w K mg base 3 "node_at" (spNodeAt (He.ga K "Nest") (He.ga K "NoNode")) [] := ⟨_, fd_node_at, ["nest", "path"], [], ok_node_at F_node_at G NC (XE_NoNode base) C_body_of, (He.glo_ok X N (c.fact 23 (f := .glo "node_at") rfl)), F_node_at.kp, b_node_at, .nil⟩
  have C_u_law_number : Cal P w K mg base 1 "_law_number" (spNumber K) [] := ⟨_, fd_u_law_number, ["script", "index"], [], ok_number F_u_law_number G, (He.glo_ok X N (c.fact 24 (f := .glo "_law_number") rfl)), F_u_law_number.kp, b_u_law_number, .nil⟩
  have C_u_law_take : Cal P w K mg base 2 "_law_take" (spTake K) [] := ⟨_, fd_u_law_take, ["draw", "many"], [], ok_take F_u_law_take G C_u_law_number, (He.glo_ok X N (c.fact 25 (f := .glo "_law_take") rfl)), F_u_law_take.kp, b_u_law_take, .nil⟩
  have C_u_law_pick : Cal P w K mg base 3 "_law_pick" (spPick K) [] := ⟨_, fd_u_law_pick, ["draw", "items"], [], ok_pick F_u_law_pick G C_u_law_take, (He.glo_ok X N (c.fact 26 (f := .glo "_law_pick") rfl)), F_u_law_pick.kp, b_u_law_pick, .nil⟩
  have C_u_law_refused : Cal P w K mg base 133 "_law_refused" (spLRefused) [] := ⟨_, fd_u_law_refused, ["sizes", "given", "rooms", "kept", "body"], [], ok_lrefused F_u_law_refused G BN EB hCL MX_Nest, (He.glo_ok X N (c.fact 27 (f := .glo "_law_refused") rfl)), F_u_law_refused.kp, b_u_law_refused, .nil⟩
  have C_u_law_bad_atoms : Cal P w K mg base 1 "_law_bad_atoms" (spBadL u_law_bad_atomsD) [] := ⟨_, fd_u_law_bad_atoms, [], [], ok_bad_atoms F_u_law_bad_atoms G, (He.glo_ok X N (c.fact 28 (f := .glo "_law_bad_atoms") rfl)), F_u_law_bad_atoms.kp, b_u_law_bad_atoms, .nil⟩
  have C_u_law_bad_accesses : Cal P w K mg base 1 "_law_bad_accesses" (spBadL u_law_bad_accessesD) [] := ⟨_, fd_u_law_bad_accesses, [], [], ok_bad_accesses F_u_law_bad_accesses G, (He.glo_ok X N (c.fact 29 (f := .glo "_law_bad_accesses") rfl)), F_u_law_bad_accesses.kp, b_u_law_bad_accesses, .nil⟩
  have C_u_law_bad_nodes : Cal P w K mg base 2 "_law_bad_nodes" (spBadL badNodesD) [] := ⟨_, fd_u_law_bad_nodes, [], [], ok_bad_nodes F_u_law_bad_nodes G C_u_law_bad_atoms C_u_law_bad_accesses, (He.glo_ok X N (c.fact 30 (f := .glo "_law_bad_nodes") rfl)), F_u_law_bad_nodes.kp, b_u_law_bad_nodes, .nil⟩
  have C_u_law_deep : Cal P w K mg base 1 "_law_deep" (spDeep) [] := ⟨_, fd_u_law_deep, ["many"], [], ok_deep F_u_law_deep G, (He.glo_ok X N (c.fact 31 (f := .glo "_law_deep") rfl)), F_u_law_deep.kp, b_u_law_deep, .nil⟩
  have C_u_law_bad_heads : Cal P w K mg base 4 "_law_bad_heads" (spHeads K) [] := ⟨_, fd_u_law_bad_heads, ["draw", "body"], [], ok_heads F_u_law_bad_heads G C_u_law_pick, (He.glo_ok X N (c.fact 32 (f := .glo "_law_bad_heads") rfl)), F_u_law_bad_heads.kp, b_u_law_bad_heads, .nil⟩
  have C_u_law_nowhere : Cal P w K mg base 48 "_law_nowhere" (spNowhere (He.ga K "Nest")) [] := ⟨_, fd_u_law_nowhere, ["nest", "path", "place"], [], ok_nowhere F_u_law_nowhere G NC (XE_NoNode base) EN NP EP hCL C_node_at C_bounds, (He.glo_ok X N (c.fact 33 (f := .glo "_law_nowhere") rfl)), F_u_law_nowhere.kp, b_u_law_nowhere, .nil⟩
  exact ok_law F_law G NC MX_Nest C_u_law_nowhere C_node_at C_u_law_pick C_statements Pr_arrays Pr_labels C_u_law_deep C_u_law_refused C_u_law_bad_nodes C_u_law_bad_heads
end K1
open PySem PySem.W PySem.Calls PyProof.Rows
theorem PySem.Challenge.cw_loopsheds_k43_refused_nests_holds : PySem.Challenge.rw_loopsheds_k43_refused_nests.Holds := by
  w_on; o_law
  refine HandSHeadRun.head_any (r := OpenLaw.row PySem.Challenge.rw_loopsheds_k43_refused_nests) (q := view (OpenLaw.row PySem.Challenge.rw_loopsheds_k43_refused_nests).prog [62]) (H := K1.hk) (ob := K1.ob) (M := 4000) (loose := K1.names) (d := HandSHeadRun.topDef (OpenLaw.row PySem.Challenge.rw_loopsheds_k43_refused_nests).prog 62) (kwd := []) K1.ob_eq
    (by kernel_rfl) (fun s => by kernel_rfl) K1.run (by kernel_rfl) (by kernel_rfl) (by kernel_rfl) (by rfl) (by first | assumption | decide +kernel) (by decide +kernel) ⟨rfl, rfl, rfl, rfl, rfl, by decide +kernel⟩ ?hw ?hc
  case hw => w_witness2
  case hc =>
    refine L2.walk_ofE (l := PySem.Challenge.rw_loopsheds_k43_refused_nests) (n := 63) (k := 134) (x := "script") (CX := L2.CX0) rfl (by decide) (by kernel_rfl) ⟨rfl, by decide, by decide⟩ ?F (fun _ _ _ _ z => z)
    intro w mg fa h Y G hmg0
    obtain ⟨K, KX, c⟩ := Y
    have hmg : mg ("law" : PySem.Str) = some (.ref fa) := by
      have e : (HandSHeadRun.topDef (OpenLaw.row PySem.Challenge.rw_loopsheds_k43_refused_nests).prog 62).name = ("law" : PySem.Str) := by kernel_rfl
      rw [← e]
      exact hmg0
    obtain ⟨fd, hb, hF⟩ := K1.facts (P := (PySem.Challenge.rw_loopsheds_k43_refused_nests).prog) (w := w) KX G hmg c (by kernel_rfl) (by kernel_rfl)
    exact ⟨K, fd, K1.spLaw K, KX, hb, fun H a ns hl _ hS => ⟨a, ns, rfl, ⟨hS, Nat.le_trans hl (by decide)⟩, fun _ => rfl⟩, hF⟩

