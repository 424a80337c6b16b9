import PyProof.Rows.All
import Wide.All
import OpenK.AllK
import Wide.FinOn
import KE.KStateDown
import KE.GoesEnum
import HandS.ForMost
import HandS.Defaults
import HandS.DictComp
import HandS.IsInst
import HandS.TupAny
import HandS.Wide
import HandS.Conv
import HandS.Flow
import HandS.Sort
import HandS.HeadHook1
import HandS.HeadHook2
import HandS.Walk
import HandS.Set
import HandS.SetFor
import HandS.Strs
import PyProof.Rows.SortShellAny
import OpenK.KEqL
import PyProof.Rows.StrMeet
import PyProof.Rows.TmSorted
import PyProof.P3Eq
import HandS.Exc
import HandS.ExcInit
import HandS.ExcOwn
import HandS.Nested
import KE.KExcSuper
import HandS.TryOnly
import HandS.WordsExc
import HandS.ExcField
import HandS.ExcIs
import HandS.CallSlots
import HandS.Codes
import PySem.Challenge.RW_loopsheds_k04_refused_differences
import HandS.Head0
import HandS.Head1
import HandS.Head2
import HandS.HeadEnd
set_option Elab.async false
set_option linter.all false
set_option maxRecDepth 100000
set_option maxHeartbeats 0
/-! ### rules of our own -/
namespace Ls
open PySem PySem.Spec PyProof.Rows L2
/-! a def of the module, a class, as callers need them -/
structure Cal (P : Program) (w : World) (K : PySem.W.Frag) (mg : Str → Option Value) (base : Heap) (k : Nat) (x : Str) (sp : Sp) (dvs : List V) : Prop where
  ex : ∃ (f : Addr) (fd : FuncData) (ps : List Str) (ds : List Value), FnOk P w K mg base CX0 k f fd ps sp ∧ mg x = some (.ref f) ∧ PySem.W.keepIn K (.ref f) = true ∧ Binds K fd ps ds ∧ Vals dvs ds
structure Mak (P : Program) (w : World) (K : PySem.W.Frag) (mg : Str → Option Value) (base : Heap) (k : Nat) (x : Str) (C : Addr) (sp : Sp) (dvs : List V) : Prop where
  ex : ∃ (f : Addr) (fd : FuncData) (ps : List Str) (ds : List Value), Mk K C f ∧ FnOk P w K mg base CX0 k f fd ps sp ∧ mg x = some (.ref C) ∧ Binds K fd ps ds ∧ Vals dvs ds
section
variable {X : Cx} {e : Expr} {es : List Expr} {t : TA} {p pos : Pos} {x : Str} {k j : Nat} {sp : Sp} {dvs : List V} {C : Addr}
theorem pe_c (c : Cal X.prog X.w X.K X.mg X.base k x sp dvs) (hr : Room j X.A) (hk : k ≤ j) (hg : Gl X x) (ha : PA X (e :: es) t) (hdb : (x == ("__debug__" : Str)) = false := by decide)
    (he : starEach (e :: es) X.env = (false, eval e X.env) :: starEach es X.env := by rfl) (hpl : (backTo pos (starEach es X.env)).any (·.1) = false := by rfl) : PE X (.Call (.Name x p) (e :: es) [] pos) (tCall sp dvs E0 t) := by
  have ⟨f, fd, ps, ds, F, hm, kp, b, d⟩ := c.ex
  exact pe_call F (hr.mono hk) hg hm kp b d pass0 ha hdb he hpl
theorem pe_mk (c : Mak X.prog X.w X.K X.mg X.base k x C sp dvs) (hr : Room j X.A) (hk : k + 1 ≤ j) (hg : Gl X x) (ha : PA X (e :: es) t) (hdb : (x == ("__debug__" : Str)) = false := by decide)
    (he : starEach (e :: es) X.env = (false, eval e X.env) :: starEach es X.env := by rfl) (hpl : (backTo pos (starEach es X.env)).any (·.1) = false := by rfl) : PE X (.Call (.Name x p) (e :: es) [] pos) (tMake C sp dvs E0 t) := by
  have ⟨f, fd, ps, ds, M, F, hm, b, d⟩ := c.ex
  exact pe_make M F (hr.mono hk) hg hm b d pass0 ha hdb he hpl
/-- a module's constant -/
theorem pe_gi {i : Int} (hg : Gl X x) (h : ∃ t, X.mg x = some (.int i t)) (hdb : (x == ("__debug__" : Str)) = false := by decide) : PE X (.Name x pos) (tC (.int i)) := by
  have ⟨t, ht⟩ := h
  exact pe_glob (v := .int i) hg ht ⟨t, rfl⟩ hdb
end
/-! x = {k: v for ..} on one line, x a local -/
section
variable {X : Cx}
theorem ps_setDc {i : Nat} {y : Str} {py : Pos} {kx vx tg iter : Expr} {ifs : List Expr} {scope : Scope} {own : List (Str × Nat)} {pos spos : Pos} {wi : TI} {g : TG} {tt : TT} {tk tv : TE} (hc : X.calm = true) (hN : X.N.Nodup) (hy : X.N[i]? = some y) (hyl : X.env.scope.names.lookup y = some .local)
    (hsw : swapsWith (.DictComp kx vx [⟨tg, iter, ifs, 0⟩] scope pos) (some (.Name y py)) spos.line X.env = pure true) (hi : PI X tg iter wi) (ok : BlkOk X.N X.env.scope scope own)
    (hg : ∀ (s : Shared) (H : Hp) (C : Addr) (cl : List (Str × Addr)) (fp : List Addr), PG (X.blk s H scope (compEnvC scope cl C X.env) fp) tg g) (ht : ∀ (s : Shared) (H : Hp) (C : Addr) (cl : List (Str × Addr)) (fp : List Addr), PTs (X.blk s H scope (compEnvC scope cl C X.env) fp) ifs tt)
    (hk : ∀ (s : Shared) (H : Hp) (C : Addr) (cl : List (Str × Addr)) (fp : List Addr), PE (X.blk s H scope (compEnvC scope cl C X.env) fp) kx tk)
    (he : ∀ (s : Shared) (H : Hp) (C : Addr) (cl : List (Str × Addr)) (fp : List Addr), PE (X.blk s H scope (compEnvC scope cl C X.env) fp) vx tv) (hs : ∀ x, foldedSetIterable iter X.env x = pure x := by intro _; rfl) :
    PS X (.Assign [.Name y py] (.DictComp kx vx [⟨tg, iter, ifs, 0⟩] scope pos) spos) (tAsg (tDc wi g tt tk tv (own.map (·.2))) (gName i)) := by
  refine ⟨fun pins s0 σ0 H0 D I0 h0 => ?_⟩
  rw [exec_Assign_Name_used _ _ _ _ hsw]
  refine wpAny_bind (wpAny_standAt (wpAny_bind ?_))
  show wpAny _ X.A (do let _ ← comprehension (.DictComp kx vx [⟨tg, iter, ifs, 0⟩] scope pos) scope X.env (firstIterPos [⟨tg, iter, ifs, 0⟩] pos) newDict false (eval iter X.env) (some (assign (.Name y py) X.env))) _ _ s0
  have h1 : tDc wi g tt tk tv (own.map (·.2)) σ0 H0 (fun x H1 => gName i x σ0 H1 D.nx) := h0
  refine wpAny_bind (thn (dc_core (Qf := fun _ s' => SP X pins D .next s') hc hN I0 hi ok hg ht hk he hs h1 fun L C s1 m H1 I1 q1 n1 f1 => ?_) fun _ _ hq => wpAny_pure (wpAny_pure hq))
  show wpAny _ _ (assign (.Name y py) X.env (.ref L)) _ _ _
  refine wpAny_assign_Name (store_ok2 (v := V.ref L) I1 hN hy (.inl hyl) rfl (fun s2 I2 ⟨a, sb, ha⟩ => ?_) (.inr hyl))
  have ⟨g0, g1, g2, g3, g4, g5⟩ := f1
  have hCa : C ≠ a := ha.elim (fun z => by rw [z]; exact g1) fun z e => g4 y a z e.symm
  exact ⟨m, n1.sameBut sb hCa, fun h3 sb3 => ⟨_, H1, I2.turned (t' := s2.toks) (fun b o hb e => (sb3.2 b hb).trans e) g0 g1 g3 g4 g5, q1⟩⟩
theorem sw_trueD {kx vx : Expr} {gs : List Comprehension} {scope : Scope} {pos py : Pos} {y : Str} {l : Nat} {env : Env} (hk : env.scope.kind = .function) (hy : env.scope.names.lookup y = some .local) (hl : (py.line == pos.line) = true)
    (ha : (scope.names.any fun (n, k) => n == y && (k == .local || k == .cell)) = false) : swapsWith (.DictComp kx vx gs scope pos) (some (.Name y py)) l env = pure true := by
  have k1 : env.kindOf y = some .local := hy
  have k2 : env.blockKind = .function := by rw [Env.blockKind, hk]; rfl
  simp only [swapsWith, k2, k1, ha, Expr.pos, hl]
  rfl
end
/-! for i, x in enumerate(a tuple) -/
def IteT (K : PySem.W.Frag) (a : Addr) : It :=
  ⟨fun i H => ∃ (xs : List V) (x : V), SqT K H a xs ∧ xs[i]? = some x, fun i H v H' => ∃ T x, v = .ref T ∧ H T = none ∧ H' = upd H T (.tup [.int (i : Nat), x]) ∧ ∀ xs, SqT K H a xs → xs[i]? = some x, fun i H => ∃ xs : List V, SqT K H a xs ∧ xs.length ≤ i⟩
theorem meets_enum1 {v : Value} {o : Obj} {H : Heap → Prop} (B : Begins v o H) :
    Meets (Builtin.«enumerate.__new__» ⟨[.type "enumerate", v], []⟩) (fun _ R s => H s.heap ∧
      R (.ok (.ret (.ref (s.heap.push o).objs.size))) { s with heap := (s.heap.push o).push { cls := .type "enumerate", data := .fields #[.none, .bool false, .ref s.heap.objs.size, rawInt 0, .none, .none] } }) :=
  .of_wp fun prog w A R s h => by
    obtain ⟨hp, g, d, tk, os⟩ := s; have ⟨h1, h2⟩ := h
    have hsub := sub_enumerate
    have q1 : ∀ {A' : Around} {E : Value → Shared → Prop} {Q : Value → Shared → Prop}, Q (.ref hp.objs.size) ⟨hp.push o, g, d, tk, os⟩ → wpAny (model prog w) A' (pyIter v) Q E ⟨hp, g, d, tk, os⟩ :=
      fun q => B.iter prog w _ _ ⟨hp, g, d, tk, os⟩ _ h1 q
    wp_walk using q1
    refine wpAny_stack_any fun st => wpAny_pure ?_
    split
    · rename_i c _ _ _ _ _
      cases (c == Value.type "enumerate") <;> (wp_walk using q1; exact ⟨_, rfl, h2⟩)
    · wp_walk using q1
      exact ⟨_, rfl, h2⟩
theorem enum_begins1 {prog : Program} {w : World} {A : Around} {E : Value → Shared → Prop} {s : Shared} {v : Value} {o : Obj} {H : Heap → Prop} {Q : Value → Shared → Prop} (B : Begins v o H) (h1 : H s.heap)
    (h : ∀ h', IsEnum h' (s.heap.objs.size + 1) s.heap.objs.size 0 .none → h'.get? s.heap.objs.size = some o → h'.objs.size = s.heap.objs.size + 2 → (∀ b o, s.heap.get? b = some o → h'.get? b = some o) → Q (.ref (s.heap.objs.size + 1)) { s with heap := h' }) :
    wpAny (model prog w) A (call (.type "enumerate") [v]) Q E s := by
  refine callType_new F.called_enumerate (by decide) (F.typeCall_enumerate_1 _) (F.newCall_enumerate_1 _) (fun obj => F.args_object_init_2 obj _) F.entry_enumerate_new (meets_enum1 B) ⟨h1, ?_⟩
  have hz : (s.heap.push o).objs.size = s.heap.objs.size + 1 := Heap.size_push ..
  show _ ∧ _; rw [hz]
  have he : IsEnum ((s.heap.push o).push { cls := .type "enumerate", data := .fields #[.none, .bool false, .ref s.heap.objs.size, rawInt 0, .none, .none] }) (s.heap.objs.size + 1) s.heap.objs.size 0 .none := by
    have := Heap.get?_push_size (s.heap.push o) (o := { cls := .type "enumerate", data := .fields #[.none, .bool false, .ref s.heap.objs.size, rawInt 0, .none, .none] }) rfl
    rwa [hz] at this
  exact ⟨⟨_, he, rfl⟩, h _ he (Heap.get?_push_of_some _ (Heap.get?_push_size _ B.free)) (by rw [Heap.size_push, hz]) fun b o x => Heap.get?_push_of_some _ (Heap.get?_push_of_some _ x)⟩
theorem turn_enumT {P : Program} {w : World} {K : PySem.W.Frag} {elts : List Expr} {kk : Nat} {tpos : Pos} (a e it : Addr) :
    Turn P w K (.Tuple elts kk tpos) (IteT K a) [e, it] e (fun i h => (∃ old, IsEnum h e it ((i : Nat) : Int) old) ∧ h.IsTupleIter it a i ∧ e ≠ it ∧ a ≠ it ∧ a ≠ e) where
  mem := List.mem_cons_self
  obj := fun i h st b hb => by
    have ⟨⟨old, he⟩, ⟨o, ho, hc, hd⟩, _⟩ := st
    rcases (show b = e ∨ b = it by simpa using hb) with z | z <;> rw [z]
    · exact ⟨_, he, fun v q => nomatch q⟩
    · exact ⟨o, ho, fun v q => by rw [hd] at q; cases q⟩
  keep := fun i h h' st k => ⟨st.1.imp fun old he => k e (by simp) _ he, st.2.1.at fun o q => k it (by simp) o q, st.2.2⟩
  item := fun X hP hw hK hc i pins s σ H E I hf st hg => by
    subst hP hw hK
    have ⟨⟨old, he⟩, hit, hne, hai, hae⟩ := st
    have ⟨xs, x, hq, hx⟩ := hg
    have ⟨its, rv, p, hz⟩ := I.tuple hq
    have ⟨u, hu, ru⟩ := rv.get hx
    have hel : e < s.heap.objs.size := Heap.lt_size he
    have hil : it < s.heap.objs.size := hit.elim fun _ q => Heap.lt_size q.1
    have hlt : i < its.toArray.size := by rw [List.size_toArray]; exact (List.getElem?_eq_some_iff.mp hu).1
    have pt : s.heap.IsTuple a its.toArray := p
    refine wpAny_pyNext_enum_itemD (Draws.tuple (A := X.A.in1) (show X.A.in1.handled = none from I.ok.hd hc) it a hai its.toArray) he ⟨hit, pt⟩ hlt hne (by simp [hne, hae.symm]) fun x' h' tk hPx ho hst' hT hsz hk => ?_
    have ex : x' = u := by
      have z : its.toArray[i]? = some x' := hPx
      rw [List.getElem?_toArray, hu] at z
      exact (Option.some.inj z).symm
    subst ex
    refine ⟨_, rfl, wpAny_letOwnedTupleGo_enum (s := { s with heap := h', toks := tk + 1 }) ho fun h'' he' sb => ?_⟩
    have hT2 : h''.get? s.heap.objs.size = some { cls := .type "tuple", data := .seq #[.int i tk, x'] } := (sb.2 _ (Nat.ne_of_gt hel)).trans hT
    have new : ObjOk X.prog X.w (upd H s.heap.objs.size (.tup [.int (i : Nat), x])) h'' s.heap.objs.size (.tup [.int (i : Nat), x]) := ⟨(by decide : 2 ≤ sizeLine), [.int i tk, x'], .cons ⟨_, rfl⟩ (.cons ru .nil), ⟨_, hT2, rfl, _, rfl⟩⟩
    have lt' : ∀ b, b ∈ [e, it] → b < s.heap.objs.size := fun b hb => by
      rcases (show b = e ∨ b = it by simpa using hb) with z | z <;> rw [z] <;> assumption
    have I1 : Inv X pins σ (upd H s.heap.objs.size (.tup [.int (i : Nat), x])) { s with heap := h'', toks := tk + 1 } :=
      I.turnedNew (ch := [e, it]) (fun b ob hb q => (sb.2 b fun z => hb (by simp [z])).trans (hk b ob (fun z => hb (by simp [z])) (fun z => hb (by simp [z])) q)) hf (Nat.le_refl _) new
    refine ⟨.ref s.heap.objs.size, _, I1, rfl, ⟨_, x, rfl, I.hok.fresh (Nat.le_refl _), rfl, fun ys hy => by rw [I.tuple_inj hy hq]; exact hx⟩, ⟨⟨x', ?_⟩, hst'.1.at fun o q => (sb.2 it (Ne.symm hne)).trans q, hne, hai, hae⟩, fun b hb => ?_⟩
    · rw [show ((i + 1 : Nat) : Int) = (i : Int) + 1 by omega]; exact he'
    · rw [upd_ne (Nat.ne_of_lt (lt' b hb))]
      exact (hf b hb).1
  done := fun X hP hw hK hc i pins s σ H E I hf st hg => by
    subst hP hw hK
    have ⟨⟨old, he⟩, hit, hne, hai, hae⟩ := st
    have ⟨xs, hq, hx⟩ := hg
    have ⟨its, rv, p, hz⟩ := I.tuple hq
    have ⟨f0, f1, f2, f3, f4, f5⟩ := hf it (by simp)
    have hl := rv.length
    have pt : s.heap.IsTuple a its.toArray := p
    have D0 : Draws X.prog X.w X.A.in1 it [it, a] 0 (fun _ _ => False) (fun _ h => h.IsTupleIter it a i ∧ h.IsTuple a its.toArray) :=
      { live := fun _ _ st => st.1.imp fun _ q => q.1
        frame := fun _ _ _ st hk => ⟨st.1.at fun o e => hk it (by simp) o e, st.2.at fun o e => hk a (by simp) o e⟩
        item := fun j s Q E hj => absurd hj (Nat.not_lt_zero _)
        done := fun s Q E st hE => wpAny_nextOf_tuple_end (show X.A.in1.handled = none from I.ok.hd hc) st.1 st.2 (by simp; omega) hE }
    exact wpAny_pyNext_enum_endD D0 he ⟨hit, pt⟩ fun h' eb => ⟨rfl, I.turned (t' := s.toks) (fun b o hb q => eb b o hb q) f0 f1 f3 f4 f5⟩
  self := fun A i s Q E st h => st.1.elim fun _ he => wpAny_pyIter_enum he h
def iEnumT (K : PySem.W.Frag) (ta : TA) : TI := fun σ H R => ta σ H fun vs H1 => ∃ a xs, vs = [.ref a] ∧ SqT K H1 a xs ∧ R (IteT K a) H1
theorem pi_enumT {X : Cx} {e : Expr} {ta : TA} {p pos tpos : Pos} {elts : List Expr} {kk : Nat} (hg : Gl X "enumerate") (hm : X.mg "enumerate" = none) (ha : PA X [e] ta) (hs : starEach [e] X.env = [(false, eval e X.env)] := by rfl) :
    PI X (.Tuple elts kk tpos) (.Call (.Name "enumerate" p) [e] [] pos) (iEnumT X.K ta) := by
  refine ⟨fun pins s0 σ0 H0 R I0 h0 => ?_⟩
  refine Call_ (ld_blt I0 hg hm boot_enumerate (PyProof.Rows.callWith_type1 (thn (ha.run pos pins s0 σ0 H0 _ I0 h0) fun us s1 ⟨vs, H1, I1, r1, q1⟩ => ?_) hs rfl))
  have ⟨a, xs, ex, hq, q⟩ := q1
  subst ex
  cases r1 with
  | cons r rr =>
    cases rr; cases r
    have ⟨its, rv, p', hz⟩ := I1.tuple hq
    have pt : s1.heap.IsTuple a its.toArray := p'
    refine enum_begins1 (begins_tuple a its.toArray) pt fun h' he hit hsz hk => wpAny_pyIter_enum he ?_
    have I2 : Inv X pins σ0 H1 { s1 with heap := h' } := I1.kept (t' := s1.toks) hk
    have hal : a < s1.heap.objs.size := pt.elim fun _ q => Heap.lt_size q.1
    refine ⟨s1.heap.objs.size + 1, [s1.heap.objs.size + 1, s1.heap.objs.size], _, _, H1, rfl, I2, turn_enumT a (s1.heap.objs.size + 1) s1.heap.objs.size, ⟨⟨.none, he⟩, ⟨_, hit, rfl, rfl⟩, Nat.succ_ne_self _, Nat.ne_of_lt hal, Nat.ne_of_lt (Nat.lt_succ_of_lt hal)⟩, fun b hb => ?_, q⟩
    have hle : s1.heap.objs.size ≤ b := by
      rcases (show b = s1.heap.objs.size + 1 ∨ b = s1.heap.objs.size by simpa using hb) with z | z <;> rw [z]
      · exact Nat.le_add_right _ _
      · exact Nat.le_refl _
    exact I1.fpOk hle (I1.hok.fresh hle)
/-! the same rules with the written part by its name (their readings must not name a comprehension's own block) -/
section
variable {X : Cx} (K : PySem.W.Frag)
def rLenQ : List V → Hp → VK → Prop := fun xs H Q => ∃ p ys, xs = [.ref p] ∧ (SqL K H p ys ∨ SqT K H p ys) ∧ Q (.int ys.length) H
def rListQ : List V → Hp → VK → Prop := fun xs H Q => ∃ p ys, xs = [.ref p] ∧ (SqL K H p ys ∨ SqT K H p ys) ∧ ∀ l, H l = none → Q (.ref l) (upd H l (.lst ys))
def rTupQ : List V → Hp → VK → Prop := fun xs H Q => ∃ p ys, xs = [.ref p] ∧ (H p = some (.lst ys) ∨ H p = some (.tup ys)) ∧ ∀ H' l, Same H H' → (H l = none ∨ l = p) → H' l = some (.tup ys) → Q (.ref l) H'
theorem kLen (h : X.K = K := by rfl) : CallR X (.builtin "len") (rLenQ K) := by subst h; exact call_len_seq
theorem kList (h : X.K = K := by rfl) : CallR X (.type "list") (rListQ K) := by subst h; exact call_list_of
theorem kTuple : CallR X (.type "tuple") rTupQ := fun pins s σ H xs us Q I r ⟨p, ys, ex, hp, q⟩ =>
  call_tuple_of pins s σ H xs us Q I r ⟨p, ys, ex, hp.elim (fun h => .inl ⟨.inl (.inl h), fun l nl => q _ l (fun b x e => by rw [upd_ne (ne_of_none e nl)]; exact e) (.inl nl) upd_same⟩) fun h => .inr ⟨.inl (.inl h), q H p (Same.refl H) (.inr rfl) h⟩⟩
theorem kSum (hc : X.calm = true) (h : X.K = K := by rfl) : CallR X (.builtin "sum") (rSum K) := by subst h; exact cr_sum hc
theorem kAll (hc : X.calm = true) (h : X.K = K := by rfl) : CallR X (.builtin "all") (rAll K) := by subst h; exact cr_all hc
theorem kSortedS (h : X.K = K := by rfl) : CallR X (.builtin "sorted") (rSortedS K) := by subst h; exact cr_sortedS
theorem kIsi (h : X.K = K := by rfl) : CallR X (.builtin "isinstance") (rIsi K) := by subst h; exact call_isi
theorem kIsiT (h : X.K = K := by rfl) : CallR X (.builtin "isinstance") (rIsiT K) := by subst h; exact call_isiT
theorem kEqD (hu : X.A.units + 64 < cLine) (h : X.K = K := by rfl) : OpR X (compareOp .Eq) (rEqD K) := by subst h; exact op_eqD hu
theorem kNeD (hu : X.A.units + 64 < cLine) (h : X.K = K := by rfl) : OpR X (compareOp .NotEq) (rNeD K) := by subst h; exact op_neD hu
theorem kIn (h : X.K = K := by rfl) : OpR X (compareOp .In) (rIn K false) := by subst h; exact op_in_seq
theorem kNotIn (h : X.K = K := by rfl) : OpR X (compareOp .NotIn) (rIn K true) := by subst h; exact op_notIn_seq
/-- tuple + tuple, a part of a tuple, tuple(x): a tuple stands there, new or not -/
def rCatU : R2 := fun x y H Q => ∃ a b xs ys, x = .ref a ∧ y = .ref b ∧ H a = some (.tup xs) ∧ H b = some (.tup ys) ∧ xs.length + ys.length ≤ sizeLine ∧ ∀ H' p, Same H H' → (H p = none ∨ p = a ∨ p = b) → H' p = some (.tup (xs ++ ys)) → Q (.ref p) H'
theorem new_same {H : Hp} {p : Addr} {o : HO} (h : H p = none) : Same H (upd H p o) := fun b x e => by rw [upd_ne (ne_of_none e h)]; exact e
theorem kCatT : OpR X (binaryOp .Add) rCatU := fun pins s σ H x y v u Q I rx ry ⟨a, b, xs, ys, ex, ey, ha, hb, hl, q⟩ =>
  op_catA pins s σ H x y v u Q I rx ry ⟨a, b, xs, ys, ex, ey, .inl (.inl ha), .inl (.inl hb), hl, fun e => by subst e; exact q H b (Same.refl H) (.inr (.inr rfl)) hb, fun _ e => by subst e; exact q H a (Same.refl H) (.inr (.inl rfl)) (by rw [List.append_nil]; exact ha), fun _ _ p np => q _ p (new_same np) (.inl np) upd_same⟩
def rSlU : V → Option Int → Option Int → Hp → VK → Prop := fun x lo hi H Q => ∃ a xs, x = .ref a ∧ H a = some (.tup xs) ∧ ∀ H' p, Same H H' → (H p = none ∨ p = a) → H' p = some (.tup (cutV xs lo hi)) → Q (.ref p) H'
theorem kSlT : SlR X rSlU := fun pins s σ H x v vl vu lo hi sl Q I rx hs pl pu ⟨a, xs, ex, ha, q⟩ =>
  sl_tupA pins s σ H x v vl vu lo hi sl Q I rx hs pl pu ⟨a, xs, ex, .inl (.inl ha), fun ⟨e1, e2⟩ => q H a (Same.refl H) (.inr rfl) (by unfold cutV; rw [e1, e2, List.drop_zero, Nat.sub_zero, List.take_length]; exact ha), fun _ p np => q _ p (new_same np) (.inl np) upd_same⟩
theorem kIxL (h : X.K = K := by rfl) : IxR X (rIxL K) := by subst h; exact ix_list
theorem kIxT (h : X.K = K := by rfl) : IxR X (rIxT K) := by subst h; exact ix_tup
theorem kIxQ (h : X.K = K := by rfl) : IxR X (rIx K) := by subst h; exact ix_seq
theorem kSlL (h : X.K = K := by rfl) : SlR X (rSlL K) := by subst h; exact sl_list
theorem kpg_tup {es : List Expr} {k : Nat} {t : TGs} {n : Nat} {pos : Pos} (hc : X.calm = true) (h : PGs X es t) (hk : X.K = K := by rfl) (hn : (assignEach es X.env).length = n := by rfl) (hst : (assignEach es X.env).findIdx? (·.1) = none := by rfl) : PG X (.Tuple es k pos) (gTup K n t) := by
  subst hk; exact pg_tup hc h hn hst
theorem kpi_list {tg l : Expr} {tl : TE} (hl : PE X l tl) (h : X.K = K := by rfl) : PI X tg l (iList K tl) := by subst h; exact pi_list hl
theorem kpi_tup {tg l : Expr} {tl : TE} (hl : PE X l tl) (h : X.K = K := by rfl) : PI X tg l (iTup K tl) := by subst h; exact pi_tup hl
theorem kpi_zip {e e2 : Expr} {ta : TA} {p pos tpos : Pos} {elts : List Expr} {kk : Nat} (hg : Gl X "zip") (hm : X.mg "zip" = none) (ha : PA X [e, e2] ta) (h : X.K = K := by rfl)
    (hs : starEach [e, e2] X.env = (false, eval e X.env) :: starEach [e2] X.env := by rfl) (hpl : (backTo pos (starEach [e2] X.env)).any (·.1) = false := by rfl) : PI X (.Tuple elts kk tpos) (.Call (.Name "zip" p) [e, e2] [] pos) (iZip K ta) := by
  subst h; exact pi_zip hg hm ha hs hpl
theorem kpi_enum {e : Expr} {ta : TA} {p pos tpos : Pos} {elts : List Expr} {kk : Nat} (hg : Gl X "enumerate") (hm : X.mg "enumerate" = none) (ha : PA X [e] ta) (h : X.K = K := by rfl) (hs : starEach [e] X.env = [(false, eval e X.env)] := by rfl) :
    PI X (.Tuple elts kk tpos) (.Call (.Name "enumerate" p) [e] [] pos) (iEnum K ta) := by subst h; exact pi_enum hg hm ha hs
theorem kpi_enumT {e : Expr} {ta : TA} {p pos tpos : Pos} {elts : List Expr} {kk : Nat} (hg : Gl X "enumerate") (hm : X.mg "enumerate" = none) (ha : PA X [e] ta) (h : X.K = K := by rfl) (hs : starEach [e] X.env = [(false, eval e X.env)] := by rfl) :
    PI X (.Tuple elts kk tpos) (.Call (.Name "enumerate" p) [e] [] pos) (iEnumT K ta) := by subst h; exact pi_enumT hg hm ha hs
theorem kfld {e : Expr} {f : Str} {ta : TE} {pos : Pos} (he : PE X e ta) (hb : attributeBase e f X.env (eval e X.env) = eval e X.env := by rfl) (h : X.K = K := by rfl) : PE X (.Attribute e f pos) (tFld K ta f) := by subst h; exact pe_fld he hb
end
/-- a built-in class as a value -/
theorem pe_ty {X : Cx} {x : Str} {pos : Pos} (n : String) (hg : Gl X x) (hm : X.mg x = none) (hv : bootBuiltins x = some (.type n)) (hn : x ≠ "__name__" := by decide) (hd : (x == ("__debug__" : Str)) = false := by decide) : PE X (.Name x pos) (tC (.ty n)) :=
  pe_bltn (v := .ty n) hg hm hv rfl hn hd
end Ls

namespace Df
variable {α : Type} [DecidableEq α]
/-- a difference: left, right, limit -/
abbrev Row (α : Type) := α × α × Int
def Solves (S : List (Row α)) (p : α → Int) : Prop := ∀ e ∈ S, p e.1 - p e.2.1 ≤ e.2.2
def put {β : Type} (f : α → β) (a : α) (v : β) : α → β := fun x => if x = a then v else f x
theorem put_same {β : Type} {f : α → β} {a : α} {v : β} : put f a v a = v := if_pos rfl
theorem put_ne {β : Type} {f : α → β} {a x : α} {v : β} (h : x ≠ a) : put f a v x = f x := if_neg h
def ins (ks : List α) (a : α) : List α := if a ∈ ks then ks else ks ++ [a]
theorem mem_ins {ks : List α} {a x : α} : x ∈ ins ks a ↔ x ∈ ks ∨ x = a := by
  unfold ins
  split
  · rename_i h
    constructor
    · exact Or.inl
    · rintro (h' | rfl)
      · exact h'
      · exact h
  · simp
theorem nd_ins {ks : List α} {a : α} (h : ks.Nodup) : (ins ks a).Nodup := by
  unfold ins
  split
  · exact h
  · rename_i hn
    rw [List.nodup_append]
    refine ⟨h, by simp, fun x hx y hy => ?_⟩
    rw [List.mem_singleton.mp hy]
    exact fun e => hn (e ▸ hx)

/-- the state of the rounds, turn t, place p; w worth, ks and b the names and positions of before, τ the time of a name's last update -/
structure BF (S : List (Row α)) (w : α → Int) (ks : List α) (b : α → Nat) (τ : α → Nat) (t p : Nat) : Prop where
  nd : ks.Nodup
  mem : ∀ x, x ∈ ks ↔ 0 < τ x
  pre : ∀ x, x ∈ ks → ∃ e, S[b x]? = some e ∧ e.1 = x ∧ w e.2.1 + e.2.2 ≤ w x ∧ (τ e.2.1 < τ x ∨ w e.2.1 + e.2.2 < w x) ∧ τ x ≤ τ e.2.1 + S.length
  le : ∀ x, τ x ≤ t * S.length + p
  sat : ∀ (q : Nat) e, S[q]? = some e → w e.1 ≤ w e.2.1 + e.2.2 ∨ (q < p → t * S.length + q + 1 < τ e.2.1) ∧ (p ≤ q → t = 0 ∨ t * S.length + q + 1 < τ e.2.1 + S.length)

theorem BF.start (S : List (Row α)) (w : α → Int) (b : α → Nat) : BF S w [] b (fun _ => 0) 0 0 where
  nd := List.nodup_nil
  mem := fun x => by simp
  pre := fun x h => by simp at h
  le := fun x => Nat.zero_le _
  sat := fun q e h => .inr ⟨fun z => absurd z (Nat.not_lt_zero _), fun _ => .inl rfl⟩

theorem BF.turn {S : List (Row α)} {w : α → Int} {ks : List α} {b : α → Nat} {τ : α → Nat} {t : Nat} (h : BF S w ks b τ t S.length) : BF S w ks b τ (t + 1) 0 where
  nd := h.nd
  mem := h.mem
  pre := h.pre
  le := fun x => by
    have := h.le x
    rw [Nat.succ_mul]
    exact this
  sat := fun q e he => by
    rcases h.sat q e he with z | ⟨z, _⟩
    · exact .inl z
    · refine .inr ⟨fun k => absurd k (Nat.not_lt_zero _), fun _ => .inr ?_⟩
      have hq : q < S.length := (List.getElem?_eq_some_iff.mp he).1
      have := z hq
      rw [Nat.succ_mul]
      omega

theorem BF.keep {S : List (Row α)} {w : α → Int} {ks : List α} {b : α → Nat} {τ : α → Nat} {t p : Nat} {l r : α} {c : Int} (h : BF S w ks b τ t p) (he : S[p]? = some (l, r, c)) (hs : w l ≤ w r + c) : BF S w ks b τ t (p + 1) where
  nd := h.nd
  mem := h.mem
  pre := h.pre
  le := fun x => by have := h.le x; omega
  sat := fun q e hq => by
    by_cases hqp : q = p
    · subst hqp
      rw [he] at hq
      cases hq
      exact .inl hs
    · rcases h.sat q e hq with z | ⟨z1, z2⟩
      · exact .inl z
      · exact .inr ⟨fun k => z1 (by omega), fun k => z2 (by omega)⟩

theorem BF.step {S : List (Row α)} {w : α → Int} {ks : List α} {b : α → Nat} {τ : α → Nat} {t p : Nat} {l r : α} {c : Int} (h : BF S w ks b τ t p) (he : S[p]? = some (l, r, c)) (hne : ∀ e ∈ S, e.1 ≠ e.2.1) (hv : w r + c < w l) :
    BF S (put w l (w r + c)) (ins ks l) (put b l p) (put τ l (t * S.length + p + 1)) t (p + 1) := by
  have hp : p < S.length := (List.getElem?_eq_some_iff.mp he).1
  have hlr : r ≠ l := fun z => hne _ (List.mem_of_getElem? he) z.symm
  have hnew : t * S.length + p + 1 ≤ τ r + S.length := by
    rcases h.sat p _ he with z | ⟨_, z⟩
    · exact absurd z (by show ¬ w l ≤ w r + c; omega)
    · rcases z (Nat.le_refl _) with z | z
      · subst z; omega
      · have z : t * S.length + p + 1 < τ r + S.length := z
        omega
  refine ⟨nd_ins h.nd, fun x => ?_, fun x hx => ?_, fun x => ?_, fun q e hq => ?_⟩
  · rw [mem_ins]
    by_cases hx : x = l
    · subst hx
      rw [put_same]
      simp
    · rw [put_ne hx, h.mem x]
      simp [hx]
  · by_cases hxl : x = l
    · subst hxl
      refine ⟨(x, r, c), by rw [put_same]; exact he, rfl, ?_, .inl ?_, ?_⟩
      · show put w x (w r + c) r + c ≤ put w x (w r + c) x
        rw [put_same, put_ne hlr]
        exact Int.le_refl _
      · show put τ x _ r < put τ x _ x
        rw [put_same, put_ne hlr]
        have := h.le r
        omega
      · show put τ x _ x ≤ put τ x _ r + _
        rw [put_same, put_ne hlr]
        exact hnew
    · have hx' : x ∈ ks := (mem_ins.mp hx).resolve_right hxl
      obtain ⟨e, e1, e2, e3, e4, e5⟩ := h.pre x hx'
      refine ⟨e, by rw [put_ne hxl]; exact e1, e2, ?_⟩
      rw [put_ne hxl, put_ne hxl]
      by_cases hr : e.2.1 = l
      · rw [hr, put_same, put_same]
        rw [hr] at e3 e5
        have := h.le x
        refine ⟨by omega, .inr (by omega), ?_⟩
        have := h.le l
        omega
      · rw [put_ne hr, put_ne hr]
        exact ⟨e3, e4, e5⟩
  · by_cases hx : x = l
    · subst hx
      rw [put_same]
      omega
    · rw [put_ne hx]
      have := h.le x
      omega
  · by_cases hqp : q = p
    · subst hqp
      rw [he] at hq
      cases hq
      refine .inl ?_
      show put w l (w r + c) l ≤ put w l (w r + c) r + c
      rw [put_same, put_ne hlr]
      exact Int.le_refl _
    · by_cases hr : e.2.1 = l
      · right
        rw [hr, put_same]
        have hq' : q < S.length := (List.getElem?_eq_some_iff.mp hq).1
        exact ⟨fun k => by omega, fun k => .inr (by omega)⟩
      · rw [put_ne hr, put_ne hr]
        have hle : put w l (w r + c) e.1 ≤ w e.1 := by
          by_cases hl : e.1 = l
          · rw [hl, put_same]; omega
          · rw [put_ne hl]; exact Int.le_refl _
        rcases h.sat q e hq with z | ⟨z1, z2⟩
        · left
          exact Int.le_trans hle z
        · right
          exact ⟨fun k => z1 (by omega), fun k => z2 (by omega)⟩

/-! ### going back -/
def nx (S : List (Row α)) (b : α → Nat) (x : α) : α := match S[b x]? with
  | some e => e.2.1
  | none => x
def it (S : List (Row α)) (b : α → Nat) : Nat → α → α
  | 0, x => x
  | i + 1, x => nx S b (it S b i x)
theorem it_add (S : List (Row α)) (b : α → Nat) (i : Nat) (x : α) : ∀ j, it S b (i + j) x = it S b j (it S b i x)
  | 0 => rfl
  | j + 1 => by
    show nx S b (it S b (i + j) x) = nx S b (it S b j (it S b i x))
    rw [it_add S b i x j]
theorem it_succ (S : List (Row α)) (b : α → Nat) (i : Nat) (x : α) : it S b (i + 1) x = it S b i (nx S b x) := by
  rw [Nat.add_comm]
  exact it_add S b 1 x i
theorem BF.nx_of {S : List (Row α)} {w : α → Int} {ks : List α} {b : α → Nat} {τ : α → Nat} {t p : Nat} (h : BF S w ks b τ t p) {x : α} (hx : x ∈ ks) :
    ∃ c, S[b x]? = some (x, nx S b x, c) ∧ w (nx S b x) + c ≤ w x ∧ (τ (nx S b x) < τ x ∨ w (nx S b x) + c < w x) ∧ τ x ≤ τ (nx S b x) + S.length := by
  obtain ⟨⟨l, r, c⟩, e1, e2, e3, e4, e5⟩ := h.pre x hx
  have e2 : l = x := e2
  subst e2
  have en : nx S b l = r := by unfold nx; rw [e1]
  rw [en]
  exact ⟨c, e1, e3, e4, e5⟩

theorem nodup_le {l ks : List α} : l.Nodup → (∀ x ∈ l, x ∈ ks) → l.length ≤ ks.length := by
  induction l generalizing ks with
  | nil => intro _ _; exact Nat.zero_le _
  | cons a r ih =>
    intro h hs
    have ha : a ∈ ks := hs a List.mem_cons_self
    have hr := List.nodup_cons.mp h
    have := ih (ks := ks.erase a) hr.2 fun x hx => (List.mem_erase_of_ne (fun (e : x = a) => hr.1 (e ▸ hx))).mpr (hs x (List.mem_cons_of_mem _ hx))
    rw [List.length_erase_of_mem ha] at this
    have : 0 < ks.length := List.length_pos_of_mem ha
    simp only [List.length_cons]
    omega
theorem least {P : Nat → Prop} : ∀ n, P n → ∃ m, P m ∧ ∀ k, k < m → ¬ P k := by
  intro n
  induction n using Nat.strongRecOn with
  | ind n ih =>
    intro h
    by_cases hk : ∃ k, k < n ∧ P k
    · obtain ⟨k, h1, h2⟩ := hk
      exact ih k h1 h2
    · exact ⟨n, h, fun k h1 h2 => hk ⟨k, h1, h2⟩⟩
/-- two places of a long row of names out of few are alike -/
theorem pigeon {ks : List α} {f : Nat → α} {k : Nat} (hk : ks.length ≤ k) (h : ∀ i, i ≤ k → f i ∈ ks) : ∃ i j, i < j ∧ j ≤ k ∧ f i = f j := by
  refine Classical.byContradiction fun hn => ?_
  have hnd : ((List.range (k + 1)).map f).Nodup := by
    rw [List.nodup_iff_pairwise_ne, List.pairwise_map]
    refine List.Pairwise.imp_of_mem ?_ List.pairwise_lt_range
    intro a b ha hb hab e
    exact hn ⟨a, b, hab, by have := List.mem_range.mp hb; omega, e⟩
  have := nodup_le hnd (ks := ks) fun x hx => by
    obtain ⟨i, hi, rfl⟩ := List.mem_map.mp hx
    exact h i (by have := List.mem_range.mp hi; omega)
  simp only [List.length_map, List.length_range] at this
  omega

/-- the last name updated in round n leads back into before as often as one likes, and after ks.length + 1 steps it is on a ring -/
theorem BF.back {S : List (Row α)} {w : α → Int} {ks : List α} {b : α → Nat} {τ : α → Nat} {n p : Nat} {x : α} (h : BF S w ks b τ n p) (hn : ks.length ≤ n) (hx : n * S.length < τ x) : ∀ i, i ≤ ks.length → it S b i x ∈ ks := by
  have key : ∀ i, i ≤ ks.length → n * S.length < τ (it S b i x) + i * S.length := by
    intro i
    induction i with
    | zero => intro _; simpa [it] using hx
    | succ i ih =>
      intro hi
      have hi' := ih (by omega)
      have hm : i * S.length ≤ n * S.length := Nat.mul_le_mul_right _ (by omega)
      have hk : it S b i x ∈ ks := (h.mem _).mpr (by omega)
      obtain ⟨c, _, _, _, e⟩ := h.nx_of hk
      have e : τ (it S b i x) ≤ τ (it S b (i + 1) x) + S.length := e
      rw [Nat.succ_mul]
      omega
  intro i hi
  have := key i hi
  have hm : i * S.length ≤ n * S.length := Nat.mul_le_mul_right _ (by omega)
  exact (h.mem _).mpr (by omega)
theorem BF.ringed {S : List (Row α)} {w : α → Int} {ks : List α} {b : α → Nat} {τ : α → Nat} {n p : Nat} {x : α} (h : BF S w ks b τ n p) (hn : ks.length ≤ n) (hx : n * S.length < τ x) :
    ∃ d, 0 < d ∧ it S b d (it S b (ks.length + 1) x) = it S b (ks.length + 1) x ∧ (∀ i, it S b i (it S b (ks.length + 1) x) ∈ ks) ∧ ∀ j, 0 < j → j < d → it S b j (it S b (ks.length + 1) x) ≠ it S b (ks.length + 1) x := by
  have hb := h.back hn hx
  obtain ⟨i, j, hij, hj, e⟩ := pigeon (f := fun i => it S b i x) (Nat.le_refl _) hb
  have e : it S b i x = it S b j x := e
  -- the ring's names are in before
  have per : ∀ m, it S b (j - i) (it S b (i + m) x) = it S b (i + m) x := fun m => by
    rw [← it_add]
    have : i + m + (j - i) = j + m := by omega
    rw [this, it_add S b j x m, ← e, ← it_add]
  have all : ∀ m, it S b (i + m) x ∈ ks := by
    intro m
    induction m using Nat.strongRecOn with
    | ind m ih =>
      by_cases hm : i + m ≤ ks.length
      · exact hb _ hm
      · have h1 : j - i ≤ m := by omega
        have := per (m - (j - i))
        rw [← it_add] at this
        rw [show i + (m - (j - i)) + (j - i) = i + m by omega] at this
        rw [this]
        exact ih _ (by omega)
  have hy : it S b (ks.length + 1) x = it S b (i + (ks.length + 1 - i)) x := by rw [show i + (ks.length + 1 - i) = ks.length + 1 by omega]
  obtain ⟨d, ⟨hd, hdp⟩, hmin⟩ := least (P := fun d => 0 < d ∧ it S b d (it S b (ks.length + 1) x) = it S b (ks.length + 1) x) (j - i) ⟨by omega, by rw [hy]; exact per _⟩
  refine ⟨d, hd, hdp, fun m => ?_, fun m hm hmd z => hmin m hmd ⟨hm, z⟩⟩
  rw [hy, ← it_add, Nat.add_assoc]
  exact all _

/-! ### rings -/
section
variable [Inhabited α]
def at_ (S : List (Row α)) (q : Nat) : Row α := S.getD q (default, default, 0)
def lefts (S : List (Row α)) (f : List Nat) : List α := f.map fun q => (at_ S q).1
def rights (S : List (Row α)) (f : List Nat) : List α := f.map fun q => (at_ S q).2.1
def limits (S : List (Row α)) (f : List Nat) : List Int := f.map fun q => (at_ S q).2.2
structure IsRing (S : List (Row α)) (f : List Nat) : Prop where
  two : 2 ≤ f.length
  small : ∀ q ∈ f, q < S.length
  round : rights S f = (lefts S f).drop 1 ++ (lefts S f).take 1
  nd : (lefts S f).Nodup
  neg : (limits S f).sum < 0
omit [DecidableEq α] in
theorem at_of {S : List (Row α)} {q : Nat} {e : Row α} (h : S[q]? = some e) : at_ S q = e := by
  unfold at_
  rw [List.getD_eq_getElem?_getD, h]
  rfl
/-- what the walk round a ring finds -/
theorem BF.isRing {S : List (Row α)} {w : α → Int} {ks : List α} {b : α → Nat} {τ : α → Nat} {n p : Nat} {y : α} {d : Nat} (h : BF S w ks b τ n p) (hne : ∀ e ∈ S, e.1 ≠ e.2.1) (hd : 0 < d) (hp : it S b d y = y) (hin : ∀ i, it S b i y ∈ ks)
    (hmin : ∀ j, 0 < j → j < d → it S b j y ≠ y) : IsRing S ((List.range d).map fun i => b (it S b i y)) := by
  have hat : ∀ i, ∃ c, S[b (it S b i y)]? = some (it S b i y, it S b (i + 1) y, c) ∧ w (it S b (i + 1) y) + c ≤ w (it S b i y) ∧ (τ (it S b (i + 1) y) < τ (it S b i y) ∨ w (it S b (i + 1) y) + c < w (it S b i y)) := fun i => by
    obtain ⟨c, e1, e2, e3, _⟩ := h.nx_of (hin i)
    exact ⟨c, e1, e2, e3⟩
  have hl : lefts S ((List.range d).map fun i => b (it S b i y)) = (List.range d).map fun i => it S b i y := by
    unfold lefts
    rw [List.map_map]
    refine List.map_congr_left fun i _ => ?_
    obtain ⟨c, e, _⟩ := hat i
    show (at_ S (b (it S b i y))).1 = _
    rw [at_of e]
  have hr : rights S ((List.range d).map fun i => b (it S b i y)) = (List.range d).map fun i => it S b (i + 1) y := by
    unfold rights
    rw [List.map_map]
    refine List.map_congr_left fun i _ => ?_
    obtain ⟨c, e, _⟩ := hat i
    show (at_ S (b (it S b i y))).2.1 = _
    rw [at_of e]
  have hd2 : d ≠ 1 := fun z => by
    subst z
    obtain ⟨c, e, _⟩ := hat 0
    have := hne _ (List.mem_of_getElem? e)
    exact this hp.symm
  have inj : ∀ i j, i < j → j < d → it S b i y ≠ it S b j y := fun i j hij hj z => by
    refine hmin (i + (d - j)) (by omega) (by omega) ?_
    rw [it_add, z, ← it_add, show j + (d - j) = d by omega, hp]
  refine ⟨by simp; omega, fun q hq => ?_, ?_, ?_, ?_⟩
  · obtain ⟨i, _, rfl⟩ := List.mem_map.mp hq
    obtain ⟨c, e, _⟩ := hat i
    exact (List.getElem?_eq_some_iff.mp e).1
  · rw [hl, hr]
    apply List.ext_getElem?
    intro i
    by_cases hi : i + 1 < d
    · rw [List.getElem?_append_left (by simp; omega)]
      rw [List.getElem?_map, List.getElem?_drop, List.getElem?_map, List.getElem?_range (by omega), List.getElem?_range (by omega), Nat.add_comm 1 i]
      rfl
    · by_cases hi2 : i + 1 = d
      · rw [List.getElem?_append_right (by simp; omega)]
        simp only [List.getElem?_map, List.length_drop, List.length_map, List.length_range, List.getElem?_take]
        rw [List.getElem?_range (by omega), show i - (d - 1) = 0 by omega]
        rw [List.getElem?_range (by omega)]
        rw [if_pos (by omega)]
        show some (it S b (i + 1) y) = some (it S b 0 y)
        rw [hi2, hp]
        rfl
      · rw [List.getElem?_eq_none (by simp; omega), List.getElem?_eq_none (by simp; omega)]
  · rw [hl, List.nodup_iff_pairwise_ne, List.pairwise_map]
    refine List.Pairwise.imp_of_mem ?_ List.pairwise_lt_range
    intro i j hi hj hij
    exact inj i j hij (List.mem_range.mp hj)
  · -- the sum
    have hs : ∀ m, ((limits S ((List.range m).map fun i => b (it S b i y))).sum ≤ w y - w (it S b m y)) ∧ ((∃ k, k < m ∧ ¬ τ (it S b (k + 1) y) < τ (it S b k y)) → (limits S ((List.range m).map fun i => b (it S b i y))).sum < w y - w (it S b m y)) := by
      intro m
      induction m with
      | zero =>
        refine ⟨?_, fun ⟨k, hk, _⟩ => absurd hk (Nat.not_lt_zero _)⟩
        show (0 : Int) ≤ w y - w y
        omega
      | succ m ih =>
        obtain ⟨c, e1, e2, e3⟩ := hat m
        have el : (limits S ((List.range (m + 1)).map fun i => b (it S b i y))).sum = (limits S ((List.range m).map fun i => b (it S b i y))).sum + c := by
          unfold limits
          rw [List.range_succ, List.map_append, List.map_append, List.sum_append]
          congr 1
          show ((at_ S (b (it S b m y))).2.2 :: []).sum = c
          rw [at_of e1]
          simp
        rw [el]
        refine ⟨by omega, fun ⟨k, hk, hk2⟩ => ?_⟩
        by_cases hkm : k < m
        · have := ih.2 ⟨k, hkm, hk2⟩
          omega
        · have hkm : k = m := by omega
          subst hkm
          have := e3.resolve_left hk2
          omega
    have := (hs d).2 (by
      refine Classical.byContradiction fun hno => ?_
      have dec : ∀ m, m ≤ d → τ (it S b m y) + m ≤ τ y := by
        intro m
        induction m with
        | zero => intro _; exact Nat.le_refl _
        | succ m ih =>
          intro hm
          have h1 := ih (by omega)
          have h2 : τ (it S b (m + 1) y) < τ (it S b m y) := Classical.byContradiction fun z => hno ⟨m, by omega, z⟩
          omega
      have := dec d (Nat.le_refl _)
      rw [hp] at this
      omega)
    rw [hp] at this
    omega
omit [DecidableEq α] in
theorem sum_le {S : List (Row α)} {p : α → Int} (h : Solves S p) : ∀ f : List Nat, (∀ q ∈ f, q < S.length) → ((lefts S f).map p).sum - ((rights S f).map p).sum ≤ (limits S f).sum
  | [], _ => by show (0 : Int) - 0 ≤ 0; omega
  | q :: f, hq => by
    have ih := sum_le h f fun k hk => hq k (List.mem_cons_of_mem _ hk)
    have hlt := hq q List.mem_cons_self
    have e : S[q]? = some S[q] := List.getElem?_eq_getElem hlt
    have := h _ (List.mem_of_getElem? e)
    rw [← at_of e] at this
    simp only [lefts, rights, limits, List.map_cons, List.sum_cons] at ih ⊢
    omega
omit [DecidableEq α] in
/-- a system with a ring of negative sum has no solution -/
theorem IsRing.none {S : List (Row α)} {f : List Nat} (h : IsRing S f) (p : α → Int) : ¬ Solves S p := fun hs => by
  have h1 := sum_le hs f h.small
  have h2 := h.neg
  rw [h.round, List.map_append, List.sum_append] at h1
  have h3 : ((lefts S f).map p).sum = (((lefts S f).take 1).map p).sum + (((lefts S f).drop 1).map p).sum := by
    rw [← List.sum_append, ← List.map_append, List.take_append_drop]
  omega
end
def FARI : Int := 1000000000000000000000000000000
def HALFI : Int := 100000000000000000000000000000
theorem FARI_eq : FARI = 1000000000000000000000000000000 := rfl
theorem HALFI_eq : HALFI = 100000000000000000000000000000 := rfl

abbrev Tab (α : Type) := α → α → Int
def blankR : Tab α := fun u v => if u = v then 0 else FARI
def thru (R : Tab α) (l r : α) (c : Int) : Tab α := fun u v => if HALFI < R u l then R u v else if R u v ≤ R u l + (c + R r v) then R u v else R u l + (c + R r v)
def moreR (R : Tab α) (l r : α) (c : Int) : Option (Tab α) := if R l r ≤ c then some R else if R r l + c < 0 then none else some (thru R l r c)
def addedR : Tab α → List (Row α) → Option (Tab α)
  | R, [] => some R
  | R, e :: S => (moreR R e.1 e.2.1 e.2.2).bind fun R' => addedR R' S
/-- R is the tight table of S over ns; B bounds the finite limits -/
structure Ok (ns : List α) (B : Int) (S : List (Row α)) (R : Tab α) : Prop where
  diag : ∀ u ∈ ns, R u u = 0
  size : ∀ u ∈ ns, ∀ v ∈ ns, (-B ≤ R u v ∧ R u v ≤ B) ∨ FARI - B ≤ R u v
  tri : ∀ u ∈ ns, ∀ w ∈ ns, ∀ v ∈ ns, R u w ≤ HALFI → R w v ≤ HALFI → R u v ≤ R u w + R w v
  sound : ∀ p, Solves S p → ∀ u ∈ ns, ∀ v ∈ ns, R u v ≤ HALFI → p u - p v ≤ R u v
  compl : ∀ e ∈ S, R e.1 e.2.1 ≤ e.2.2
theorem Ok.blank (ns : List α) {B : Int} (h0 : 0 ≤ B) (hB : B ≤ 10 ^ 28) : Ok ns B [] (blankR : Tab α) where
  diag := fun u _ => if_pos rfl
  size := fun u _ v _ => by
    unfold blankR
    split
    · left; omega
    · right; omega
  tri := fun u _ w _ v _ h1 h2 => by
    unfold blankR at h1 h2 ⊢
    simp only [HALFI_eq, FARI_eq] at h1 h2 ⊢
    split at h1
    · rename_i e; subst e
      rw [if_pos rfl]; omega
    · omega
  sound := fun p _ u _ v _ h => by
    unfold blankR at h ⊢
    simp only [HALFI_eq, FARI_eq] at h ⊢
    split at h
    · rename_i e; subst e
      rw [if_pos rfl]; omega
    · omega
  compl := fun e he => by cases he
section
variable {ns : List α} {B : Int} {S : List (Row α)} {R : Tab α}
theorem Ok.fin (h : Ok ns B S R) (hB : B ≤ 10 ^ 28) {u v : α} (hu : u ∈ ns) (hv : v ∈ ns) (hf : R u v ≤ HALFI) : -B ≤ R u v ∧ R u v ≤ B := by
  rcases h.size u hu v hv with z | z
  · exact z
  · simp only [HALFI_eq, FARI_eq] at hf z
    omega
theorem Ok.inf (h : Ok ns B S R) (hB : B ≤ 10 ^ 28) {u v : α} (hu : u ∈ ns) (hv : v ∈ ns) (hf : HALFI < R u v) : FARI - B ≤ R u v := by
  rcases h.size u hu v hv with z | z
  · simp only [HALFI_eq, FARI_eq] at hf z
    omega
  · exact z
theorem Ok.wide (h : Ok ns B S R) {B' : Int} (hb : B ≤ B') : Ok ns B' S R :=
  { h with size := fun u hu v hv => by rcases h.size u hu v hv with z | z <;> omega }
theorem thru_le (l r : α) (c : Int) (u v : α) : thru R l r c u v ≤ R u v := by
  unfold thru
  split
  · exact Int.le_refl _
  · split
    · exact Int.le_refl _
    · omega
theorem thru_le2 {l r : α} {c : Int} {u v : α} (h : R u l ≤ HALFI) : thru R l r c u v ≤ R u l + (c + R r v) := by
  unfold thru
  rw [if_neg (by omega)]
  split
  · assumption
  · exact Int.le_refl _
theorem thru_cases (R : Tab α) (l r : α) (c : Int) (u v : α) : thru R l r c u v = R u v ∨ (R u l ≤ HALFI ∧ R u l + (c + R r v) < R u v ∧ thru R l r c u v = R u l + (c + R r v)) := by
  unfold thru
  split
  · exact .inl rfl
  · split
    · exact .inl rfl
    · exact .inr ⟨by omega, by omega, rfl⟩
theorem Ok.thru (h : Ok ns B S R) {l r : α} {c : Int} (hl : l ∈ ns) (hr : r ∈ ns) (hc : -B ≤ c ∧ c ≤ B) (hB : 3 * B ≤ 10 ^ 28) (hn : 0 ≤ R r l + c) : Ok ns (3 * B) (S ++ [(l, r, c)]) (thru R l r c) := by
  have hB1 : B ≤ 10 ^ 28 := by omega
  -- a finite new limit goes through finite ones
  have fin2 : ∀ u ∈ ns, ∀ v ∈ ns, R u l ≤ HALFI → R u l + (c + R r v) ≤ HALFI → R r v ≤ HALFI := fun u hu v hv h1 h2 => by
    by_cases hf : R r v ≤ HALFI
    · exact hf
    · have z1 := h.fin hB1 hu hl h1
      have z2 := h.inf hB1 hr hv (by omega)
      simp only [HALFI_eq, FARI_eq] at *
      omega
  have old : ∀ u ∈ ns, ∀ v ∈ ns, Df.thru R l r c u v ≤ HALFI → (Df.thru R l r c u v = R u v ∧ R u v ≤ HALFI) ∨ (R u l ≤ HALFI ∧ R r v ≤ HALFI ∧ Df.thru R l r c u v = R u l + (c + R r v)) := fun u hu v hv hf => by
    rcases thru_cases R l r c u v with e | ⟨e1, e2, e3⟩
    · exact .inl ⟨e, by omega⟩
    · exact .inr ⟨e1, fin2 u hu v hv e1 (by omega), e3⟩
  refine ⟨fun u hu => ?_, fun u hu v hv => ?_, fun u hu w hw v hv h1 h2 => ?_, fun p hp u hu v hv hf => ?_, fun e he => ?_⟩
  · rcases thru_cases R l r c u u with e | ⟨e1, e2, e3⟩
    · rw [e]; exact h.diag u hu
    · have hd := h.diag u hu
      have f2 := fin2 u hu u hu e1 (by simp only [HALFI_eq]; omega)
      have := h.tri r hr u hu l hl f2 e1
      omega
  · rcases thru_cases R l r c u v with e | ⟨e1, e2, e3⟩
    · rw [e]
      rcases h.size u hu v hv with z | z
      · left; omega
      · right; omega
    · rw [e3]
      have z1 := h.fin hB1 hu hl e1
      rcases h.size r hr v hv with z | z
      · left; omega
      · right; omega
  · rcases old u hu w hw h1 with ⟨e1, f1⟩ | ⟨a1, b1, e1⟩ <;> rcases old w hw v hv h2 with ⟨e2, f2⟩ | ⟨a2, b2, e2⟩
    · have := h.tri u hu w hw v hv f1 f2
      have := thru_le (R := R) l r c u v
      omega
    · have t := h.tri u hu w hw l hl f1 a2
      have z1 := h.fin hB1 hu hw f1
      have z2 := h.fin hB1 hw hl a2
      have hul : R u l ≤ HALFI := by simp only [HALFI_eq]; omega
      have := thru_le2 (R := R) (l := l) (r := r) (c := c) (u := u) (v := v) hul
      omega
    · have t := h.tri r hr w hw v hv b1 f2
      have := thru_le2 (R := R) (l := l) (r := r) (c := c) (u := u) (v := v) a1
      omega
    · have t := h.tri r hr w hw l hl b1 a2
      have := thru_le2 (R := R) (l := l) (r := r) (c := c) (u := u) (v := v) a1
      omega
  · have hp1 : Solves S p := fun e he => hp e (List.mem_append_left _ he)
    have hp2 : p l - p r ≤ c := hp (l, r, c) (by simp)
    rcases old u hu v hv hf with ⟨e1, f1⟩ | ⟨a1, b1, e1⟩
    · rw [e1]; exact h.sound p hp1 u hu v hv f1
    · have s1 := h.sound p hp1 u hu l hl a1
      have s2 := h.sound p hp1 r hr v hv b1
      omega
  · rcases List.mem_append.mp he with he | he
    · exact Int.le_trans (thru_le _ _ _ _ _) (h.compl e he)
    · rw [List.mem_singleton.mp he]
      show Df.thru R l r c l r ≤ c
      have d1 := h.diag l hl
      have d2 := h.diag r hr
      have := thru_le2 (R := R) (l := l) (r := r) (c := c) (u := l) (v := r) (by rw [d1]; decide)
      omega
theorem Ok.same (h : Ok ns B S R) {l r : α} {c : Int} (he : R l r ≤ c) : Ok ns B (S ++ [(l, r, c)]) R :=
  { h with
    sound := fun p hp => h.sound p fun e he => hp e (List.mem_append_left _ he)
    compl := fun e he' => by
      rcases List.mem_append.mp he' with k | k
      · exact h.compl e k
      · rw [List.mem_singleton.mp k]; exact he }
theorem Ok.more (h : Ok ns B S R) {l r : α} {c : Int} (hl : l ∈ ns) (hr : r ∈ ns) (hc : -B ≤ c ∧ c ≤ B) (hB : 3 * B ≤ 10 ^ 28) {R' : Tab α} (e : moreR R l r c = some R') : Ok ns (3 * B) (S ++ [(l, r, c)]) R' := by
  unfold moreR at e
  split at e
  · cases e
    rename_i he
    exact (h.same he).wide (by omega)
  · split at e
    · cases e
    · cases e
      exact h.thru hl hr hc hB (by omega)
theorem Ok.more_none (h : Ok ns B S R) {l r : α} {c : Int} (hl : l ∈ ns) (hr : r ∈ ns) (hc : -B ≤ c ∧ c ≤ B) (hB : 3 * B ≤ 10 ^ 28) (e : moreR R l r c = none) (p : α → Int) : ¬ Solves (S ++ [(l, r, c)]) p := fun hp => by
  unfold moreR at e
  split at e
  · cases e
  · split at e
    · rename_i h1 h2
      have hp1 : Solves S p := fun e he => hp e (List.mem_append_left _ he)
      have hp2 : p l - p r ≤ c := hp (l, r, c) (by simp)
      have := h.sound p hp1 r hr l hl (by simp only [HALFI_eq]; omega)
      omega
    · cases e
/-- all differences added, one behind another -/
theorem Ok.added : ∀ (T : List (Row α)) {S : List (Row α)} {R : Tab α} {B : Int}, Ok ns B S R → (∀ e ∈ T, e.1 ∈ ns ∧ e.2.1 ∈ ns ∧ -B ≤ e.2.2 ∧ e.2.2 ≤ B) → 0 ≤ B → 3 ^ T.length * B ≤ 10 ^ 28 →
    (∀ R', addedR R T = some R' → Ok ns (3 ^ T.length * B) (S ++ T) R') ∧ (addedR R T = none → ∀ p, ¬ Solves (S ++ T) p)
  | [], S, R, B, h, _, _, _ => by
    refine ⟨fun R' e => ?_, fun e => by cases e⟩
    cases e
    simpa using h
  | e :: T, S, R, B, h, hT, h0, hB => by
    obtain ⟨h1, h2, h3, h4⟩ := hT e List.mem_cons_self
    have e3 : (3 : Int) ^ (e :: T).length * B = 3 ^ T.length * (3 * B) := by
      rw [List.length_cons, Int.pow_succ, Int.mul_assoc]
    have e1 : (1 : Int) ≤ 3 ^ T.length := by have := Int.pow_pos (n := 3) (m := T.length) (by decide); omega
    have hB3 : 3 * B ≤ 10 ^ 28 := by
      rw [e3] at hB
      have := Int.mul_le_mul_of_nonneg_right e1 (show 0 ≤ 3 * B by omega)
      omega
    have hB3' : 3 ^ T.length * (3 * B) ≤ 10 ^ 28 := by rw [← e3]; exact hB
    have hS : S ++ e :: T = (S ++ [(e.1, e.2.1, e.2.2)]) ++ T := by simp
    cases hm : moreR R e.1 e.2.1 e.2.2 with
    | none =>
      refine ⟨fun R' k => ?_, fun _ p hp => ?_⟩
      · unfold addedR at k
        rw [hm] at k
        cases k
      · refine h.more_none h1 h2 ⟨h3, h4⟩ hB3 hm p fun d hd => hp d ?_
        rw [hS]
        exact List.mem_append_left _ hd
    | some R1 =>
      have ok1 := h.more h1 h2 ⟨h3, h4⟩ hB3 hm
      obtain ⟨k1, k2⟩ := Ok.added T ok1 (fun d hd => by
        obtain ⟨a, b, c, d'⟩ := hT d (List.mem_cons_of_mem _ hd)
        exact ⟨a, b, by omega, by omega⟩) (by omega) hB3'
      rw [hS, e3]
      have ea : addedR R (e :: T) = addedR R1 T := by
        show (moreR R e.1 e.2.1 e.2.2).bind _ = _
        rw [hm]
        rfl
      rw [ea]
      exact ⟨k1, k2⟩
end

/-! ### a point -/
def valOf (R : Tab α) (z k : α) : Int := if R z k ≤ HALFI then 0 - R z k else if R k z ≤ HALFI then R k z else 0
theorem valOf_le {ns : List α} {B : Int} {S : List (Row α)} {R : Tab α} (h : Ok ns B S R) (h0 : 0 ≤ B) (hB : B ≤ 10 ^ 28) {z k : α} (hz : z ∈ ns) (hk : k ∈ ns) : -B ≤ valOf R z k ∧ valOf R z k ≤ B := by
  unfold valOf
  split
  · have := h.fin hB hz hk (by assumption)
    omega
  · split
    · exact h.fin hB hk hz (by assumption)
    · omega
/-- a name is set to its value: never None -/
theorem Ok.setTo {ns : List α} {B : Int} {S : List (Row α)} {R : Tab α} (h : Ok ns B S R) (h0 : 0 ≤ B) (hB : 9 * B ≤ 10 ^ 28) {z k : α} (hz : z ∈ ns) (hk : k ∈ ns) :
    ∃ R1 R2, moreR R k z (valOf R z k) = some R1 ∧ moreR R1 z k (0 - valOf R z k) = some R2 ∧ Ok ns (9 * B) ((S ++ [(k, z, valOf R z k)]) ++ [(z, k, 0 - valOf R z k)]) R2 := by
  have hB1 : B ≤ 10 ^ 28 := by omega
  have hv := valOf_le h h0 hB1 hz hk
  have e1 : ∃ R1, moreR R k z (valOf R z k) = some R1 ∧ (R1 z k ≤ 0 - valOf R z k ∨ 0 ≤ R1 k z - valOf R z k) := by
    unfold moreR
    by_cases c1 : R k z ≤ valOf R z k
    · rw [if_pos c1]
      refine ⟨R, rfl, ?_⟩
      unfold valOf at c1 ⊢
      split
      · left; omega
      · rename_i g1
        rw [if_neg g1] at c1
        split
        · right; omega
        · rename_i g2
          rw [if_neg g2] at c1
          simp only [HALFI_eq] at g1 g2
          omega
    · rw [if_neg c1]
      have c2 : ¬ R z k + valOf R z k < 0 := by
        unfold valOf
        split
        · omega
        · rename_i g1
          split
          · rename_i g2
            exfalso
            apply c1
            unfold valOf
            rw [if_neg g1, if_pos g2]
            exact Int.le_refl _
          · simp only [HALFI_eq] at g1
            omega
      rw [if_neg c2]
      refine ⟨_, rfl, ?_⟩
      by_cases g1 : R z k ≤ HALFI
      · left
        have := thru_le (R := R) k z (valOf R z k) z k
        have ev : valOf R z k = 0 - R z k := by unfold valOf; rw [if_pos g1]
        omega
      · right
        have d1 := h.diag k hk
        have d2 := h.diag z hz
        unfold Df.thru
        rw [d1, d2, if_neg (by decide)]
        split
        · rename_i g2
          omega
        · omega
  obtain ⟨R1, m1, c⟩ := e1
  have ok1 := h.more hk hz hv (by omega) m1
  have e2 : ∃ R2, moreR R1 z k (0 - valOf R z k) = some R2 := by
    unfold moreR
    by_cases c1 : R1 z k ≤ 0 - valOf R z k
    · rw [if_pos c1]; exact ⟨_, rfl⟩
    · rw [if_neg c1, if_neg (by omega)]; exact ⟨_, rfl⟩
  obtain ⟨R2, m2⟩ := e2
  have ok2 := ok1.more hz hk (by omega) (by omega) m2
  refine ⟨R1, R2, m1, m2, ?_⟩
  rw [show 9 * B = 3 * (3 * B) by omega]
  exact ok2
/-- the values of all names but z, as the table holds them at the end, solve the system -/
theorem Ok.solves {ns : List α} {B : Int} {S T : List (Row α)} {R : Tab α} {x : α → Int} {z : α} (h : Ok ns B (S ++ T) R) (hB : B ≤ 10 ^ 28) (hz : z ∈ ns) (hS : ∀ e ∈ S, e.1 ∈ ns ∧ e.2.1 ∈ ns ∧ e.2.2 ≤ 10 ^ 28)
    (hx : ∀ k ∈ ns, k ≠ z → (k, z, x k) ∈ T ∧ (z, k, 0 - x k) ∈ T ∧ -B ≤ x k ∧ x k ≤ B) : Solves S fun a => if a = z then 0 else x a := by
  have key : ∀ k ∈ ns, k ≠ z → R k z = x k ∧ R z k = 0 - x k := fun k hk hkz => by
    obtain ⟨t1, t2, b1, b2⟩ := hx k hk hkz
    have c1 : R k z ≤ x k := h.compl _ (List.mem_append_right _ t1)
    have c2 : R z k ≤ 0 - x k := h.compl _ (List.mem_append_right _ t2)
    have f1 : R k z ≤ HALFI := by simp only [HALFI_eq]; omega
    have f2 : R z k ≤ HALFI := by simp only [HALFI_eq]; omega
    have t := h.tri k hk z hz k hk f1 f2
    rw [h.diag k hk] at t
    omega
  intro e he
  obtain ⟨l, r, c⟩ := e
  obtain ⟨hl, hr, hc⟩ := hS _ he
  have hl : l ∈ ns := hl
  have hr : r ∈ ns := hr
  have hc : c ≤ 10 ^ 28 := hc
  have hlr : R l r ≤ c := h.compl _ (List.mem_append_left _ he)
  have flr : R l r ≤ HALFI := by simp only [HALFI_eq]; omega
  show (if l = z then 0 else x l) - (if r = z then 0 else x r) ≤ c
  by_cases el : l = z
  · rw [if_pos el]
    by_cases er : r = z
    · rw [if_pos er]
      rw [el, er, h.diag z hz] at hlr
      omega
    · rw [if_neg er]
      have := (key r hr er).2
      rw [el] at hlr
      omega
  · rw [if_neg el]
    obtain ⟨_, _, b1, b2⟩ := hx l hl el
    by_cases er : r = z
    · rw [if_pos er]
      have := (key l hl el).1
      rw [er] at hlr
      omega
    · rw [if_neg er]
      obtain ⟨_, _, b3, b4⟩ := hx r hr er
      have k1 := (key l hl el).1
      have k2 := (key r hr er).1
      have t := h.tri l hl r hr z hz flr (by simp only [HALFI_eq]; omega)
      omega

/-! ### one after another -/
theorem addedR_append (A B : List (Row α)) : ∀ R : Tab α, addedR R (A ++ B) = (addedR R A).bind fun R' => addedR R' B := by
  induction A with
  | nil => intro R; rfl
  | cons e A ih =>
    intro R
    show (moreR R e.1 e.2.1 e.2.2).bind _ = ((moreR R e.1 e.2.1 e.2.2).bind _).bind _
    cases moreR R e.1 e.2.1 e.2.2 with
    | none => rfl
    | some R1 => exact ih R1
theorem addedR_one (R : Tab α) (e : Row α) : addedR R [e] = moreR R e.1 e.2.1 e.2.2 := by
  show (moreR R e.1 e.2.1 e.2.2).bind _ = _
  cases moreR R e.1 e.2.1 e.2.2 <;> rfl
def setR (R : Tab α) (z k : α) (x : Int) : Option (Tab α) := (moreR R k z x).bind fun R1 => moreR R1 z k (0 - x)
def pts (z : α) : Tab α → (α → Int) → List α → Option (Tab α × (α → Int))
  | R, x, [] => some (R, x)
  | R, x, k :: ks => (setR R z k (valOf R z k)).bind fun R' => pts z R' (put x k (valOf R z k)) ks
theorem pts_append (z : α) (A B : List α) : ∀ (R : Tab α) (x : α → Int), pts z R x (A ++ B) = (pts z R x A).bind fun p => pts z p.1 p.2 B := by
  induction A with
  | nil => intro R x; rfl
  | cons k A ih =>
    intro R x
    show (setR R z k (valOf R z k)).bind _ = ((setR R z k (valOf R z k)).bind _).bind _
    cases setR R z k (valOf R z k) with
    | none => rfl
    | some R1 => exact ih R1 _
theorem Ok.pts {ns : List α} {z : α} (hz : z ∈ ns) : ∀ (ks : List α) {S : List (Row α)} {R : Tab α} {B : Int} (x : α → Int), Ok ns B S R → ks.Nodup → (∀ k ∈ ks, k ∈ ns) → 0 ≤ B → 9 ^ ks.length * B ≤ 10 ^ 28 →
    ∃ R' x' T, Df.pts z R x ks = some (R', x') ∧ Ok ns (9 ^ ks.length * B) (S ++ T) R' ∧ (∀ k, k ∉ ks → x' k = x k) ∧ ∀ k ∈ ks, (k, z, x' k) ∈ T ∧ (z, k, 0 - x' k) ∈ T ∧ -(9 ^ ks.length * B) ≤ x' k ∧ x' k ≤ 9 ^ ks.length * B
  | [], S, R, B, x, h, _, _, _, _ => ⟨R, x, [], rfl, by simpa using h, fun _ _ => rfl, fun k hk => by cases hk⟩
  | k :: ks, S, R, B, x, h, hnd, hin, h0, hB => by
    have e9 : (9 : Int) ^ (k :: ks).length * B = 9 ^ ks.length * (9 * B) := by rw [List.length_cons, Int.pow_succ, Int.mul_assoc]
    have e1 : (1 : Int) ≤ 9 ^ ks.length := by have := Int.pow_pos (n := 9) (m := ks.length) (by decide); omega
    rw [e9] at hB ⊢
    have hB9 : 9 * B ≤ 9 ^ ks.length * (9 * B) := by
      have := Int.mul_le_mul_of_nonneg_right e1 (show 0 ≤ 9 * B by omega)
      omega
    have hk := hin k List.mem_cons_self
    obtain ⟨R1, R2, m1, m2, ok2⟩ := h.setTo h0 (by omega) hz hk
    have hv := valOf_le h h0 (by omega) hz hk
    have hnd' := List.nodup_cons.mp hnd
    obtain ⟨R', x', T, p1, p2, p3, p4⟩ := Ok.pts hz ks (put x k (valOf R z k)) ok2 hnd'.2 (fun j hj => hin j (List.mem_cons_of_mem _ hj)) (by omega) hB
    have hxk : x' k = valOf R z k := by rw [p3 k hnd'.1, put_same]
    refine ⟨R', x', (k, z, valOf R z k) :: (z, k, 0 - valOf R z k) :: T, ?_, ?_, fun j hj => ?_, fun j hj => ?_⟩
    · show (setR R z k (valOf R z k)).bind _ = _
      unfold setR
      rw [m1]
      show (moreR R1 z k (0 - valOf R z k)).bind _ = _
      rw [m2]
      exact p1
    · have : S ++ (k, z, valOf R z k) :: (z, k, 0 - valOf R z k) :: T = S ++ [(k, z, valOf R z k)] ++ [(z, k, 0 - valOf R z k)] ++ T := by simp
      rw [this]
      exact p2
    · rw [p3 j fun z => hj (List.mem_cons_of_mem _ z), put_ne fun (e : j = k) => hj (by rw [e]; exact List.mem_cons_self)]
    · rcases List.mem_cons.mp hj with rfl | hj
      · rw [hxk]
        exact ⟨List.mem_cons_self, List.mem_cons_of_mem _ List.mem_cons_self, by omega, by omega⟩
      · obtain ⟨q1, q2, q3, q4⟩ := p4 j hj
        exact ⟨List.mem_cons_of_mem _ (List.mem_cons_of_mem _ q1), List.mem_cons_of_mem _ (List.mem_cons_of_mem _ q2), q3, q4⟩
/-- a system whose table comes out has a solution, the point of the table -/
theorem Ok.point {ns : List α} {z : α} {ks : List α} {S : List (Row α)} {R : Tab α} {B : Int} (x : α → Int) (h : Ok ns B S R) (hns : ns = z :: ks) (hnd : ns.Nodup) (h0 : 0 ≤ B) (hB : 9 ^ ks.length * B ≤ 10 ^ 28) (hS : ∀ e ∈ S, e.1 ∈ ns ∧ e.2.1 ∈ ns ∧ e.2.2 ≤ 10 ^ 28) :
    ∃ R' x', Df.pts z R x ks = some (R', x') ∧ Solves S fun a => if a = z then 0 else x' a := by
  subst hns
  have hnd' := List.nodup_cons.mp hnd
  obtain ⟨R', x', T, p1, p2, _, p4⟩ := Ok.pts (ns := z :: ks) List.mem_cons_self ks x h hnd'.2 (fun k hk => List.mem_cons_of_mem _ hk) h0 hB
  refine ⟨R', x', p1, p2.solves hB List.mem_cons_self hS fun k hk hkz => ?_⟩
  rcases List.mem_cons.mp hk with rfl | hk
  · exact absurd rfl hkz
  · exact p4 k hk
end Df

/-! ### heaps, walks, texts: what does not hang on a program -/
namespace Ls
open PySem PySem.Spec PyProof.Rows L2
theorem same_upd {H : Hp} {p : Addr} {o : HO} (h : H p = none) : Same H (upd H p o) := fun b x e => by rw [upd_ne (ne_of_none e h)]; exact e
theorem same_mut {H H' : Hp} {p : Addr} {o : HO} (s : Same H H') (h : H p = none) : Same H (upd H' p o) := fun b x e => by rw [upd_ne (ne_of_none e h)]; exact s b x e
theorem sq {K : PySem.W.Frag} {H : Hp} {a : Addr} {xs : List V} (h : H a = some (.lst xs)) : SqL K H a xs := .inl (.inl h)
theorem sqt {K : PySem.W.Frag} {H : Hp} {a : Addr} {xs : List V} (h : H a = some (.tup xs)) : SqT K H a xs := .inl (.inl h)
theorem szl {n : Nat} (h : n ≤ 1000000) : n ≤ sizeLine := Nat.le_trans h (by decide)
theorem szlt {n : Nat} (h : n < 1000000) : n < sizeLine := Nat.lt_of_lt_of_le h (by decide)
theorem fresh_ne {H : Hp} {p q : Addr} {o : HO} (h : H p = some o) (n : H q = none) : p ≠ q := ne_of_none h n
section
variable {K : PySem.W.Frag} {a : Addr} {xs : List V}
theorem walk_enumT : Walk (IteT K a) xs.length (fun H => SqT K H a xs) (YPair (fun i => some (.int (i : Nat))) (fun i => xs[i]?)) :=
  ⟨fun i _ hi q => ⟨xs, xs[i], q, List.getElem?_eq_getElem hi⟩, fun _ q => ⟨xs, q, Nat.le_refl _⟩, fun i H v H' _ q y => have ⟨T, x, h1, h2, h3, h4⟩ := y; ⟨T, .int (i : Nat), x, h1, h2, h3, rfl, h4 xs q⟩⟩
end
section
variable {J : It} {n : Nat} {G : Hp → Prop} {Y : Nat → Hp → V → Hp → Prop}
/-- a dict comprehension over a walk -/
theorem dc_it (w : Walk J n G Y) {g : TG} {tt : TT} {tk tv : TE} {vs : List Nat} {σ : L2.St} {H1 : Hp} {D : Addr} {Qd : Hp → Prop} (Pv : Nat → Hp → Prop) (h0 : Pv 0 (upd H1 D (.dK []))) (hG : ∀ i H, i ≤ n → Pv i H → G H)
    (hs : ∀ i x H H', i < n → Pv i H → Y i H x H' → g x (wipe σ vs) H' fun σ2 H2 => wipe σ2 vs = wipe σ vs ∧ tt σ2 H2 fun b H3 =>
      if b = true then tk σ2 H3 fun y H4 => tv σ2 H4 fun z H5 => ∃ kvs k, y = kV k ∧ H5 D = some (.dK kvs) ∧ kvs.length < sizeLine ∧ Pv (i + 1) (upd H5 D (.dK (putK kvs k z))) else Pv (i + 1) H3) (hd : ∀ H, Pv n H → Qd H) :
    ∃ W : Nat → Nat → Hp → Prop, (∃ m, W 0 m (upd H1 D (.dK []))) ∧ ∀ i m H, W i m H →
      (J.stop i H ∧ Qd H) ∨ (J.go i H ∧ ∃ Nx : Hp → Prop, (∀ H', Nx H' → ∃ m', m' < m ∧ W (i + 1) m' H') ∧ ∀ x H', J.yld i H x H' → g x (wipe σ vs) H' fun σ2 H2 => wipe σ2 vs = wipe σ vs ∧ tt σ2 H2 fun b H3 =>
        if b = true then tk σ2 H3 fun y H4 => tv σ2 H4 fun z H5 => ∃ kvs k, y = kV k ∧ H5 D = some (.dK kvs) ∧ kvs.length < sizeLine ∧ Nx (upd H5 D (.dK (putK kvs k z))) else Nx H3) :=
  ⟨fun i m H => m = n - i ∧ i ≤ n ∧ Pv i H, ⟨n, (Nat.sub_zero n).symm, Nat.zero_le _, h0⟩, fun i m H ⟨e, hi, p⟩ => by
    have q := hG i H hi p
    rcases Nat.lt_or_ge i n with hlt | hge
    · exact .inr ⟨w.goes i H hlt q, Pv (i + 1), fun H' p' => ⟨n - (i + 1), by omega, rfl, hlt, p'⟩, fun x H' y => hs i x H H' hlt p (w.yields i H x H' hlt q y)⟩
    · have e : i = n := Nat.le_antisymm hi hge
      subst e
      exact .inl ⟨w.stops H q, hd H p⟩⟩
end
/-! rows paired -/
theorem pget {α β : Type} {F : α → β → Prop} : ∀ {xs : List α} {ys : List β} {i : Nat} {y : β}, Paired F xs ys → ys[i]? = some y → ∃ x, xs[i]? = some x ∧ F x y
  | _, _, _, _, .nil, e => by simp at e
  | _, _, 0, _, .cons r _, e => by
    have e : _ = _ := Option.some.inj e
    exact ⟨_, rfl, e ▸ r⟩
  | _, _, i + 1, y, .cons _ t, e => pget (i := i) t e
theorem pmono {α β : Type} {F F' : α → β → Prop} (h : ∀ x y, F x y → F' x y) : ∀ {xs : List α} {ys : List β}, Paired F xs ys → Paired F' xs ys
  | _, _, .nil => .nil
  | _, _, .cons r t => .cons (h _ _ r) (pmono h t)
theorem plen {α β : Type} {F : α → β → Prop} : ∀ {xs : List α} {ys : List β}, Paired F xs ys → xs.length = ys.length
  | _, _, .nil => rfl
  | _, _, .cons _ t => congrArg Nat.succ (plen t)
theorem pmap {α β γ : Type} {F : α → β → Prop} (g : γ → β) : ∀ {xs : List α} {zs : List γ}, Paired F xs (zs.map g) → Paired (fun x z => F x (g z)) xs zs
  | _, [], .nil => .nil
  | _, _ :: _, .cons r t => .cons r (pmap g t)
/-! dicts of names -/
/-- the dict with the keys ks, in order, n standing for v n -/
def tabV (ks : List Str) (v : Str → V) : List (Key × V) := ks.map fun n => (Sum.inr n, v n)
theorem tabV_len (ks : List Str) (v : Str → V) : (tabV ks v).length = ks.length := List.length_map _
theorem tabV_keys (ks : List Str) (v : Str → V) : (tabV ks v).map (fun kv => kV kv.1) = ks.map V.str := by
  unfold tabV; rw [List.map_map]; rfl
theorem valV_tab : ∀ (ks : List Str) (v : Str → V) (n : Str), valV (tabV ks v) (Sum.inr n : Key) = if n ∈ ks then some (v n) else none
  | [], v, n => by simp [tabV, valV]
  | k :: ks, v, n => by
    show valV ((Sum.inr k, v k) :: tabV ks v) (Sum.inr n : Key) = _
    by_cases h : k = n
    · subst h
      rw [valV_pos (p := ((Sum.inr k : Key), v k)) rfl, if_pos List.mem_cons_self]
    · rw [valV_neg (p := ((Sum.inr k : Key), v k)) (fun e => h (Sum.inr.inj e)), valV_tab ks v n]
      simp [Ne.symm h]
theorem valV_tab_in {ks : List Str} {v : Str → V} {n : Str} (h : n ∈ ks) : valV (tabV ks v) (Sum.inr n : Key) = some (v n) := by rw [valV_tab, if_pos h]
theorem valV_tab_no {ks : List Str} {v : Str → V} {n : Str} (h : n ∉ ks) : valV (tabV ks v) (Sum.inr n : Key) = none := by rw [valV_tab, if_neg h]
theorem tabV_congr {ks : List Str} {v v' : Str → V} (h : ∀ n ∈ ks, v n = v' n) : tabV ks v = tabV ks v' := List.map_congr_left fun n hn => by rw [h n hn]
theorem putK_tab (ks : List Str) (v : Str → V) (n : Str) (x : V) : putK (tabV ks v) (Sum.inr n : Key) x = tabV (Df.ins ks n) (Df.put v n x) := by
  unfold Df.ins
  by_cases h : n ∈ ks
  · rw [if_pos h]
    have hany : ((tabV ks v).any fun kv => decide (kv.1 = (Sum.inr n : Key))) = true := by rw [valV_any, valV_tab_in h]; rfl
    unfold putK
    rw [if_pos hany]
    unfold tabV
    rw [List.map_map]
    refine List.map_congr_left fun m _ => ?_
    by_cases e : m = n
    · subst e
      simp [Df.put]
    · have e2 : ¬ ((Sum.inr m : Key) = Sum.inr n) := fun z => e (Sum.inr.inj z)
      simp [Df.put, e]
  · rw [if_neg h, putK_new x (valV_tab_no h)]
    have e : tabV (ks ++ [n]) (Df.put v n x) = tabV ks (Df.put v n x) ++ [(Sum.inr n, x)] := by
      unfold tabV
      rw [List.map_append]
      simp [Df.put]
    rw [e]
    congr 1
    exact tabV_congr fun m hm => by rw [Df.put_ne]; exact fun z => h (z ▸ hm)
theorem ins_len (ks : List Str) (n : Str) : (Df.ins ks n).length ≤ ks.length + 1 := by
  unfold Df.ins
  split <;> simp
end Ls

/-! ### walks: how great a limit can be; what is implied -/
namespace Df
variable {α : Type} [DecidableEq α]
/-- a walk from u to v whose limits add up to c, all names but the last in V -/
inductive Wk (S : List (Row α)) (V : List α) : α → α → Int → Prop where
  | refl {u : α} (h : u ∈ V) : Wk S V u u 0
  | step {u x v : α} {c W : Int} (he : (u, x, c) ∈ S) (hu : u ∈ V) (t : Wk S V x v W) : Wk S V u v (c + W)
theorem Wk.start {S : List (Row α)} {V : List α} {u v : α} {W : Int} (h : Wk S V u v W) : u ∈ V := by
  cases h with
  | refl h => exact h
  | step _ h _ => exact h
theorem Wk.mono {S T : List (Row α)} {V : List α} (hS : ∀ e ∈ S, e ∈ T) {u v : α} {W : Int} (h : Wk S V u v W) : Wk T V u v W := by
  induction h with
  | refl h => exact .refl h
  | step he hu _ ih => exact .step (hS _ he) hu ih
theorem Wk.app {S : List (Row α)} {V : List α} {u x v : α} {W1 W2 : Int} (h : Wk S V u x W1) (g : Wk S V x v W2) : Wk S V u v (W1 + W2) := by
  induction h with
  | refl h => rw [Int.zero_add]; exact g
  | step he hu _ ih => rw [Int.add_assoc]; exact .step he hu (ih g)
theorem Wk.point {S : List (Row α)} {V : List α} {p : α → Int} (hp : Solves S p) {u v : α} {W : Int} (h : Wk S V u v W) : p u - p v ≤ W := by
  induction h with
  | refl h => omega
  | @step u x v c W he hu _ ih =>
    have h1 : p u - p x ≤ c := hp _ he
    omega
/-- where the walk leaves u for the last time -/
theorem Wk.last {S : List (Row α)} {V : List α} {u : α} (huV : u ∈ V) {x v : α} {W : Int} (h : Wk S V x v W) (huv : u ≠ v) :
    Wk S (V.filter (· ≠ u)) x v W ∨ ∃ w c W1 W2, (u, w, c) ∈ S ∧ Wk S (V.filter (· ≠ u)) w v W2 ∧ Wk S V x u W1 ∧ W = W1 + (c + W2) := by
  induction h with
  | refl h => exact .inl (.refl (List.mem_filter.mpr ⟨h, by simpa using huv.symm⟩))
  | @step x w v c W he hx t ih =>
    rcases ih huv with l | ⟨w', c', W1, W2, h1, h2, h3, h4⟩
    · by_cases hxu : x = u
      · subst hxu
        exact .inr ⟨w, c, 0, W, he, l, .refl hx, by omega⟩
      · exact .inl (.step he (List.mem_filter.mpr ⟨hx, by simpa using hxu⟩) l)
    · exact .inr ⟨w', c', c + W1, W2, h1, h2, .step he hx h3, by omega⟩
theorem filter_len {V : List α} {u : α} (h : u ∈ V) : (V.filter (· ≠ u)).length < V.length := by
  induction V with
  | nil => cases h
  | cons a V ih =>
    by_cases ha : a = u
    · subst ha
      rw [List.filter_cons_of_neg (by simp)]
      have := List.length_filter_le (fun x => decide (x ≠ a)) V
      simp only [List.length_cons]
      omega
    · rw [List.filter_cons_of_pos (by simpa using ha)]
      have := ih ((List.mem_cons.mp h).resolve_left fun z => ha z.symm)
      simp only [List.length_cons]
      omega
/-- a short way round: no greater, of bounded size, and the tight limit is no greater -/
theorem Ok.short {ns : List α} {B L : Int} {S : List (Row α)} {R : Tab α} (h : Ok ns B S R) {p : α → Int} (hp : Solves S p) (hS : ∀ e ∈ S, e.1 ∈ ns ∧ e.2.1 ∈ ns ∧ -L ≤ e.2.2 ∧ e.2.2 ≤ L) (h0 : 0 ≤ L) :
    ∀ (n : Nat) (V : List α), V.length ≤ n + 1 → (n + 1 : Int) * L ≤ 10 ^ 28 → (∀ x ∈ V, x ∈ ns) → ∀ {u v : α} {W : Int}, v ∈ ns → Wk S V u v W → ∃ W', W' ≤ W ∧ -((n : Int) * L) ≤ W' ∧ W' ≤ (n : Int) * L ∧ R u v ≤ W' := by
  intro n
  induction n with
  | zero =>
    intro V hV hL hVn u v W hv hw
    by_cases huv : u = v
    · subst huv
      have := hw.point hp
      have := h.diag u hv
      exact ⟨0, by omega, by omega, by omega, by omega⟩
    · rcases hw.last hw.start huv with l | ⟨w, c, W1, W2, _, l, _, _⟩
      · have := l.start
        simp at this
      · have h1 := filter_len hw.start
        have h2 := l.start
        cases hf : V.filter (· ≠ u) with
        | nil => rw [hf] at h2; cases h2
        | cons a t =>
          rw [hf] at h1
          simp only [List.length_cons] at h1
          omega
  | succ n ih =>
    intro V hV hL hVn u v W hv hw
    have hnL : ((n + 1 : Nat) : Int) * L = (n : Int) * L + L := by
      rw [show ((n + 1 : Nat) : Int) = (n : Int) + 1 by omega, Int.add_mul, Int.one_mul]
    have hnL2 : (((n + 1 : Nat) : Int) + 1) * L = (n : Int) * L + L + L := by
      rw [Int.add_mul, Int.one_mul, hnL]
    have hnL3 : ((n : Int) + 1) * L = (n : Int) * L + L := by rw [Int.add_mul, Int.one_mul]
    have hn0 : 0 ≤ (n : Int) * L := Int.mul_nonneg (by omega) h0
    rw [hnL2] at hL
    rw [hnL]
    have huV := hw.start
    by_cases huv : u = v
    · subst huv
      have := hw.point hp
      have := h.diag u hv
      exact ⟨0, by omega, by omega, by omega, by omega⟩
    · rcases hw.last huV huv with l | ⟨w, c, W1, W2, he, l, l1, eW⟩
      · have := l.start
        simp at this
      · have h1 := filter_len huV
        obtain ⟨W', k1, k2, k3, k4⟩ := ih (V.filter (· ≠ u)) (by omega) (by rw [hnL3]; omega) (fun x hx => hVn x (List.mem_filter.mp hx).1) hv l
        obtain ⟨e1, e2, e3, e4⟩ := hS _ he
        have hc : R u w ≤ c := h.compl _ he
        have p1 := l1.point hp
        have e3 : -L ≤ c := e3
        have e4 : c ≤ L := e4
        have t := h.tri u (hVn u huV) w e2 v hv (by simp only [HALFI_eq]; omega) (by simp only [HALFI_eq]; omega)
        exact ⟨c + W', by omega, by omega, by omega, by omega⟩
/-- finite limits are walks -/
def Walks (ns : List α) (S : List (Row α)) (R : Tab α) : Prop := ∀ u ∈ ns, ∀ v ∈ ns, R u v ≤ HALFI → Wk S ns u v (R u v)
theorem Walks.blank (ns : List α) : Walks ns [] (blankR : Tab α) := fun u hu v hv h => by
  unfold blankR at h ⊢
  split at h
  · rename_i e
    subst e
    rw [if_pos rfl]
    exact .refl hu
  · simp only [HALFI_eq, FARI_eq] at h
    omega
theorem Walks.more {ns : List α} {B : Int} {S : List (Row α)} {R : Tab α} (hw : Walks ns S R) (h : Ok ns B S R) {l r : α} {c : Int} (hl : l ∈ ns) (hr : r ∈ ns) (hc : -B ≤ c ∧ c ≤ B) (hB : 3 * B ≤ 10 ^ 28) {R' : Tab α} (e : moreR R l r c = some R') : Walks ns (S ++ [(l, r, c)]) R' := by
  have mono : ∀ {u v W}, Wk S ns u v W → Wk (S ++ [(l, r, c)]) ns u v W := fun g => g.mono fun e he => List.mem_append_left _ he
  unfold moreR at e
  split at e
  · cases e
    exact fun u hu v hv hf => mono (hw u hu v hv hf)
  · split at e
    · cases e
    · cases e
      intro u hu v hv hf
      rcases thru_cases R l r c u v with e | ⟨e1, e2, e3⟩
      · rw [e] at hf ⊢
        exact mono (hw u hu v hv hf)
      · rw [e3] at hf ⊢
        have b1 := h.fin (by omega) hu hl e1
        have hf2 : R r v ≤ HALFI := by
          by_cases hx : R r v ≤ HALFI
          · exact hx
          · have := h.inf (by omega) hr hv (by omega)
            simp only [HALFI_eq, FARI_eq] at hf this
            omega
        exact (mono (hw u hu l hl e1)).app (.step (by simp) hl (mono (hw r hr v hv hf2)))
theorem Walks.added {ns : List α} : ∀ (T : List (Row α)) {S : List (Row α)} {R : Tab α} {B : Int}, Walks ns S R → Ok ns B S R → (∀ e ∈ T, e.1 ∈ ns ∧ e.2.1 ∈ ns ∧ -B ≤ e.2.2 ∧ e.2.2 ≤ B) → 0 ≤ B → 3 ^ T.length * B ≤ 10 ^ 28 →
    ∀ R', addedR R T = some R' → Walks ns (S ++ T) R'
  | [], S, R, B, hw, h, _, _, _ => fun R' e => by
    cases e
    simpa using hw
  | e :: T, S, R, B, hw, h, hT, h0, hB => by
    obtain ⟨h1, h2, h3, h4⟩ := hT e List.mem_cons_self
    have e3 : (3 : Int) ^ (e :: T).length * B = 3 ^ T.length * (3 * B) := by
      rw [List.length_cons, Int.pow_succ, Int.mul_assoc]
    have e1 : (1 : Int) ≤ 3 ^ T.length := by have := Int.pow_pos (n := 3) (m := T.length) (by decide); omega
    have hB3 : 3 * B ≤ 10 ^ 28 := by
      rw [e3] at hB
      have := Int.mul_le_mul_of_nonneg_right e1 (show 0 ≤ 3 * B by omega)
      omega
    intro R' k
    cases hm : moreR R e.1 e.2.1 e.2.2 with
    | none =>
      unfold addedR at k
      rw [hm] at k
      cases k
    | some R1 =>
      have ea : addedR R (e :: T) = addedR R1 T := by
        show (moreR R e.1 e.2.1 e.2.2).bind _ = _
        rw [hm]
        rfl
      rw [ea] at k
      have hS : S ++ e :: T = (S ++ [(e.1, e.2.1, e.2.2)]) ++ T := by simp
      rw [hS]
      exact Walks.added T (hw.more h h1 h2 ⟨h3, h4⟩ hB3 hm) (h.more h1 h2 ⟨h3, h4⟩ hB3 hm) (fun d hd => by
        obtain ⟨a, b, c, d'⟩ := hT d (List.mem_cons_of_mem _ hd)
        exact ⟨a, b, by omega, by omega⟩) (by omega) (by rw [← e3]; exact hB) R' k
/-! ### a system's table as a whole -/
section
variable {ns : List α} {S : List (Row α)} {L : Int}
/-- the system S over ns, its limits at most L, small enough for the tables -/
structure Fit (ns : List α) (S : List (Row α)) (L : Int) : Prop where
  nn : 0 ≤ L
  ins : ∀ e ∈ S, e.1 ∈ ns ∧ e.2.1 ∈ ns ∧ -L ≤ e.2.2 ∧ e.2.2 ≤ L
  small : 9 ^ ns.length * (3 ^ S.length * L) ≤ 10 ^ 28
theorem pow9 (n : Nat) : (1 : Int) ≤ 9 ^ n := by have := Int.pow_pos (n := 9) (m := n) (by decide); omega
theorem pow3 (n : Nat) : (1 : Int) ≤ 3 ^ n := by have := Int.pow_pos (n := 3) (m := n) (by decide); omega
theorem Fit.le3 (h : Fit ns S L) : 3 ^ S.length * L ≤ 10 ^ 28 ∧ 0 ≤ 3 ^ S.length * L ∧ L ≤ 3 ^ S.length * L := by
  have h1 := Int.mul_le_mul_of_nonneg_right (pow3 S.length) h.nn
  have h2 := Int.mul_le_mul_of_nonneg_right (pow9 ns.length) (show 0 ≤ 3 ^ S.length * L by have := h.nn; omega)
  have := h.small
  have := h.nn
  omega
theorem Fit.some (h : Fit ns S L) {R : Tab α} (e : addedR blankR S = some R) : Ok ns (3 ^ S.length * L) S R ∧ Walks ns S R := by
  have h1 := h.le3
  have ok := Ok.blank ns h.nn (by omega)
  refine ⟨?_, ?_⟩
  · simpa using (Ok.added S ok h.ins h.nn h1.1).1 R e
  · simpa using Walks.added S (Walks.blank ns) ok h.ins h.nn h1.1 R e
theorem Fit.none (h : Fit ns S L) (e : addedR blankR S = none) (p : α → Int) : ¬ Solves S p := by
  have h1 := h.le3
  simpa using (Ok.added S (Ok.blank ns h.nn (by omega)) h.ins h.nn h1.1).2 e p
def pt0 (z : α) (x : α → Int) : α → Int := fun a => if a = z then 0 else x a
theorem Fit.point {z : α} {ks : List α} (h : Fit (z :: ks) S L) (hnd : (z :: ks).Nodup) {R : Tab α} (e : addedR blankR S = Option.some R) (x : α → Int) : ∃ R' x', pts z R x ks = Option.some (R', x') ∧ Solves S (pt0 z x') := by
  have h1 := h.le3
  have h2 := h.small
  refine (h.some e).1.point x rfl hnd h1.2.1 ?_ fun e he => ⟨(h.ins e he).1, (h.ins e he).2.1, by have := (h.ins e he).2.2.2; omega⟩
  have e9 : (9 : Int) ^ (z :: ks).length * (3 ^ S.length * L) = 9 * (9 ^ ks.length * (3 ^ S.length * L)) := by
    rw [List.length_cons, Int.pow_succ, Int.mul_comm (9 ^ ks.length) 9, Int.mul_assoc]
  rw [e9] at h2
  have h3 := Int.mul_le_mul_of_nonneg_right (pow9 ks.length) h1.2.1
  omega
theorem Fit.solvable (h : Fit ns S L) {z : α} {ks : List α} (hns : ns = z :: ks) (hnd : ns.Nodup) {R : Tab α} (e : addedR blankR S = Option.some R) : ∃ p, Solves S p := by
  subst hns
  obtain ⟨_, x', _, hs⟩ := h.point hnd e fun _ => 0
  exact ⟨_, hs⟩
/-- a finite limit is at most as great as a walk through all names -/
theorem Fit.bound (h : Fit ns S L) {R : Tab α} (e : addedR blankR S = Option.some R) {p : α → Int} (hp : Solves S p) {u v : α} (hu : u ∈ ns) (hv : v ∈ ns) (hf : R u v ≤ HALFI) (hL : (ns.length : Int) * L ≤ 10 ^ 28) :
    -((ns.length : Int) * L) ≤ R u v ∧ R u v ≤ (ns.length : Int) * L := by
  obtain ⟨ok, wk⟩ := h.some e
  have hw := wk u hu v hv hf
  cases hn : ns.length with
  | zero => rw [List.length_eq_zero_iff.mp hn] at hu; cases hu
  | succ n =>
    rw [hn] at hL
    have e1 : ((n + 1 : Nat) : Int) * L = (n : Int) * L + L := by rw [show ((n + 1 : Nat) : Int) = (n : Int) + 1 by omega, Int.add_mul, Int.one_mul]
    have h0 := h.nn
    obtain ⟨W', k1, k2, k3, k4⟩ := ok.short hp h.ins h.nn n ns (by omega) (by rw [show ((n : Int) + 1) = ((n + 1 : Nat) : Int) by omega]; exact hL) (fun x hx => hx) hv hw
    rw [e1]
    omega
/-- what `implied` answers -/
def implB (S : List (Row α)) (l r : α) (c : Int) : Bool := match addedR blankR S with
  | Option.none => true
  | Option.some R => decide (R l r ≤ c)
/-- implied: the denial has no solution -/
theorem Fit.implied (h : Fit ns S L) {l r : α} {c : Int} (hl : l ∈ ns) (hr : r ∈ ns) (hc : c ≤ 10 ^ 28) (hi : implB S l r c = true) (p : α → Int) : ¬ Solves (S ++ [(r, l, 0 - c - 1)]) p := fun hp => by
  have hS : Solves S p := fun e he => hp e (List.mem_append_left _ he)
  unfold implB at hi
  cases e : addedR blankR S with
  | none => exact h.none e p hS
  | some R =>
    rw [e] at hi
    have hi : R l r ≤ c := of_decide_eq_true hi
    have h1 := (h.some e).1.sound p hS l hl r hr (by simp only [HALFI_eq]; omega)
    have h2 := hp (r, l, 0 - c - 1) (by simp)
    have h2 : p r - p l ≤ 0 - c - 1 := h2
    omega
/-- not implied: the denial's table comes out -/
theorem denied {S : List (Row α)} {l r : α} {c : Int} (hi : implB S l r c = false) : ∃ R, addedR blankR (S ++ [(r, l, 0 - c - 1)]) = Option.some R := by
  unfold implB at hi
  cases e : addedR blankR S with
  | none => rw [e] at hi; cases hi
  | some R =>
    rw [e] at hi
    have hi : ¬ R l r ≤ c := of_decide_eq_false hi
    rw [addedR_append, e]
    show ∃ R', addedR R [(r, l, 0 - c - 1)] = Option.some R'
    rw [addedR_one]
    unfold moreR
    split
    · exact ⟨_, rfl⟩
    · rw [if_neg (show ¬ R l r + (0 - c - 1) < 0 by omega)]
      exact ⟨_, rfl⟩
/-- a system implies its own -/
theorem Fit.own (h : Fit ns S L) {e : Row α} (he : e ∈ S) : implB S e.1 e.2.1 e.2.2 = true := by
  unfold implB
  cases ea : addedR blankR S with
  | none => rfl
  | some R => exact decide_eq_true ((h.some ea).1.compl e he)
end
end Df

/-! ### chains: tight edges lead from one end to the other -/
namespace Df
variable {α : Type} [DecidableEq α]
/-- an edge that a shortest way to r takes -/
def TightE (R : Tab α) (r : α) (e : Row α) : Prop := R e.2.1 r < HALFI ∧ e.2.2 + R e.2.1 r = R e.1 r
/-- a set that tight edges do not leave holds r with u, if u's limit to r is finite -/
theorem Fit.tight_way {ns : List α} {S : List (Row α)} {L : Int} (h : Fit ns S L) {R : Tab α} (e : addedR blankR S = Option.some R) {p : α → Int} (hp : Solves S p) (hL : (ns.length : Int) * L ≤ 10 ^ 28) {V : α → Prop} {r : α} (hr : r ∈ ns)
    (hV : ∀ e ∈ S, V e.1 → TightE R r e → V e.2.1) {u : α} (hu : u ∈ ns) (hf : R u r ≤ HALFI) (hVu : V u) : V r := by
  obtain ⟨ok, wk⟩ := h.some e
  have l3 := h.le3
  have key : ∀ {u v : α} {W : Int}, Wk S ns u v W → v = r → u ∈ ns → W = R u r → R u r ≤ HALFI → V u → V r := by
    intro u v W hw
    induction hw with
    | refl _ => intro e1 _ _ _ hv; exact e1 ▸ hv
    | @step u x v c W he hu' t ih =>
      intro ev hu eW hf hVu
      subst ev
      obtain ⟨i1, i2, i3, i4⟩ := h.ins _ he
      have i2 : x ∈ ns := i2
      have i3 : -L ≤ c := i3
      have i4 : c ≤ L := i4
      have hc : R u x ≤ c := ok.compl _ he
      have hn : ns.length ≠ 0 := fun z => by rw [List.length_eq_zero_iff.mp z] at hr; cases hr
      obtain ⟨n, en⟩ : ∃ n, ns.length = n + 1 := ⟨ns.length - 1, by omega⟩
      rw [en] at hL
      obtain ⟨W', k1, k2, k3, k4⟩ := ok.short hp h.ins h.nn n ns (by omega) (by rw [show ((n : Int) + 1) = ((n + 1 : Nat) : Int) by omega]; exact hL) (fun x hx => hx) hr t
      have e2 : ((n + 1 : Nat) : Int) * L = (n : Int) * L + L := by rw [show ((n + 1 : Nat) : Int) = (n : Int) + 1 by omega, Int.add_mul, Int.one_mul]
      have h0 := h.nn
      have fx : R x v ≤ HALFI := by simp only [HALFI_eq]; omega
      have t1 := ok.tri u hu x i2 v hr (by simp only [HALFI_eq]; omega) fx
      have eW' : W = R x v := by omega
      have tg : TightE R v (u, x, c) := ⟨by show R x v < HALFI; simp only [HALFI_eq]; omega, by show c + R x v = R u v; omega⟩
      exact ih rfl i2 eW' fx (hV _ he hVu tg)
  exact key (wk u hu r hr hf) rfl hu rfl hf hVu
/-! what the search holds: ks the names found, in order; b the place of the edge by which each was reached -/
structure Srch (S : List (Row α)) (R : Tab α) (l r : α) (ks : List α) (b : α → Nat) : Prop where
  nd : ks.Nodup
  hd : ks[0]? = some l
  pre : ∀ (i : Nat) x, ks[i]? = some x → 0 < i → ∃ u c j, S[b x]? = some (u, x, c) ∧ ks[j]? = some u ∧ j < i ∧ c + R x r = R u r
theorem Srch.start (S : List (Row α)) (R : Tab α) (l r : α) (b : α → Nat) : Srch S R l r [l] b where
  nd := by simp
  hd := rfl
  pre := fun i x h hi => by
    cases i with
    | zero => omega
    | succ i => simp at h
theorem Srch.add {S : List (Row α)} {R : Tab α} {l r : α} {ks : List α} {b : α → Nat} (h : Srch S R l r ks b) {p : Nat} {u x : α} {c : Int} (he : S[p]? = some (u, x, c)) (hu : u ∈ ks) (hx : x ∉ ks) (ht : c + R x r = R u r) :
    Srch S R l r (ks ++ [x]) (put b x p) where
  nd := by
    rw [List.nodup_append]
    refine ⟨h.nd, by simp, fun y hy z hz => ?_⟩
    rw [List.mem_singleton.mp hz]
    exact fun e => hx (e ▸ hy)
  hd := by
    have := h.hd
    cases ks with
    | nil => simp at this
    | cons a t => exact this
  pre := fun i y hy hi => by
    by_cases hik : i < ks.length
    · rw [List.getElem?_append_left hik] at hy
      obtain ⟨u', c', j, e1, e2, e3, e4⟩ := h.pre i y hy hi
      have hyx : y ≠ x := fun z => hx (z ▸ List.mem_of_getElem? hy)
      refine ⟨u', c', j, by rw [put_ne hyx]; exact e1, ?_, e3, e4⟩
      rw [List.getElem?_append_left (by omega)]
      exact e2
    · rw [List.getElem?_append_right (by omega)] at hy
      have hi0 : i - ks.length = 0 := by
        cases hj : i - ks.length with
        | zero => rfl
        | succ j => rw [hj] at hy; simp at hy
      rw [hi0] at hy
      have hyx : x = y := Option.some.inj hy
      subst hyx
      obtain ⟨j, hj, ej⟩ := List.mem_iff_getElem.mp hu
      refine ⟨u, c, j, by rw [put_same]; exact he, ?_, by omega, ht⟩
      rw [List.getElem?_append_left hj, List.getElem?_eq_getElem hj, ej]
/-- a way: places of S from u to v, with its sum -/
def Way (S : List (Row α)) : α → α → Int → List Nat → Prop
  | u, v, W, [] => u = v ∧ W = 0
  | u, v, W, q :: f => ∃ x c, S[q]? = some (u, x, c) ∧ Way S x v (W - c) f
theorem Way.snoc {S : List (Row α)} : ∀ {f : List Nat} {u v x : α} {W c : Int} {q : Nat}, Way S u v W f → S[q]? = some (v, x, c) → Way S u x (W + c) (f ++ [q])
  | [], u, v, x, W, c, q, ⟨h1, h2⟩, hq => by
    subst h1 h2
    exact ⟨x, c, hq, rfl, by omega⟩
  | p :: f, u, v, x, W, c, q, ⟨y, d, h1, h2⟩, hq => ⟨y, d, h1, by
    have := Way.snoc h2 hq
    rwa [show W - d + c = W + c - d by omega] at this⟩
end Df

/-! ### sets of different texts: set(l), sorted(s) -/
namespace Ls
open PySem PySem.Spec PyProof.Rows L2
def keyT (e : Int × Value) : Str := match e.2 with
  | .str k _ => k
  | _ => Str.empty
def GoodT (P : Program) (w : World) (e : Int × Value) : Prop := ∃ k tk, e.2 = Value.str k tk ∧ e.1 = (strKind P w).hash k
abbrev newO (w : World) : Obj := { cls := .type "set", dict := none, data := .set #[] 0 (.fresh 0 0 (!w.params.followText "set-order")) }
def SetT (P : Program) (w : World) (h : Heap) (a : Addr) (L : List Str) : Prop := ∃ (ob : Obj) (es : Array (Int × Value)) (ep : Nat) (tb : SetTable), h.get? a = some ob ∧ ob.ExactSet ∧ ob.data = .set es ep tb ∧ (∀ e ∈ es.toList, GoodT P w e) ∧ (es.toList.map keyT).Perm L ∧ es.size < scanBound ∧ tb.fits es.size = true ∧ Ris tb.place.toList ∧
  (w.params.followText "set-order" = true ∨ tb.led = true)
section
variable {P : Program} {w : World} {A : Around} {E : Value → Shared → Prop} {s : Shared} {a : Addr} {L : List Str}
theorem SetT.at {h h' : Heap} (R : SetT P w h a L) (k : ∀ u, h.get? a = some u → h'.get? a = some u) : SetT P w h' a L := by
  obtain ⟨ob, es, ep, tb, e1, rest⟩ := R
  exact ⟨ob, es, ep, tb, k ob e1, rest⟩
theorem goodT_elems {l : List (Int × Value)} (g : ∀ e ∈ l, GoodT P w e) : ElemsOf (strKind P w) l := fun e me => by
  obtain ⟨k, tk, q1, q2⟩ := g e me
  exact ⟨⟨k, by rw [q1]; exact strKind_is P w k tk, q2⟩, by rw [q1]; rfl⟩
theorem goodT_is {e : Int × Value} (g : GoodT P w e) {k : Str} (h : (strKind P w).is k e.2 = true) : keyT e = k := by
  obtain ⟨k0, tk, q1, _⟩ := g
  have h2 : (strKind P w).is k (Value.str k0 tk) = true := q1 ▸ h
  unfold keyT
  rw [q1]
  exact (strKind P w).inj _ _ _ (strKind_is P w k0 tk) h2
theorem addT_tail {gw : Bool → Sem Unit} (hgw : ∀ (b : Bool) (s₁ : Shared) (Q' : Unit → Shared → Prop), Q' () s₁ → wpAny (model P w) A (gw b) Q' E s₁) {ob : Obj} {es : Array (Int × Value)} {ep : Nat} {tb : SetTable} (e0 : s.heap.get? a = some ob) (ex0 : ob.ExactSet) (d0 : ob.data = .set es ep tb)
    {es1 : Array (Int × Value)} {t2 : SetTable} {L' : List Str} (g1 : ∀ e ∈ es1.toList, GoodT P w e) (p1 : (es1.toList.map keyT).Perm L') (b1 : es1.size < scanBound) (f2 : t2.fits es1.size = true) (r2 : Ris t2.place.toList) (l2 : w.params.followText "set-order" = true ∨ t2.led = true) {dm : Bool} {R : Option Bool → Shared → Prop}
    (hR : ∀ h', Heap.SameBut a s.heap h' → SetT P w h' a L' → R (some true) { s with heap := h' }) :
    wpAny (model P w) A (storeSet a es1 t2 >>= fun _ => if (!dm && t2.tooFull) = true then (gw (relayAll t2 es1 (SetTable.grown es1.size)).2.2 >>= fun _ => storeSet a (relayAll t2 es1 (SetTable.grown es1.size)).1 (relayAll t2 es1 (SetTable.grown es1.size)).2.1 >>= fun _ => pure (some true)) else pure (some true)) R E s := by
  refine wpAny_bind (wpAny_storeSet_of e0 d0 ?_ (fits_of_scanBound b1))
  have e1 := store_at (es' := es1) (t' := t2) e0 d0
  have sb := Heap.SameBut.update s.heap a (Obj.putSet es1 t2)
  split
  · have pm := relayAll_perm t2 es1 (SetTable.grown es1.size); have f3 := relayAll_fits t2 es1 (SetTable.grown es1.size); have r3 := relayAll_ris t2 es1 (SetTable.grown es1.size); have l3 := relayAll_led t2 es1 (SetTable.grown es1.size)
    generalize relayAll t2 es1 (SetTable.grown es1.size) = Z at pm f3 r3 l3 ⊢
    obtain ⟨es2, t3, gv⟩ := Z
    dsimp only at pm f3 r3 l3 ⊢
    have z2 : es2.size = es1.size := by rw [← Array.length_toList, pm.length_eq, Array.length_toList]
    refine wpAny_bind (hgw _ _ _ (wpAny_bind (wpAny_storeSet_of e1 rfl ?_ (fits_of_scanBound (by rw [z2]; exact b1)))))
    refine wpAny_pure (hR _ (sb.trans (Heap.SameBut.update _ a _)) ⟨_, es2, _, t3, store_at (es' := es2) (t' := t3) e1 rfl, ex0, rfl, fun e me => g1 e (pm.mem_iff.mp me), (pm.map keyT).trans p1, by rw [z2]; exact b1, f3, r3, l2.imp id fun z => by rw [l3]; exact z⟩)
  · exact wpAny_pure (hR _ sb ⟨_, es1, _, t2, e1, ex0, rfl, g1, p1, b1, f2, r2, l2⟩)
theorem addT_hashed {k : Str} {tk : Tok} {Q : Bool → Shared → Prop} (R : SetT P w s.heap a L) (hk : k ∉ L) (room : L.length + 1 < scanBound) (hQ : ∀ h', Heap.SameBut a s.heap h' → SetT P w h' a (k :: L) → Q true { s with heap := h' }) :
    wpAny (model P w) A (setAddHashed a (.str k tk) ((strKind P w).hash k)) Q E s := by
  obtain ⟨ob, es, ep, tb, e0, ex0, d0, g, pL, b0, f0, r0, l0⟩ := R
  have isk : (strKind P w).is k (.str k tk) = true := strKind_is P w k tk
  have scn : (Value.str k tk).scannable = true := rfl
  have els : ElemsOf (strKind P w) es.toList := goodT_elems g
  unfold setAddHashed setAddHashedIn
  refine wpAny_holding (wpAny_bind (wpAny_setState_of e0 d0 f0 ?_))
  dsimp only
  rw [byScan_of scn b0 els]
  simp only [↓reduceIte]
  unfold setAddByScan
  refine wpAny_bind (wpAny_bind (wpAny_rule (wpAny_bind (wpAny_setScan_of isk e0 d0 f0 els ?_))))
  cases fi : List.findIdx? (fun e => (strKind P w).is k e.2) es.toList with
  | some j =>
    obtain ⟨hj, pj, _⟩ := List.findIdx?_eq_some_iff_getElem.mp fi
    exact absurd (pL.mem_iff.mp (List.mem_map.mpr ⟨es.toList[j], List.getElem_mem hj, goodT_is (g _ (List.getElem_mem hj)) pj⟩)) hk
  | none =>
    dsimp only
    have gave : ∀ (b : Bool) {s₁ : Shared} {Q' : Unit → Shared → Prop}, Q' () s₁ → wpAny (model P w) A (match b with | true => rule "set.scan.the-table-gave-way" | false => pure ()) Q' E s₁ := fun b s₁ Q' q => by
      cases b
      · exact wpAny_pure q
      · exact wpAny_rule q
    have pm := layNew_perm tb es ((strKind P w).hash k) (.str k tk); have f1 := layNew_fits tb es ((strKind P w).hash k) (.str k tk); have r1 := layNew_ris tb es ((strKind P w).hash k) (.str k tk) r0; have l1 := layNew_led tb es ((strKind P w).hash k) (.str k tk)
    generalize layNew tb es ((strKind P w).hash k) (.str k tk) = Z at pm f1 r1 l1 ⊢
    obtain ⟨es1, t1, dm, gv⟩ := Z
    dsimp only at pm f1 r1 l1 ⊢
    rw [Array.toList_push] at pm
    have pc : es1.toList.Perm (((strKind P w).hash k, Value.str k tk) :: es.toList) := pm.trans (List.perm_append_singleton _ _)
    have pk : (es1.toList.map keyT).Perm (k :: L) := (pc.map keyT).trans (pL.cons k)
    have g1 : ∀ e ∈ es1.toList, GoodT P w e := fun e me => (List.mem_cons.mp (pc.mem_iff.mp me)).elim (fun z => by rw [z]; exact ⟨k, tk, rfl, rfl⟩) (g e)
    have z1 : es1.size = L.length + 1 := by rw [← Array.length_toList, ← List.length_map (f := keyT), pk.length_eq, List.length_cons]
    have b1 : es1.size < scanBound := by rw [z1]; exact room
    have led1 : w.params.followText "set-order" = true ∨ t1.led = true := l0.imp id fun z => by rw [l1]; exact z
    refine wpAny_bind (gave _ ?_)
    split
    · refine wpAny_bind ?_
      rw [hashByValue_scannable 8 scn]
      refine wpAny_pure (addT_tail (fun b s₁ Q' q => gave b q) e0 ex0 d0 g1 pk b1 ?_ ?_ ?_ fun h' sb r => ?_)
      · first
          | (split <;> first | exact f1 | exact SetTable.fits_plain_off f1)
          | exact f1
      · first
          | (split <;> exact r1)
          | exact r1
      · first
          | (split <;> exact led1)
          | exact led1
      · dsimp only
        exact wpAny_pure (hQ h' sb r)
    · refine wpAny_bind (wpAny_pure ?_)
      simp only [↓reduceIte]
      refine addT_tail (fun b s₁ Q' q => gave b q) e0 ex0 d0 g1 pk b1 f1 r1 led1 fun h' sb r => ?_
      dsimp only
      exact wpAny_pure (hQ h' sb r)
theorem setT_new {h : Heap} (e : h.get? a = some { cls := .type "set", dict := none, data := .set #[] 0 (.fresh 0 0 (!w.params.followText "set-order")) }) : SetT P w h a [] := by
  refine ⟨_, #[], 0, _, e, ⟨rfl, rfl, rfl⟩, rfl, fun e me => by simp at me, by simp, by decide, by rfl, List.Pairwise.nil, ?_⟩
  show _ ∨ (!w.params.followText "set-order") = true
  cases w.params.followText "set-order"
  · exact .inr rfl
  · exact .inl rfl
theorem setT_loop {I : Addr} {fp wr : List Addr} {G : Array GenState → Array GenState → Prop} {n : Nat} {Pv : Nat → Value → Prop} {St : Nat → Shared → Prop} {R : Result → Shared → Prop} (W : WalksS P w A.in1 I fp wr G n Pv St) (D : Addr) (hD : D ∉ fp) (xs : List Str) (hn : n = xs.length) (nd : xs.Nodup)
    (room : xs.length + 1 < scanBound) (val : ∀ i v, Pv i v → ∃ k tk, xs[i]? = some k ∧ v = .str k tk) : ∀ (m i : Nat) (s : Shared), n - i = m → i ≤ n → St i s → SetT P w s.heap D (xs.take i).reverse →
      (∀ s', Moved (D :: wr) G s s' → SetT P w s'.heap D xs.reverse → R (.ok (.ret .none)) s') → codeAny (model P w) A (.builtin "set.update.loop" ⟨[.ref D, .ref I], []⟩) R s := by
  have hDw : D ∉ wr := fun z => hD (W.sub _ z)
  have up : ∀ b ∈ wr, b ∈ D :: wr := fun b hb => List.mem_cons_of_mem _ hb
  intro m
  induction m with
  | zero =>
    intro i s em hi st hS hR
    have ei : i = n := by omega
    subst ei
    refine codeAny_builtin F.entry_set_update_loop ?_
    rw [Around.under_plainId F.plain_set_update_loop _]
    refine wpAny_bind (m := pyNext (.ref I)) (W.done s _ _ st fun s' mv => ?_)
    rw [List.take_of_length_le (by omega)] at hS
    exact wpAny_pure (hR s' (mv.mono up) (hS.at fun u e => mv.heap D u hDw e))
  | succ m ih =>
    intro i s em hi st hS hR
    have hlt : i < n := by omega
    refine codeAny_builtin F.entry_set_update_loop ?_
    rw [Around.under_plainId F.plain_set_update_loop _]
    refine wpAny_bind (m := pyNext (.ref I)) (W.item i s _ _ hlt st fun v s' pv st' mv => ?_)
    obtain ⟨z, tk, hz, rfl⟩ := val i v pv
    have hS' : SetT P w s'.heap D (xs.take i).reverse := hS.at fun u e => mv.heap D u hDw e
    have hzn : z ∉ (xs.take i).reverse := fun hm => by
      obtain ⟨j, hj, ej⟩ := List.mem_take_iff_getElem.mp (List.mem_reverse.mp hm)
      obtain ⟨hi2, e2⟩ := List.getElem?_eq_some_iff.mp hz
      have := (List.getElem_inj nd).mp (ej.trans e2.symm)
      omega
    refine wpAny_bind (m := holding [Value.str z tk] (setAdd D (.str z tk))) (wpAny_holding ?_)
    unfold setAdd
    refine wpAny_holding (wpAny_bind ((strKind P w).pyHash (k := z) (strKind_is _ _ _ _) ?_))
    have lr : (xs.take i).reverse.length = i := by rw [List.length_reverse, List.length_take]; omega
    refine addT_hashed (s := { s' with toks := s'.toks + 1 }) hS' hzn (by rw [lr]; omega) fun h' sb hS2 => ?_
    have hS3 : SetT P w h' D (xs.take (i + 1)).reverse := by
      rw [List.take_add_one, hz]
      simpa using hS2
    refine wpAny_pure ⟨plainId_quiet F.plain_set_update_loop _, ih (i + 1) _ (by omega) hlt (W.frame _ s' _ _ st' (Nat.le_succ _) fun b hb u e => ?_) hS3 fun s2 mv2 hS4 => ?_⟩
    · exact (sb.2 b fun z : b = D => hD (by rw [← z]; exact hb)).trans e
    · exact hR s2 (Moved.trans W.gtrans ((mv.mono up).then_heap (Nat.le_succ _) fun b u hb e => (sb.2 b fun z : b = D => hb (by rw [z]; exact List.mem_cons_self)).trans e) mv2) hS4
theorem call_setT {l : Addr} {items : Array Value} (xs : List Str) {Q : Value → Shared → Prop} (hh : A.handled = none) (hl : s.heap.IsList l items) (si : StrsAre items.toList xs) (nd : xs.Nodup) (room : xs.length + 1 < scanBound)
    (h : ∀ (h' : Heap) (tk : Nat), SetT P w h' s.heap.objs.size xs.reverse → (∀ b u, s.heap.get? b = some u → h'.get? b = some u) → Q (.ref s.heap.objs.size) { s with heap := h', toks := tk }) : wpAny (model P w) A (call (.type "set") [.ref l]) Q E s := by
  have isz : items.size = xs.length := by rw [← StrsAre.len_eq si, Array.length_toList]
  have ⟨c, tl, hmro⟩ := F.called_set.mro
  have hmade := F.called_set.made
  have hsub := F.called_set.sub
  refine wpAny_call (codeAny_of_tree (wpAny_pure (a := _) ⟨Code.quiet_builtin _ (by decide +kernel), codeAny_builtin F.entry_type_call ?_⟩))
  rw [Around.under_plain (weight_type_call_type "set" [.ref l] []) rfl]
  have h1 := F.called_set.notType
  have h2 := F.called_set.canCreate
  have hct := F.typeCall_set_1 (.ref l)
  repeat (any_goals (first | assumption | wp_step))
  refine codeAny_mono (code_set_led1 (.ref l) (E := E) (Q₁ := fun obj s₁ => obj = .ref s.heap.objs.size ∧ s₁ = { s with heap := s.heap.push (newO w) }) ⟨rfl, rfl⟩) fun r s₁ hr => ?_
  cases r with
  | error e => exact hr
  | ok fl =>
    cases fl with
    | ret obj =>
      obtain ⟨rfl, rfl⟩ := hr
      have hS : (s.heap.push (newO w)).get? s.heap.objs.size = some (newO w) := Heap.get?_push_size _ rfl
      have hT : Shared.TypeIs { s with heap := s.heap.push (newO w) } (.ref s.heap.objs.size) "set" := ⟨_, hS, rfl⟩
      have hli := F.called_set.init.lookup
      have hbi := F.called_set.init.bind (.ref s.heap.objs.size)
      repeat (any_goals (first | assumption | wp_step))
      refine codeAny_mono (codeAny_call_builtin (R := wants (fun r s₂ => r = .none ∧ ∃ h' tk, s₂ = { s with heap := h', toks := tk } ∧ SetT P w h' s.heap.objs.size xs.reverse ∧ ∀ b u, s.heap.get? b = some u → h'.get? b = some u) E) F.called_set.init.plain F.entry_set_init (check_set_init_1 hT ?_)) fun r₂ s₂ hr₂ => ?_
      · obtain ⟨ol, e1, hcl, nl, hdl⟩ := hl
        obtain ⟨oc, od, odt, osl⟩ := ol
        simp only at hcl hdl
        subst hcl; subst hdl
        have e2 : (s.heap.push (newO w)).get? l = some { cls := .type "list", dict := od, data := .seq items nl, slots := osl } := Heap.get?_push_of_some _ e1
        have hsls := F.sub_list_set
        have hslf := F.sub_list_frozenset
        have hne : (Value.type "list" == Value.type "dict") = false := by decide
        have hl1 : (s.heap.push (newO w)).IsList l items := ⟨_, e2, rfl, nl, rfl⟩
        unfold Builtin.«set.__init__» noKeywords Builtin.Frozenset.updateFrom
        generalize hPI : pyIter = PI
        wp_walk
        subst hPI
        refine wpAny_pyIter_list hl1 ?_
        refine wpAny_bind (wpAny_runValue ?_)
        have ll : l < s.heap.objs.size := Heap.lt_size e1
        have zz : (s.heap.push (newO w)).objs.size = s.heap.objs.size + 1 := Heap.size_push ..
        have ne1 : l ≠ (s.heap.push (newO w)).objs.size := Nat.ne_of_lt (Nat.lt_of_lt_of_eq (Nat.lt_succ_of_lt ll) zz.symm)
        have nin : s.heap.objs.size ∉ [(s.heap.push (newO w)).objs.size, l] := fun z => (List.mem_cons.mp z).elim (fun z => absurd (z.trans zz) (Nat.ne_of_lt (Nat.lt_succ_self _))) fun z => absurd (List.mem_singleton.mp z) (Nat.ne_of_gt ll)
        have val : ∀ (i : Nat) (v : Value), items[i]? = some v → ∃ k tk, xs[i]? = some k ∧ v = .str k tk := fun i v hv => by
          have li : i < xs.length := by rw [← isz]; exact (Array.getElem?_eq_some_iff.mp hv).1
          obtain ⟨tk, e⟩ := SS.strs_at si i v (by rw [Array.getElem?_toList]; exact hv)
          exact ⟨xs[i], tk, List.getElem?_eq_getElem li, by rw [e, List.getD_eq_getElem?_getD, List.getElem?_eq_getElem li]; rfl⟩
        refine setT_loop ((Walks.list (by simp [hh]) _ l ne1 items).toS) s.heap.objs.size nin xs isz nd room val (items.size - 0) 0 _ (by omega) (Nat.zero_le _) ⟨⟨_, Heap.get?_push_size _ rfl, rfl, rfl⟩, hl1.push _⟩ (setT_new ?_) fun s' mv hS' => ?_
        · exact Heap.get?_push_of_some _ hS
        · obtain ⟨h', g', d', tk', os'⟩ := s'
          have eg : g' = s.gens := mv.gens
          have ed : d' = s.drawn := mv.drawn
          have eo : os' = s.os := mv.os
          subst eg; subst ed; subst eo
          refine wpAny_pure (wpAny_pure ⟨rfl, h', tk', rfl, hS', fun b u e => ?_⟩)
          have lb : b < s.heap.objs.size := Heap.lt_size e
          refine mv.heap b u (fun z => ?_) (Heap.get?_push_of_some _ (Heap.get?_push_of_some _ e))
          rcases List.mem_cons.mp z with z | z
          · exact Nat.lt_irrefl _ (Nat.lt_of_lt_of_eq lb z.symm)
          · have z2 : b = s.heap.objs.size + 1 := (List.mem_singleton.mp z).trans zz
            exact Nat.lt_irrefl _ (Nat.lt_trans (Nat.lt_of_lt_of_eq lb rfl) (Nat.lt_of_lt_of_eq (Nat.lt_succ_self _) z2.symm))
      · cases r₂ with
        | error e => exact hr₂
        | ok fl₂ =>
          cases fl₂ with
          | ret r =>
            obtain ⟨rfl, h', tk, rfl, hS', hk'⟩ := hr₂
            repeat (any_goals (first | assumption | wp_step))
            exact h _ _ hS' hk'
          | _ => exact hr₂.elim
    | _ => exact hr.elim
theorem strs_of : ∀ l : List Value, (∀ v ∈ l, ∃ k tk, v = Value.str k tk) → StrsAre l (l.map fun v => keyT (0, v))
  | [], _ => .nil
  | v :: l, h => by
    obtain ⟨k, tk, rfl⟩ := h v List.mem_cons_self
    exact .cons k tk (strs_of l fun u hu => h u (List.mem_cons_of_mem _ hu))
theorem sorted_setT {Q : Value → Shared → Prop} (R : SetT P w s.heap a L) (hh : A.handled = none)
    (hQ : ∀ s' p (out : Array Value) (c : Nat) (ys : List Str), (∀ b u, s.heap.get? b = some u → s'.heap.get? b = some u) → s'.gens = s.gens → s'.os = s.os → s.heap.objs.size ≤ p → s'.heap.get? p = some (seqObj "list" out c) → StrsAre out.toList ys → ys.Perm L → sortedS ys = true → Q (.ref p) s') :
    wpAny (model P w) A (call (.builtin "sorted") [.ref a]) Q E s := by
  obtain ⟨ob, es, ep, tb, e0, ex0, d0, g, pL, b0, f0, r0, l0⟩ := R
  refine Calls.call_function_entry kind_sorted plain_sorted entry_sorted (args_sorted1 _) ?_
  unfold Builtin.«sorted»
  refine wpAny_bind (m := checkCount "sorted" 1 1 _) (wpAny_pure (wpAny_bind (collect_set (A := A.in1) hh ⟨ob, e0, ex0.1, d0⟩ f0 b0 r0 l0 fun s1 vs k1 z1 g1 o1 pm => ?_)))
  have lv : vs.length ≤ sizeLine := by rw [pm.length_eq, List.length_map, Array.length_toList]; exact fits_of_scanBound b0
  have sv : StrsAre vs (vs.map fun v => keyT (0, v)) := strs_of vs fun v hv => by
    obtain ⟨e, me, q⟩ := List.mem_map.mp (pm.mem_iff.mp hv)
    obtain ⟨k, tk, q1, _⟩ := g e me
    exact ⟨k, tk, by rw [← q]; exact q1⟩
  have pv : (vs.map fun v => keyT (0, v)).Perm L := by
    have q := pm.map fun v => keyT (0, v)
    rw [List.map_map] at q
    exact q.trans pL
  refine wpAny_bind (wpAny_newList ?_ lv)
  have eL : (s1.heap.push (seqObj "list" vs.toArray 0)).get? s1.heap.objs.size = some (seqObj "list" vs.toArray 0) := Heap.get?_push_size _ rfl
  refine wpAny_bind (wpAny_holding (wpAny_call_entry slot_list_sort ⟨_, eL, rfl⟩ entry_list_sort (list_sort_treeKAny strKind_oneLt eL sv.keysOf (fun v₁ v₂ rest e => keyKind_strs (by rw [← e]; exact sv)) lv fun st' hp hs => ⟨_, rfl, ?_⟩) (args_list_sort _)))
  obtain ⟨ys, y1, y2, y3⟩ := sorted_out_str sv hp hs
  obtain ⟨c, hc⟩ := sortedHeap_at (vs := vs) (out := (arrOf st').map (·.2)) eL
  refine wpAny_pure ⟨_, rfl, hQ _ s1.heap.objs.size _ c ys (fun b u e => ?_) g1 o1 z1 hc y1 (y2.trans pv) y3⟩
  have q := k1 b u e
  have hlt := Heap.lt_size q
  refine Eq.trans (sortedHeap_old (Nat.ne_of_lt hlt) ?_) (Heap.get?_push_of_some _ q)
  rw [size_push']
  exact Nat.lt_succ_of_lt hlt
end
/-! over the layer -/
def SetTO (P : Program) (w : World) (a : Addr) (L : List Str) : HO := .ext fun h => SetT P w h a L
section
variable {X : Cx}
theorem setTO_new {P : Program} {w : World} {H : Hp} {h : Heap} {a : Addr} {L : List Str} (R : SetT P w h a L) : ObjOk P w H h a (SetTO P w a L) := by
  have ⟨ob, _, _, _, e0, _⟩ := R
  exact ⟨R, ⟨ob, e0⟩, fun _ _ p k => SetT.at p k⟩
/-- set(l) of different texts -/
def rSetT (K : PySem.W.Frag) (P : Program) (w : World) : List V → Hp → VK → Prop := fun vs H Q => ∃ (l : Addr) (xs : List Str), vs = [V.ref l] ∧ SqL K H l (xs.map V.str) ∧ xs.Nodup ∧ xs.length ≤ 1000 ∧ ∀ p, H p = none → Q (.ref p) (upd H p (SetTO P w p xs.reverse))
theorem cr_setT (hc : X.calm = true) : CallR X (.type "set") (rSetT X.K X.prog X.w) := by
  intro pins s σ H vs us Q I r h
  obtain ⟨l, xs, rfl, hs, nd, hl, q⟩ := h
  obtain ⟨its, rv, il, _⟩ := I.list hs
  rw [Vals.ref1 r]
  refine call_setT xs (I.ok.hd hc) il.isList (by simpa using rv.strs) nd (by unfold scanBound; omega) fun h' tk R k => ?_
  exact ⟨.ref _, upd H s.heap.objs.size (SetTO X.prog X.w s.heap.objs.size xs.reverse), I.laid (t' := tk) k (Nat.le_refl _) (setTO_new R), rfl, q _ (I.hok.fresh (Nat.le_refl _))⟩
def rSortedT (P : Program) (w : World) : List V → Hp → VK → Prop := fun vs H Q => ∃ (a : Addr) (L : List Str), vs = [V.ref a] ∧ H a = some (SetTO P w a L) ∧ L.length ≤ 1000 ∧ ∀ (ys : List Str) (p : Addr), ys.Perm L → sortedS ys = true → H p = none → Q (.ref p) (upd H p (.lst (ys.map V.str)))
theorem cr_sortedT (hc : X.calm = true) : CallR X (.builtin "sorted") (rSortedT X.prog X.w) := by
  intro pins s σ H vs us Q I r h
  obtain ⟨a, L, rfl, ha, hl, q⟩ := h
  have R : SetT X.prog X.w s.heap a L := (I.hok a _ ha).1
  rw [Vals.ref1 r]
  refine sorted_setT R (I.ok.hd hc) fun s' p out c ys k g o hp hg y1 y2 y3 => ?_
  have hlen : (ys.map V.str).length ≤ sizeLine := by rw [List.length_map, y2.length_eq]; exact szl (by omega)
  have hn : H p = none := I.hok.fresh hp
  have J : Inv X pins σ (upd H p (.lst (ys.map V.str))) { s with heap := s'.heap, gens := s'.gens, drawn := s'.drawn, toks := s'.toks } :=
    I.call (ch := []) (Un.laid k hp hn) (I.hok.laid k hp ⟨hlen, out.toList, c, vals_of_strs y1, hg⟩) (by rw [g]; exact I.bare) (fun _ z => nomatch z)
  have e : s' = { s with heap := s'.heap, gens := s'.gens, drawn := s'.drawn, toks := s'.toks } := by
    cases s'; cases s; cases o; rfl
  rw [e]
  exact ⟨.ref p, _, J, rfl, q ys p y2 y3 hn⟩
theorem kSetT (K : PySem.W.Frag) (P : Program) (w : World) (hc : X.calm = true) (h : X.K = K := by rfl) (h1 : X.prog = P := by rfl) (h2 : X.w = w := by rfl) : CallR X (.type "set") (rSetT K P w) := by
  subst h h1 h2; exact cr_setT hc
theorem kSortedT (P : Program) (w : World) (hc : X.calm = true) (h1 : X.prog = P := by rfl) (h2 : X.w = w := by rfl) : CallR X (.builtin "sorted") (rSortedT P w) := by
  subst h1 h2; exact cr_sortedT hc
end
end Ls

/-! ### texts in order; data of lists -/
namespace Ls
open PySem PySem.Spec PyProof.Rows L2
def leS (a b : Str) : Prop := ¬ b.cps.toList < a.cps.toList
theorem leS_trans {a b c : Str} (h : leS a b) (k : leS b c) : leS a c := fun z => by
  have h1 : a.cps.toList ≤ b.cps.toList := List.not_lt.mp h
  have h2 : b.cps.toList ≤ c.cps.toList := List.not_lt.mp k
  exact List.not_lt.mpr (List.le_trans h1 h2) z
theorem leS_anti {a b : Str} (h : leS a b) (k : leS b a) : a = b := by
  have h1 : a.cps.toList ≤ b.cps.toList := List.not_lt.mp h
  have h2 : b.cps.toList ≤ a.cps.toList := List.not_lt.mp k
  have e : a.cps.toList = b.cps.toList := List.le_antisymm h1 h2
  have e2 : a.cps = b.cps := Array.toList_inj.mp e
  cases a; cases b
  exact congrArg Str.mk e2
theorem rising_pw : ∀ (r : List Str) (p : Str), risingS p r = true → (p :: r).Pairwise leS
  | [], p, _ => by simp
  | x :: r, p, h => by
    have h : (!ltCps x.cps.toList p.cps.toList && risingS x r) = true := h
    rw [Bool.and_eq_true] at h
    have h1 : leS p x := fun z => by
      have := h.1
      rw [ltCps_eq, decide_eq_true z] at this
      cases this
    have ih := rising_pw r x h.2
    refine List.pairwise_cons.mpr ⟨fun y hy => ?_, ih⟩
    rcases List.mem_cons.mp hy with rfl | hy
    · exact h1
    · exact leS_trans h1 ((List.pairwise_cons.mp ih).1 y hy)
theorem sorted_pw : ∀ (l : List Str), sortedS l = true → l.Pairwise leS
  | [], _ => List.Pairwise.nil
  | x :: r, h => rising_pw r x h
theorem pw_uniq : ∀ (l m : List Str), l.Perm m → l.Pairwise leS → m.Pairwise leS → l = m
  | [], m, p, _, _ => (List.nil_perm.mp p).symm
  | a :: l, [], p, _, _ => absurd p.length_eq (by simp)
  | a :: l, b :: m, p, h, k => by
    have h1 := List.pairwise_cons.mp h
    have k1 := List.pairwise_cons.mp k
    have e : a = b := by
      rcases List.mem_cons.mp (p.mem_iff.mp List.mem_cons_self) with e | hb
      · exact e
      · rcases List.mem_cons.mp (p.mem_iff.mpr List.mem_cons_self) with e | ha
        · exact e.symm
        · exact leS_anti (h1.1 b ha) (k1.1 a hb)
    subst e
    rw [pw_uniq l m (List.perm_cons a |>.mp p) h1.2 k1.2]
theorem sorted_uniq {l m n : List Str} (p : l.Perm n) (q : m.Perm n) (h : sortedS l = true) (k : sortedS m = true) : l = m := pw_uniq l m (p.trans q.symm) (sorted_pw l h) (sorted_pw m k)
/-! texts in lists -/
theorem eqV_str (a b : Str) : eqV (.str a) (.str b) = decide (a = b) := by
  unfold eqV
  rw [Bool.eq_iff_iff]
  simp
theorem inV_str (n : Str) : ∀ ns : List Str, inV (.str n) (ns.map V.str) = decide (n ∈ ns)
  | [] => by simp [inV]
  | a :: ns => by
    have ih := inV_str n ns
    unfold inV at ih ⊢
    rw [List.map_cons, List.any_cons, ih, eqV_str, Bool.eq_iff_iff]
    simp only [Bool.or_eq_true, decide_eq_true_eq, List.mem_cons]
    exact or_congr eq_comm Iff.rfl
theorem flat_str (ns : List Str) : (ns.map V.str).all flatV = true := by
  induction ns with
  | nil => rfl
  | cons a ns ih => rw [List.map_cons, List.all_cons, ih]; rfl
/-! data -/
theorem canAll {α : Type} (f : α → PyData) (h : ∀ x, PyData.canLay0 (f x) = true) : ∀ l : List α, PyData.canLayAll0 (l.map f) = true
  | [] => rfl
  | x :: l => by
    rw [List.map_cons, PyData.canLayAll0, h x, canAll f h l]
    rfl
theorem canAllm {α : Type} (f : α → PyData) : ∀ l : List α, (∀ x ∈ l, PyData.canLay0 (f x) = true) → PyData.canLayAll0 (l.map f) = true
  | [], _ => rfl
  | x :: l, h => by
    rw [List.map_cons, PyData.canLayAll0, h x List.mem_cons_self, canAllm f l fun y hy => h y (List.mem_cons_of_mem _ hy)]
    rfl
theorem depAll {α : Type} (f : α → PyData) (n : Nat) (h : ∀ x, PyData.depth (f x) ≤ n) : ∀ l : List α, PyData.depthAll (l.map f) ≤ n
  | [] => by simp [PyData.depthAll]
  | x :: l => by
    have h1 := h x
    have h2 := depAll f n h l
    simp only [List.map_cons, PyData.depthAll]
    omega
theorem shaped_list {α : Type} (f : α → PyData) (n : Nat) (hn : n < 60) (hd : ∀ x, PyData.depth (f x) ≤ n) (l : List α) (h : ∀ x ∈ l, PyData.canLay0 (f x) = true) : SeqAt.shaped (.list (l.map f)) = true := by
  have h1 := depAll f n hd l
  have h2 : PyData.depth (.list (l.map f)) ≤ 64 := by simp only [PyData.depth]; omega
  unfold SeqAt.shaped
  rw [Bool.and_eq_true]
  exact ⟨by simp only [PyData.canLay0]; exact canAllm f l h, decide_eq_true h2⟩
theorem eqv_list {α : Type} (f : α → PyData) (l : List α) (h : ∀ x ∈ l, PyData.canLay0 (f x) = true) : PyData.eqv (.list (l.map f)) (.list (l.map f)) = true := PySem.SeqAt.eqv_refl _ (by simp only [PyData.canLay0]; exact canAllm f l h)
theorem shaped_strs (l : List Str) (h : ∀ x ∈ l, PySem.PyData.strOk x = true) : SeqAt.shaped (.list (l.map PyData.str)) = true := shaped_list PyData.str 1 (by decide) (fun x => by simp [PyData.depth]) l fun x hx => by simp only [PyData.canLay0]; exact h x hx
theorem eqv_strs (l : List Str) (h : ∀ x ∈ l, PySem.PyData.strOk x = true) : PyData.eqv (.list (l.map PyData.str)) (.list (l.map PyData.str)) = true := eqv_list PyData.str l fun x hx => by simp only [PyData.canLay0]; exact h x hx
theorem dpStrs (K : PySem.W.Frag) (H : Hp) : ∀ ns : List Str, DpAll K H (ns.map V.str) (ns.map PyData.str)
  | [] => .nil
  | n :: ns => .cons (.str n) (dpStrs K H ns)
end Ls

/-! ### an own exception's __init__ that begins by super().__init__(text) -/
namespace Ls
open PySem PySem.Spec PyProof.Rows L2 NdefX
/-- what the written part and the program tell of the class at C and of its __init__ at f -/
structure SupC (P : Program) (K : PySem.W.Frag) (C f cc : Addr) (F : NF) (fd : FuncData) : Prop where
  oex : OexC K C
  ini : PySem.W.findIn K (.ref C) "__init__" = some (some (.ref f))
  typ : PySem.W.typeIn K (.ref f) = some (.type "function")
  fn : ∃ (oc : Value) (od : Option Addr) (doc pm ctv : Value) (osl : Array (Option Value)), fd = F.fd doc pm ctv ∧ K.lookup f = some ⟨oc, od, .func (F.fd doc pm ctv), osl⟩
  cod : PySem.W.codeIn K (.ref F.c) F.qual = true
  cl : F.cl = [(("__class__" : Str), cc)]
  cell : ∃ cl cld csl, K.lookup cc = some ⟨cl, cld, .cell (some (.ref C)), csl⟩
  file : ∃ ccl cdd vs ccs file tf, K.lookup F.c = some ⟨ccl, cdd, .fields vs, ccs⟩ ∧ vs[2]? = some (.str file tf) ∧ ((P.main.file : Str) == file) = true
  sup : PySem.W.nsIn K mainGlobals "super" = some none
  top : (P.main.scope.names.lookup ("super" : Str)).isSome = false
  opq : PySem.W.nsIn K cStatics "thirdparty.any" = some none
  mth : PySem.W.ks_superIn K C C "__init__" = some (some (.builtin "ValueError.__init__"))
  sve : PySem.W.subIn K (.ref C) (.type "ValueError") = some true
  mro : PySem.W.mroIn K C (.ref C) = some true
section
variable {M : Model} {prog : Program} {w : World} {A : Around} {E : Value → Shared → Prop} {h : Heap} {g : Array GenState} {d : Drawn} {t : Nat} {os : OsState}
open PySem.W in
/-- the wrapper, called -/
theorem call_mw {u x C t0 : Addr} {rest : List Value} {Q : Value → Shared → Prop} {nm q : Str} {N : Addr} {bs bm : List Value} {hdct : Bool} {sn : List Str} {sub : List Value} {ab : Bool} {col : Option Bool} {dd : Option Addr} {k0 k1 k2 k3 k5 : Option Value}
    (hC : h.get? C = some (excClassObj nm q C N bs bm hdct sn sub ab col dd k0 k1 k2 k3 k5 "ValueError.__new__")) (he : h.get? x = some ({ cls := .ref C, dict := none, data := .fields #[.ref t0, .none, .none, .none, .bool false, .none] } : Obj))
    (hu : h.get? u = some (kxs_mw "ValueError.__init__" x)) (hz : rest.length ≤ sizeLine)
    (hq : ∀ h' t1, (∀ b o, b ≠ x → h.get? b = some o → h'.get? b = some o) → h'.get? x = some ({ cls := .ref C, dict := none, data := .fields #[.ref t1, .none, .none, .none, .bool false, .none] } : Obj) → Q .none ⟨h', g, d, t, os⟩) :
    wpAny (model prog w) A (call (.ref u) rest) Q E ⟨h, g, d, t, os⟩ := by
  refine wpAny_call (codeAny_of_tree ?_)
  show wpAny _ A.in1 (callAny (.ref u) ⟨rest, []⟩) _ _ _
  simp only [callAny]
  refine wpAny_bind (wpAny_load hu ?_)
  simp only [kxs_mw, show (Value.type "method-wrapper" == Value.type "method" || Value.type "method-wrapper" == Value.type "builtin_function_or_method" || Value.type "method-wrapper" == Value.type "method-wrapper") = true by decide, if_true]
  refine KFB.if_so (by decide) ?_
  refine wpAny_bind (check_bound_init F.excBase_ValueError.toExcCallFacts hC he rfl ?_)
  refine wpAny_bind (wpAny_pure (wpAny_pure ?_))
  refine ⟨plainId_quiet F.excBase_ValueError.init.plain _, codeAny_builtin F.excBase_ValueError.initEntry ?_⟩
  exact exc_init_tree (cls := .ref C) (t0 := t0) (dv := none) (c2 := .none) (c3 := .none) (b4 := .bool false) he hz fun h' k e' t' => hq h' _ k e'
end
section
variable {CX : CXT} {P : Program} {w : World} {K : PySem.W.Frag} {mg : Str → Option Value} {base : Heap} {N ps : List Str} {F : NF} {C f cc : Addr} {fd : FuncData} {k : Nat} {sp : Sp}
theorem SupC.cells (U : SupC P K C f cc F fd) {A : Around} {outer : List Env} {s : Shared} {H : Hp} (e0 : Env0 P w K mg base A outer s H) : CellsAt F.cl ["__class__"] [some (.ref C)] s.heap H := by
  obtain ⟨cl, cld, csl, hc⟩ := U.cell
  have hb := e0.bs _ _ (e0.mod.kin _ _ hc)
  have one : ∀ y c, F.cl.lookup y = some c → y = "__class__" ∧ c = cc := fun y c e => by
    rw [U.cl] at e
    by_cases h : y = ("__class__" : Str)
    · subst h
      exact ⟨rfl, by simpa using e.symm⟩
    · have hb : (y == ("__class__" : Str)) = false := by simpa using h
      simp [List.lookup, hb] at e
  refine ⟨rfl, fun y c e => ?_, fun x y c e1 e2 => (one x c e1).1.trans (one y c e2).1.symm, fun i y hi => ?_⟩
  · rw [(one y c e).2]
    exact ⟨hb.2, _, _, hb.1, rfl⟩
  · cases i with
    | zero =>
      cases hi
      exact ⟨cc, by rw [U.cl]; simp, fun v hv => by cases hv; exact ⟨.ref C, rfl, _, hb.1, rfl⟩⟩
    | succ i => cases i <;> cases hi
/-- THE RULE: such an __init__, by what stands behind super().__init__(text) -/
theorem fn_sup (U : SupC P K C f cc F fd) {p0 p1 p2 p3 p4 p5 : Pos} {txt : Str} {kd : Nat} {rest : List Stmt}
    (hbd : F.body = .Expr (.Call (.Attribute (.Call (.Name "super" p0) [] [] p1) "__init__" p2) [.Constant (.str txt) kd p5] [] p3) p4 :: rest) (S : NScope N ("self" :: ps) ["__class__"] F.scope)
    {ar : Arg} (har : (F.params.posonlyargs ++ F.params.args).head? = some ar) (har1 : ar.arg = "self") (hks : F.scope.names.lookup ("super" : Str) = some .globalImplicit)
    (hcall : ∀ L, ∃ pl, eval (.Call (.Attribute (.Call (.Name "super" p0) [] [] p1) "__init__" p2) [.Constant (.str txt) kd p5] [] p3) (envF F f L) = (do
      let ov ← attributeBase (.Call (.Name "super" p0) [] [] p1) "__init__" (envF F f L) (eval (.Call (.Name "super" p0) [] [] p1) (envF F f L))
      standAt p2.atName
      let (fx, first) ← holding [ov] (getMethod ov "__init__" pl)
      callWith p3 fx first (backTo p3 (starEach [.Constant (.str txt) kd p5] (envF F f L))) []))
    (hint : ∀ L, interactive (envF F f L) = false) (hsw : ∀ L, swapsWith (.Call (.Attribute (.Call (.Name "super" p0) [] [] p1) "__init__" p2) [.Constant (.str txt) kd p5] [] p3) none p4.line (envF F f L) = pure false)
    (len : ∀ vs H Q E, sp vs H Q E → vs.length = ps.length + 1) (obj : ∀ vs H Q E, sp vs H Q E → ∃ a vs', vs = .ref a :: vs' ∧ H a = some (exo a C none))
    (hbody : ∀ (A : Around) (outer : List Env) (s : Shared) (H : Hp) (vs : List V) (Q : VK) (E : XK), Room k (A.deeper (envF F f s.heap.objs.size)) → sp vs H Q E →
      ∃ t, PSs (ncx CX P w K mg base N F f A outer s H E) rest t ∧ t { nx := fun _ H' => Q .non H', rt := Q } (startF N vs [some (.ref C)]) H) :
    FnOk P w K mg base CX (k + 1) f fd ("self" :: ps) sp := by
  refine ⟨len, fun A outer s H args us vs Q E hr e0 hb r hsp => ?_⟩
  have hl := len _ _ _ _ hsp
  have KX : K.In s.heap := e0.mod.kin.keeps fun b o e => (e0.bs b o e).1
  have lim : s.heap.NoLimit := e0.mod.nolimit.keeps fun b o e => (e0.bs b o e).1
  obtain ⟨oc, od, doc, pm, ctv, osl, rfl, lk⟩ := U.fn
  refine codeAny_call_function hr.depth (KX _ _ lk) rfl S.co S.gen rfl (PySem.W.codeRec_of KX U.cod) (hb _ _ _ _ ?_)
  refine wpAny_newFunctionEnv S.nocell (fun ⟨n, _⟩ hy => S.par n (List.of_mem_zip hy).1) (fun h₁ hns hsb => ⟨lim.fresh _ hsb, ?_⟩) S.kind
  show codeAny _ _ (.func F.body (envF F f s.heap.objs.size)) _ _
  have kp : ∀ b o, s.heap.get? b = some o → h₁.get? b = some o := fun b o e => hsb.extBut b o (Nat.ne_of_lt (Heap.lt_size e)) (Heap.get?_push_of_some _ e)
  obtain ⟨t, ht, hq⟩ := hbody A outer s H vs Q E (hr.deeper _) hsp
  obtain ⟨a, vs', rfl, ha⟩ := obj _ _ _ _ hsp
  have I : L2.Inv (ncx CX P w K mg base N F f A outer s H E) [] (startF N (.ref a :: vs') [some (.ref C)]) H { s with heap := h₁, toks := s.toks + ((("self" : Str) :: ps).zip us).length } := inv_startN S hr.hd e0 hl r (U.cells e0) hns kp
  refine ks_codeAny_funcAt ?_
  rw [hbd]
  obtain ⟨hp, gg, dd, tt, oo⟩ := s
  have I : L2.Inv (ncx CX P w K mg base N F f A outer ⟨hp, gg, dd, tt, oo⟩ H E) [] (startF N (.ref a :: vs') [some (.ref C)]) H ⟨h₁, gg, dd, tt + ((("self" : Str) :: ps).zip us).length, oo⟩ := I
  have X := I.kIn
  have KXh : K.In h₁ := X
  obtain ⟨nm, q0, NN, bs, bm, sn, sub, ab, col, dd', k0, k1, k2, k3, k5, hCls, hbm⟩ := U.oex.cls
  obtain ⟨clc, cld, csl, hcell⟩ := U.cell
  obtain ⟨ccl, cdd, vs2, ccs, file, tf, hcode, hvs, hfile⟩ := U.file
  have hka : F.scope.names.lookup ("self" : Str) = some .local := S.par _ List.mem_cons_self
  have hkc : F.scope.names.lookup ("__class__" : Str) = some .free := S.frk _ List.mem_cons_self
  obtain ⟨mb, hb1, hb2⟩ := e0.mod.blt
  obtain ⟨m, hnsL, hlook⟩ := I.loc
  have hself : m "self" = some (.ref a) := by
    obtain ⟨u, ru, hu⟩ := hlook 0 "self" (.ref a) (by
      have := S.pre
      cases N with
      | nil => simp at this
      | cons x N => simp at this; exact congrArg some this.1) rfl (.inl hka)
    obtain rfl : u = Value.ref a := ru
    rcases hu with ⟨_, h2⟩ | ⟨h2, _⟩
    · exact h2
    · have e : (envF F f hp.objs.size).kindOf ("self" : Str) = some .local := hka
      rcases h2 with h2 | h2
      · exact absurd (e.symm.trans h2) (by decide)
      · exact absurd (e.symm.trans h2) (by decide)
  obtain ⟨pl, hcall⟩ := hcall hp.objs.size
  have ha1 := exo_at I.hok ha
  obtain ⟨t1, hx⟩ := ha1
  refine ks_wpAt_execs_cons (ks_wpAt_Expr_any (ks_wpAt_MethodCall (he := hcall) ?_) (hint _) (hsw _))
  refine ks_wpAt_super_base (f := f) (cc := F.c) hks hkc rfl rfl (KXh _ _ lk) rfl har rfl (KXh _ _ hcode) rfl hvs hfile U.top ?_
  rw [har1]
  refine PySem.W.ks_loadName_global S.kind hks (Calls.loadGlobal_builtin (e0.mod.glob.keeps fun b o e => kp b o (e0.bs b o e).1) (PySem.W.mg_none_of (h := base) e0.mod.kin e0.mod.glob U.sup) (hb1.keeps fun b o e => kp b o (e0.bs b o e).1) ((hb2 _ (by decide)).trans (show bootBuiltins "super" = some (.type "super") by decide +kernel)) ⟨rfl, ?_⟩)
  refine wpAny_loadName_free (c := cc) S.kind hkc (by show F.cl.lookup ("__class__" : Str) = some cc; rw [U.cl]; rfl) ⟨_, KXh _ _ hcell, rfl⟩ ?_
  refine wpAny_loadName_local S.kind hka hnsL hself ?_
  have hD := KXh _ _ hCls
  refine ks_wpAny_isType_cls hD rfl ⟨rfl, ?_⟩
  refine ks_wpAny_call_super hD rfl hx rfl (fun c z => by cases z) (PySem.W.looks_mroIn KXh U.mro) (fun h2 e2 k2 => ?_)
  have I2 := I.kept (t' := tt + ((("self" : Str) :: ps).zip us).length) (h' := h2) k2
  have hx2 := k2 _ _ hx
  have IA : PySem.W.InstAt h2 a ({ cls := .ref C, dict := none, data := .fields #[.ref t1, .none, .none, .none, .bool false, .none] } : Obj) C none := ⟨hx2, rfl, rfl, trivial⟩
  have hI : PySem.W.Looks (model P w) h2 (isInstance (.ref a) (.type "ValueError")) true := IA.type.andThen (PySem.W.looks_subIn I2.kIn U.sve)
  have hm := U.mth
  cases hc : PySem.W.clsIn K C with
  | none => unfold PySem.W.ks_superIn at hm; rw [hc] at hm; cases hm
  | some cd =>
    unfold PySem.W.ks_superIn at hm
    rw [hc] at hm
    refine PySem.W.kxs_getMethod PySem.W.kxs_ValueError e2 (PySem.W.looks_opaque I2.kIn U.opq) (l₀ := cd.mro) (fun A Q E s k q => wpAny_bind ((PySem.W.looks_clsIn I2.kIn hc) A _ E s k (wpAny_pure q))) rfl I2.kIn hm hI (PySem.W.ks_ne I2.kIn IA hc) rfl ?_
    have hu : (h2.push (PySem.W.kxs_mw "ValueError.__init__" a)).get? h2.objs.size = some (PySem.W.kxs_mw "ValueError.__init__" a) := Heap.get?_push_at rfl rfl
    have I3 := I2.kept (t' := tt + ((("self" : Str) :: ps).zip us).length + 1) (h' := h2.push (PySem.W.kxs_mw "ValueError.__init__" a)) fun b o e => Heap.get?_push_of_some _ e
    have I3p := I3.pins_of (pins' := [(h2.objs.size, PySem.W.kxs_mw "ValueError.__init__" a)]) fun p hp => by
      rw [List.mem_singleton.mp hp]
      exact ⟨hu, I2.hok.fresh (Nat.le_refl _), Nat.ne_of_gt I2.lt, I2.nofs (Nat.le_refl _), fun v z => by cases z⟩
    have PAx : PA (ncx CX P w K mg base N F f A outer ⟨hp, gg, dd, tt, oo⟩ H E) [.Constant (.str txt) kd p5] (tCons (tC (.str txt)) tNil) := pa_cons pe_str pa_nil
    refine PySem.W.kxs_callWith (i := "ValueError.__init__") (u := h2.objs.size) (x := a) rfl (Calls.evalArgs_plain (thn (PAx.run p3 _ _ _ H (fun vs H1 => vs = [.str txt] ∧ H1 = H) I3p ⟨rfl, rfl⟩) fun us2 s4 ⟨vs4, H4, I4, r4, ev, eH⟩ => ?_))
    subst ev eH
    have hu4 := (I4.pin _ (List.mem_append_right _ (List.mem_singleton.mpr rfl))).1
    refine ⟨hu4, ?_⟩
    obtain ⟨t4, hx4⟩ := exo_at I4.hok ha
    have hz : us2.length ≤ sizeLine := by
      have := Paired.length r4
      rw [← this]
      show 1 ≤ sizeLine
      decide
    obtain ⟨hp4, g4, d4, tk4, o4⟩ := s4
    refine call_mw (I4.kIn _ _ hCls) hx4 hu4 hz fun h5 t5 k5 hx5 => ?_
    have J := I4.write (t' := tk4) (h' := h5) (x := a) (e := a) (o := exo a C none) (by rw [ha]; exact True.intro) (.inl rfl) k5 ⟨_, hx5⟩ (exo_ok hx5)
    have eu : upd H4 a (exo a C none) = H4 := by
      funext b
      by_cases hb : b = a
      · rw [hb, upd_same, ha]
      · rw [upd_ne hb]
    rw [eu] at J
    have J5 := J.pins_of (pins' := []) fun p hp => by cases hp
    refine wpAt_of_wpAny (wpAny_mono (ht.run [] _ _ _ _ J5 hq) (fun fl s' hs => ?_) fun e s' hs => hs)
    cases fl with
    | ret u =>
      obtain ⟨v, σ', H', J, rv, q⟩ := hs
      exact ⟨v, H', J.os, J.bare, J.base, J.hok, rv, q⟩
    | next =>
      obtain ⟨σ', H', J, q⟩ := hs
      exact ⟨V.non, H', J.os, J.bare, J.base, J.hok, rfl, q⟩
    | brk =>
      obtain ⟨_, _, _, q⟩ := hs
      exact False.elim q
    | cont =>
      obtain ⟨_, _, _, q⟩ := hs
      exact False.elim q
end
end Ls

/-! ### defs that may raise, as callers need them; an own error without a text -/
namespace Ls
open PySem PySem.Spec PyProof.Rows L2
structure CalX (P : Program) (w : World) (K : PySem.W.Frag) (mg : Str → Option Value) (base : Heap) (k : Nat) (x : Str) (sp : Sp) (dvs : List V) : Prop where
  ex : ∃ (f : Addr) (fd : FuncData) (ps : List Str) (ds : List Value), FnOk P w K mg base (L2.CX P w) k f fd ps sp ∧ mg x = some (.ref f) ∧ PySem.W.keepIn K (.ref f) = true ∧ Binds K fd ps ds ∧ Vals dvs ds
section
variable {X : Cx} {W : WX} {E : XK} {e : Expr} {es : List Expr} {t : TA} {p pos : Pos} {x : Str} {k j : Nat} {sp : Sp} {dvs : List V} {C : Addr}
theorem pe_cx (c : CalX X.prog X.w X.K X.mg X.base k x sp dvs) (tk : Takes X W) (hE : ∀ cls d σ H, E cls d H → W cls d σ H) (hr : Room j X.A) (hk : k ≤ j) (hg : Gl X x) (ha : PA X (e :: es) t) (hdb : (x == ("__debug__" : Str)) = false := by decide)
    (he : starEach (e :: es) X.env = (false, eval e X.env) :: starEach es X.env := by rfl) (hpl : (backTo pos (starEach es X.env)).any (·.1) = false := by rfl) : PE X (.Call (.Name x p) (e :: es) [] pos) (tCall sp dvs E t) := by
  have ⟨f, fd, ps, ds, F, hm, kp, b, d⟩ := c.ex
  exact pe_call F (hr.mono hk) hg hm kp b d (passes_call tk hE) ha hdb he hpl
variable {bmB : List Value} {B newId initId : String}
theorem pmk_own0 (F : ExcBaseFacts B newId initId bmB) (q : PySem.W.excIn X.K C bmB newId = true) (gC : X.mg x = some (.ref C)) (kC : PySem.W.keepIn X.K (.ref C) = true) (r : Raises X (.ref C)) (hg : Gl X x) (hdb : (x == ("__debug__" : Str)) = false := by decide) :
    PMk X (.Call (.Name x p) [] [] pos) (fun _ H Q => Q (.ref C) none H) := by
  intro pins s σ H Q I h
  refine wpAny_Call_Name_kw (ld_glob I hg gC ?_ hdb)
  refine PySem.W.callWith_K0 I.kIn kC ?_
  have ⟨bm, N, nm, qn, bs, hdct, sn, sub, ab, col, dd, k0, k1, k2, k3, k5, mN, hC, hN, hni, T⟩ := exc_obj I.kIn q
  refine wpAny_call_exc_subT F T hC hN hni (fun h' e hm => ?_) (Nat.zero_le _)
  exact mk_of I hm r h (I.hok.gone hm.new)
end
/-! a local name that holds one of two defs that may raise, called within a try -/
structure CalAX (P : Program) (w : World) (K : PySem.W.Frag) (mg : Str → Option Value) (base : Heap) (k : Nat) (f : Addr) (sp : Sp) : Prop where
  ex : ∃ (fd : FuncData) (ps : List Str), FnOk P w K mg base (L2.CX P w) k f fd ps sp ∧ PySem.W.keepIn K (.ref f) = true ∧ Binds K fd ps []
def tCallW (i : Nat) (f1 f2 : Addr) (sp1 sp2 : Sp) (W : WX) (t : TA) : TE := fun σ H Q => (σ[i]? = some (some (.ref f1)) ∧ t σ H fun vs H1 => sp1 vs H1 Q (WE W σ)) ∨ (σ[i]? = some (some (.ref f2)) ∧ t σ H fun vs H1 => sp2 vs H1 Q (WE W σ))
section
variable {X : Cx} {W : WX} {e : Expr} {es : List Expr} {t : TA} {p pos : Pos} {x : Str} {j : Nat}
theorem pe_cxv {i k1 k2 : Nat} {f1 f2 : Addr} {sp1 sp2 : Sp} (c1 : CalAX X.prog X.w X.K X.mg X.base k1 f1 sp1) (c2 : CalAX X.prog X.w X.K X.mg X.base k2 f2 sp2) (tk : Takes X W) (hr : Room j X.A) (l1 : k1 ≤ j) (l2 : k2 ≤ j) (hN : X.N[i]? = some x) (hv : Vis X.env.scope x) (ha : PA X (e :: es) t)
    (hd : (x == ("__debug__" : Str)) = false := by decide) (hcd : (x == ("__classdict__" : Str)) = false := by decide) (he : starEach (e :: es) X.env = (false, eval e X.env) :: starEach es X.env := by rfl) (hpl : (backTo pos (starEach es X.env)).any (·.1) = false := by rfl) :
    PE X (.Call (.Name x p) (e :: es) [] pos) (tCallW i f1 f2 sp1 sp2 W t) := by
  refine ⟨fun pins s σ H Q I h => ?_⟩
  have run : ∀ {k : Nat} {f : Addr} {sp : Sp}, CalAX X.prog X.w X.K X.mg X.base k f sp → k ≤ j → σ[i]? = some (some (.ref f)) → (t σ H fun vs H1 => sp vs H1 Q (WE W σ)) → wpAny (model X.prog X.w) X.A (eval (.Call (.Name x p) (e :: es) [] pos) X.env) (EP X pins σ Q) X.xe s := fun {k f sp} c hk hs ht => by
    have ⟨fd, ps, F, kp, b⟩ := c.ex
    refine wpAny_Call_Name_kw (thn ((pe_var (pos := p) hN hv hd hcd).run pins s σ H (fun v H1 => v = .ref f ∧ H1 = H) I ⟨.ref f, hs, rfl, rfl⟩) fun u s1 ⟨v, H1, I1, r1, ev, eH⟩ => ?_)
    subst ev eH
    cases r1
    exact PySem.W.callWith_K (h₀ := X.base) I.ok.mod.kin kp (thn (ha.run pos pins s1 σ _ _ I1 ht) fun us s2 ⟨vs, H2, I2, r, q⟩ => ⟨I2.kIn, run_fnS (E := WE W) F (hr.mono hk) b (passAt tk σ) I2 r q⟩) he hpl
  rcases h with ⟨h1, h2⟩ | ⟨h1, h2⟩
  · exact run c1 l1 h1 h2
  · exact run c2 l2 h1 h2
end
end Ls

namespace Ls
open PySem PySem.Spec PyProof.Rows L2 NdefX
/-! ### promises put together -/
section
variable {CX : CXT} {P : Program} {w : World} {K : PySem.W.Frag} {mg : Str → Option Value} {base : Heap} {k j : Nat} {f : Addr} {fd : FuncData} {ps : List Str} {sp sp1 sp2 : Sp} {X : Cx}
theorem fn_lift0 (F : FnOk P w K mg base CX0 k f fd ps sp) : FnOk P w K mg base CX k f fd ps sp := ⟨F.len, fun A outer s H args us vs Q E hr e0 hb r h => codeAny_mono (F.run A outer s H args us vs Q E hr e0 hb r h) fun x s' q => by
  cases x with
  | ok u =>
    cases u with
    | ret v => exact q
    | _ => exact False.elim q
  | error e => exact False.elim q⟩
theorem fn_or (F : FnOk P w K mg base CX k f fd ps sp1) (G : FnOk P w K mg base CX k f fd ps sp2) : FnOk P w K mg base CX k f fd ps (fun vs H Q E => sp1 vs H Q E ∨ sp2 vs H Q E) :=
  ⟨fun vs H Q E h => h.elim (F.len _ _ _ _) (G.len _ _ _ _), fun A outer s H args us vs Q E hr e0 hb r h => h.elim (F.run A outer s H args us vs Q E hr e0 hb r) (G.run A outer s H args us vs Q E hr e0 hb r)⟩
def spNo : Sp := fun _ _ _ _ => False
theorem fn_no : FnOk P w K mg base CX k f fd ps spNo := ⟨fun _ _ _ _ h => h.elim, fun _ _ _ _ _ _ _ _ _ _ _ _ _ h => h.elim⟩
theorem pss_no {st : List Stmt} : PSs X st (fun _ _ _ => False) := ⟨fun _ _ _ _ _ _ h => h.elim⟩
theorem pi_or {tg it : Expr} {w1 w2 : TI} (h1 : PI X tg it w1) (h2 : PI X tg it w2) : PI X tg it (fun σ H R => w1 σ H R ∨ w2 σ H R) :=
  ⟨fun pins s σ H R I h => h.elim (h1.run pins s σ H R I) (h2.run pins s σ H R I)⟩
end
section
variable {X : Cx} {W : WX} {e : Expr} {es : List Expr} {t : TA} {p pos : Pos} {x : Str} {k j : Nat} {sp : Sp} {dvs : List V}
/-- a call within a try: what the suites take stands at the caller's slots -/
theorem pe_cxS (c : CalX X.prog X.w X.K X.mg X.base k x sp dvs) (tk : Takes X W) (hr : Room j X.A) (hk : k ≤ j) (hg : Gl X x) (ha : PA X (e :: es) t) (hdb : (x == ("__debug__" : Str)) = false := by decide)
    (he : starEach (e :: es) X.env = (false, eval e X.env) :: starEach es X.env := by rfl) (hpl : (backTo pos (starEach es X.env)).any (·.1) = false := by rfl) : PE X (.Call (.Name x p) (e :: es) [] pos) (tCallSD sp dvs (WE W) t) := by
  have ⟨f, fd, ps, ds, F, hm, kp, b, d⟩ := c.ex
  exact pe_callSD F (hr.mono hk) hg hm kp b d (fun σ => passAt tk σ) ha hdb he hpl
end
/-! ### raise C(e), C's __init__: super().__init__(text); self.f = e -/
def spExc1 (C : Addr) (f : Str) : Sp := fun vs H Q _ => ∃ a v, vs = [.ref a, v] ∧ H a = some (exo a C none) ∧ ∀ dx, H dx = none → dx ≠ a → Q .non (upd (upd H dx (exd dx [(f, v)])) a (exo a C (some dx)))
structure ExcS (P : Program) (w : World) (K : PySem.W.Frag) (mg : Str → Option Value) (base : Heap) (x : Str) (C : Addr) (f : Str) : Prop where
  oex : OexC K C
  no : PySem.W.findIn K (.ref C) f = some none
  xf : XfC K C
  gC : mg x = some (.ref C)
  ex : ∃ (fI : Addr) (fd : FuncData) (ps : List Str), PySem.W.findIn K (.ref C) "__init__" = some (some (.ref fI)) ∧ PySem.W.typeIn K (.ref fI) = some (.type "function") ∧ FnOk P w K mg base CX0 1 fI fd ps (spExc1 C f) ∧ Binds K fd ps []
def tMk1 (C : Addr) (f : Str) (te : TE) : L2.St → Hp → XK → Prop := tMkO C (spExc1 C f) [] (tCons te tNil)
/-- how its reading is answered -/
theorem mk1 {C : Addr} {f : Str} {v : V} {H1 : Hp} {Q : XK} (h : ∀ d H2, Same H1 H2 → H1 d = none → H2 d = some (.xd [(f, v)]) → Q (.ref C) (some d) H2) :
    [v].length ≤ 1000 ∧ ∀ a, H1 a = none → spExc1 C f (.ref a :: ([v] ++ [])) (upd H1 a (exo a C none)) (fun u H2 => u = .non ∧ ∃ (d : Addr) (fs : List (Str × V)), H2 a = some (exo a C (some d)) ∧ H2 d = some (exd d fs) ∧ H1 d = none ∧ Q (.ref C) (some d) (upd (del H2 a) d (.xd fs))) (fun _ _ _ => False) := by
  refine ⟨by show 1 ≤ 1000; decide, fun a ha => ⟨a, v, rfl, upd_same, fun dx hn hne => ⟨rfl, dx, [(f, v)], upd_same, ?_, ?_, ?_⟩⟩⟩
  · rw [upd_ne hne, upd_same]
  · rw [upd_ne hne] at hn; exact hn
  · have hn' : H1 dx = none := by rw [upd_ne hne] at hn; exact hn
    refine h dx _ (fun b o e => ?_) hn' upd_same
    have n1 : b ≠ a := ne_of_none e ha
    have n2 : b ≠ dx := ne_of_none e hn'
    rw [upd_ne n2, del_ne n1, upd_ne n1, upd_ne n2, upd_ne n1]
    exact e
section
variable {X : Cx} {x f : Str} {C : Addr} {j : Nat} {e : Expr} {te : TE} {p pos : Pos}
theorem pmk_sup (U : ExcS X.prog X.w X.K X.mg X.base x C f) (hr : Room j X.A) (hj : 2 ≤ j) (hg : Gl X x) (he : PE X e te) (hdb : (x == ("__debug__" : Str)) = false := by decide)
    (hs : starEach [e] X.env = (false, eval e X.env) :: starEach [] X.env := by rfl) : PMk X (.Call (.Name x p) [e] [] pos) (tMk1 C f te) := by
  obtain ⟨fI, fd, ps, h1, h2, F1, hb⟩ := U.ex
  exact pmk_oex (dvs := []) (ds := []) (e := e) (es := []) (p := p) (pos := pos) U.oex h1 h2 F1 (hr.mono hj) hb .nil pass0 hg U.gC (pa_cons he pa_nil hs) hdb hs rfl
end
/-! ### isinstance of a caught error that has its dict -/
section
open PySem.W
variable {prog : Program} {w : World} {A : Around} {E : Value → Shared → Prop} {s : Shared} {K : Frag} {x D : Addr} {ox : Obj}
theorem kin_classX {od : Option Obj} {Q : Option Value → Shared → Prop} (T : ExcC K D) (X : K.In s.heap) (I : InstAt s.heap x ox D od) (h : Q (some (.ref D)) { s with toks := s.toks + 1 }) : wpAny (model prog w) A (getAttr? (.ref x) "__class__") Q E s := by
  have hc : (clsIn K D).isSome = true := by obtain ⟨cd, hc, _⟩ := any_some T.hd; rw [hc]; rfl
  have hf : findObj K D od "__class__" = some (.bind (.builtin "getset_descriptor.__get__") (.builtin "object.__class__")) := by
    cases od with
    | none => exact findObj_dataN hc T.ha T.hn T.ht
    | some od => exact findObj_data hc T.ha T.hn T.ht
  obtain ⟨hp, g, d, t, os⟩ := s
  have L0 := I.type (M := model prog w); have L1 := looks_findIn (M := model prog w) X T.hg; have L2 := looks_findIn (M := model prog w) X T.hk; have L3 := looks_find (M := model prog w) X I hf
  have sub : Looks (model prog w) hp (isInstance (.ref x) (.type "BaseException")) true := L0.andThen (looks_subIn X T.hs)
  have z2 : (Value.builtin "BaseException.__getattribute__" == Value.builtin "object.__getattribute__") = false := by decide +kernel
  have z1 : (onTheHeap (Value.ref D) && Value.builtin "BaseException.__getattribute__" == Value.builtin "object.__getattribute__") = false := by rw [z2]; rfl
  unfold getAttr? getAttrBy? getAttrBy
  refine wpAny_bind (wpAny_mkText (wpAny_bind (wpAny_attempt (wpAny_holding (wpAny_bind (L0.at (wpAny_bind (L1.at ?_)))))))); show wpAny _ _ (if (onTheHeap (Value.ref D) && Value.builtin "BaseException.__getattribute__" == Value.builtin "object.__getattribute__") = true then _ else _) _ _ _
  rw [z1, if_neg Bool.false_ne_true]; unfold getAttrByItsOwn hookBefore; refine wpAny_bind ?_
  rw [if_pos (show onTheHeap (Value.ref D) = true from rfl)]; refine L2.at ?_; refine wpAny_bind (wpAny_attempt (wpAny_holding ?_)); unfold callGetattribute
  rw [show (false && onTheHeap (Value.builtin "BaseException.__getattribute__")) = false from rfl, if_neg Bool.false_ne_true]; unfold boundAndCalled
  rw [PySem.F.excAttr_ValueError.ga.bind (.ref x)]; refine wpAny_bind (wpAny_pure ?_); show wpAny _ _ (call (.builtin "BaseException.__getattribute__") [.ref x, .str "__class__" t]) _ _ _
  refine wpAny_call (codeAny_call_builtin PySem.F.excAttr_ValueError.ga.plain PySem.F.entry_bexc_ga ?_); refine @check_slot (model prog w) _ _ ⟨hp, g, d, t + 1, os⟩ "BaseException.__getattribute__" "BaseException" "__getattribute__" (.ref x) [.str "__class__" t] [] _ (by decide +kernel) (by decide +kernel) sub (PySem.F.args_bexc_ga (.ref x) (.str "__class__" t)) ?_
  unfold Builtin.«object.__getattribute__»; refine wpAny_bind (wpAny_of_eq (a := ((Value.ref x : Value), [Value.str "__class__" t])) (by first | rfl | (simp only [slotArgs]; rfl)) ?_); refine wpAny_bind (wpAny_pure (wpAny_bind (L0.at (wpAny_bind (L3.at ?_)))))
  show wpAny _ _ (holding [Value.builtin "object.__class__"] (call (.builtin "getset_descriptor.__get__") [.builtin "object.__class__", .ref x, .ref D]) >>= ret) _ _ _
  refine wpAny_bind (wpAny_holding (wpAny_call (class_get (s := ⟨hp, g, d, t + 1, os⟩) (ox := ox) (od := od) X I T.hm ?_))); refine wpAny_pure ?_; show wpAny _ _ (handedOut (.ref D)) _ _ _
  rw [handedOut_of (v := .ref D) rfl]
  first
    | exact wpAny_pure (wpAny_pure h)
    | exact wpAny_pure h
    | exact wpAny_pure (wpAny_bind (wpAny_pure (wpAny_pure h)))
theorem kitx_excX {od : Option Obj} (T : ExcC K D) : KitX K (.ref x) (.ref D) (fun h => InstAt h x ox D od) where
  ty := fun _ _ _ I => I.type
  it := fun _ _ X _ => by
    obtain ⟨cdD, e, _⟩ := any_some T.hd; unfold clsIn at e
    split at e
    · next c' d' cd' sl' ho => intro A' Q' E' s' k q; unfold isType loadHead; exact wpAny_bind (wpAny_loadPart (k _ _ (X _ _ ho)) (wpAny_pure q))
    · cases e
  ne := (handS_kitx_exc (x := x) (ox := ox) T.hg T.hk T.hs T.hd T.ha T.hn T.ht T.hm).ne
  ca := fun X I k => kin_classX T X I k
end
/-- isinstance(e, c), e the exception of the suite, its dict at d -/
def rIsD (K : PySem.W.Frag) (cls : Value) (a : Addr) (d : Option Addr) : List V → Hp → VK → Prop := fun xs H Q => ∃ (c : V) (cv : Value) (b : Bool) (D dd : Addr) (fs : List (Str × V)), xs = [.ref a, c] ∧ cls = .ref D ∧ ExcC K D ∧ d = some dd ∧ H dd = some (.xd fs) ∧ (∀ u, RelV c u → u = cv) ∧ PySem.W.kitOne K (.ref D) cv = some b ∧ Q (.bl b) H
theorem call_isD {X : Cx} {a : Addr} {oe : Obj} {cls : Value} {d : Option Addr} {pn : List (Addr × Obj)} (hz : Zc cls d oe) (hf : ∃ vs, oe.data = .fields vs) : CallR (X.suite a ((a, oe) :: pn)) (.builtin "isinstance") (rIsD X.K cls a d) := by
  intro pins s σ H xs us Q I r h
  obtain ⟨c, cv, b, D, dd, fs, rfl, rfl, C, rfl, hdd, hcv, e, q⟩ := h
  cases r with
  | cons rx rr =>
    cases rr with
    | cons rt rr =>
      cases rr
      cases rx
      have ec := hcv _ rt
      subst ec
      obtain ⟨hget, _⟩ := I.pin (a, oe) (List.mem_append.mpr (.inl List.mem_cons_self))
      obtain ⟨vs, hv⟩ := hf
      have hx : ObjOk X.prog X.w H s.heap dd (.xd fs) := I.hok dd _ hdd
      obtain ⟨mA, hns, hr⟩ := hx
      obtain ⟨od, ho, hl⟩ := lookIn_ns hns
      have J : PySem.W.InstAt s.heap a oe D (some od) := ⟨hget, hz.1, by unfold PySem.W.notCls; rw [hv] <;> rfl, by rw [hz.2]; exact ho⟩
      exact PySem.W.kia_one (kitx_excX C) I.kIn J e (fun z => nomatch z) fun tk => ⟨.bl b, H, I.kept (t' := tk) fun _ _ z => z, rfl, q⟩
end Ls

/-! ### the head's facts of own exceptions with an __init__ -/
namespace Ls
open PySem PySem.Spec PyProof.Rows L2 NdefX He
def oexB (K : PySem.W.Frag) (C : Addr) : Bool := (match K.lookup C with
  | some ⟨.type t, _, .cls cd, sl⟩ => (t == "type") && (match cd.mro, sl.toList with
    | .ref C' :: bm, [_, _, _, _, some (.builtin n), _] => C' == C && (n == "ValueError.__new__" && (!cd.hasDel && (cd.hasDict && PySem.HandSPX.refsVE bm)))
    | _, _ => false)
  | _ => false) && (eqO (PySem.W.findIn K (.ref C) "__setattr__") (some (some (.builtin "object.__setattr__"))) && (decide (PySem.W.subIn K (.ref C) (.type "BaseException") = some true) && (decide (PySem.W.typeIn K (.ref C) = some (.type "type")) && PySem.W.keepIn K (.ref C))))
theorem oexB_ok {K : PySem.W.Frag} {C : Addr} (h : oexB K C = true) : OexC K C := by
  obtain ⟨h1, h2⟩ := ba h
  obtain ⟨h3, h4⟩ := ba h2
  obtain ⟨h5, h6⟩ := ba h4
  obtain ⟨h7, h8⟩ := ba h6
  refine ⟨?_, eqO_ok h3, of_decide_eq_true h5, of_decide_eq_true h7, h8⟩
  split at h1
  · rename_i t dd cd sl ho
    obtain ⟨ht, h1⟩ := ba h1
    split at h1
    · rename_i C' bm k0 k1 k2 k3 n k5 hm hs
      obtain ⟨e1, h1⟩ := ba h1
      obtain ⟨e2, h1⟩ := ba h1
      obtain ⟨e3, h1⟩ := ba h1
      obtain ⟨e4, e5⟩ := ba h1
      have e1 := eq_of_beq e1
      have e2 := eq_of_beq e2
      have ht := eq_of_beq ht
      have e3' : cd.hasDel = false := by simpa using e3
      clear e3
      have e3 := e3'
      clear e3'
      obtain ⟨nm, bs, mro, ns, qn, hd, sn, sub, ab, col, del⟩ := cd
      dsimp only at hm e3 e4
      subst hm e3 e4 e1 e2 ht
      have hsl : sl = #[k0, k1, k2, k3, some (.builtin "ValueError.__new__"), k5] := by
        obtain ⟨l⟩ := sl
        simp only at hs
        rw [hs]
      subst hsl
      exact ⟨nm, qn, ns, bs, bm, sn, sub, ab, col, dd, k0, k1, k2, k3, k5, ho, e5⟩
    · cases h1
  · cases h1
def excB (K : PySem.W.Frag) (D : Addr) : Bool := eqO (PySem.W.findIn K (.ref D) "__getattribute__") (some (some (.builtin "BaseException.__getattribute__"))) && (eqO (PySem.W.findIn K (.ref D) "__getattr__") (some none) && (decide (PySem.W.subIn K (.ref D) (.type "BaseException") = some true) &&
  (PySem.W.hasDictIn K D && (eqO (PySem.W.findIn K (.ref D) "__class__") (some (some (.builtin "object.__class__"))) && (eqO (PySem.W.specialIn K (.builtin "object.__class__") "__get__") (some (some (.builtin "getset_descriptor.__get__"))) &&
  (decide (PySem.W.takesIn K (.builtin "object.__class__") = some true) && decide (PySem.W.mroIn K D (.type "object") = some true)))))))
theorem excB_ok {K : PySem.W.Frag} {D : Addr} (h : excB K D = true) : ExcC K D := by
  obtain ⟨h1, h⟩ := ba h
  obtain ⟨h2, h⟩ := ba h
  obtain ⟨h3, h⟩ := ba h
  obtain ⟨h4, h⟩ := ba h
  obtain ⟨h5, h⟩ := ba h
  obtain ⟨h6, h⟩ := ba h
  obtain ⟨h7, h8⟩ := ba h
  exact ⟨eqO_ok h1, eqO_ok h2, of_decide_eq_true h3, h4, eqO_ok h5, eqO_ok h6, of_decide_eq_true h7, of_decide_eq_true h8⟩
theorem ExcC.xf {K : PySem.W.Frag} {D : Addr} (h : ExcC K D) : XfC K D := ⟨h.hg, h.hk, h.hs, h.hd⟩
/-! the __init__ -/
abbrev FnS : Type := Option (Str × Str × Arguments × FuncBody × Scope × Addr × List Str × Addr)
def fIn (K : PySem.W.Frag) (x : Str) : Addr := ma K (ga K x) "__init__"
def fnS (K : PySem.W.Frag) (x : Str) : FnS := match K.lookup (fIn K x) with
  | some ⟨_, _, .func fd, _⟩ => some (fd.name, fd.qualname, fd.params, fd.body, fd.scope, fd.globals, fd.closure.map (·.1), fd.builtins)
  | _ => none
structure SupD where
  cls : Str
  qual : Str
  params : Arguments
  body : List Stmt
  scope : Scope
def SupD.val (d : SupD) : FnS := some ("__init__", d.qual, d.params, .stmts d.body, d.scope, mainGlobals, ["__class__"], builtinsNs)
def ccOf (fd : FuncData) : Addr := match fd.closure with
  | [(_, c)] => c
  | _ => 0
def codOf (fd : FuncData) : Addr := match fd.code with
  | .ref c => c
  | _ => 0
def NF.ofD (d : SupD) (fd : FuncData) : NF := ⟨"__init__", d.qual, d.params, d.body, d.scope, [(("__class__" : Str), ccOf fd)], codOf fd⟩
def fileB (K : PySem.W.Frag) (c : Addr) (fl : Str) : Bool := match K.lookup c with
  | some ⟨_, _, .fields vs, _⟩ => (match (vs[2]? : Option Value) with
    | some (Value.str f _) => f == fl
    | _ => false)
  | _ => false
def cellB (K : PySem.W.Frag) (c C : Addr) : Bool := match K.lookup c with
  | some ⟨_, _, .cell (some (.ref D)), _⟩ => D == C
  | _ => false
def noneB (v : Value) : Bool := match v with
  | .none => true
  | _ => false
def refB (v : Value) : Bool := match v with
  | .ref _ => true
  | _ => false
def SupD.ok (K : PySem.W.Frag) (fl : Str) (d : SupD) : Bool := oexB K (ga K d.cls) && (eqO (PySem.W.findIn K (.ref (ga K d.cls)) "__init__") (some (some (.ref (fIn K d.cls)))) && (decide (PySem.W.typeIn K (.ref (fIn K d.cls)) = some (.type "function")) && ((match K.lookup (fIn K d.cls) with
  | some ⟨_, _, .func fd, _⟩ => noneB fd.defaults && (noneB fd.kwdefaults && (fd.annotations.isNone && (refB fd.code && (PySem.W.codeIn K fd.code d.qual && (cellB K (ccOf fd) (ga K d.cls) && fileB K (codOf fd) fl)))))
  | _ => false) && (eqO (PySem.W.nsIn K mainGlobals "super") (some none) && (eqO (PySem.W.nsIn K cStatics "thirdparty.any") (some none) && (eqO (PySem.W.ks_superIn K (ga K d.cls) (ga K d.cls) "__init__") (some (some (.builtin "ValueError.__init__"))) &&
  (decide (PySem.W.subIn K (.ref (ga K d.cls)) (.type "ValueError") = some true) && decide (PySem.W.mroIn K (ga K d.cls) (.ref (ga K d.cls)) = some true))))))))
theorem SupD.supC {P : Program} {K : PySem.W.Frag} {fl : Str} {d : SupD} (e : fnS K d.cls = d.val) (c : d.ok K fl = true) (hf : ((P.main.file : Str) == fl) = true) (ht : (P.main.scope.names.lookup ("super" : Str)).isSome = false) :
    ∃ (fd : FuncData) (cc cf : Addr), SupC P K (ga K d.cls) (fIn K d.cls) cc ⟨"__init__", d.qual, d.params, d.body, d.scope, [(("__class__" : Str), cc)], cf⟩ fd := by
  obtain ⟨c1, c⟩ := ba c
  obtain ⟨c2, c⟩ := ba c
  obtain ⟨c3, c⟩ := ba c
  obtain ⟨c4, c⟩ := ba c
  obtain ⟨c5, c⟩ := ba c
  obtain ⟨c6, c⟩ := ba c
  obtain ⟨c7, c⟩ := ba c
  obtain ⟨c8, c9⟩ := ba c
  unfold fnS at e
  cases q : K.lookup (fIn K d.cls) with
  | none => rw [q] at c4; cases c4
  | some o =>
    obtain ⟨oc, od, dt, osl⟩ := o
    rw [q] at c4 e
    cases dt with
    | func fd =>
      obtain ⟨n1, n2, n3, n4, n5, n6, n7, n8, n9, n10, n11, n12, n13, n14, n15⟩ := fd
      have e2 : (some (n1, n2, n3, n4, n5, n6, n7.map (·.1), n15) : FnS) = some (("__init__" : Str), d.qual, d.params, FuncBody.stmts d.body, d.scope, mainGlobals, ([("__class__" : Str)] : List Str), builtinsNs) := e
      simp only [Option.some.injEq, Prod.mk.injEq] at e2
      obtain ⟨h1, h2, h3, h4, h5, h6, h7, h8⟩ := e2
      subst h1 h2 h3 h4 h5 h6 h8
      have c4 : (noneB n8 && (noneB n9 && (n12.isNone && (refB n13 && (PySem.W.codeIn K n13 d.qual && (cellB K (ccOf ⟨"__init__", d.qual, d.params, .stmts d.body, d.scope, mainGlobals, n7, n8, n9, n10, n11, n12, n13, n14, builtinsNs⟩) (ga K d.cls) && fileB K (codOf ⟨"__init__", d.qual, d.params, .stmts d.body, d.scope, mainGlobals, n7, n8, n9, n10, n11, n12, n13, n14, builtinsNs⟩) fl)))))) = true := c4
      obtain ⟨g1, c4⟩ := ba c4
      obtain ⟨g2, c4⟩ := ba c4
      obtain ⟨g3, c4⟩ := ba c4
      obtain ⟨g4, c4⟩ := ba c4
      obtain ⟨g5, c4⟩ := ba c4
      obtain ⟨g6, g7⟩ := ba c4
      have z8 : n8 = .none := by cases n8 <;> first | rfl | cases g1
      have z9 : n9 = .none := by cases n9 <;> first | rfl | cases g2
      have z12 : n12 = none := by cases n12 <;> first | rfl | cases g3
      subst z8 z9 z12
      cases n13 with
      | ref cf =>
        cases n7 with
        | nil => cases h7
        | cons p r =>
          cases r with
          | cons _ _ => exact absurd (congrArg List.length h7) (by simp)
          | nil =>
            obtain ⟨pn, cc⟩ := p
            simp only [List.map_cons, List.map_nil, List.cons.injEq, and_true] at h7
            subst h7
            have g6 : cellB K cc (ga K d.cls) = true := g6
            have g7 : fileB K cf fl = true := g7
            refine ⟨_, cc, cf, oexB_ok c1, eqO_ok c2, of_decide_eq_true c3, ⟨oc, od, n10, n11, n14, osl, rfl, q⟩, g5, rfl, ?_, ?_, eqO_ok c5, ht, eqO_ok c6, eqO_ok c7, of_decide_eq_true c8, of_decide_eq_true c9⟩
            · unfold cellB at g6
              split at g6
              · rename_i cl cld D csl hl
                exact ⟨cl, cld, csl, by rw [hl, eq_of_beq g6]⟩
              · cases g6
            · unfold fileB at g7
              split at g7
              · rename_i cl cld vs csl hl
                split at g7
                · rename_i f tf hv
                  exact ⟨cl, cld, vs, csl, f, tf, hl, hv, by rw [eq_of_beq g7]; exact hf⟩
                · cases g7
              · cases g7
      | _ => cases g4
    | _ => cases c4
/-! the hook -/
inductive Fx where
  | exc (x : Str)
  | isi (x y : Str) (b : Bool)
  | isb (x : Str) (t : String) (b : Bool)
def Fx.ok (K : PySem.W.Frag) : Fx → Bool
  | .exc x => excB K (ga K x)
  | .isi x y b => decide (PySem.W.kitOne K (.ref (ga K x)) (.ref (ga K y)) = some b)
  | .isb x t b => decide (PySem.W.kitOne K (.ref (ga K x)) (.type t) = some b)
structure Hd where
  fa : List Fa
  fn : List DefD
  fx : List Fx
  su : List SupD
  file : Str
abbrev AlS : Type := AlD × Bool × List FnS
def obsS (d : Hd) (K : PySem.W.Frag) : AlS := (obsD d.fa d.fn K, (d.fx.all fun f => f.ok K) && (d.su.all fun u => u.ok K d.file), d.su.map fun u => fnS K u.cls)
def valS (d : Hd) : AlS := (valD d.fn, true, d.su.map SupD.val)
def asS (g : Addr → Option Obj) (n : Nat) : List Addr := asD g n ++ [cStatics]
def obsSG (n : Nat) (d : Hd) (g : Addr → Option Obj) : AlS := obsS d (frG g (asS g n))
def SaysS (d : Hd) (K : PySem.W.Frag) : Prop := obsS d K = valS d
def hookS (n : Nat) (d : Hd) : PySem.W.Hook where
  α := AlS
  obs := fun s => obsSG n d s.heap.get?
  val := fun _ => valS d
  says := fun _ h => ∃ K : PySem.W.Frag, K.In h ∧ SaysS d K
  of := fun _ _ e => ⟨_, frG_in, e⟩
  keeps := fun _ _ _ ⟨K, hK, c⟩ k => ⟨K, hK.keeps k, c⟩
theorem obsSG_eq {n : Nat} {d : Hd} {g : Addr → Option Obj} {s : Shared} (h : ∀ a, g a = s.heap.get? a) : obsSG n d g = (hookS n d).obs s := by
  rw [show g = s.heap.get? from funext h]; rfl
section
variable {d : Hd} {K : PySem.W.Frag}
theorem SaysS.d_ (c : SaysS d K) : SaysD d.fa d.fn K := congrArg (fun z : AlS => z.1) c
theorem SaysS.x (c : SaysS d K) (i : Nat) {f : Fx} (h : d.fx[i]? = some f := by rfl) : f.ok K = true :=
  List.all_eq_true.mp (ba (show ((d.fx.all fun f => f.ok K) && (d.su.all fun u => u.ok K d.file)) = true from congrArg (fun z : AlS => z.2.1) c)).1 f (List.mem_of_getElem? h)
theorem SaysS.u (c : SaysS d K) (i : Nat) {u : SupD} {P : Program} (hf : ((P.main.file : Str) == d.file) = true) (ht : (P.main.scope.names.lookup ("super" : Str)).isSome = false) (h : d.su[i]? = some u := by rfl) :
    ∃ (fd : FuncData) (cc cf : Addr), SupC P K (ga K u.cls) (fIn K u.cls) cc ⟨"__init__", u.qual, u.params, u.body, u.scope, [(("__class__" : Str), cc)], cf⟩ fd := by
  have c2 := List.all_eq_true.mp (ba (show ((d.fx.all fun f => f.ok K) && (d.su.all fun u => u.ok K d.file)) = true from congrArg (fun z : AlS => z.2.1) c)).2 u (List.mem_of_getElem? h)
  have e : d.su.map (fun u => fnS K u.cls) = d.su.map SupD.val := congrArg (fun z : AlS => z.2.2) c
  have e2 : (d.su.map fun u => fnS K u.cls)[i]? = (d.su.map SupD.val)[i]? := by rw [e]
  rw [List.getElem?_map, List.getElem?_map, h] at e2
  exact SupD.supC (Option.some.inj e2) c2 hf ht
end
end Ls

namespace Ls
open PySem PySem.Spec PyProof.Rows L2 NdefX
section
variable {P : Program} {w : World} {K : PySem.W.Frag} {mg : Str → Option Value} {base : Heap} {F : NF} {C f cc : Addr} {fd : FuncData}
/-- super().__init__(text); self.fld = arg -/
theorem ok_exc1 (U : SupC P K C f cc F fd) {p0 p1 p2 p3 p4 p5 q0 q1 q2 q3 : Pos} {txt fld arg : Str} {kd : Nat}
    (hbd : F.body = [.Expr (.Call (.Attribute (.Call (.Name "super" p0) [] [] p1) "__init__" p2) [.Constant (.str txt) kd p5] [] p3) p4, .Assign [.Attribute (.Name "self" q0) fld q1] (.Name arg q2) q3])
    (S : NScope ["self", arg, "__class__"] ["self", arg] ["__class__"] F.scope)
    {ar : Arg} (har : (F.params.posonlyargs ++ F.params.args).head? = some ar) (har1 : ar.arg = "self") (hks : F.scope.names.lookup ("super" : Str) = some .globalImplicit)
    (hcall : ∀ L, ∃ pl, eval (.Call (.Attribute (.Call (.Name "super" p0) [] [] p1) "__init__" p2) [.Constant (.str txt) kd p5] [] p3) (envF F f L) = (do
      let ov ← attributeBase (.Call (.Name "super" p0) [] [] p1) "__init__" (envF F f L) (eval (.Call (.Name "super" p0) [] [] p1) (envF F f L))
      standAt p2.atName
      let (fx, first) ← holding [ov] (getMethod ov "__init__" pl)
      callWith p3 fx first (backTo p3 (starEach [.Constant (.str txt) kd p5] (envF F f L))) []))
    (hint : ∀ L, interactive (envF F f L) = false) (hsw : ∀ L, swapsWith (.Call (.Attribute (.Call (.Name "super" p0) [] [] p1) "__init__" p2) [.Constant (.str txt) kd p5] [] p3) none p4.line (envF F f L) = pure false)
    (hsw2 : ∀ L, swapsWith (.Name arg q2) (some (.Attribute (.Name "self" q0) fld q1)) q3.line (envF F f L) = pure false)
    (hd1 : (arg == ("__debug__" : Str)) = false) (hd2 : (arg == ("__classdict__" : Str)) = false) (no : PySem.W.findIn K (.ref C) fld = some none) : FnOk P w K mg base CX0 1 f fd ["self", arg] (spExc1 C fld) := by
  refine fn_sup (k := 0) (ps := [arg]) (N := ["self", arg, "__class__"]) U hbd S har har1 hks hcall hint hsw (fun vs H Q E h => ?_) (fun vs H Q E h => ?_) (fun A outer s H vs Q E hr h => ?_)
  · obtain ⟨a, v, rfl, _⟩ := h
    rfl
  · obtain ⟨a, v, rfl, ha, _⟩ := h
    exact ⟨a, _, rfl, ha⟩
  · obtain ⟨a, v, rfl, ha, hk⟩ := h
    refine ⟨tOst K fld (tVar 0) (tVar 1), pss_one (ps_ost (pe_var (i := 0) rfl (.inl (S.par _ (by simp))) (by decide) (by decide)) (pe_var (i := 1) rfl (.inl (S.par _ (by simp))) hd1 hd2) (hsw2 _)), ?_⟩
    exact ⟨v, rfl, .ref a, rfl, a, C, rfl, U.oex, no, .inl ⟨ha, fun dx hn hne => hk dx hn hne⟩⟩
end
end Ls
namespace Ls
open PySem PySem.Spec PyProof.Rows L2
/-! enumerate(x), x a local that holds a list or a tuple -/
def iEnumV (K : PySem.W.Frag) (i : Nat) : TI := fun σ H R => ∃ a xs J, σ[i]? = some (some (.ref a)) ∧ ((SqL K H a xs ∧ J = Ite K a) ∨ (SqT K H a xs ∧ J = IteT K a)) ∧ R J H
theorem kpi_enumV {X : Cx} {K : PySem.W.Frag} {i : Nat} {x : Str} {p pos p2 tpos : Pos} {elts : List Expr} {kk : Nat} (hg : Gl X "enumerate") (hm : X.mg "enumerate" = none) (ha : PE X (.Name x p2) (tVar i)) (h : X.K = K := by rfl)
    (hs : starEach [.Name x p2] X.env = [(false, eval (.Name x p2) X.env)] := by rfl) : PI X (.Tuple elts kk tpos) (.Call (.Name "enumerate" p) [.Name x p2] [] pos) (iEnumV K i) := by
  subst h
  refine ⟨fun pins s σ H R I q => ?_⟩
  obtain ⟨a, xs, J, hσ, hj, r⟩ := q
  rcases hj with ⟨hx, rfl⟩ | ⟨hx, rfl⟩
  · exact (pi_enum hg hm (pa_cons ha pa_nil hs) hs).run pins s σ H R I ⟨.ref a, hσ, a, xs, rfl, hx, r⟩
  · exact (pi_enumT hg hm (pa_cons ha pa_nil hs) hs).run pins s σ H R I ⟨.ref a, hσ, a, xs, rfl, hx, r⟩
/-- the walk of either -/
theorem enumV {K : PySem.W.Frag} {H : Hp} {a : Addr} {xs : List V} (h : H a = some (.tup xs) ∨ H a = some (.lst xs)) :
    ∃ (J : It) (Gd : Hp → Prop), (∀ H', Same H H' → (SqL K H' a xs ∧ J = Ite K a) ∨ (SqT K H' a xs ∧ J = IteT K a)) ∧ Walk J xs.length Gd (YPair (fun i => some (.int (i : Nat))) (fun i => xs[i]?)) ∧ ∀ H', Same H H' → Gd H' :=
  h.elim (fun h => ⟨_, _, fun H' s => .inr ⟨sqt (s _ _ h), rfl⟩, walk_enumT, fun H' s => sqt (s _ _ h)⟩) fun h => ⟨_, _, fun H' s => .inl ⟨sq (s _ _ h), rfl⟩, walk_enum, fun H' s => sq (s _ _ h)⟩
end Ls
namespace Ls
open PySem PySem.Spec PyProof.Rows L2
theorem pe_c0 {X : Cx} {x : Str} {k j : Nat} {sp : Sp} {dvs : List V} {p pos : Pos} (c : Cal X.prog X.w X.K X.mg X.base k x sp dvs) (hr : Room j X.A) (hk : k ≤ j) (hg : Gl X x) (hdb : (x == ("__debug__" : Str)) = false := by decide) : PE X (.Call (.Name x p) [] [] pos) (tCall sp dvs E0 tNil) := by
  have ⟨f, fd, ps, ds, F, hm, kp, b, d⟩ := c.ex
  exact pe_call0 F (hr.mono hk) hg hm kp b d pass0 hdb
end Ls
namespace Ls
open PySem PySem.Spec PyProof.Rows L2
/-! a for whose body's reading hangs on its ends (a try within): kept whole -/
def ForOk (J : It) (g : TG) (tb : TS) (D : Ends) (σ : L2.St) (H1 : Hp) : Prop := tFor (fun _ _ R => R J H1) g tb D σ H1
theorem tFor_ok {wi : TI} {g : TG} {tb : TS} {D : Ends} {σ : L2.St} {H : Hp} (h : wi σ H fun J H1 => ForOk J g tb D σ H1) : tFor wi g tb D σ H := h
theorem for_ok {J : It} {n : Nat} {G : Hp → Prop} {Y : Nat → Hp → V → Hp → Prop} (w : Walk J n G Y) {g : TG} {tb : TS} {D : Ends} {σ : L2.St} {H : Hp} (Pv : Nat → L2.St → Hp → Prop) (h0 : Pv 0 σ H) (hG : ∀ i σ H, i ≤ n → Pv i σ H → G H)
    (hs : ∀ i x σ H H', i < n → Pv i σ H → Y i H x H' → g x σ H' fun σ2 H2 => tb { D with nx := Pv (i + 1), ct := Pv (i + 1), bk := D.nx } σ2 H2) (hd : ∀ σ H, Pv n σ H → D.nx σ H) : ForOk J g tb D σ H :=
  for_it w Pv h0 hG hs hd
end Ls

namespace K1
open PySem PySem.Spec PyProof.Rows L2 Ls
/-! ### the text by places -/
def top (i : Nat) : Stmt := PySem.Challenge.pw_loopsheds_k04_refused_differences.main.body.getD i (.Pass ⟨0, 0, 0, 0⟩)
abbrev s_Table___init__ : Stmt := inClass (top 3) 0
abbrev s_blank : Stmt := top 4
abbrev s_more : Stmt := top 5
abbrev s_added : Stmt := top 6
abbrev s_table_of : Stmt := top 7
abbrev s_upper : Stmt := top 8
abbrev s_set_to : Stmt := top 9
abbrev s_point_of : Stmt := top 10
abbrev s_BadName___init__ : Stmt := inClass (top 13) 0
abbrev s_BadDifference___init__ : Stmt := inClass (top 14) 0
abbrev s_is_limit : Stmt := top 18
abbrev s_u_is_end : Stmt := top 19
abbrev s_checked_system : Stmt := top 20
abbrev s_names_of : Stmt := top 21
abbrev s_u_cycle : Stmt := top 22
abbrev s_ring : Stmt := top 23
abbrev s_solution : Stmt := top 24
abbrev s_u_table : Stmt := top 25
abbrev s_tight : Stmt := top 26
abbrev s_u_tight_ways : Stmt := top 27
abbrev s_chain : Stmt := top 28
abbrev s_implied : Stmt := top 29
abbrev s_classes_of : Stmt := top 31
abbrev s_u_limit : Stmt := top 32
abbrev s_u_ring_of : Stmt := top 33
abbrev s_u_needed : Stmt := top 34
abbrev s_fewest : Stmt := top 35
abbrev s_u_law_draw : Stmt := top 37
abbrev s_u_law_pool : Stmt := top 38
abbrev s_u_law_system : Stmt := top 39
abbrev s_u_law_great : Stmt := top 40
abbrev s_u_law_bad : Stmt := top 41
abbrev s_u_law_ask : Stmt := top 42
abbrev s_u_law_refused : Stmt := top 43
abbrev s_u_law_ends : Stmt := top 44
abbrev s_law : Stmt := top 45
/-- what the module holds: built-in names free, constants -/
structure Facts (mg : Str → Option Value) : Prop where
  len_ : mg "len" = none
  range_ : mg "range" = none
  zip_ : mg "zip" = none
  enumerate_ : mg "enumerate" = none
  isinstance_ : mg "isinstance" = none
  tuple_ : mg "tuple" = none
  list_ : mg "list" = none
  int_ : mg "int" = none
  bool_ : mg "bool" = none
  str_ : mg "str" = none
  ValueError_ : mg "ValueError" = none
  FAR : ∃ t, mg "FAR" = some (.int 1000000000000000000000000000000 t)
  HALF : ∃ t, mg "HALF" = some (.int 100000000000000000000000000000 t)
  MOST : ∃ t, mg "MOST" = some (.int 1000000000000000000 t)
abbrev FnP (K : PySem.W.Frag) (x : Str) (st : Stmt) (dvs : List V) (f : Addr) (fd : FuncData) : Prop := FunD K x x (defArgs st) (defBody st) (defScope st) dvs [] f fd
/-! ### the class Table -/
theorem nr : (("names" : Str) == "rows") = false := by decide +kernel
theorem rn : (("rows" : Str) == "names") = false := by decide +kernel
theorem ns_ : (("names" : Str) == "spots") = false := by decide +kernel
theorem sn : (("spots" : Str) == "names") = false := by decide +kernel
theorem rs_ : (("rows" : Str) == "spots") = false := by decide +kernel
theorem sr : (("spots" : Str) == "rows") = false := by decide +kernel
def flds (an ar asp : Addr) : List (Str × V) := [(("names" : Str), V.ref an), (("rows" : Str), V.ref ar), (("spots" : Str), V.ref asp)]
theorem flds_names (an ar asp : Addr) : (flds an ar asp).lookup ("names" : Str) = some (V.ref an) := by simp [flds, List.lookup_cons]
theorem flds_rows (an ar asp : Addr) : (flds an ar asp).lookup ("rows" : Str) = some (V.ref ar) := by simp [flds, List.lookup_cons, rn]
theorem flds_spots (an ar asp : Addr) : (flds an ar asp).lookup ("spots" : Str) = some (V.ref asp) := by simp [flds, List.lookup_cons, sn, sr]
theorem flds_put (an ar asp : Addr) : putF "spots" (.ref asp) (putF "rows" (.ref ar) (putF "names" (.ref an) [])) = flds an ar asp := by
  have h1 : ¬ (("names" : Str) = "rows") := by decide +kernel
  have h2 : ¬ (("names" : Str) = "spots") := by decide +kernel
  have h3 : ¬ (("rows" : Str) = "spots") := by decide +kernel
  simp [putF, flds, h1, h2, h3]
/-- what the walk asks of the class -/
structure TCls (K : PySem.W.Frag) (C : Addr) : Prop where
  cl : Cls K C
  nN : NoAttr K C "names"
  nR : NoAttr K C "rows"
  nS : NoAttr K C "spots"
/-- names to places -/
def spD (ns : List Str) : List (Key × V) := ns.zipIdx.foldl (fun kv p => putK kv (Sum.inr p.1 : Key) (V.int (p.2 : Int))) []
def spTable (C : Addr) : Sp := fun vs H Q _ => ∃ (p dx an ar : Addr) (ns : List Str) (sv : V), vs = [.ref p, .ref an, .ref ar, sv] ∧ H p = some (.ins C dx []) ∧ H an = some (.tup (ns.map V.str)) ∧ ns.length ≤ 1000 ∧
  ((sv = .non ∧ ∀ d H', H d = none → H' d = some (.dK (spD ns)) → H' p = some (.ins C dx (flds an ar d)) → (∀ b o, H b = some o → b ≠ p → H' b = some o) → Q .non H') ∨
   ∃ d, sv = .ref d ∧ ∀ H', H' p = some (.ins C dx (flds an ar d)) → (∀ b o, H b = some o → b ≠ p → H' b = some o) → Q .non H')
theorem zipIdx_take {α : Type} (xs : List α) (i : Nat) (x : α) (h : xs[i]? = some x) : (xs.take (i + 1)).zipIdx = (xs.take i).zipIdx ++ [(x, i)] := by
  have hi := (List.getElem?_eq_some_iff.mp h).1
  rw [List.take_add_one, h, List.zipIdx_append]
  simp [Nat.min_eq_left (Nat.le_of_lt hi)]
theorem spD_snoc (ns : List Str) (x : Str) : spD (ns ++ [x]) = putK (spD ns) (Sum.inr x : Key) (V.int ((ns.length : Nat) : Int)) := by
  unfold spD
  rw [List.zipIdx_append, List.foldl_append]
  simp
theorem spD_take (ns : List Str) (i : Nat) (h : i < ns.length) : spD (ns.take (i + 1)) = putK (spD (ns.take i)) (Sum.inr ns[i] : Key) (V.int (i : Int)) := by
  have e : ns.take (i + 1) = ns.take i ++ [ns[i]] := by rw [List.take_add_one, List.getElem?_eq_getElem h]; rfl
  rw [e, spD_snoc, List.length_take, Nat.min_eq_left (Nat.le_of_lt h)]
theorem spD_len (ns : List Str) : ∀ i, i ≤ ns.length → (spD (ns.take i)).length ≤ i
  | 0, _ => by simp [spD]
  | i + 1, h => by
    rw [spD_take ns i h]
    have h1 := spD_len ns i (by omega)
    have h2 := length_putK (spD (ns.take i)) (Sum.inr ns[i] : Key) (V.int (i : Int))
    omega
/-- the last place of a name is what the dict tells -/
theorem spD_at (ns : List Str) : ∀ k, k ≤ ns.length → ∀ (i : Nat) (u : Str), i < k → ns[i]? = some u → (∀ j, i < j → j < k → ns[j]? ≠ some u) → valV (spD (ns.take k)) (Sum.inr u : Key) = some (V.int (i : Int))
  | 0, _, i, u, h, _, _ => by omega
  | k + 1, hk, i, u, h, hi, hl => by
    rw [spD_take ns k hk, valV_put]
    by_cases e : i = k
    · subst e
      have eu : ns[i] = u := by rw [List.getElem?_eq_getElem hk] at hi; exact Option.some.inj hi
      rw [eu, if_pos rfl]
    · have hne : ¬ (Sum.inr u : Key) = Sum.inr ns[k] := fun z => hl k (by omega) (by omega) (by rw [List.getElem?_eq_getElem hk]; exact congrArg some (Sum.inr.inj z).symm)
      rw [if_neg hne]
      exact spD_at ns k (by omega) i u (by omega) hi fun j h1 h2 => hl j h1 (by omega)
section
variable {P : Program} {w : World} {K : PySem.W.Frag} {mg : Str → Option Value} {base : Heap} {f C : Addr} {fd : FuncData} {k : Nat}
theorem sc_Table___init__ : FnScope ["self", "names", "rows", "spots", "spot", "name"] ["self", "names", "rows", "spots"] (defScope s_Table___init__) := ⟨rfl, rfl, rfl, by decide +kernel, rfl, by decide +kernel, by decide +kernel⟩
theorem ok_init (F : FunD K "__init__" "Table.__init__" (defArgs s_Table___init__) (defBody s_Table___init__) (defScope s_Table___init__) [.non] [] f fd) (G : Facts mg) (T : TCls K C) : FnOk P w K mg base CX0 1 f fd ["self", "names", "rows", "spots"] (spTable C) := by
  refine F.ok sc_Table___init__ (fun vs H Q E h => ?_) (fun cdv A outer s H vs Q E hr h => ?_)
  · obtain ⟨p, dx, an, ar, ns, sv, rfl, _⟩ := h
    rfl
  · obtain ⟨p, dx, an, ar, ns, sv, rfl, hp, han, hlen, hk⟩ := h
    have hu := hu_of hr
    refine ⟨_, PSs.nox (pss_cons (ps_fld (pv 0) (pv 1) rfl)
      (pss_cons (ps_fld (pv 0) (pv 2) rfl)
      (pss_one (ps_fld (pv 0) (pe_ifExp (pt_cmpR op_isN (pv 3) pe_non (nomark _)) (pe_dc (own := [("spot", 4), ("name", 5)]) (g := gTup K 2 (gCons (gName 4) (gCons (gName 5) (gNil)))) (tt := tYes) rfl sc_Table___init__.nd  (kpi_enumT K (by rfl) G.enumerate_ (pa_cons (pv 1) pa_nil)) (blkOk_by (by kernel_rfl)) (fun _ _ _ _ _ => (kpg_tup K rfl (pgs_cons (pg_name (i := 4) sc_Table___init__.nd rfl (by first | exact .inl rfl | exact .inr rfl)) (pgs_cons (pg_name (i := 5) sc_Table___init__.nd rfl (by first | exact .inl rfl | exact .inr rfl)) pgs_nil)))) (fun _ _ _ _ _ => pts_nil) (fun _ _ _ _ _ => (pv 5)) (fun _ _ _ _ _ => (pv 4))) (pv 3)) rfl)))), ?_⟩
    have pan : an ≠ p := ne_of han hp (by intro z; cases z)
    -- self.names = names; self.rows = rows
    refine ⟨_, rfl, _, rfl, p, C, dx, [], rfl, hp, T.cl, T.nN, (by show 0 < 1000; decide), ?_⟩
    refine ⟨_, rfl, _, rfl, p, C, dx, _, rfl, upd_same, T.cl, T.nR, (by show 1 < 1000; decide), ?_⟩
    -- spots is None
    refine ⟨_, rfl, rfl, _, rfl, ?_⟩
    rcases hk with ⟨rfl, hk⟩ | ⟨d, rfl, hk⟩
    · refine iteT ?_
      -- {name: spot for spot, name in enumerate(names)}
      have pH : ∀ o, (upd (upd H p (.ins C dx (putF "names" (.ref an) []))) p o) an = some (.tup (ns.map V.str)) := fun o => by rw [upd_ne pan, upd_ne pan]; exact han
      refine ⟨_, rfl, an, ns.map V.str, rfl, sqt (pH _), fun D hD => ?_⟩
      have hDp : p ≠ D := ne_of_none upd_same hD
      have hD0 : H D = none := by
        rw [upd_ne hDp.symm, upd_ne hDp.symm] at hD
        exact hD
      generalize hB : upd (upd H p (.ins C dx (putF "names" (.ref an) []))) p (.ins C dx (putF "rows" (.ref ar) (putF "names" (.ref an) []))) = B at hD pH ⊢
      have hBp : B p = some (.ins C dx (putF "rows" (.ref ar) (putF "names" (.ref an) []))) := by rw [← hB]; exact upd_same
      have hBo : ∀ b o, H b = some o → b ≠ p → B b = some o := fun b o e hb => by rw [← hB, upd_ne hb, upd_ne hb]; exact e
      have hBan := hBo an _ han pan
      refine dc_it (walk_enumT (K := K) (a := an) (xs := ns.map V.str)) (fun i H' => Same B H' ∧ H' D = some (.dK (spD (ns.take i)))) ⟨same_upd hD, upd_same⟩ (fun i H' _ ⟨s1, _⟩ => sqt (s1 _ _ hBan)) ?_ ?_
      · rintro i x H1 H' hi ⟨s1, d1⟩ ⟨T', x1, x2, rfl, nT, rfl, e1, e2⟩
        cases e1
        have hil : i < ns.length := by simpa using hi
        have e2 : x2 = V.str ns[i] := by
          have e2 : (ns.map V.str)[i]? = some x2 := e2
          rw [List.getElem?_map, List.getElem?_eq_getElem hil] at e2
          exact (Option.some.inj e2).symm
        subst e2
        have nTD : D ≠ T' := ne_of_none d1 nT
        refine ⟨T', _, rfl, sqt upd_same, rfl, _, _, rfl, _, _, rfl, rfl, rfl, _, rfl, _, rfl, spD (ns.take i), Sum.inr ns[i], rfl, by rw [upd_ne nTD]; exact d1, ?_, same_mut (s1.trans (same_upd nT)) hD, ?_⟩
        · have := spD_len ns i (by omega)
          exact szlt (by omega)
        · rw [upd_same, spD_take ns i hil]
      · rintro H' ⟨s1, d1⟩
        rw [List.length_map, List.take_length] at d1
        have h1p := s1 _ _ hBp
        have nDp : D ≠ p := hDp.symm
        refine ⟨_, rfl, p, C, dx, _, rfl, h1p, T.cl, T.nS, (by show 2 < 1000; decide), ?_⟩
        refine hk D _ hD0 (by rw [upd_ne nDp]; exact d1) (by rw [upd_same, flds_put]) fun b o e hb => ?_
        rw [upd_ne hb]
        exact s1 _ _ (hBo b o e hb)
    · refine iteF ?_
      refine ⟨_, rfl, _, rfl, p, C, dx, _, rfl, upd_same, T.cl, T.nS, (by show 2 < 1000; decide), ?_⟩
      refine hk _ (by rw [upd_same, flds_put]) fun b o e hb => ?_
      rw [upd_ne hb, upd_ne hb, upd_ne hb]
      exact e
end
end K1

namespace K1
open PySem PySem.Spec PyProof.Rows L2 Ls NdefX
theorem ok_BadDifference {P : Program} {w : World} {K : PySem.W.Frag} {mg : Str → Option Value} {base : Heap} {C f cc cf : Addr} {fd : FuncData}
    (U : SupC P K C f cc ⟨"__init__", "BadDifference.__init__", defArgs s_BadDifference___init__, defBody s_BadDifference___init__, defScope s_BadDifference___init__, [(("__class__" : Str), cc)], cf⟩ fd) (no : PySem.W.findIn K (.ref C) "place" = some none) :
    FnOk P w K mg base CX0 1 f fd ["self", "place"] (spExc1 C "place") :=
  ok_exc1 U rfl (nscope_by (show nscB _ _ _ (defScope s_BadDifference___init__) = true by decide +kernel)) rfl rfl rfl (fun L => ⟨_, rfl⟩) (fun L => rfl) (fun L => rfl) (fun L => rfl) (by decide) (by decide) no
theorem ok_BadName {P : Program} {w : World} {K : PySem.W.Frag} {mg : Str → Option Value} {base : Heap} {C f cc cf : Addr} {fd : FuncData}
    (U : SupC P K C f cc ⟨"__init__", "BadName.__init__", defArgs s_BadName___init__, defBody s_BadName___init__, defScope s_BadName___init__, [(("__class__" : Str), cc)], cf⟩ fd) (no : PySem.W.findIn K (.ref C) "name" = some none) :
    FnOk P w K mg base CX0 1 f fd ["self", "name"] (spExc1 C "name") :=
  ok_exc1 U rfl (nscope_by (show nscB _ _ _ (defScope s_BadName___init__) = true by decide +kernel)) rfl rfl rfl (fun L => ⟨_, rfl⟩) (fun L => rfl) (fun L => rfl) (fun L => rfl) (by decide) (by decide) no
end K1

namespace K1
open PySem PySem.Spec PyProof.Rows L2 Ls
/-! ### tables -/
def rowV (ns : List Str) (R : Df.Tab Str) (u : Str) : List V := ns.map fun v => V.int (R u v)
/-- N: the addresses that a table may use -/
def RowIs (N : Addr → Prop) (H : Hp) (ns : List Str) (R : Df.Tab Str) : V → Str → Prop := fun v u => ∃ r, v = V.ref r ∧ N r ∧ H r = some (.lst (rowV ns R u))
theorem RowIs.keep {N : Addr → Prop} {H H' : Hp} (s : ∀ a o, N a → H a = some o → H' a = some o) {ns : List Str} {R : Df.Tab Str} {v : V} {u : Str} (h : RowIs N H ns R v u) : RowIs N H' ns R v u := h.imp fun _ q => ⟨q.1, q.2.1, s _ _ q.2.1 q.2.2⟩
theorem RowIs.mono {N : Addr → Prop} {H H' : Hp} (s : Same H H') {ns : List Str} {R : Df.Tab Str} {v : V} {u : Str} (h : RowIs N H ns R v u) : RowIs N H' ns R v u := h.keep fun a o _ => s a o
/-- the names as they are shown, beside the labels ns: alike, but that a name told twice has the empty label at its first place -/
structure Lab (ns shown : List Str) : Prop where
  nd : ns.Nodup
  len : shown.length = ns.length
  at_ : ∀ (i : Nat) u, ns[i]? = some u → u ≠ "" → shown[i]? = some u ∧ ∀ j, i < j → shown[j]? ≠ some u
  same : ("" : Str) ∉ ns → shown = ns
theorem Lab.of {ns : List Str} (h : ns.Nodup) : Lab ns ns := ⟨h, rfl, fun i u hi _ => ⟨hi, fun j hj e => by
  obtain ⟨h1, e1⟩ := List.getElem?_eq_some_iff.mp hi
  obtain ⟨h2, e2⟩ := List.getElem?_eq_some_iff.mp e
  have := (List.getElem_inj h).mp (e1.trans e2.symm)
  omega⟩, fun _ => rfl⟩
def Spots (ns : List Str) (sp : List (Key × V)) : Prop := ∀ (i : Nat) u, ns[i]? = some u → u ≠ "" → valV sp (Sum.inr u : Key) = some (V.int (i : Int))
theorem Lab.spots {ns shown : List Str} (h : Lab ns shown) : Spots ns (spD shown) := fun i u hi hu => by
  obtain ⟨h1, h2⟩ := h.at_ i u hi hu
  have := spD_at shown shown.length (Nat.le_refl _) i u (List.getElem?_eq_some_iff.mp h1).1 h1 fun j h3 _ => h2 j h3
  rwa [List.take_length] at this
structure TabAt (N : Addr → Prop) (C : Addr) (H : Hp) (t : Addr) (ns : List Str) (R : Df.Tab Str) : Prop where
  ex : ∃ (dx an ar asp : Addr) (rs : List V) (shown : List Str) (sp : List (Key × V)), (N t ∧ N an ∧ N ar ∧ N asp) ∧ H t = some (.ins C dx (flds an ar asp)) ∧ H an = some (.tup (shown.map V.str)) ∧ H ar = some (.lst rs) ∧ Paired (RowIs N H ns R) rs ns ∧ H asp = some (.dK sp) ∧ Spots ns sp ∧ shown.length = ns.length ∧ (("" : Str) ∉ ns → shown = ns)
theorem TabAt.keep {N : Addr → Prop} {C : Addr} {H H' : Hp} {t : Addr} {ns : List Str} {R : Df.Tab Str} (s : ∀ a o, N a → H a = some o → H' a = some o) (h : TabAt N C H t ns R) : TabAt N C H' t ns R := by
  have ⟨dx, an, ar, asp, rs, shown, sp, hN, h1, h2, h3, h4, h5, h6⟩ := h.ex
  exact ⟨dx, an, ar, asp, rs, shown, sp, hN, s _ _ hN.1 h1, s _ _ hN.2.1 h2, s _ _ hN.2.2.1 h3, pmono (fun _ _ q => q.keep s) h4, s _ _ hN.2.2.2 h5, h6⟩
theorem TabAt.mono {N : Addr → Prop} {C : Addr} {H H' : Hp} {t : Addr} {ns : List Str} {R : Df.Tab Str} (s : Same H H') (h : TabAt N C H t ns R) : TabAt N C H' t ns R := h.keep fun a o _ => s a o
theorem ix_of {ns : List Str} {u : Str} (h : u ∈ ns) : ∃ i, ns[i]? = some u ∧ i < ns.length := by
  obtain ⟨i, hi, e⟩ := List.mem_iff_getElem.mp h
  exact ⟨i, by rw [List.getElem?_eq_getElem hi, e], hi⟩
def spBlank (C : Addr) : Sp := fun vs H Q _ => ∃ (N : Addr → Prop) (a : Addr) (nms ns : List Str), vs = [.ref a] ∧ (∀ p, H p = none → N p) ∧ H a = some (.lst (nms.map V.str)) ∧ Lab ns (("0" : Str) :: nms) ∧ nms.length ≤ 900 ∧
  ∀ H' t, Same H H' → TabAt N C H' t ns Df.blankR → Q (.ref t) H'
section
variable {P : Program} {w : World} {K : PySem.W.Frag} {mg : Str → Option Value} {base : Heap} {f C : Addr} {fd : FuncData} {k : Nat}
theorem sc_blank : FnScope ["names", "told", "many", "v", "u"] ["names"] (defScope s_blank) := ⟨rfl, rfl, rfl, by decide +kernel, rfl, by decide +kernel, by decide +kernel⟩
theorem ok_blank (F : FnP K "blank" s_blank [] f fd) (G : Facts mg) (M_Table : Mak P w K mg base 1 "Table" C (spTable C) [.non]) : FnOk P w K mg base CX0 3 f fd ["names"] (spBlank C) := by
  refine F.ok sc_blank (fun vs H Q E h => ?_) (fun cdv A outer s H vs Q E hr h => ?_)
  · obtain ⟨N, a, nms, ns, rfl, _⟩ := h
    rfl
  · obtain ⟨N, a, nms, ns, rfl, hN, ha, lab, hlen, hk⟩ := h
    have hnd := lab.nd
    have hu := hu_of hr
    refine ⟨_, PSs.nox (pss_cons (ps_set (i := 1) sc_blank.nd rfl (.inl rfl) (pe_op kCatT (pe_tup (pa_cons pe_str pa_nil)) (pe_callTy kTuple (by rfl) G.tuple_ (by decide +kernel) (pa_cons (pv 0) pa_nil))))
      (pss_cons (ps_set (i := 2) sc_blank.nd rfl (.inr rfl) (pe_callB (kLen K) (by rfl) G.len_ PySem.boot_len (pa_cons (pv 1) pa_nil)))
      (pss_one (ps_ret (pe_mk M_Table hr (by decide) (by rfl) (pa_cons (pv 1) (pa_cons (pe_lc (own := [("u", 4)]) (g := gName 4) (tt := tYes) rfl sc_blank.nd  (pi_range1 (by rfl) G.range_ (pa_cons (pv 2) pa_nil)) (blkOk_by (by kernel_rfl)) (fun _ _ _ _ _ => (pg_name (i := 4) sc_blank.nd rfl (by first | exact .inl rfl | exact .inr rfl))) (fun _ _ _ _ _ => pts_nil) (fun _ _ _ _ _ => (pe_lc (own := [("v", 3)]) (g := gName 3) (tt := tYes) rfl sc_blank.nd  (pi_range1 (by rfl) G.range_ (pa_cons (pv 2) pa_nil)) (blkOk_by (by kernel_rfl)) (fun _ _ _ _ _ => (pg_name (i := 3) sc_blank.nd rfl (by first | exact .inl rfl | exact .inr rfl))) (fun _ _ _ _ _ => pts_nil) (fun _ _ _ _ _ => (pe_ifExp (pt_cmpR op_eq (pv 4) (pv 3) (nomark _)) pe_int (pe_gi (by rfl) G.FAR)))))) pa_nil))))))), ?_⟩
    -- told = ("0",) + tuple(names)
    refine ⟨by show 1 ≤ sizeLine; decide, fun p np => ?_⟩
    have s1 := same_upd (o := .tup [.str "0"]) np
    refine ⟨_, rfl, a, nms.map V.str, rfl, .inl (s1 _ _ ha), fun H2 q s2 nq hq => ?_⟩
    refine ⟨p, q, [.str "0"], nms.map V.str, rfl, rfl, s2 _ _ upd_same, hq, szl (by simp; omega), fun H3 an s3 nan han => ?_⟩
    have s13 : Same H H3 := s1.trans (s2.trans s3)
    have Nan : N an := by
      have nap : ∀ b o, H b = some o → (upd H p (.tup [.str "0"])) b = some o := s1
      have Nq : q ≠ a → N q := fun z => (nq.elim (fun e => hN _ (s1.free e)) fun e => absurd e z)
      have qa : q ≠ a := fun z => by
        have := s2 _ _ (s1 _ _ ha)
        rw [← z, hq] at this
        cases this
      rcases nan with e | e | e
      · exact hN _ ((s1.trans s2).free e)
      · rw [e]; exact hN _ np
      · rw [e]; exact Nq qa
    have han : H3 an = some (.tup ((("0" : Str) :: nms).map V.str)) := han
    have hl : ns.length ≤ 901 := by rw [← lab.len]; simp; omega
    -- many = len(told)
    refine ⟨_, rfl, an, _, rfl, .inr (sqt han), ?_⟩
    rw [List.length_map, lab.len]
    -- the rows
    refine ⟨_, rfl, _, rfl, (ns.length : Int), rfl, by omega, by omega, fun D hD => ?_⟩
    refine lc_it (walk_range (lo := 0) (n := ((ns.length : Int)).toNat)) (fun i H' => ∃ rs, Same H3 H' ∧ H' D = some (.lst rs) ∧ Paired (fun v u => v ≠ V.ref D ∧ RowIs N H' ns Df.blankR v u) rs (ns.take i)) ⟨[], same_upd hD, upd_same, .nil⟩ (fun _ _ _ _ => True.intro) ?_ ?_
    · rintro i x H4 H' hi ⟨rs, s4, hd, hp⟩ ⟨rfl, rfl⟩
      have hil : i < ns.length := by omega
      refine ⟨rfl, ?_⟩
      refine ⟨_, rfl, (ns.length : Int), rfl, by omega, by omega, fun D2 hD2 => ?_⟩
      have nDD : D ≠ D2 := ne_of_none hd hD2
      refine lc_it (walk_range (lo := 0) (n := ((ns.length : Int)).toNat)) (fun k H'' => Same H' H'' ∧ H'' D2 = some (.lst ((ns.take k).map fun v => V.int (Df.blankR ns[i] v)))) ⟨same_upd hD2, upd_same⟩ (fun _ _ _ _ => True.intro) ?_ ?_
      · rintro k x H5 H'' hk2 ⟨s5, hd2⟩ ⟨rfl, rfl⟩
        have hkl : k < ns.length := by omega
        have hlen2 : ((ns.take k).map fun v => V.int (Df.blankR ns[i] v)).length < sizeLine := by
          rw [List.length_map, List.length_take]
          exact szlt (by omega)
        have htk : (ns.take (k + 1)).map (fun v => V.int (Df.blankR ns[i] v)) = (ns.take k).map (fun v => V.int (Df.blankR ns[i] v)) ++ [V.int (Df.blankR ns[i] ns[k])] := by
          rw [List.take_add_one, List.getElem?_eq_getElem hkl, List.map_append]
          rfl
        refine ⟨rfl, _, rfl, _, rfl, rfl, _, rfl, ?_⟩
        by_cases hik : i = k
        · subst hik
          rw [decide_eq_true rfl]
          refine iteT ⟨_, hd2, hlen2, same_mut s5 hD2, ?_⟩
          rw [upd_same, htk]
          have e : Df.blankR ns[i] ns[i] = 0 := if_pos rfl
          rw [e]
        · have hne : ¬ V.int ((0 : Int) + (i : Int)) = V.int ((0 : Int) + (k : Int)) := fun z => hik (by injection z with z; omega)
          rw [decide_eq_false hne]
          refine iteF ⟨_, hd2, hlen2, same_mut s5 hD2, ?_⟩
          rw [upd_same, htk]
          have e : Df.blankR ns[i] ns[k] = Df.FARI := if_neg fun z => hik ((List.getElem_inj hnd).mp z)
          rw [e]
          rfl
      · rintro H5 ⟨s5, hd2⟩
        refine ⟨rs, s5 _ _ hd, ?_, rs ++ [.ref D2], same_mut (s4.trans s5) hD, upd_same, ?_⟩
        · rw [plen hp, List.length_take]
          exact szlt (by omega)
        · rw [List.take_add_one, List.getElem?_eq_getElem hil]
          have sm : ∀ v u, (v ≠ V.ref D ∧ RowIs N H' ns Df.blankR v u) → v ≠ V.ref D ∧ RowIs N (upd H5 D (.lst (rs ++ [.ref D2]))) ns Df.blankR v u := fun v u ⟨e0, r, e1, eN, e2⟩ =>
            ⟨e0, r, e1, eN, by rw [upd_ne (fun z => e0 (by rw [e1, z]))]; exact s5 _ _ e2⟩
          refine (pmono sm hp).snoc ⟨fun z => nDD (by injection z with z; exact z.symm), D2, rfl, hN _ ((s13.trans s4).free hD2), ?_⟩
          rw [upd_ne nDD.symm, hd2]
          rw [Int.toNat_natCast, List.take_length]
          rfl
    · rintro H4 ⟨rs, s4, hd, hp⟩
      rw [Int.toNat_natCast, List.take_length] at hp
      intro x dx nx ndx nex
      have s5 : Same H4 (upd (upd H4 dx (.own x)) x (.ins C dx [])) := fun b o e => by rw [upd_ne (ne_of_none e nx), upd_ne (ne_of_none e ndx)]; exact e
      refine ⟨x, dx, an, D, ("0" : Str) :: nms, .non, rfl, upd_same, s5 _ _ (s4 _ _ han), by rw [lab.len]; omega, .inl ⟨rfl, fun d H' nd hd' hx ho => ⟨rfl, ?_⟩⟩⟩
      have s6 : Same H4 H' := fun b o e => ho b o (s5 b o e) (ne_of_none e nx)
      exact hk H' x (s13.trans (s4.trans s6)) ⟨dx, an, D, d, rs, ("0" : Str) :: nms, _, ⟨hN _ ((s13.trans s4).free nx), Nan, hN _ (s13.free hD), hN _ (((s13.trans s4).trans s5).free nd)⟩, hx, s6 _ _ (s4 _ _ han), s6 _ _ hd, pmono (fun _ _ q => RowIs.mono s6 q.2) hp, hd', lab.spots, lab.len, lab.same⟩
end
end K1

namespace K1
open PySem PySem.Spec PyProof.Rows L2 Ls
theorem dget {H : Hp} {a : Addr} {kvs : List (Key × V)} {n : Str} {v : V} (h : H a = some (.dK kvs)) (e : valV kvs (Sum.inr n : Key) = some v) : DGet H a (.str n) (some v) := by
  have := DGet.k (k := Sum.inr n) h
  rw [e] at this
  exact this
theorem row_at {ns : List Str} {R : Df.Tab Str} {u v : Str} {j : Nat} (h : ns[j]? = some v) : (rowV ns R u)[j]? = some (V.int (R u v)) := by
  unfold rowV
  rw [List.getElem?_map, h]
  rfl
theorem rowV_len (ns : List Str) (R : Df.Tab Str) (u : Str) : (rowV ns R u).length = ns.length := List.length_map _
def spMore (C : Addr) : Sp := fun vs H Q _ => ∃ (N : Addr → Prop) (t : Addr) (l r : Str) (c : Int) (ns : List Str) (R : Df.Tab Str), vs = [.ref t, .str l, .str r, .int c] ∧ (∀ p, H p = none → N p) ∧ TabAt N C H t ns R ∧ l ∈ ns ∧ r ∈ ns ∧ l ≠ "" ∧ r ≠ "" ∧ ns.Nodup ∧ ns.length ≤ 1000 ∧
  (∀ R', Df.moreR R l r c = some R' → ∀ H' t', Same H H' → TabAt N C H' t' ns R' → Q (.ref t') H') ∧ (Df.moreR R l r c = none → Q .non H)
section
variable {P : Program} {w : World} {K : PySem.W.Frag} {mg : Str → Option Value} {base : Heap} {f C : Addr} {fd : FuncData} {k : Nat}
theorem sc_more : FnScope ["table", "left", "right", "limit", "i", "j", "rows", "ending", "c", "b", "row"] ["table", "left", "right", "limit"] (defScope s_more) := ⟨rfl, rfl, rfl, by decide +kernel, rfl, by decide +kernel, by decide +kernel⟩
theorem ok_more (F : FnP K "more" s_more [] f fd) (G : Facts mg) (T : TCls K C) (M_Table : Mak P w K mg base 1 "Table" C (spTable C) []) : FnOk P w K mg base CX0 3 f fd ["table", "left", "right", "limit"] (spMore C) := by
  refine F.ok sc_more (fun vs H Q E h => ?_) (fun cdv A outer s H vs Q E hr h => ?_)
  · obtain ⟨N, t, l, r, c, ns, R, rfl, _⟩ := h
    rfl
  · obtain ⟨N, t, l, r, c, ns, R, rfl, hN, ⟨dx, an, ar, asp, rs, shown, sp, hNs, ht, han, har, hrs, hsp, hspo, hsl, hss⟩, hl, hr', hl0, hr0, hnd, hlen, hk, hkn⟩ := h
    have hu := hu_of hr
    obtain ⟨i, hi, hil⟩ := ix_of hl
    obtain ⟨j, hj, hjl⟩ := ix_of hr'
    obtain ⟨vi, hvi, ri, rfl, _, hri⟩ := pget hrs hi
    obtain ⟨vj, hvj, rj, rfl, _, hrj⟩ := pget hrs hj
    refine ⟨_, PSs.nox (pss_cons (ps_set (i := 4) sc_more.nd rfl (.inr rfl) (pe_dget hu (kfld K (pv 0)) (pv 1) (fun _ _ => rfl)))
      (pss_cons (ps_set (i := 5) sc_more.nd rfl (.inl rfl) (pe_dget hu (kfld K (pv 0)) (pv 2) (fun _ _ => rfl)))
      (pss_cons (ps_set (i := 6) sc_more.nd rfl (.inl rfl) (kfld K (pv 0)))
      (pss_cons (ps_if (pt_cmpR op_le (pe_ix (kIxL K) (pe_ix (kIxL K) (pv 6) (pv 4) (fun _ _ => rfl)) (pv 5) (fun _ _ => rfl)) (pv 3) (nomark _)) (pss_one (ps_ret (pv 0))) pss_nil)
      (pss_cons (ps_if (pt_cmpR op_lt (pe_op op_add (pe_ix (kIxL K) (pe_ix (kIxL K) (pv 6) (pv 5) (fun _ _ => rfl)) (pv 4) (fun _ _ => rfl)) (pv 3)) pe_int (nomark _)) (pss_one (ps_ret pe_non)) pss_nil)
      (pss_cons (ps_set (i := 7) sc_more.nd rfl (.inr rfl) (pe_lc (own := [("c", 8)]) (g := gName 8) (tt := tYes) rfl sc_more.nd  (kpi_list K (pe_ix (kIxL K) (pv 6) (pv 5) (fun _ _ => rfl))) (blkOk_by (by kernel_rfl)) (fun _ _ _ _ _ => (pg_name (i := 8) sc_more.nd rfl (by first | exact .inl rfl | exact .inr rfl))) (fun _ _ _ _ _ => pts_nil) (fun _ _ _ _ _ => (pe_op op_add (pv 3) (pv 8)))))
      (pss_one (ps_ret (pe_mk M_Table hr (by decide) (by rfl) (pa_cons (kfld K (pv 0)) (pa_cons (pe_lc (own := [("row", 10)]) (g := gName 10) (tt := tYes) rfl sc_more.nd  (kpi_list K (pv 6)) (blkOk_by (by kernel_rfl)) (fun _ _ _ _ _ => (pg_name (i := 10) sc_more.nd rfl (by first | exact .inl rfl | exact .inr rfl))) (fun _ _ _ _ _ => pts_nil) (fun _ _ _ _ _ => (pe_ifExp (pt_cmpR op_gt (pe_ix (kIxL K) (pv 10) (pv 4) (fun _ _ => rfl)) (pe_gi (by rfl) G.HALF) (nomark _)) (pv 10) (pe_lc (own := [("b", 9), ("c", 8)]) (g := gTup K 2 (gCons (gName 9) (gCons (gName 8) (gNil)))) (tt := tYes) rfl sc_more.nd  (kpi_zip K (by rfl) G.zip_ (pa_cons (pv 10) (pa_cons (pv 7) pa_nil))) (blkOk_by (by kernel_rfl)) (fun _ _ _ _ _ => (kpg_tup K rfl (pgs_cons (pg_name (i := 9) sc_more.nd rfl (by first | exact .inl rfl | exact .inr rfl)) (pgs_cons (pg_name (i := 8) sc_more.nd rfl (by first | exact .inl rfl | exact .inr rfl)) pgs_nil)))) (fun _ _ _ _ _ => pts_nil) (fun _ _ _ _ _ => (pe_ifExp (pt_cmpR op_le (pv 9) (pe_op op_add (pe_ix (kIxL K) (pv 10) (pv 4) (fun _ _ => rfl)) (pv 8)) (nomark _)) (pv 9) (pe_op op_add (pe_ix (kIxL K) (pv 10) (pv 4) (fun _ _ => rfl)) (pv 8)))))))) (pa_cons (kfld K (pv 0)) pa_nil)))))))))))), ?_⟩
    -- i, j, rows
    refine ⟨_, rfl, t, C, dx, _, _, rfl, ht, T.cl, T.nS, flds_spots _ _ _, _, rfl, asp, _, rfl, dget hsp (hspo _ _ hi hl0), ?_⟩
    refine ⟨_, rfl, t, C, dx, _, _, rfl, ht, T.cl, T.nS, flds_spots _ _ _, _, rfl, asp, _, rfl, dget hsp (hspo _ _ hj hr0), ?_⟩
    refine ⟨_, rfl, t, C, dx, _, _, rfl, ht, T.cl, T.nR, flds_rows _ _ _, ?_⟩
    -- rows[i][j] <= limit
    refine ⟨_, rfl, _, rfl, ar, rs, _, _, rfl, rfl, sq har, atI_nat hvi, _, rfl, ri, _, _, _, rfl, rfl, sq hri, atI_nat (row_at hj), _, rfl, _, _, rfl, rfl, _, rfl, ?_⟩
    by_cases h1 : R l r ≤ c
    · rw [decide_eq_true h1]
      refine iteT ⟨_, rfl, ?_⟩
      exact hk R (by unfold Df.moreR; rw [if_pos h1]) H t (Same.refl H) ⟨dx, an, ar, asp, rs, shown, sp, hNs, ht, han, har, hrs, hsp, hspo, hsl, hss⟩
    rw [decide_eq_false h1]
    refine iteF ?_
    -- rows[j][i] + limit < 0
    refine ⟨_, rfl, _, rfl, ar, rs, _, _, rfl, rfl, sq har, atI_nat hvj, _, rfl, rj, _, _, _, rfl, rfl, sq hrj, atI_nat (row_at hi), _, rfl, _, _, rfl, rfl, _, _, rfl, rfl, _, rfl, ?_⟩
    by_cases h2 : R r l + c < 0
    · rw [decide_eq_true h2]
      refine iteT ?_
      exact hkn (by unfold Df.moreR; rw [if_neg h1, if_pos h2])
    rw [decide_eq_false h2]
    refine iteF ?_
    have hm : Df.moreR R l r c = some (Df.thru R l r c) := by unfold Df.moreR; rw [if_neg h1, if_neg h2]
    -- ending
    refine ⟨_, rfl, _, rfl, ar, rs, _, _, rfl, rfl, sq har, atI_nat hvj, rj, rfl, ⟨_, sq hrj⟩, fun D0 hD0 => ?_⟩
    refine lc_it (walk_list (K := K) (a := rj) (xs := rowV ns R r)) (fun m H' => Same H H' ∧ H' D0 = some (.lst ((ns.take m).map fun v => V.int (c + R r v)))) ⟨same_upd hD0, upd_same⟩ (fun m H' _ ⟨s1, _⟩ => sq (s1 _ _ hrj)) ?_ ?_
    · rintro m x H1 H' hmi ⟨s1, d1⟩ ⟨rfl, ex⟩
      rw [rowV_len] at hmi
      rw [row_at (List.getElem?_eq_getElem hmi)] at ex
      cases ex
      refine ⟨rfl, _, rfl, _, rfl, _, _, rfl, rfl, _, d1, ?_, same_mut s1 hD0, ?_⟩
      · rw [List.length_map, List.length_take]
        exact szlt (by omega)
      · rw [upd_same, List.take_add_one, List.getElem?_eq_getElem hmi, List.map_append]
        rfl
    rintro H1 ⟨s1, d1⟩
    rw [rowV_len, List.take_length] at d1
    have hend : ∀ (m : Nat) v, ns[m]? = some v → (ns.map fun v => V.int (c + R r v))[m]? = some (V.int (c + R r v)) := fun m v e => by rw [List.getElem?_map, e]; rfl
    -- the new rows
    refine ⟨_, rfl, t, C, dx, _, _, rfl, s1 _ _ ht, T.cl, T.nN, flds_names _ _ _, ?_⟩
    refine ⟨_, rfl, ar, rfl, ⟨_, sq (s1 _ _ har)⟩, fun D hD => ?_⟩
    refine lc_it (walk_list (K := K) (a := ar) (xs := rs)) (fun m H' => ∃ out, Same H1 H' ∧ H' D = some (.lst out) ∧ Paired (fun v u => v ≠ V.ref D ∧ RowIs N H' ns (Df.thru R l r c) v u) out (ns.take m)) ⟨[], same_upd hD, upd_same, .nil⟩ (fun m H' _ ⟨_, s2, _⟩ => sq (s2 _ _ (s1 _ _ har))) ?_ ?_
    · rintro m x H2 H' hmi ⟨out, s2, d2, hp⟩ ⟨rfl, ex⟩
      rw [plen hrs] at hmi
      obtain ⟨vm, hvm, rm, rfl, hNrm, hrm⟩ := pget hrs (List.getElem?_eq_getElem hmi)
      rw [hvm] at ex
      cases ex
      have hrm2 := s2 _ _ (s1 _ _ hrm)
      have rmD : rm ≠ D := ne_of_none (s1 _ _ hrm) hD
      have hout : out.length < sizeLine := by
        rw [plen hp, List.length_take]
        exact szlt (by omega)
      have fin : ∀ H3 q, Same H' H3 → q ≠ D → N q → H3 q = some (.lst (rowV ns (Df.thru R l r c) ns[m])) → ∃ acc, H3 D = some (.lst acc) ∧ acc.length < sizeLine ∧ ∃ out, Same H1 (upd H3 D (.lst (acc ++ [V.ref q]))) ∧ (upd H3 D (.lst (acc ++ [V.ref q]))) D = some (.lst out) ∧
          Paired (fun v u => v ≠ V.ref D ∧ RowIs N (upd H3 D (.lst (acc ++ [V.ref q]))) ns (Df.thru R l r c) v u) out (ns.take (m + 1)) := fun H3 q s3 nq Nq hq => by
        refine ⟨out, s3 _ _ d2, hout, out ++ [.ref q], same_mut (s2.trans s3) hD, upd_same, ?_⟩
        rw [List.take_add_one, List.getElem?_eq_getElem hmi]
        have sm : ∀ v u, (v ≠ V.ref D ∧ RowIs N H' ns (Df.thru R l r c) v u) → v ≠ V.ref D ∧ RowIs N (upd H3 D (.lst (out ++ [.ref q]))) ns (Df.thru R l r c) v u := fun v u ⟨e0, r', e1, eN, e2⟩ =>
          ⟨e0, r', e1, eN, by rw [upd_ne (fun z => e0 (by rw [e1, z]))]; exact s3 _ _ e2⟩
        exact (pmono sm hp).snoc ⟨fun z => nq (by injection z), q, rfl, Nq, by rw [upd_ne nq]; exact hq⟩
      refine ⟨rfl, _, rfl, _, rfl, rm, _, _, _, rfl, rfl, sq hrm2, atI_nat (row_at hi), _, _, rfl, rfl, _, rfl, ?_⟩
      by_cases hinf : Df.HALFI < R ns[m] l
      · rw [show decide ((100000000000000000000000000000 : Int) < R ns[m] l) = true from decide_eq_true hinf]
        refine iteT ⟨_, rfl, ?_⟩
        refine fin _ rm (Same.refl _) rmD hNrm ?_
        rw [hrm2]
        congr 2
        exact List.map_congr_left fun v _ => by unfold Df.thru; rw [if_pos hinf]
      · rw [show decide ((100000000000000000000000000000 : Int) < R ns[m] l) = false from decide_eq_false hinf]
        refine iteF ?_
        -- the inner row
        have hd1 := s2 _ _ d1
        refine ⟨_, rfl, _, rfl, rm, D0, _, _, rfl, sq hrm2, sq hd1, fun D2 hD2 => ?_⟩
        have nDD : D ≠ D2 := ne_of_none d2 hD2
        refine lc_it (walk_zip (K := K) (a := rm) (b := D0) (xs := rowV ns R ns[m]) (ys := ns.map fun v => V.int (c + R r v)) (n := ns.length) (by rw [rowV_len, List.length_map, Nat.min_self]))
          (fun n H4 => Same H' H4 ∧ H4 D2 = some (.lst ((ns.take n).map fun v => V.int (Df.thru R l r c ns[m] v)))) ⟨same_upd hD2, upd_same⟩ (fun n H4 _ ⟨s4, _⟩ => ⟨sq (s4 _ _ hrm2), sq (s4 _ _ hd1)⟩) ?_ ?_
        · rintro n x H4 H'' hni ⟨s4, d4⟩ ⟨T', x1, x2, rfl, nT, rfl, e1, e2⟩
          have hn := List.getElem?_eq_getElem hni
          have e1 : (rowV ns R ns[m])[n]? = some x1 := e1
          have e2 : (ns.map fun v => V.int (c + R r v))[n]? = some x2 := e2
          rw [row_at hn] at e1
          rw [hend n _ hn] at e2
          cases e1; cases e2
          have nTD : D2 ≠ T' := ne_of_none d4 nT
          have s5 : Same H' (upd H4 T' (.tup [V.int (R ns[m] ns[n]), V.int (c + R r ns[n])])) := s4.trans (same_upd nT)
          have hlen2 : ((ns.take n).map fun v => V.int (Df.thru R l r c ns[m] v)).length < sizeLine := by
            rw [List.length_map, List.length_take]
            exact szlt (by omega)
          have htk : (ns.take (n + 1)).map (fun v => V.int (Df.thru R l r c ns[m] v)) = (ns.take n).map (fun v => V.int (Df.thru R l r c ns[m] v)) ++ [V.int (Df.thru R l r c ns[m] ns[n])] := by
            rw [List.take_add_one, hn, List.map_append]
            rfl
          refine ⟨T', _, rfl, sqt upd_same, rfl, _, _, rfl, _, _, rfl, rfl, rfl, ?_⟩
          refine ⟨_, rfl, _, rfl, _, rfl, rm, _, _, _, rfl, rfl, sq (s5 _ _ hrm2), atI_nat (row_at hi), _, rfl, _, _, rfl, rfl, _, _, rfl, rfl, _, rfl, ?_⟩
          by_cases hle : R ns[m] ns[n] ≤ R ns[m] l + (c + R r ns[n])
          · rw [decide_eq_true hle]
            refine iteT ⟨_, rfl, _, by rw [upd_ne nTD]; exact d4, hlen2, same_mut s5 hD2, ?_⟩
            rw [upd_same, htk]
            have e : Df.thru R l r c ns[m] ns[n] = R ns[m] ns[n] := by unfold Df.thru; rw [if_neg hinf, if_pos hle]
            rw [e]
          · rw [decide_eq_false hle]
            refine iteF ⟨_, rfl, _, rfl, rm, _, _, _, rfl, rfl, sq (s5 _ _ hrm2), atI_nat (row_at hi), _, rfl, _, _, rfl, rfl, _, by rw [upd_ne nTD]; exact d4, hlen2, same_mut s5 hD2, ?_⟩
            rw [upd_same, htk]
            have e : Df.thru R l r c ns[m] ns[n] = R ns[m] l + (c + R r ns[n]) := by unfold Df.thru; rw [if_neg hinf, if_neg hle]
            rw [e]
        · rintro H4 ⟨s4, d4⟩
          rw [List.take_length] at d4
          exact fin H4 D2 s4 nDD.symm (hN _ ((s1.trans s2).free hD2)) d4
    · rintro H2 ⟨out, s2, d2, hp⟩
      rw [plen hrs, List.take_length] at hp
      have s12 := s1.trans s2
      refine ⟨_, rfl, t, C, dx, _, _, rfl, s12 _ _ ht, T.cl, T.nS, flds_spots _ _ _, ?_⟩
      intro x dx' nx ndx nex
      have s5 : Same H2 (upd (upd H2 dx' (.own x)) x (.ins C dx' [])) := fun b o e => by rw [upd_ne (ne_of_none e nx), upd_ne (ne_of_none e ndx)]; exact e
      refine ⟨x, dx', an, D, shown, .ref asp, rfl, upd_same, s5 _ _ (s12 _ _ han), by omega, .inr ⟨asp, rfl, fun H' hx ho => ⟨rfl, ?_⟩⟩⟩
      have s6 : Same H2 H' := fun b o e => ho b o (s5 b o e) (ne_of_none e nx)
      exact hk _ hm H' x (s12.trans s6) ⟨dx', an, D, asp, out, shown, sp, ⟨hN _ (s12.free nx), hNs.2.1, hN _ (s1.free hD), hNs.2.2.2⟩, hx, s6 _ _ (s12 _ _ han), s6 _ _ d2, pmono (fun _ _ q => RowIs.mono s6 q.2) hp, s6 _ _ (s12 _ _ hsp), hspo, hsl, hss⟩
end
end K1

namespace K1
open PySem PySem.Spec PyProof.Rows L2 Ls
/-! ### systems on the heap -/
abbrev Df3 := Df.Row Str
def rowT (e : Df3) : List V := [.str e.1, .str e.2.1, .int e.2.2]
def RowT (H : Hp) : V → Df3 → Prop := fun v e => ∃ r, v = V.ref r ∧ H r = some (.tup (rowT e))
def SysAt (H : Hp) (a : Addr) (S : List Df3) : Prop := ∃ vs, H a = some (.lst vs) ∧ Paired (RowT H) vs S
theorem SysAt.mono {H H' : Hp} (s : Same H H') {a : Addr} {S : List Df3} (h : SysAt H a S) : SysAt H' a S :=
  have ⟨vs, h1, h2⟩ := h; ⟨vs, s _ _ h1, pmono (fun _ _ q => q.imp fun _ q => ⟨q.1, s _ _ q.2⟩) h2⟩
theorem addedR_stop {A B : List Df3} {R : Df.Tab Str} (h : Df.addedR R A = none) : Df.addedR R (A ++ B) = none := by rw [Df.addedR_append, h]; rfl
theorem take_snoc {α : Type} {S : List α} {i : Nat} (h : i < S.length) : S.take (i + 1) = S.take i ++ [S[i]] := by
  rw [List.take_add_one, List.getElem?_eq_getElem h]; rfl
def spAdded (C : Addr) : Sp := fun vs H Q _ => ∃ (N : Addr → Prop) (t a : Addr) (ns : List Str) (R : Df.Tab Str) (S : List Df3), vs = [.ref t, .ref a] ∧ (∀ p, H p = none → N p) ∧ TabAt N C H t ns R ∧ SysAt H a S ∧ (∀ e ∈ S, e.1 ∈ ns ∧ e.2.1 ∈ ns) ∧ (∀ e ∈ S, e.1 ≠ "" ∧ e.2.1 ≠ "") ∧ ns.Nodup ∧ ns.length ≤ 1000 ∧
  (∀ R', Df.addedR R S = some R' → ∀ H' t', Same H H' → TabAt N C H' t' ns R' → Q (.ref t') H') ∧ (Df.addedR R S = none → ∀ H', Same H H' → Q .non H')
def spTableOf (C : Addr) : Sp := fun vs H Q _ => ∃ (N : Addr → Prop) (b a : Addr) (nms ns : List Str) (S : List Df3), vs = [.ref b, .ref a] ∧ (∀ p, H p = none → N p) ∧ H b = some (.lst (nms.map V.str)) ∧ Lab ns (("0" : Str) :: nms) ∧ nms.length ≤ 900 ∧ SysAt H a S ∧ (∀ e ∈ S, e.1 ∈ ns ∧ e.2.1 ∈ ns) ∧ (∀ e ∈ S, e.1 ≠ "" ∧ e.2.1 ≠ "") ∧
  (∀ R', Df.addedR Df.blankR S = some R' → ∀ H' t', Same H H' → TabAt N C H' t' ns R' → Q (.ref t') H') ∧ (Df.addedR Df.blankR S = none → ∀ H', Same H H' → Q .non H')
def spUpper (C : Addr) : Sp := fun vs H Q _ => ∃ (N : Addr → Prop) (t : Addr) (l r : Str) (ns : List Str) (R : Df.Tab Str), vs = [.ref t, .str l, .str r] ∧ TabAt N C H t ns R ∧ l ∈ ns ∧ r ∈ ns ∧ l ≠ "" ∧ r ≠ "" ∧ ns.Nodup ∧ Q (if Df.HALFI < R l r then .non else .int (R l r)) H
def spSetTo (C : Addr) : Sp := fun vs H Q _ => ∃ (N : Addr → Prop) (t : Addr) (n : Str) (x : Int) (ns : List Str) (R : Df.Tab Str), vs = [.ref t, .str n, .int x] ∧ (∀ p, H p = none → N p) ∧ TabAt N C H t ns R ∧ n ∈ ns ∧ ("0" : Str) ∈ ns ∧ n ≠ "" ∧ ns.Nodup ∧ ns.length ≤ 1000 ∧
  (∀ R', Df.setR R "0" n x = some R' → ∀ H' t', Same H H' → TabAt N C H' t' ns R' → Q (.ref t') H') ∧ (Df.setR R "0" n x = none → ∀ H', Same H H' → Q .non H')
section
variable {P : Program} {w : World} {K : PySem.W.Frag} {mg : Str → Option Value} {base : Heap} {f C : Addr} {fd : FuncData} {k : Nat}
theorem sc_added : FnScope ["table", "system", "left", "right", "limit"] ["table", "system"] (defScope s_added) := ⟨rfl, rfl, rfl, by decide +kernel, rfl, by decide +kernel, by decide +kernel⟩
theorem ok_added (F : FnP K "added" s_added [] f fd) (G : Facts mg) (C_more : Cal P w K mg base 3 "more" (spMore C) []) : FnOk P w K mg base CX0 4 f fd ["table", "system"] (spAdded C) := by
  refine F.ok sc_added (fun vs H Q E h => ?_) (fun cdv A outer s H vs Q E hr h => ?_)
  · obtain ⟨N, t, a, ns, R, S, rfl, _⟩ := h
    rfl
  · obtain ⟨N, t, a, ns, R, S, rfl, hN, ht, ⟨vs, ha, hvs⟩, hin, hne, hnd, hlen, hk, hkn⟩ := h
    have hu := hu_of hr
    refine ⟨_, PSs.nox (pss_cons (ps_for PassesOwn.never rfl (kpi_list K (pv 1)) (kpg_tup K rfl (pgs_cons (pg_name (i := 2) sc_added.nd rfl (by first | exact .inl rfl | exact .inr rfl)) (pgs_cons (pg_name (i := 3) sc_added.nd rfl (by first | exact .inl rfl | exact .inr rfl)) (pgs_cons (pg_name (i := 4) sc_added.nd rfl (by first | exact .inl rfl | exact .inr rfl)) pgs_nil))))
        (pss_cons (ps_if (pt_cmpR op_isN (pv 0) pe_non (nomark _)) (pss_one (ps_ret pe_non)) pss_nil)
        (pss_one (ps_set (i := 0) sc_added.nd rfl (.inl rfl) (pe_c C_more hr (by decide) (by rfl) (pa_cons (pv 0) (pa_cons (pv 2) (pa_cons (pv 3) (pa_cons (pv 4) pa_nil)))))))))
      (pss_one (ps_ret (pv 0)))), ?_⟩
    refine ⟨_, rfl, a, rfl, ⟨_, sq ha⟩, ?_⟩
    refine for_it (walk_list (K := K) (a := a) (xs := vs)) (fun i σ H' => ∃ v0 x2 x3 x4, σ = [some v0, some (.ref a), x2, x3, x4] ∧ Same H H' ∧ ((∃ Ri t', Df.addedR R (S.take i) = some Ri ∧ v0 = .ref t' ∧ TabAt N C H' t' ns Ri) ∨ (Df.addedR R (S.take i) = none ∧ v0 = .non)))
      ⟨.ref t, none, none, none, rfl, Same.refl H, .inl ⟨R, t, rfl, rfl, ht⟩⟩ (fun i σ H' _ ⟨_, _, _, _, _, s1, _⟩ => sq (s1 _ _ ha)) ?_ ?_
    · rintro i x σ H1 H' hi ⟨v0, x2, x3, x4, rfl, s1, hv⟩ ⟨rfl, ex⟩
      rw [plen hvs] at hi
      obtain ⟨v, hv', r, rfl, hrow⟩ := pget hvs (List.getElem?_eq_getElem hi)
      rw [hv'] at ex
      cases ex
      have hS : S.take (i + 1) = S.take i ++ [S[i]] := take_snoc hi
      refine ⟨r, _, rfl, sqt (s1 _ _ hrow), rfl, _, _, rfl, _, _, rfl, _, _, rfl, rfl, ?_⟩
      rcases hv with ⟨Ri, t', e1, rfl, ht'⟩ | ⟨e1, rfl⟩
      · refine ⟨_, rfl, rfl, _, rfl, ?_⟩
        rw [decide_eq_false (show ¬ V.ref t' = V.non from fun z => by cases z)]
        refine iteF ?_
        have hm := hin _ (List.getElem_mem hi)
        have hm0 := hne _ (List.getElem_mem hi)
        refine ⟨_, rfl, _, rfl, _, rfl, _, rfl, N, t', _, _, _, ns, Ri, rfl, fun p hp => hN p (s1.free hp), ht', hm.1, hm.2, hm0.1, hm0.2, hnd, hlen, fun R' e2 H2 t2 s2 ht2 => ?_, fun e2 => ?_⟩
        · refine ⟨.ref t2, _, _, _, rfl, s1.trans s2, .inl ⟨R', t2, ?_, rfl, ht2⟩⟩
          rw [hS, Df.addedR_append, e1, ← e2]
          exact Df.addedR_one Ri S[i]
        · refine ⟨.non, _, _, _, rfl, s1, .inr ⟨?_, rfl⟩⟩
          rw [hS, Df.addedR_append, e1, ← e2]
          exact Df.addedR_one Ri S[i]
      · refine ⟨_, rfl, rfl, _, rfl, iteT ?_⟩
        refine hkn ?_ _ s1
        have := addedR_stop (B := S.drop i) e1
        rwa [List.take_append_drop] at this
    · rintro σ H1 ⟨v0, x2, x3, x4, rfl, s1, hv⟩
      rw [plen hvs, List.take_length] at hv
      refine ⟨_, rfl, ?_⟩
      rcases hv with ⟨Ri, t', e1, rfl, ht'⟩ | ⟨e1, rfl⟩
      · exact hk Ri e1 H1 t' s1 ht'
      · exact hkn e1 H1 s1
theorem sc_table_of : FnScope ["names", "system"] ["names", "system"] (defScope s_table_of) := ⟨rfl, rfl, rfl, by decide +kernel, rfl, by decide +kernel, by decide +kernel⟩
theorem ok_table_of (F : FnP K "table_of" s_table_of [] f fd) (G : Facts mg) (C_added : Cal P w K mg base 4 "added" (spAdded C) []) (C_blank : Cal P w K mg base 3 "blank" (spBlank C) []) : FnOk P w K mg base CX0 5 f fd ["names", "system"] (spTableOf C) := by
  refine F.ok sc_table_of (fun vs H Q E h => ?_) (fun cdv A outer s H vs Q E hr h => ?_)
  · obtain ⟨N, b, a, nms, ns, S, rfl, _⟩ := h
    rfl
  · obtain ⟨N, b, a, nms, ns, S, rfl, hN, hb, lab, hlen, ha, hin, hne, hk, hkn⟩ := h
    have hnl : ns.length ≤ 901 := by rw [← lab.len]; simp; omega
    have hu := hu_of hr
    refine ⟨_, PSs.nox (pss_one (ps_ret (pe_c C_added hr (by decide) (by rfl) (pa_cons (pe_c C_blank hr (by decide) (by rfl) (pa_cons (pv 0) pa_nil)) (pa_cons (pv 1) pa_nil))))), ?_⟩
    refine ⟨_, rfl, N, b, nms, ns, rfl, hN, hb, lab, hlen, fun H1 t1 s1 ht1 => ?_⟩
    refine ⟨_, rfl, N, t1, a, _, Df.blankR, S, rfl, fun p hp => hN p (s1.free hp), ht1, ha.mono s1, hin, hne, lab.nd, by omega, fun R' e H2 t2 s2 ht2 => ?_, fun e H2 s2 => ?_⟩
    · exact hk R' e H2 t2 (s1.trans s2) ht2
    · exact hkn e H2 (s1.trans s2)
theorem sc_upper : FnScope ["table", "left", "right", "limit"] ["table", "left", "right"] (defScope s_upper) := ⟨rfl, rfl, rfl, by decide +kernel, rfl, by decide +kernel, by decide +kernel⟩
theorem ok_upper (F : FnP K "upper" s_upper [] f fd) (G : Facts mg) (T : TCls K C) : FnOk P w K mg base CX0 1 f fd ["table", "left", "right"] (spUpper C) := by
  refine F.ok sc_upper (fun vs H Q E h => ?_) (fun cdv A outer s H vs Q E hr h => ?_)
  · obtain ⟨N, t, l, r, ns, R, rfl, _⟩ := h
    rfl
  · obtain ⟨N, t, l, r, ns, R, rfl, ⟨dx, an, ar, asp, rs, shown, sp, hNs, ht, han, har, hrs, hsp, hspo, hsl, hss⟩, hl, hr', hl0, hr0, hnd, hq⟩ := h
    have hu := hu_of hr
    obtain ⟨i, hi, hil⟩ := ix_of hl
    obtain ⟨j, hj, hjl⟩ := ix_of hr'
    obtain ⟨vi, hvi, ri, rfl, _, hri⟩ := pget hrs hi
    refine ⟨_, PSs.nox (pss_cons (ps_set (i := 3) sc_upper.nd rfl (.inl rfl) (pe_ix (kIxL K) (pe_ix (kIxL K) (kfld K (pv 0)) (pe_dget hu (kfld K (pv 0)) (pv 1) (fun _ _ => rfl)) (fun _ _ => rfl)) (pe_dget hu (kfld K (pv 0)) (pv 2) (fun _ _ => rfl)) (fun _ _ => rfl)))
      (pss_one (ps_ret (pe_ifExp (pt_cmpR op_gt (pv 3) (pe_gi (by rfl) G.HALF) (nomark _)) pe_non (pv 3))))), ?_⟩
    refine ⟨_, rfl, t, C, dx, _, _, rfl, ht, T.cl, T.nR, flds_rows _ _ _, _, rfl, t, C, dx, _, _, rfl, ht, T.cl, T.nS, flds_spots _ _ _, _, rfl, asp, _, rfl, dget hsp (hspo _ _ hi hl0), ar, rs, _, _, rfl, rfl, sq har, atI_nat hvi,
      _, rfl, t, C, dx, _, _, rfl, ht, T.cl, T.nS, flds_spots _ _ _, _, rfl, asp, _, rfl, dget hsp (hspo _ _ hj hr0), ri, _, _, _, rfl, rfl, sq hri, atI_nat (row_at hj), ?_⟩
    refine ⟨_, rfl, _, _, rfl, rfl, _, rfl, ?_⟩
    by_cases hinf : Df.HALFI < R l r
    · rw [show decide ((100000000000000000000000000000 : Int) < R l r) = true from decide_eq_true hinf]
      rw [if_pos hinf] at hq
      exact iteT hq
    · rw [show decide ((100000000000000000000000000000 : Int) < R l r) = false from decide_eq_false hinf]
      rw [if_neg hinf] at hq
      exact iteF ⟨_, rfl, hq⟩
theorem sc_set_to : FnScope ["table", "name", "worth"] ["table", "name", "worth"] (defScope s_set_to) := ⟨rfl, rfl, rfl, by decide +kernel, rfl, by decide +kernel, by decide +kernel⟩
theorem ok_set_to (F : FnP K "set_to" s_set_to [] f fd) (G : Facts mg) (C_more : Cal P w K mg base 3 "more" (spMore C) []) : FnOk P w K mg base CX0 4 f fd ["table", "name", "worth"] (spSetTo C) := by
  refine F.ok sc_set_to (fun vs H Q E h => ?_) (fun cdv A outer s H vs Q E hr h => ?_)
  · obtain ⟨N, t, n, x, ns, R, rfl, _⟩ := h
    rfl
  · obtain ⟨N, t, n, x, ns, R, rfl, hN, ht, hn, h0, hn0, hnd, hlen, hk, hkn⟩ := h
    have h00 : ("0" : Str) ≠ "" := by decide +kernel
    have hu := hu_of hr
    refine ⟨_, PSs.nox (pss_cons (ps_set (i := 0) sc_set_to.nd rfl (.inl rfl) (pe_c C_more hr (by decide) (by rfl) (pa_cons (pv 0) (pa_cons (pv 1) (pa_cons pe_str (pa_cons (pv 2) pa_nil))))))
      (pss_one (ps_ret (pe_ifExp (pt_cmpR op_isN (pv 0) pe_non (nomark _)) pe_non (pe_c C_more hr (by decide) (by rfl) (pa_cons (pv 0) (pa_cons pe_str (pa_cons (pv 1) (pa_cons (pe_op op_sub pe_int (pv 2)) pa_nil))))))))), ?_⟩
    refine ⟨_, rfl, _, rfl, _, rfl, N, t, _, _, _, ns, R, rfl, hN, ht, hn, h0, hn0, h00, hnd, hlen, fun R1 e1 H1 t1 s1 ht1 => ?_, fun e1 => ?_⟩
    · refine ⟨_, rfl, rfl, _, rfl, ?_⟩
      rw [decide_eq_false (show ¬ V.ref t1 = V.non from fun z => by cases z)]
      refine iteF ?_
      refine ⟨_, rfl, _, rfl, _, rfl, _, _, rfl, rfl, N, t1, _, _, _, ns, R1, rfl, fun p hp => hN p (s1.free hp), ht1, h0, hn, h00, hn0, hnd, hlen, fun R2 e2 H2 t2 s2 ht2 => ?_, fun e2 => ?_⟩
      · exact hk R2 (by unfold Df.setR; rw [e1]; exact e2) H2 t2 (s1.trans s2) ht2
      · exact hkn (by unfold Df.setR; rw [e1]; exact e2) H1 s1
    · refine ⟨_, rfl, rfl, _, rfl, iteT ?_⟩
      exact hkn (by unfold Df.setR; rw [e1]; rfl) H (Same.refl H)
end
end K1

namespace K1
open PySem PySem.Spec PyProof.Rows L2 Ls
/-! ### a point of a table -/
theorem TabAt.apart {N : Addr → Prop} {C : Addr} {H : Hp} {t : Addr} {ns : List Str} {R : Df.Tab Str} {d : Addr} (hd : H d = none) (h : TabAt N C H t ns R) : TabAt (· ≠ d) C H t ns R := by
  have ⟨dx, an, ar, asp, rs, shown, sp, hN, h1, h2, h3, h4, h5, h6⟩ := h.ex
  exact ⟨dx, an, ar, asp, rs, shown, sp, ⟨ne_of_none h1 hd, ne_of_none h2 hd, ne_of_none h3 hd, ne_of_none h5 hd⟩, h1, h2, h3, pmono (fun _ _ ⟨r, q1, q2, q3⟩ => ⟨r, q1, ne_of_none q3 hd, q3⟩) h4, h5, h6⟩
def x0 : Str → Int := fun _ => 0
def ptV (ks : List Str) (x : Str → Int) : List (Key × V) := tabV ks fun n => V.int (x n)
theorem ptV_put {ks : List Str} {x : Str → Int} {n : Str} {v : Int} (h : n ∉ ks) : putK (ptV ks x) (Sum.inr n : Key) (V.int v) = ptV (ks ++ [n]) (Df.put x n v) := by
  unfold ptV
  rw [putK_tab, show Df.ins ks n = ks ++ [n] from if_neg h]
  refine tabV_congr fun m _ => ?_
  unfold Df.put
  split <;> rfl
def spPoint (C : Addr) : Sp := fun vs H Q _ => ∃ (N : Addr → Prop) (t : Addr) (nms : List Str) (R R' : Df.Tab Str) (x' : Str → Int), vs = [.ref t] ∧ TabAt N C H t (("0" : Str) :: nms) R ∧ (("0" : Str) :: nms).Nodup ∧ ("" : Str) ∉ nms ∧ nms.length ≤ 900 ∧
  Df.pts ("0" : Str) R x0 nms = some (R', x') ∧ ∀ H' d, Same H H' → H d = none → H' d = some (.dK (ptV nms x')) → Q (.ref d) H'
theorem cut_tail (a : V) (xs : List V) : cutV (a :: xs) (some 1) none = xs := by
  unfold cutV
  have h1 : HT.sIx (a :: xs).length 0 (some 1) = 1 := by
    have := HT.sIx_nat (a :: xs).length 0 1
    rw [List.length_cons] at this ⊢
    rw [show (some (1 : Int)) = some ((1 : Nat) : Int) from rfl, this]
    omega
  rw [h1, HT.sIx_none]
  simp
section
variable {P : Program} {w : World} {K : PySem.W.Frag} {mg : Str → Option Value} {base : Heap} {f C : Addr} {fd : FuncData} {k : Nat}
theorem sc_point_of : FnScope ["table", "found", "name", "low", "high"] ["table"] (defScope s_point_of) := ⟨rfl, rfl, rfl, by decide +kernel, rfl, by decide +kernel, by decide +kernel⟩
theorem ok_point_of (F : FnP K "point_of" s_point_of [] f fd) (G : Facts mg) (T : TCls K C) (C_upper : Cal P w K mg base 1 "upper" (spUpper C) []) (C_set_to : Cal P w K mg base 4 "set_to" (spSetTo C) []) : FnOk P w K mg base CX0 5 f fd ["table"] (spPoint C) := by
  refine F.ok sc_point_of (fun vs H Q E h => ?_) (fun cdv A outer s H vs Q E hr h => ?_)
  · obtain ⟨N, t, nms, R, R', x', rfl, _⟩ := h
    rfl
  · obtain ⟨N, t, nms, R, R', x', rfl, ht, hnd, hn0, hlen, hpts, hk⟩ := h
    have h00 : ("0" : Str) ≠ "" := by decide +kernel
    have hn1 : ("" : Str) ∉ ("0" : Str) :: nms := fun z => (List.mem_cons.mp z).elim (fun z => h00 z.symm) hn0
    have hu := hu_of hr
    have hnn := List.nodup_cons.mp hnd
    refine ⟨_, PSs.nox (pss_cons (ps_set (i := 1) sc_point_of.nd rfl (.inl rfl) pe_dnewK)
      (pss_cons (ps_for PassesOwn.never rfl (kpi_tup K (pe_slice kSlT (kfld K (pv 0)) (po_some pe_int) po_none)) (pg_name (i := 2) sc_point_of.nd rfl (by first | exact .inl rfl | exact .inr rfl))
        (pss_cons (ps_set (i := 3) sc_point_of.nd rfl (.inl rfl) (pe_c C_upper hr (by decide) (by rfl) (pa_cons (pv 0) (pa_cons pe_str (pa_cons (pv 2) pa_nil)))))
        (pss_cons (ps_set (i := 4) sc_point_of.nd rfl (.inl rfl) (pe_c C_upper hr (by decide) (by rfl) (pa_cons (pv 0) (pa_cons (pv 2) (pa_cons pe_str pa_nil)))))
        (pss_cons (ps_if (pt_cmpR op_notN (pv 3) pe_non (nomark _)) (pss_one (ps_dput hu (pv 1) (pv 2) (pe_op op_sub pe_int (pv 3)) rfl)) (pss_one (ps_if (pt_cmpR op_notN (pv 4) pe_non (nomark _)) (pss_one (ps_dput hu (pv 1) (pv 2) (pv 4) rfl)) (pss_one (ps_dput hu (pv 1) (pv 2) pe_int rfl)))))
        (pss_one (ps_set (i := 0) sc_point_of.nd rfl (.inl rfl) (pe_c C_set_to hr (by decide) (by rfl) (pa_cons (pv 0) (pa_cons (pv 2) (pa_cons (pe_dget hu (pv 1) (pv 2) (fun _ _ => rfl)) pa_nil))))))))))
      (pss_one (ps_ret (pv 1))))), ?_⟩
    intro d hd
    have s0 : Same H (upd H d (.dK [])) := same_upd hd
    have hta := (ht.apart hd).mono s0
    obtain ⟨dx, an, ar, asp, rs, shown, sp, hNs, h1, h2, _, _, _, _, _, hsh⟩ := hta.ex
    rw [hsh hn1] at h2
    refine ⟨_, rfl, t, C, dx, _, _, rfl, h1, T.cl, T.nN, flds_names _ _ _, ?_⟩
    refine ⟨_, rfl, an, _, rfl, h2, fun H1 p s1 np hp => ?_⟩
    rw [List.map_cons, cut_tail] at hp
    refine ⟨p, rfl, ⟨_, sqt hp⟩, ?_⟩
    have hdp : d ≠ p := fun z => by
      have := s1 _ _ (upd_same (H := H) (a := d) (o := .dK []))
      rw [z, hp] at this
      cases this
    refine for_it (walk_tup (K := K) (a := p) (xs := nms.map V.str)) (fun i σ H' => ∃ ti Ri xi x2 x3 x4, σ = [some (.ref ti), some (.ref d), x2, x3, x4] ∧ (∀ b o, b ≠ d → H1 b = some o → H' b = some o) ∧ H' d = some (.dK (ptV (nms.take i) xi)) ∧
        Df.pts ("0" : Str) R x0 (nms.take i) = some (Ri, xi) ∧ TabAt (· ≠ d) C H' ti (("0" : Str) :: nms) Ri)
      ⟨t, R, x0, none, none, none, rfl, fun _ _ _ e => e, s1 _ _ upd_same, rfl, hta.mono s1⟩ (fun i σ H' _ ⟨_, _, _, _, _, _, _, s2, _⟩ => sqt (s2 _ _ hdp.symm hp)) ?_ ?_
    · rintro i x σ H9 H2 hi ⟨ti, Ri, xi, x2, x3, x4, rfl, s2, hd2, hp2, ht2⟩ ⟨rfl, ex⟩
      rw [List.length_map] at hi
      have ex : x = V.str nms[i] := by
        rw [List.getElem?_map, List.getElem?_eq_getElem hi] at ex
        exact (Option.some.inj ex).symm
      subst ex
      have hS : nms.take (i + 1) = nms.take i ++ [nms[i]] := by rw [List.take_add_one, List.getElem?_eq_getElem hi]; rfl
      have hmem : nms[i] ∈ ("0" : Str) :: nms := List.mem_cons_of_mem _ (List.getElem_mem hi)
      have h0m : ("0" : Str) ∈ ("0" : Str) :: nms := List.mem_cons_self
      have hmn : nms[i] ≠ "" := fun z => hn0 (z ▸ List.getElem_mem hi)
      have hno : nms[i] ∉ nms.take i := fun hm => by
        obtain ⟨j, hj, ej⟩ := List.mem_take_iff_getElem.mp hm
        have := (List.getElem_inj hnn.2).mp ej
        omega
      have hdl : (ptV (nms.take i) xi).length < sizeLine := by
        rw [show (ptV (nms.take i) xi).length = (nms.take i).length from tabV_len _ _, List.length_take]
        exact szlt (by omega)
      refine ⟨_, rfl, _, rfl, _, ti, _, _, _, Ri, rfl, ht2, h0m, hmem, h00, hmn, hnd, ?_⟩
      refine ⟨_, rfl, _, rfl, _, ti, _, _, _, Ri, rfl, ht2, hmem, h0m, hmn, h00, hnd, ?_⟩
      have hpt : ∀ R2, Df.setR Ri ("0" : Str) nms[i] (Df.valOf Ri ("0" : Str) nms[i]) = some R2 → Df.pts ("0" : Str) R x0 (nms.take (i + 1)) = some (R2, Df.put xi nms[i] (Df.valOf Ri ("0" : Str) nms[i])) := fun R2 e => by
        rw [hS, Df.pts_append, hp2]
        show (Df.setR Ri ("0" : Str) nms[i] (Df.valOf Ri ("0" : Str) nms[i])).bind _ = _
        rw [e]
        rfl
      have hsome : ∃ R2, Df.setR Ri ("0" : Str) nms[i] (Df.valOf Ri ("0" : Str) nms[i]) = some R2 := by
        cases e : Df.setR Ri ("0" : Str) nms[i] (Df.valOf Ri ("0" : Str) nms[i]) with
        | some R2 => exact ⟨R2, rfl⟩
        | none =>
          have h1 : nms = nms.take i ++ nms[i] :: nms.drop (i + 1) := by rw [List.getElem_cons_drop hi, List.take_append_drop]
          have h2 := hpts
          rw [h1, Df.pts_append, hp2] at h2
          have h3 : ((Df.setR Ri ("0" : Str) nms[i] (Df.valOf Ri ("0" : Str) nms[i])).bind fun R' => Df.pts ("0" : Str) R' (Df.put xi nms[i] (Df.valOf Ri ("0" : Str) nms[i])) (nms.drop (i + 1))) = some (R', x') := h2
          rw [e] at h3
          cases h3
      obtain ⟨R2, hR2⟩ := hsome
      -- the value stands in the dict
      have fin : ∀ (v : Int) (x3 x4 : Option V), v = Df.valOf Ri ("0" : Str) nms[i] → ∃ a v0, V.ref d = V.ref a ∧ DGet (upd H2 d (.dK (putK (ptV (nms.take i) xi) (Sum.inr nms[i] : Key) (V.int v)))) a (.str nms[i]) (some v0) ∧
          spSetTo C [V.ref ti, V.str nms[i], v0] (upd H2 d (.dK (putK (ptV (nms.take i) xi) (Sum.inr nms[i] : Key) (V.int v)))) (fun v1 H3 => ∃ ti Ri xi y2 y3 y4, [some v1, some (.ref d), some (.str nms[i]), x3, x4] = [some (.ref ti), some (.ref d), y2, y3, y4] ∧
            (∀ b o, b ≠ d → H1 b = some o → H3 b = some o) ∧ H3 d = some (.dK (ptV (nms.take (i + 1)) xi)) ∧ Df.pts ("0" : Str) R x0 (nms.take (i + 1)) = some (Ri, xi) ∧ TabAt (· ≠ d) C H3 ti (("0" : Str) :: nms) Ri) E0 := by
        rintro v x3 x4 rfl
        rw [ptV_put hno, ← hS]
        refine ⟨d, V.int (Df.valOf Ri ("0" : Str) nms[i]), rfl, dget upd_same ?_, ?_⟩
        · have := valV_tab_in (ks := nms.take (i + 1)) (v := fun n => V.int (Df.put xi nms[i] (Df.valOf Ri ("0" : Str) nms[i]) n)) (n := nms[i]) (hS ▸ List.mem_append_right _ List.mem_cons_self)
          rw [Df.put_same] at this
          exact this
        · refine ⟨(· ≠ d), ti, _, _, _, Ri, rfl, fun p hp z => ?_, ht2.keep fun b o hb e => by rw [upd_ne hb]; exact e, hmem, h0m, hmn, hnd, by rw [List.length_cons]; omega, fun R3 e3 H3 t3 s3 ht3 => ?_, fun e3 => ?_⟩
          · rw [z, upd_same] at hp
            cases hp
          · rw [hR2] at e3
            cases e3
            refine ⟨t3, R2, _, _, _, _, rfl, fun b o hb e => s3 _ _ (by rw [upd_ne hb]; exact s2 b o hb e), s3 _ _ upd_same, hpt R2 hR2, ht3⟩
          · rw [hR2] at e3
            cases e3
      have nn : ∀ z : Int, decide (¬ V.int z = V.non) = true := fun z => decide_eq_true fun e => by cases e
      have nN : (!decide (V.non = V.non)) = false := rfl
      by_cases c1 : Df.HALFI < Ri ("0" : Str) nms[i]
      · rw [if_pos c1]
        have n1 : ¬ Ri ("0" : Str) nms[i] ≤ Df.HALFI := by omega
        refine ⟨_, rfl, rfl, _, rfl, iteF ?_⟩
        by_cases c2 : Df.HALFI < Ri nms[i] ("0" : Str)
        · rw [if_pos c2]
          have n2 : ¬ Ri nms[i] ("0" : Str) ≤ Df.HALFI := by omega
          refine ⟨_, rfl, rfl, _, rfl, iteF ?_⟩
          refine ⟨_, rfl, _, rfl, d, _, rfl, DPut.k (k := (Sum.inr nms[i] : Key)) hd2 hdl, ?_⟩
          refine ⟨_, rfl, _, rfl, _, rfl, _, rfl, fin 0 _ _ ?_⟩
          unfold Df.valOf
          rw [if_neg n1, if_neg n2]
        · rw [if_neg c2]
          refine ⟨_, rfl, rfl, _, rfl, iteT ?_⟩
          refine ⟨_, rfl, _, rfl, _, rfl, d, _, rfl, DPut.k (k := (Sum.inr nms[i] : Key)) hd2 hdl, ?_⟩
          refine ⟨_, rfl, _, rfl, _, rfl, _, rfl, fin _ _ _ ?_⟩
          unfold Df.valOf
          rw [if_neg n1, if_pos (by omega)]
      · rw [if_neg c1]
        refine ⟨_, rfl, rfl, _, rfl, iteT ?_⟩
        refine ⟨_, rfl, _, _, rfl, rfl, _, rfl, _, rfl, d, _, rfl, DPut.k (k := (Sum.inr nms[i] : Key)) hd2 hdl, ?_⟩
        refine ⟨_, rfl, _, rfl, _, rfl, _, rfl, fin _ _ _ ?_⟩
        unfold Df.valOf
        rw [if_pos (by omega)]
    · rintro σ H2 ⟨ti, Ri, xi, x2, x3, x4, rfl, s2, hd2, hp2, ht2⟩
      rw [List.length_map, List.take_length] at hd2 hp2
      rw [hpts] at hp2
      cases hp2
      refine ⟨_, rfl, ?_⟩
      exact hk H2 d (fun b o e => s2 b o (ne_of_none e hd) (s1 _ _ (s0 _ _ e))) hd hd2
end
end K1

namespace K1
open PySem PySem.Spec PyProof.Rows L2 Ls
/-! ### systems as they are handed in -/
def GoodS (S : List Df3) : Prop := ∀ e ∈ S, e.1 ≠ "" ∧ e.2.1 ≠ "" ∧ e.1 ≠ e.2.1 ∧ -1000000000000000000 < e.2.2 ∧ e.2.2 < 1000000000000000000
theorem GoodS.ends {S : List Df3} (h : GoodS S) : ∀ e ∈ S, e.1 ≠ "" ∧ e.2.1 ≠ "" := fun e he => ⟨(h e he).1, (h e he).2.1⟩
/-- a row as it is handed in: a tuple or a list -/
def RowQ (H : Hp) : V → Df3 → Prop := fun v e => ∃ r, v = V.ref r ∧ (H r = some (.tup (rowT e)) ∨ H r = some (.lst (rowT e)))
def SeqR (H : Hp) (a : Addr) (vs : List V) : Prop := H a = some (.tup vs) ∨ H a = some (.lst vs)
theorem SeqR.mono {H H' : Hp} (s : Same H H') {a : Addr} {vs : List V} (h : SeqR H a vs) : SeqR H' a vs := h.imp (s _ _) (s _ _)
/-- what may stand for an end -/
inductive EndV (H : Hp) : V → Bool → Prop where
  | yes {n : Str} (h : n ≠ "") : EndV H (.str n) true
  | emp : EndV H (.str "") false
  | non : EndV H .non false
  | int (i : Int) : EndV H (.int i) false
  | seq {r : Addr} {xs : List V} (h : SeqR H r xs) : EndV H (.ref r) false
inductive LimV (H : Hp) : V → Bool → Prop where
  | yes {c : Int} (h1 : -1000000000000000000 < c) (h2 : c < 1000000000000000000) : LimV H (.int c) true
  | out {c : Int} (h : ¬ (-1000000000000000000 < c ∧ c < 1000000000000000000)) : LimV H (.int c) false
  | non : LimV H .non false
  | bl (b : Bool) : LimV H (.bl b) false
  | str (n : Str) : LimV H (.str n) false
  | seq {r : Addr} {xs : List V} (h : SeqR H r xs) : LimV H (.ref r) false
theorem EndV.mono {H H' : Hp} (s : Same H H') {v : V} {b : Bool} (h : EndV H v b) : EndV H' v b := by
  cases h with
  | yes h => exact .yes h
  | emp => exact .emp
  | non => exact .non
  | int i => exact .int i
  | seq h => exact .seq (h.mono s)
theorem LimV.mono {H H' : Hp} (s : Same H H') {v : V} {b : Bool} (h : LimV H v b) : LimV H' v b := by
  cases h with
  | yes h1 h2 => exact .yes h1 h2
  | out h => exact .out h
  | non => exact .non
  | bl b => exact .bl b
  | str n => exact .str n
  | seq h => exact .seq (h.mono s)
def spIsEnd : Sp := fun vs H Q _ => ∃ v b, vs = [v, .non] ∧ EndV H v b ∧ Q (.bl b) H
def spIsLimit : Sp := fun vs H Q _ => ∃ v b, vs = [v] ∧ LimV H v b ∧ Q (.bl b) H
def SysQ (H : Hp) (a : Addr) (S : List Df3) : Prop := ∃ vs, SeqR H a vs ∧ Paired (RowQ H) vs S
theorem SysAt.q {H : Hp} {a : Addr} {S : List Df3} (h : SysAt H a S) : SysQ H a S := h.imp fun _ q => ⟨.inr q.1, pmono (fun _ _ z => z.imp fun _ z => ⟨z.1, .inl z.2⟩) q.2⟩
theorem SysQ.mono {H H' : Hp} (s : Same H H') {a : Addr} {S : List Df3} (h : SysQ H a S) : SysQ H' a S :=
  have ⟨vs, h1, h2⟩ := h; ⟨vs, h1.mono s, pmono (fun _ _ q => q.imp fun _ q => ⟨q.1, q.2.imp (s _ _) (s _ _)⟩) h2⟩
theorem ixq {K : PySem.W.Frag} {H : Hp} {r : Addr} {xs : List V} {i : Int} {v : V} {Q : VK} (h : H r = some (.tup xs) ∨ H r = some (.lst xs)) (ha : atI xs i = some v) (q : Q v H) : rIx K (.ref r) (.int i) H Q :=
  h.elim (fun h => .inr (.inl ⟨r, xs, i, v, rfl, rfl, sqt h, ha, q⟩)) fun h => .inl ⟨r, xs, i, v, rfl, rfl, sq h, ha, q⟩
def spChecked : Sp := fun vs H Q _ => ∃ (a : Addr) (S : List Df3), vs = [.ref a, .non] ∧ SysQ H a S ∧ GoodS S ∧ S.length ≤ 900000 ∧ ∀ H' b, Same H H' → SysAt H' b S → Q (.ref b) H'
def nm1 (ks : List Str) (n : Str) : List Str := if n = "0" then ks else Df.ins ks n
def namesOf (S : List Df3) : List Str := S.foldl (fun ks e => nm1 (nm1 ks e.1) e.2.1) []
theorem mem_nm1 {ks : List Str} {n x : Str} : x ∈ nm1 ks n ↔ x ∈ ks ∨ (x = n ∧ n ≠ "0") := by
  unfold nm1
  split
  · rename_i h; simp [h]
  · rename_i h
    rw [Df.mem_ins]
    simp [h]
theorem nd_nm1 {ks : List Str} {n : Str} (h : ks.Nodup) : (nm1 ks n).Nodup := by
  unfold nm1
  split
  · exact h
  · exact Df.nd_ins h
theorem len_nm1 (ks : List Str) (n : Str) : (nm1 ks n).length ≤ ks.length + 1 := by
  unfold nm1
  split
  · omega
  · exact ins_len _ _
theorem namesOf_snoc (S : List Df3) (e : Df3) : namesOf (S ++ [e]) = nm1 (nm1 (namesOf S) e.1) e.2.1 := by
  unfold namesOf
  rw [List.foldl_append]
  rfl
theorem fold_mem (S : List Df3) : ∀ ks : List Str, ∀ x, x ∈ S.foldl (fun ks e => nm1 (nm1 ks e.1) e.2.1) ks ↔ x ∈ ks ∨ ∃ e ∈ S, (x = e.1 ∨ x = e.2.1) ∧ x ≠ "0" := by
  induction S with
  | nil => intro ks x; simp
  | cons e S ih =>
    intro ks x
    rw [List.foldl_cons, ih, mem_nm1, mem_nm1]
    constructor
    · rintro (((h | ⟨h, h0⟩) | ⟨h, h0⟩) | ⟨e', he, h⟩)
      · exact .inl h
      · exact .inr ⟨e, List.mem_cons_self, .inl h, h ▸ h0⟩
      · exact .inr ⟨e, List.mem_cons_self, .inr h, h ▸ h0⟩
      · exact .inr ⟨e', List.mem_cons_of_mem _ he, h⟩
    · rintro (h | ⟨e', he, h, h0⟩)
      · exact .inl (.inl (.inl h))
      · rcases List.mem_cons.mp he with rfl | he
        · rcases h with h | h
          · exact .inl (.inl (.inr ⟨h, h ▸ h0⟩))
          · exact .inl (.inr ⟨h, h ▸ h0⟩)
        · exact .inr ⟨e', he, h, h0⟩
theorem mem_namesOf {S : List Df3} {x : Str} : x ∈ namesOf S ↔ ∃ e ∈ S, (x = e.1 ∨ x = e.2.1) ∧ x ≠ "0" := by
  unfold namesOf
  rw [fold_mem]
  simp
theorem nd_fold (S : List Df3) : ∀ ks : List Str, ks.Nodup → (S.foldl (fun ks e => nm1 (nm1 ks e.1) e.2.1) ks).Nodup := by
  induction S with
  | nil => intro ks h; exact h
  | cons e S ih => intro ks h; exact ih _ (nd_nm1 (nd_nm1 h))
theorem nd_namesOf (S : List Df3) : (("0" : Str) :: namesOf S).Nodup := List.nodup_cons.mpr ⟨fun h => by obtain ⟨_, _, _, h0⟩ := mem_namesOf.mp h; exact h0 rfl, nd_fold S [] List.nodup_nil⟩
theorem in_names {S : List Df3} {x : Str} (h : ∃ e ∈ S, x = e.1 ∨ x = e.2.1) : x ∈ ("0" : Str) :: namesOf S := by
  by_cases h0 : x = "0"
  · rw [h0]; exact List.mem_cons_self
  · exact List.mem_cons_of_mem _ (mem_namesOf.mpr (h.imp fun e q => ⟨q.1, q.2, h0⟩))
theorem GoodS.names {S : List Df3} (h : GoodS S) : ("" : Str) ∉ namesOf S := fun z => by
  obtain ⟨e, he, h1, _⟩ := mem_namesOf.mp z
  rcases h1 with h1 | h1
  · exact (h e he).1 h1.symm
  · exact (h e he).2.1 h1.symm
theorem len_fold (S : List Df3) : ∀ ks : List Str, (S.foldl (fun ks e => nm1 (nm1 ks e.1) e.2.1) ks).length ≤ ks.length + 2 * S.length := by
  induction S with
  | nil => intro ks; simp
  | cons e S ih =>
    intro ks
    have h1 := ih (nm1 (nm1 ks e.1) e.2.1)
    have h2 := len_nm1 (nm1 ks e.1) e.2.1
    have h3 := len_nm1 ks e.1
    rw [List.foldl_cons, List.length_cons]
    omega
theorem len_namesOf (S : List Df3) : (namesOf S).length ≤ 2 * S.length := by
  have := len_fold S []
  simpa [namesOf] using this
def spNamesOf : Sp := fun vs H Q _ => ∃ (a : Addr) (S : List Df3), vs = [.ref a] ∧ SysAt H a S ∧ S.length ≤ 400000 ∧ ∀ H' b, Same H H' → H b = none → H' b = some (.lst ((namesOf S).map V.str)) → Q (.ref b) H'
section
variable {P : Program} {w : World} {K : PySem.W.Frag} {mg : Str → Option Value} {base : Heap} {f C : Addr} {fd : FuncData} {k : Nat}
theorem seqTy {H : Hp} {r : Addr} {xs : List V} (h : SeqR H r xs) : ∃ t, TyX K H (.ref r) (.type t) ∧ (t = "tuple" ∨ t = "list") := h.elim (fun h => ⟨_, .base (.tup h), .inl rfl⟩) fun h => ⟨_, .base (.lst h), .inr rfl⟩
theorem sc_u_is_end : FnScope ["thing", "known"] ["thing", "known"] (defScope s_u_is_end) := ⟨rfl, rfl, rfl, by decide +kernel, rfl, by decide +kernel, by decide +kernel⟩
theorem ok_is_end (F : FnP K "_is_end" s_u_is_end [] f fd) (G : Facts mg) : FnOk P w K mg base CX0 1 f fd ["thing", "known"] spIsEnd := by
  refine F.ok sc_u_is_end (fun vs H Q E h => ?_) (fun cdv A outer s H vs Q E hr h => ?_)
  · obtain ⟨v, b, rfl, _⟩ := h
    rfl
  · obtain ⟨v, b, rfl, hv, hk⟩ := h
    have hu := hu_of hr
    refine ⟨_, PSs.nox (pss_cons (ps_if (PW.pt (pw_or (pt_not (pt_val (pe_callB (kIsi K) (by rfl) G.isinstance_ (by decide +kernel) (pa_cons (pv 0) (pa_cons (pe_ty "str" (by rfl) G.str_ (by decide +kernel)) pa_nil))))) (pw_or1 (pt_cmpR op_eq (pv 0) pe_str (nomark _))))) (pss_one (ps_ret pe_bl)) pss_nil)
      (pss_one (ps_ret (pe_or (pe_cmpR op_isN (pv 1) pe_non (nomark _)) (pe_or (pe_cmpR op_eq (pv 0) pe_str (nomark _)) (pe_one (pe_cmpR (kIn K) (pv 0) (pv 1) (by rfl)))))))), ?_⟩
    cases hv with
    | yes h1 =>
      refine ⟨_, rfl, _, _, _, _, true, rfl, .ty "str", .base (.str _), kit_ty (by decide +kernel), _, rfl, ?_⟩
      refine iteF ⟨_, rfl, rfl, _, rfl, ?_⟩
      rw [decide_eq_false (fun e => h1 (by injection e))]
      exact iteF ⟨_, rfl, rfl, _, rfl, iteT hk⟩
    | emp =>
      refine ⟨_, rfl, _, _, _, _, true, rfl, .ty "str", .base (.str _), kit_ty (by decide +kernel), _, rfl, ?_⟩
      refine iteF ⟨_, rfl, rfl, _, rfl, ?_⟩
      rw [decide_eq_true rfl]
      exact iteT hk
    | non => exact ⟨_, rfl, _, _, _, _, false, rfl, .ty "str", .base .non, kit_ty (by decide +kernel), _, rfl, iteT hk⟩
    | int i => exact ⟨_, rfl, _, _, _, _, false, rfl, .ty "str", .base (.int i), kit_ty (by decide +kernel), _, rfl, iteT hk⟩
    | seq h =>
      obtain ⟨t, ty, rfl | rfl⟩ := seqTy (K := K) h
      · exact ⟨_, rfl, _, _, _, _, false, rfl, .ty "str", ty, kit_ty (by decide +kernel), _, rfl, iteT hk⟩
      · exact ⟨_, rfl, _, _, _, _, false, rfl, .ty "str", ty, kit_ty (by decide +kernel), _, rfl, iteT hk⟩
theorem sc_is_limit : FnScope ["thing"] ["thing"] (defScope s_is_limit) := ⟨rfl, rfl, rfl, by decide +kernel, rfl, by decide +kernel, by decide +kernel⟩
theorem ok_is_limit (F : FnP K "is_limit" s_is_limit [] f fd) (G : Facts mg) : FnOk P w K mg base CX0 1 f fd ["thing"] spIsLimit := by
  refine F.ok sc_is_limit (fun vs H Q E h => ?_) (fun cdv A outer s H vs Q E hr h => ?_)
  · obtain ⟨v, b, rfl, _⟩ := h
    rfl
  · obtain ⟨v, b, rfl, hv, hk⟩ := h
    have hu := hu_of hr
    refine ⟨_, PSs.nox (pss_one (ps_ret (pe_and (pe_callB (kIsi K) (by rfl) G.isinstance_ (by decide +kernel) (pa_cons (pv 0) (pa_cons (pe_ty "int" (by rfl) G.int_ (by decide +kernel)) pa_nil))) (pe_and (pe_not (pe_callB (kIsi K) (by rfl) G.isinstance_ (by decide +kernel) (pa_cons (pv 0) (pa_cons (pe_ty "bool" (by rfl) G.bool_ (by decide +kernel)) pa_nil)))) (pe_one (pe_chain op_lt op_lt (pe_op op_sub pe_int (pe_gi (by rfl) G.MOST)) (pv 0) (pe_gi (by rfl) G.MOST))))))), ?_⟩
    cases hv with
    | @yes c h1 h2 =>
      refine ⟨_, rfl, _, _, _, _, true, rfl, .ty "int", .base (.int c), kit_ty (by decide +kernel), _, rfl, iteT ?_⟩
      refine ⟨_, rfl, _, _, _, _, false, rfl, .ty "bool", .base (.int c), kit_ty (by decide +kernel), _, rfl, _, rfl, iteT ?_⟩
      refine ⟨_, _, rfl, rfl, _, rfl, _, _, rfl, rfl, _, rfl, ?_⟩
      rw [show decide ((0 : Int) - 1000000000000000000 < c) = true from decide_eq_true (by omega)]
      refine iteT ⟨_, _, rfl, rfl, ?_⟩
      show Q (.bl (decide (c < (1000000000000000000 : Int)))) H
      rw [show decide (c < (1000000000000000000 : Int)) = true from decide_eq_true h2]
      exact hk
    | @out c h =>
      refine ⟨_, rfl, _, _, _, _, true, rfl, .ty "int", .base (.int c), kit_ty (by decide +kernel), _, rfl, iteT ?_⟩
      refine ⟨_, rfl, _, _, _, _, false, rfl, .ty "bool", .base (.int c), kit_ty (by decide +kernel), _, rfl, _, rfl, iteT ?_⟩
      refine ⟨_, _, rfl, rfl, _, rfl, _, _, rfl, rfl, _, rfl, ?_⟩
      by_cases h1 : -1000000000000000000 < c
      · rw [show decide ((0 : Int) - 1000000000000000000 < c) = true from decide_eq_true (by omega)]
        refine iteT ⟨_, _, rfl, rfl, ?_⟩
        show Q (.bl (decide (c < (1000000000000000000 : Int)))) H
        rw [show decide (c < (1000000000000000000 : Int)) = false from decide_eq_false fun z => h ⟨h1, z⟩]
        exact hk
      · rw [show decide ((0 : Int) - 1000000000000000000 < c) = false from decide_eq_false (by omega)]
        exact iteF hk
    | non => exact ⟨_, rfl, _, _, _, _, false, rfl, .ty "int", .base .non, kit_ty (by decide +kernel), _, rfl, iteF hk⟩
    | bl b =>
      refine ⟨_, rfl, _, _, _, _, true, rfl, .ty "int", .base (.bl b), kit_ty (by decide +kernel), _, rfl, iteT ?_⟩
      exact ⟨_, rfl, _, _, _, _, true, rfl, .ty "bool", .base (.bl b), kit_ty (by decide +kernel), _, rfl, _, rfl, iteF hk⟩
    | str n => exact ⟨_, rfl, _, _, _, _, false, rfl, .ty "int", .base (.str n), kit_ty (by decide +kernel), _, rfl, iteF hk⟩
    | seq h =>
      obtain ⟨t, ty, rfl | rfl⟩ := seqTy (K := K) h
      · exact ⟨_, rfl, _, _, _, _, false, rfl, .ty "int", ty, kit_ty (by decide +kernel), _, rfl, iteF hk⟩
      · exact ⟨_, rfl, _, _, _, _, false, rfl, .ty "int", ty, kit_ty (by decide +kernel), _, rfl, iteF hk⟩
theorem sc_names_of : FnScope ["system", "found", "left", "right", "_", "name"] ["system"] (defScope s_names_of) := ⟨rfl, rfl, rfl, by decide +kernel, rfl, by decide +kernel, by decide +kernel⟩
theorem ok_names_of (F : FnP K "names_of" s_names_of [] f fd) (G : Facts mg) : FnOk P w K mg base CX0 1 f fd ["system"] spNamesOf := by
  refine F.ok sc_names_of (fun vs H Q E h => ?_) (fun cdv A outer s H vs Q E hr h => ?_)
  · obtain ⟨a, S, rfl, _⟩ := h
    rfl
  · obtain ⟨a, S, rfl, ⟨vs, ha, hvs⟩, hlen, hk⟩ := h
    have hu := hu_of hr
    refine ⟨_, PSs.nox (pss_cons (ps_set (i := 1) sc_names_of.nd rfl (.inl rfl) pe_dnewK)
      (pss_cons (ps_for PassesOwn.never rfl (kpi_list K (pv 0)) (kpg_tup K rfl (pgs_cons (pg_name (i := 2) sc_names_of.nd rfl (by first | exact .inl rfl | exact .inr rfl)) (pgs_cons (pg_name (i := 3) sc_names_of.nd rfl (by first | exact .inl rfl | exact .inr rfl)) (pgs_cons (pg_name (i := 4) sc_names_of.nd rfl (by first | exact .inl rfl | exact .inr rfl)) pgs_nil))))
        (pss_one (ps_for PassesOwn.never rfl (kpi_tup K (pe_tup (pa_cons (pv 2) (pa_cons (pv 3) pa_nil)))) (pg_name (i := 5) sc_names_of.nd rfl (by first | exact .inl rfl | exact .inr rfl))
          (pss_one (ps_if (pt_cmpR op_ne (pv 5) pe_str (nomark _)) (pss_one (ps_dput hu (pv 1) (pv 5) pe_bl rfl)) pss_nil)))))
      (pss_one (ps_ret (pe_callTy (call_list_dK rfl) (by rfl) G.list_ (by decide +kernel) (pa_cons (pv 1) pa_nil)))))), ?_⟩
    intro d hd
    refine ⟨_, rfl, a, rfl, ⟨_, sq (same_upd hd _ _ ha)⟩, ?_⟩
    have tt : ∀ ks : List Str, ks.length ≤ 900000 → (tabV ks fun _ => V.bl true).length < sizeLine := fun ks h => by
      rw [tabV_len]
      exact szlt (by omega)
    have put1 : ∀ (ks : List Str) (n : Str), n ≠ "0" → putK (tabV ks fun _ => V.bl true) (Sum.inr n : Key) (V.bl true) = tabV (nm1 ks n) fun _ => V.bl true := fun ks n h => by
      rw [putK_tab, show nm1 ks n = Df.ins ks n from if_neg h]
      refine tabV_congr fun m _ => ?_
      unfold Df.put
      split <;> rfl
    refine for_it (walk_list (K := K) (a := a) (xs := vs)) (fun i σ H' => ∃ x2 x3 x4 x5, σ = [some (.ref a), some (.ref d), x2, x3, x4, x5] ∧ Same H H' ∧ H' d = some (.dK (tabV (namesOf (S.take i)) fun _ => V.bl true)))
      ⟨none, none, none, none, rfl, same_upd hd, upd_same⟩ (fun i σ H' _ ⟨_, _, _, _, _, s1, _⟩ => sq (s1 _ _ ha)) ?_ ?_
    · rintro i x σ H9 H1 hi ⟨x2, x3, x4, x5, rfl, s1, hd1⟩ ⟨rfl, ex⟩
      rw [plen hvs] at hi
      obtain ⟨v, hv', r, rfl, hrow⟩ := pget hvs (List.getElem?_eq_getElem hi)
      rw [hv'] at ex
      cases ex
      refine ⟨r, _, rfl, sqt (s1 _ _ hrow), rfl, _, _, rfl, _, _, rfl, _, _, rfl, rfl, ?_⟩
      refine ⟨_, rfl, _, rfl, by show 2 ≤ sizeLine; decide, fun p np => ?_⟩
      refine ⟨p, rfl, ⟨_, sqt upd_same⟩, ?_⟩
      have hdp : d ≠ p := ne_of_none hd1 np
      have hk2 : ∀ j, j ≤ 2 → (([S[i].1, S[i].2.1].take j).foldl nm1 (namesOf (S.take i))).length ≤ 900000 := fun j hj => by
        have h1 := len_namesOf (S.take i)
        rw [List.length_take] at h1
        have h2 : ∀ (l : List Str) (ks : List Str), (l.foldl nm1 ks).length ≤ ks.length + l.length := by
          intro l
          induction l with
          | nil => intro ks; simp
          | cons n l ih =>
            intro ks
            have := ih (nm1 ks n)
            have := len_nm1 ks n
            rw [List.foldl_cons, List.length_cons]
            omega
        have h3 := h2 ([S[i].1, S[i].2.1].take j) (namesOf (S.take i))
        have h4 : ([S[i].1, S[i].2.1].take j).length ≤ 2 := by rw [List.length_take]; simp; omega
        omega
      refine for_it (walk_tup (K := K) (a := p) (xs := [V.str S[i].1, V.str S[i].2.1])) (fun j σ H' => ∃ x5, σ = [some (.ref a), some (.ref d), some (.str S[i].1), some (.str S[i].2.1), some (.int S[i].2.2), x5] ∧ Same H H' ∧ H' p = some (.tup [V.str S[i].1, V.str S[i].2.1]) ∧
          H' d = some (.dK (tabV (([S[i].1, S[i].2.1].take j).foldl nm1 (namesOf (S.take i))) fun _ => V.bl true)))
        ⟨_, rfl, s1.trans (same_upd np), upd_same, by rw [upd_ne hdp]; exact hd1⟩ (fun j σ H' _ ⟨_, _, _, hp, _⟩ => sqt hp) ?_ ?_
      · rintro j x σ H9 H2 hj ⟨x5, rfl, s2, hp2, hd2⟩ ⟨rfl, ex⟩
        have hj2 : j < [S[i].1, S[i].2.1].length := hj
        have ex : x = V.str ([S[i].1, S[i].2.1][j]) := by
          have e1 : [V.str S[i].1, V.str S[i].2.1] = [S[i].1, S[i].2.1].map V.str := rfl
          rw [e1, List.getElem?_map, List.getElem?_eq_getElem hj2] at ex
          exact (Option.some.inj ex).symm
        subst ex
        have hf : ([S[i].1, S[i].2.1].take (j + 1)).foldl nm1 (namesOf (S.take i)) = nm1 (([S[i].1, S[i].2.1].take j).foldl nm1 (namesOf (S.take i))) [S[i].1, S[i].2.1][j] := by
          rw [take_snoc hj2, List.foldl_append]
          rfl
        refine ⟨_, rfl, rfl, _, rfl, ?_⟩
        by_cases h0 : [S[i].1, S[i].2.1][j] = "0"
        · rw [show (!decide (V.str [S[i].1, S[i].2.1][j] = V.str "0")) = false by rw [h0]; rfl]
          refine iteF ⟨_, rfl, s2, hp2, ?_⟩
          rw [hf, show nm1 _ [S[i].1, S[i].2.1][j] = _ from if_pos h0]
          exact hd2
        · rw [show (!decide (V.str [S[i].1, S[i].2.1][j] = V.str "0")) = true by rw [decide_eq_false fun e => h0 (by injection e)]; rfl]
          refine iteT ⟨_, rfl, _, rfl, d, _, rfl, DPut.k (k := (Sum.inr [S[i].1, S[i].2.1][j] : Key)) hd2 (tt _ (hk2 j (Nat.le_of_lt hj2))), _, rfl, same_mut s2 hd, by rw [upd_ne hdp.symm]; exact hp2, ?_⟩
          rw [upd_same, put1 _ _ h0, hf]
      · rintro σ H2 ⟨x5, rfl, s2, hp2, hd2⟩
        refine ⟨_, _, _, _, rfl, s2, ?_⟩
        rw [take_snoc hi, namesOf_snoc]
        exact hd2
    · rintro σ H1 ⟨x2, x3, x4, x5, rfl, s1, hd1⟩
      rw [plen hvs, List.take_length] at hd1
      refine ⟨_, rfl, d, _, rfl, hd1, fun q nq => ?_⟩
      refine hk _ q (s1.trans (same_upd nq)) (s1.free nq) ?_
      rw [upd_same, tabV_keys]
end
end K1

namespace K1
open PySem PySem.Spec PyProof.Rows L2 Ls
section
variable {P : Program} {w : World} {K : PySem.W.Frag} {mg : Str → Option Value} {base : Heap} {f C : Addr} {fd : FuncData} {k : Nat}
theorem sc_checked_system : FnScope ["system", "names", "found", "place", "row", "good"] ["system", "names"] (defScope s_checked_system) := ⟨rfl, rfl, rfl, by decide +kernel, rfl, by decide +kernel, by decide +kernel⟩
theorem ok_checked (F : FnP K "checked_system" s_checked_system [.non] f fd) (G : Facts mg) (C_is_limit : Cal P w K mg base 1 "is_limit" spIsLimit []) (C_u_is_end : Cal P w K mg base 1 "_is_end" spIsEnd []) :
    FnOk P w K mg base CX0 2 f fd ["system", "names"] spChecked := by
  refine F.ok sc_checked_system (fun vs H Q E h => ?_) (fun cdv A outer s H vs Q E hr h => ?_)
  · obtain ⟨c, S, rfl, _⟩ := h
    rfl
  · obtain ⟨a, S, rfl, ⟨vs, ha, hvs⟩, hgood, hlen, hk⟩ := h
    have hu := hu_of hr
    refine ⟨_, PSs.nox (pss_cons (ps_set (i := 2) sc_checked_system.nd rfl (.inl rfl) (pe_lst pa_nil))
      (pss_cons (ps_for PassesOwn.never rfl (kpi_enumV (by rfl) G.enumerate_ (pv 0)) (kpg_tup K rfl (pgs_cons (pg_name (i := 3) sc_checked_system.nd rfl (by first | exact .inl rfl | exact .inr rfl)) (pgs_cons (pg_name (i := 4) sc_checked_system.nd rfl (by first | exact .inl rfl | exact .inr rfl)) pgs_nil)))
        (pss_cons (ps_set (i := 5) sc_checked_system.nd rfl (.inl rfl) (pe_and (pe_callB (kIsiT K) (by rfl) G.isinstance_ (by decide +kernel) (pa_cons (pv 4) (pa_cons (pe_tup (pa_cons (pe_ty "tuple" (by rfl) G.tuple_ (by decide +kernel)) (pa_cons (pe_ty "list" (by rfl) G.list_ (by decide +kernel)) pa_nil))) pa_nil))) (pe_one (pe_cmpR op_eq (pe_callB (kLen K) (by rfl) G.len_ PySem.boot_len (pa_cons (pv 4) pa_nil)) pe_int (nomark _)))))
        (pss_cons (ps_set (i := 5) sc_checked_system.nd rfl (.inl rfl) (pe_and (pv 5) (pe_and (pe_c C_u_is_end hr (by decide) (by rfl) (pa_cons (pe_ix (kIxQ K) (pv 4) pe_int (fun _ _ => rfl)) (pa_cons (pv 1) pa_nil))) (pe_one (pe_c C_u_is_end hr (by decide) (by rfl) (pa_cons (pe_ix (kIxQ K) (pv 4) pe_int (fun _ _ => rfl)) (pa_cons (pv 1) pa_nil)))))))
        (pss_cons (ps_if (PW.pt (pw_or (pt_not (pt_val (pv 5))) (pw_or (pt_cmpR op_eq (pe_ix (kIxQ K) (pv 4) pe_int (fun _ _ => rfl)) (pe_ix (kIxQ K) (pv 4) pe_int (fun _ _ => rfl)) (nomark _)) (pw_or1 (pt_not (pt_val (pe_c C_is_limit hr (by decide) (by rfl) (pa_cons (pe_ix (kIxQ K) (pv 4) pe_int (fun _ _ => rfl)) pa_nil)))))))) (pss_one ps_never) pss_nil)
        (pss_one (ps_expr (pe_bm PySem.F.plainAttrs_list PySem.F.slot_list_append PySem.F.type_list_append mt_append (pv 2) (pa_cons (pe_tup (pa_cons (pe_ix (kIxQ K) (pv 4) pe_int (fun _ _ => rfl)) (pa_cons (pe_ix (kIxQ K) (pv 4) pe_int (fun _ _ => rfl)) (pa_cons (pe_ix (kIxQ K) (pv 4) pe_int (fun _ _ => rfl)) pa_nil)))) pa_nil))))))))
      (pss_one (ps_ret (pv 2))))), ?_⟩
    refine ⟨by show 0 ≤ sizeLine; decide, fun d hd => ?_⟩
    obtain ⟨J, Gd, hj, wk, hG⟩ := enumV (K := K) ha
    refine ⟨a, vs, J, rfl, hj _ (same_upd hd), ?_⟩
    refine for_it wk (fun i σ H' => ∃ x3 x4 x5 out, σ = [some (.ref a), some .non, some (.ref d), x3, x4, x5] ∧ Same H H' ∧ H' d = some (.lst out) ∧ Paired (RowT H') out (S.take i))
      ⟨none, none, none, [], rfl, same_upd hd, upd_same, .nil⟩ (fun i σ H' _ ⟨_, _, _, _, _, s1, _⟩ => hG _ s1) ?_ ?_
    · rintro i x σ H0 H' hi ⟨x3, x4, x5, out, rfl, s1, hd1, hp⟩ ⟨T', y1, y2, rfl, nT, rfl, e1, e2⟩
      cases e1
      rw [plen hvs] at hi
      obtain ⟨v, hv', r, rfl, hrow⟩ := pget hvs (List.getElem?_eq_getElem hi)
      have e2 : vs[i]? = some y2 := e2
      rw [hv'] at e2
      cases e2
      obtain ⟨g1, g2, g3, g4, g5⟩ := hgood _ (List.getElem_mem hi)
      have s2 : Same H0 (upd H0 T' (.tup [V.int (i : Int), V.ref r])) := same_upd nT
      have hrow2 := (hrow.imp (s1 _ _) (s1 _ _)).imp (s2 _ _) (s2 _ _)
      have hd2 := s2 _ _ hd1
      refine ⟨T', _, rfl, sqt upd_same, rfl, _, _, rfl, _, _, rfl, rfl, ?_⟩
      generalize upd H0 T' (.tup [V.int (i : Int), V.ref r]) = H2 at s2 hrow2 hd2 ⊢
      -- good = isinstance(row, (tuple, list)) and len(row) == 3
      refine ⟨_, rfl, by show 2 ≤ sizeLine; decide, fun p np => ?_⟩
      have hrow3 := hrow2.imp (same_upd np (o := .tup [.ty "tuple", .ty "list"]) _ _) (same_upd np (o := .tup [.ty "tuple", .ty "list"]) _ _)
      have hty : ∃ t, TyX K (upd H2 p (.tup [.ty "tuple", .ty "list"])) (.ref r) t ∧ PySem.W.kitAny K t [.type "tuple", .type "list"] = some true := hrow3.elim
        (fun h => ⟨_, .base (.tup h), kitAny_cons (b := true) (kit_ty (by decide +kernel)) (fun z => by cases z) fun _ => rfl⟩)
        (fun h => ⟨_, .base (.lst h), kitAny_cons (b := false) (kit_ty (by decide +kernel)) (fun _ => kitAny_cons (b := true) (kit_ty (by decide +kernel)) (fun z => by cases z) fun _ => rfl) fun z => by cases z⟩)
      obtain ⟨ty, ty1, ty2⟩ := hty
      refine ⟨_, p, _, ty, _, true, rfl, upd_same, .cons (.ty "tuple") (.cons (.ty "list") .nil), ty1, ty2, _, rfl, iteT ?_⟩
      refine ⟨_, rfl, r, rowT S[i], rfl, hrow3.symm.imp sq sqt, rfl, ?_⟩
      have s3 : Same H2 (upd H2 p (.tup [.ty "tuple", .ty "list"])) := same_upd np
      have hd3 := s3 _ _ hd2
      generalize upd H2 p (.tup [.ty "tuple", .ty "list"]) = H3 at s3 hrow3 hd3 ⊢
      -- good and both ends
      refine ⟨_, rfl, _, rfl, iteT ?_⟩
      refine ⟨_, rfl, ixq hrow3 (i := 0) (v := .str S[i].1) rfl ⟨_, rfl, ?_⟩⟩
      refine ⟨_, _, rfl, .yes g1, _, rfl, iteT ?_⟩
      refine ⟨_, rfl, ixq hrow3 (i := 1) (v := .str S[i].2.1) rfl ⟨_, rfl, ?_⟩⟩
      refine ⟨_, _, rfl, .yes g2, ?_⟩
      -- not good or equal ends or no limit
      refine ⟨_, rfl, _, rfl, iteF ?_⟩
      refine ⟨_, rfl, ixq hrow3 (i := 0) (v := .str S[i].1) rfl ?_⟩
      refine ⟨_, rfl, ixq hrow3 (i := 1) (v := .str S[i].2.1) rfl ?_⟩
      refine ⟨rfl, _, rfl, ?_⟩
      rw [show decide (V.str S[i].1 = V.str S[i].2.1) = false from decide_eq_false fun e => g3 (by injection e)]
      refine iteF ?_
      refine ⟨_, rfl, ixq hrow3 (i := 2) (v := .int S[i].2.2) rfl ?_⟩
      refine ⟨_, _, rfl, .yes g4 g5, _, rfl, iteF ?_⟩
      -- found.append
      refine ⟨_, rfl, .inl ⟨rfl, _, sq hd3⟩, ?_⟩
      refine ⟨_, rfl, ixq hrow3 (i := 0) (v := .str S[i].1) rfl ?_⟩
      refine ⟨_, rfl, ixq hrow3 (i := 1) (v := .str S[i].2.1) rfl ?_⟩
      refine ⟨_, rfl, ixq hrow3 (i := 2) (v := .int S[i].2.2) rfl ?_⟩
      refine ⟨by show 3 ≤ sizeLine; decide, fun q nq => ?_⟩
      have s4 := same_upd nq (o := .tup [.str S[i].1, .str S[i].2.1, .int S[i].2.2])
      have sT : Same H0 H3 := s2.trans s3
      have sA : Same H0 (upd H3 q (.tup [.str S[i].1, .str S[i].2.1, .int S[i].2.2])) := sT.trans s4
      refine ⟨d, out, .ref q, rfl, rfl, s4 _ _ hd3, ?_, _, _, _, _, rfl, same_mut (s1.trans sA) hd, upd_same, ?_⟩
      · rw [plen hp, List.length_take]
        exact szlt (by omega)
      · rw [take_snoc hi]
        have hdq : q ≠ d := (ne_of_none hd3 nq).symm
        have keep : ∀ v e, RowT H0 v e → RowT (upd (upd H3 q (.tup [.str S[i].1, .str S[i].2.1, .int S[i].2.2])) d (.lst (out ++ [.ref q]))) v e := fun v e ⟨r', e1, e2⟩ =>
          ⟨r', e1, by
            have h1 := sA _ _ e2
            have : r' ≠ d := fun z => by rw [z, hd1] at e2; cases e2
            rw [upd_ne this]; exact h1⟩
        exact (pmono keep hp).snoc ⟨q, rfl, by rw [upd_ne hdq]; exact upd_same⟩
    · rintro σ H1 ⟨x3, x4, x5, out, rfl, s1, hd1, hp⟩
      rw [plen hvs, List.take_length] at hp
      exact ⟨_, rfl, hk H1 d s1 ⟨out, hd1, hp⟩⟩
end
end K1

namespace K1
open PySem PySem.Spec PyProof.Rows L2 Ls
/-! ### bad rows -/
/-- what is no tuple and no list -/
inductive NoSeq (H : Hp) : V → Prop where
  | non : NoSeq H .non
  | int (i : Int) : NoSeq H (.int i)
  | str (n : Str) : NoSeq H (.str n)
  | dK {r : Addr} {kvs : List (Key × V)} (h : H r = some (.dK kvs)) : NoSeq H (.ref r)
/-- what is no row of a system -/
inductive BadRow (H : Hp) : V → Prop where
  | no {v : V} (h : NoSeq H v) : BadRow H v
  | len {r : Addr} {xs : List V} (h : SeqR H r xs) (hl : xs.length ≠ 3) : BadRow H (.ref r)
  | e0 {r : Addr} {a b c : V} (h : SeqR H r [a, b, c]) (h0 : EndV H a false) : BadRow H (.ref r)
  | e1 {r : Addr} {a b c : V} (h : SeqR H r [a, b, c]) (h0 : EndV H a true) (h1 : EndV H b false) : BadRow H (.ref r)
  | eq {r : Addr} {n : Str} {c : V} (h : SeqR H r [.str n, .str n, c]) (h0 : n ≠ "") : BadRow H (.ref r)
  | lim {r : Addr} {m n : Str} {c : V} (h : SeqR H r [.str m, .str n, c]) (h0 : m ≠ "") (h1 : n ≠ "") (h2 : m ≠ n) (h3 : LimV H c false) : BadRow H (.ref r)
theorem BadRow.mono {H H' : Hp} (s : Same H H') {v : V} (h : BadRow H v) : BadRow H' v := by
  cases h with
  | no h => exact .no (by cases h with
    | non => exact .non
    | int i => exact .int i
    | str n => exact .str n
    | dK h => exact .dK (s _ _ h))
  | len h hl => exact .len (h.mono s) hl
  | e0 h h0 => exact .e0 (h.mono s) (h0.mono s)
  | e1 h h0 h1 => exact .e1 (h.mono s) (h0.mono s) (h1.mono s)
  | eq h h0 => exact .eq (h.mono s) h0
  | lim h h0 h1 h2 h3 => exact .lim (h.mono s) h0 h1 h2 (h3.mono s)
/-- a system handed in whose first bad row stands at n -/
def BadSys (H : Hp) (a : Addr) (n : Nat) : Prop := ∃ (xs : List V) (S : List Df3) (v : V), SeqR H a xs ∧ xs.length ≤ 900000 ∧ xs[S.length]? = some v ∧ Paired (RowQ H) (xs.take S.length) S ∧ GoodS S ∧ BadRow H v ∧ n = S.length
theorem BadSys.mono {H H' : Hp} (s : Same H H') {a : Addr} {n : Nat} (h : BadSys H a n) : BadSys H' a n :=
  have ⟨xs, S, v, h1, h2, h3, h4, h5, h6, h7⟩ := h; ⟨xs, S, v, h1.mono s, h2, h3, pmono (fun _ _ q => q.imp fun _ q => ⟨q.1, q.2.imp (s _ _) (s _ _)⟩) h4, h5, h6.mono s, h7⟩
/-- what is raised of it -/
def RaisesAt (CD : Addr) (H : Hp) (n : Nat) (E : XK) : Prop := ∀ d H', Same H H' → H' d = some (.xd [("place", .int (n : Int))]) → E (.ref CD) (some d) H'
theorem RaisesAt.mono {CD : Addr} {H H' : Hp} (s : Same H H') {n : Nat} {E : XK} (h : RaisesAt CD H n E) : RaisesAt CD H' n E := fun d H2 s2 e => h d H2 (s.trans s2) e
end K1

namespace K1
open PySem PySem.Spec PyProof.Rows L2 Ls
/-! ### checked_system at a bad row -/
def spChkX (CD : Addr) : Sp := fun vs H Q E => ∃ (a : Addr) (n : Nat), vs = [.ref a, .non] ∧ BadSys H a n ∧ RaisesAt CD H n E
def spChk (CD : Addr) : Sp := fun vs H Q E => spChecked vs H Q E ∨ spChkX CD vs H Q E
theorem pn_nth {α : Type} {xs : List α} {n i : Nat} {v : α} (h : (xs.take n)[i]? = some v) : xs[i]? = some v := by
  rw [List.getElem?_take] at h
  split at h
  · exact h
  · cases h
section
variable {P : Program} {w : World} {K : PySem.W.Frag} {mg : Str → Option Value} {base : Heap} {f C CD : Addr} {fd : FuncData} {k : Nat}
theorem noSeqTy {H : Hp} {v : V} (h : NoSeq H v) : ∃ t, TyX K H v t ∧ PySem.W.kitAny K t [.type "tuple", .type "list"] = some false := by
  cases h with
  | non => exact ⟨_, .base .non, kitAny_cons (b := false) (kit_ty (by decide +kernel)) (fun _ => kitAny_cons (b := false) (kit_ty (by decide +kernel)) (fun _ => rfl) fun z => by cases z) fun z => by cases z⟩
  | int i => exact ⟨_, .base (.int i), kitAny_cons (b := false) (kit_ty (by decide +kernel)) (fun _ => kitAny_cons (b := false) (kit_ty (by decide +kernel)) (fun _ => rfl) fun z => by cases z) fun z => by cases z⟩
  | str n => exact ⟨_, .base (.str n), kitAny_cons (b := false) (kit_ty (by decide +kernel)) (fun _ => kitAny_cons (b := false) (kit_ty (by decide +kernel)) (fun _ => rfl) fun z => by cases z) fun z => by cases z⟩
  | dK h => exact ⟨_, .base (.dK h), kitAny_cons (b := false) (kit_ty (by decide +kernel)) (fun _ => kitAny_cons (b := false) (kit_ty (by decide +kernel)) (fun _ => rfl) fun z => by cases z) fun z => by cases z⟩
theorem seqTyAny {H : Hp} {r : Addr} {xs : List V} (h : SeqR H r xs) : ∃ t, TyX K H (.ref r) t ∧ PySem.W.kitAny K t [.type "tuple", .type "list"] = some true := h.elim
  (fun h => ⟨_, .base (.tup h), kitAny_cons (b := true) (kit_ty (by decide +kernel)) (fun z => by cases z) fun _ => rfl⟩)
  (fun h => ⟨_, .base (.lst h), kitAny_cons (b := false) (kit_ty (by decide +kernel)) (fun _ => kitAny_cons (b := true) (kit_ty (by decide +kernel)) (fun z => by cases z) fun _ => rfl) fun z => by cases z⟩)
theorem badChecked (F : FnP K "checked_system" s_checked_system [.non] f fd) (G : Facts mg) (BX : ExcS P w K mg base "BadDifference" CD "place") (C_is_limit : Cal P w K mg base 1 "is_limit" spIsLimit []) (C_u_is_end : Cal P w K mg base 1 "_is_end" spIsEnd []) :
    FnOk P w K mg base (L2.CX P w) 3 f fd ["system", "names"] (spChkX CD) := by
  refine F.ok sc_checked_system (fun vs H Q E h => ?_) (fun cdv A outer s H vs Q E hr h => ?_)
  · obtain ⟨c, n, rfl, _⟩ := h
    rfl
  · obtain ⟨a, n, rfl, ⟨xs, S, vb, ha, hlen, hat, hvs, hgood, hbad, rfl⟩, hk⟩ := h
    have hu := hu_of hr
    refine ⟨_, (pss_cons (ps_set (i := 2) sc_checked_system.nd rfl (.inl rfl) (pe_lst pa_nil))
      (pss_cons (ps_for (passes_of rfl) rfl (kpi_enumV (by rfl) G.enumerate_ (pv 0)) (kpg_tup K rfl (pgs_cons (pg_name (i := 3) sc_checked_system.nd rfl (by first | exact .inl rfl | exact .inr rfl)) (pgs_cons (pg_name (i := 4) sc_checked_system.nd rfl (by first | exact .inl rfl | exact .inr rfl)) pgs_nil)))
        (pss_cons (ps_set (i := 5) sc_checked_system.nd rfl (.inl rfl) (pe_and (pe_callB (kIsiT K) (by rfl) G.isinstance_ (by decide +kernel) (pa_cons (pv 4) (pa_cons (pe_tup (pa_cons (pe_ty "tuple" (by rfl) G.tuple_ (by decide +kernel)) (pa_cons (pe_ty "list" (by rfl) G.list_ (by decide +kernel)) pa_nil))) pa_nil))) (pe_one (pe_cmpR op_eq (pe_callB (kLen K) (by rfl) G.len_ PySem.boot_len (pa_cons (pv 4) pa_nil)) pe_int (nomark _)))))
        (pss_cons (ps_set (i := 5) sc_checked_system.nd rfl (.inl rfl) (pe_and (pv 5) (pe_and (pe_c C_u_is_end hr (by decide) (by rfl) (pa_cons (pe_ix (kIxQ K) (pv 4) pe_int (fun _ _ => rfl)) (pa_cons (pv 1) pa_nil))) (pe_one (pe_c C_u_is_end hr (by decide) (by rfl) (pa_cons (pe_ix (kIxQ K) (pv 4) pe_int (fun _ _ => rfl)) (pa_cons (pv 1) pa_nil)))))))
        (pss_cons (ps_if (PW.pt (pw_or (pt_not (pt_val (pv 5))) (pw_or (pt_cmpR op_eq (pe_ix (kIxQ K) (pv 4) pe_int (fun _ _ => rfl)) (pe_ix (kIxQ K) (pv 4) pe_int (fun _ _ => rfl)) (nomark _)) (pw_or1 (pt_not (pt_val (pe_c C_is_limit hr (by decide) (by rfl) (pa_cons (pe_ix (kIxQ K) (pv 4) pe_int (fun _ _ => rfl)) pa_nil)))))))) (pss_one (ps_raise rfl (takes_of rfl rfl rfl rfl) (pmk_sup BX hr (by decide) (by rfl) (pv 3)))) pss_nil)
        (pss_one (ps_expr (pe_bm PySem.F.plainAttrs_list PySem.F.slot_list_append PySem.F.type_list_append mt_append (pv 2) (pa_cons (pe_tup (pa_cons (pe_ix (kIxQ K) (pv 4) pe_int (fun _ _ => rfl)) (pa_cons (pe_ix (kIxQ K) (pv 4) pe_int (fun _ _ => rfl)) (pa_cons (pe_ix (kIxQ K) (pv 4) pe_int (fun _ _ => rfl)) pa_nil)))) pa_nil))))))))
      (pss_one (ps_ret (pv 2))))), ?_⟩
    refine ⟨by show 0 ≤ sizeLine; decide, fun d hd => ?_⟩
    obtain ⟨J, Gd, hj, wk, hG⟩ := enumV (K := K) ha
    have hSl : S.length < xs.length := (List.getElem?_eq_some_iff.mp hat).1
    refine ⟨a, xs, J, rfl, hj _ (same_upd hd), ?_⟩
    refine for_it wk (fun i σ H' => ∃ x3 x4 x5 out, i ≤ S.length ∧ σ = [some (.ref a), some .non, some (.ref d), x3, x4, x5] ∧ Same H H' ∧ H' d = some (.lst out) ∧ Paired (RowT H') out (S.take i))
      ⟨none, none, none, [], Nat.zero_le _, rfl, same_upd hd, upd_same, .nil⟩ (fun i σ H' _ ⟨_, _, _, _, _, _, s1, _⟩ => hG _ s1) ?_ ?_
    · rintro i x σ H0 H' hi ⟨x3, x4, x5, out, hiS, rfl, s1, hd1, hp⟩ ⟨T', y1, y2, rfl, nT, rfl, e1, e2⟩
      cases e1
      have e2 : xs[i]? = some y2 := e2
      have s2 : Same H0 (upd H0 T' (.tup [V.int (i : Int), y2])) := same_upd nT
      have hd2 := s2 _ _ hd1
      rcases Nat.lt_or_eq_of_le hiS with hi | rfl
      · obtain ⟨v, hv', r, rfl, hrow⟩ := pget hvs (List.getElem?_eq_getElem hi)
        rw [pn_nth hv'] at e2
        cases e2
        obtain ⟨g1, g2, g3, g4, g5⟩ := hgood _ (List.getElem_mem hi)
        have hrow2 := (hrow.imp (s1 _ _) (s1 _ _)).imp (s2 _ _) (s2 _ _)
        refine ⟨T', _, rfl, sqt upd_same, rfl, _, _, rfl, _, _, rfl, rfl, ?_⟩
        generalize upd H0 T' (.tup [V.int (i : Int), V.ref r]) = H2 at s2 hrow2 hd2 ⊢
        refine ⟨_, rfl, by show 2 ≤ sizeLine; decide, fun p np => ?_⟩
        have s3 : Same H2 (upd H2 p (.tup [.ty "tuple", .ty "list"])) := same_upd np
        have hrow3 : SeqR (upd H2 p (.tup [.ty "tuple", .ty "list"])) r (rowT S[i]) := hrow2.imp (s3 _ _) (s3 _ _)
        obtain ⟨ty, ty1, ty2⟩ := seqTyAny (K := K) hrow3
        refine ⟨_, p, _, ty, _, true, rfl, upd_same, .cons (.ty "tuple") (.cons (.ty "list") .nil), ty1, ty2, _, rfl, iteT ?_⟩
        refine ⟨_, rfl, r, rowT S[i], rfl, hrow3.symm.imp sq sqt, rfl, ?_⟩
        have hd3 := s3 _ _ hd2
        generalize upd H2 p (.tup [.ty "tuple", .ty "list"]) = H3 at s3 hrow3 hd3 ⊢
        refine ⟨_, rfl, _, rfl, iteT ?_⟩
        refine ⟨_, rfl, ixq hrow3 (i := 0) (v := .str S[i].1) rfl ⟨_, rfl, ?_⟩⟩
        refine ⟨_, _, rfl, .yes g1, _, rfl, iteT ?_⟩
        refine ⟨_, rfl, ixq hrow3 (i := 1) (v := .str S[i].2.1) rfl ⟨_, rfl, ?_⟩⟩
        refine ⟨_, _, rfl, .yes g2, ?_⟩
        refine ⟨_, rfl, _, rfl, iteF ?_⟩
        refine ⟨_, rfl, ixq hrow3 (i := 0) (v := .str S[i].1) rfl ?_⟩
        refine ⟨_, rfl, ixq hrow3 (i := 1) (v := .str S[i].2.1) rfl ?_⟩
        refine ⟨rfl, _, rfl, ?_⟩
        rw [show decide (V.str S[i].1 = V.str S[i].2.1) = false from decide_eq_false fun e => g3 (by injection e)]
        refine iteF ?_
        refine ⟨_, rfl, ixq hrow3 (i := 2) (v := .int S[i].2.2) rfl ?_⟩
        refine ⟨_, _, rfl, .yes g4 g5, _, rfl, iteF ?_⟩
        refine ⟨_, rfl, .inl ⟨rfl, _, sq hd3⟩, ?_⟩
        refine ⟨_, rfl, ixq hrow3 (i := 0) (v := .str S[i].1) rfl ?_⟩
        refine ⟨_, rfl, ixq hrow3 (i := 1) (v := .str S[i].2.1) rfl ?_⟩
        refine ⟨_, rfl, ixq hrow3 (i := 2) (v := .int S[i].2.2) rfl ?_⟩
        refine ⟨by show 3 ≤ sizeLine; decide, fun q nq => ?_⟩
        have s4 := same_upd nq (o := .tup [.str S[i].1, .str S[i].2.1, .int S[i].2.2])
        have sT : Same H0 H3 := s2.trans s3
        have sA : Same H0 (upd H3 q (.tup [.str S[i].1, .str S[i].2.1, .int S[i].2.2])) := sT.trans s4
        refine ⟨d, out, .ref q, rfl, rfl, s4 _ _ hd3, ?_, _, _, _, _, hi, rfl, same_mut (s1.trans sA) hd, upd_same, ?_⟩
        · rw [plen hp, List.length_take]
          exact szlt (by omega)
        · rw [take_snoc hi]
          have hdq : q ≠ d := (ne_of_none hd3 nq).symm
          have keep : ∀ v e, RowT H0 v e → RowT (upd (upd H3 q (.tup [.str S[i].1, .str S[i].2.1, .int S[i].2.2])) d (.lst (out ++ [.ref q]))) v e := fun v e ⟨r', e1, e2⟩ =>
            ⟨r', e1, by
              have h1 := sA _ _ e2
              have : r' ≠ d := fun z => by rw [z, hd1] at e2; cases e2
              rw [upd_ne this]; exact h1⟩
          exact (pmono keep hp).snoc ⟨q, rfl, by rw [upd_ne hdq]; exact upd_same⟩
      · rw [hat] at e2
        cases e2
        have hbad2 := (hbad.mono s1).mono s2
        have sB := s1.trans s2
        refine ⟨T', _, rfl, sqt upd_same, rfl, _, _, rfl, _, _, rfl, rfl, ?_⟩
        generalize upd H0 T' (.tup [V.int (S.length : Int), vb]) = H2 at s2 hbad2 hd2 sB ⊢
        refine ⟨_, rfl, by show 2 ≤ sizeLine; decide, fun p np => ?_⟩
        have s3 : Same H2 (upd H2 p (.tup [.ty "tuple", .ty "list"])) := same_upd np
        have hp3 : (upd H2 p (.tup [.ty "tuple", .ty "list"])) p = some (.tup [.ty "tuple", .ty "list"]) := upd_same
        have hbad3 := hbad2.mono s3
        have sC := sB.trans s3
        generalize upd H2 p (.tup [.ty "tuple", .ty "list"]) = H3 at s3 hp3 hbad3 sC ⊢
        have fin : ∀ {QQ : XK}, (∀ d H', Same H H' → H' d = some (.xd [("place", .int (S.length : Int))]) → QQ (.ref CD) (some d) H') → ∀ d H2, Same H3 H2 → H3 d = none → H2 d = some (.xd [("place", .int (S.length : Int))]) → QQ (.ref CD) (some d) H2 := fun h d H2 s _ e => h d H2 (sC.trans s) e
        cases hbad3 with
        | no h =>
          obtain ⟨ty, ty1, ty2⟩ := noSeqTy (K := K) h
          refine ⟨_, p, _, ty, _, false, rfl, hp3, .cons (.ty "tuple") (.cons (.ty "list") .nil), ty1, ty2, _, rfl, iteF ?_⟩
          refine ⟨_, rfl, _, rfl, iteF ?_⟩
          refine ⟨_, rfl, _, rfl, iteT ?_⟩
          exact ⟨_, rfl, mk1 (fin hk)⟩
        | @len r ys h hl =>
          obtain ⟨ty, ty1, ty2⟩ := seqTyAny (K := K) h
          refine ⟨_, p, _, ty, _, true, rfl, hp3, .cons (.ty "tuple") (.cons (.ty "list") .nil), ty1, ty2, _, rfl, iteT ?_⟩
          refine ⟨_, rfl, r, ys, rfl, h.symm.imp sq sqt, rfl, ?_⟩
          rw [show decide (V.int (ys.length : Int) = V.int 3) = false from decide_eq_false fun e => hl (by injection e; omega)]
          refine ⟨_, rfl, _, rfl, iteF ?_⟩
          refine ⟨_, rfl, _, rfl, iteT ?_⟩
          exact ⟨_, rfl, mk1 (fin hk)⟩
        | @e0 r x y z h h0 =>
          obtain ⟨ty, ty1, ty2⟩ := seqTyAny (K := K) h
          refine ⟨_, p, _, ty, _, true, rfl, hp3, .cons (.ty "tuple") (.cons (.ty "list") .nil), ty1, ty2, _, rfl, iteT ?_⟩
          refine ⟨_, rfl, r, [x, y, z], rfl, h.symm.imp sq sqt, rfl, ?_⟩
          refine ⟨_, rfl, _, rfl, iteT ?_⟩
          refine ⟨_, rfl, ixq h (i := 0) (v := x) rfl ⟨_, rfl, ?_⟩⟩
          refine ⟨_, _, rfl, h0, _, rfl, iteF ?_⟩
          refine ⟨_, rfl, _, rfl, iteT ?_⟩
          exact ⟨_, rfl, mk1 (fin hk)⟩
        | @e1 r x y z h h0 h1 =>
          obtain ⟨ty, ty1, ty2⟩ := seqTyAny (K := K) h
          refine ⟨_, p, _, ty, _, true, rfl, hp3, .cons (.ty "tuple") (.cons (.ty "list") .nil), ty1, ty2, _, rfl, iteT ?_⟩
          refine ⟨_, rfl, r, [x, y, z], rfl, h.symm.imp sq sqt, rfl, ?_⟩
          refine ⟨_, rfl, _, rfl, iteT ?_⟩
          refine ⟨_, rfl, ixq h (i := 0) (v := x) rfl ⟨_, rfl, ?_⟩⟩
          refine ⟨_, _, rfl, h0, _, rfl, iteT ?_⟩
          refine ⟨_, rfl, ixq h (i := 1) (v := y) rfl ⟨_, rfl, ?_⟩⟩
          refine ⟨_, _, rfl, h1, ?_⟩
          refine ⟨_, rfl, _, rfl, iteT ?_⟩
          exact ⟨_, rfl, mk1 (fin hk)⟩
        | @eq r n z h h0 =>
          obtain ⟨ty, ty1, ty2⟩ := seqTyAny (K := K) h
          refine ⟨_, p, _, ty, _, true, rfl, hp3, .cons (.ty "tuple") (.cons (.ty "list") .nil), ty1, ty2, _, rfl, iteT ?_⟩
          refine ⟨_, rfl, r, [.str n, .str n, z], rfl, h.symm.imp sq sqt, rfl, ?_⟩
          refine ⟨_, rfl, _, rfl, iteT ?_⟩
          refine ⟨_, rfl, ixq h (i := 0) (v := .str n) rfl ⟨_, rfl, ?_⟩⟩
          refine ⟨_, _, rfl, .yes h0, _, rfl, iteT ?_⟩
          refine ⟨_, rfl, ixq h (i := 1) (v := .str n) rfl ⟨_, rfl, ?_⟩⟩
          refine ⟨_, _, rfl, .yes h0, ?_⟩
          refine ⟨_, rfl, _, rfl, iteF ?_⟩
          refine ⟨_, rfl, ixq h (i := 0) (v := .str n) rfl ?_⟩
          refine ⟨_, rfl, ixq h (i := 1) (v := .str n) rfl ?_⟩
          refine ⟨rfl, _, rfl, ?_⟩
          rw [show decide (V.str n = V.str n) = true from decide_eq_true rfl]
          refine iteT ?_
          exact ⟨_, rfl, mk1 (fin hk)⟩
        | @lim r m n z h h0 h1 h2 h3 =>
          obtain ⟨ty, ty1, ty2⟩ := seqTyAny (K := K) h
          refine ⟨_, p, _, ty, _, true, rfl, hp3, .cons (.ty "tuple") (.cons (.ty "list") .nil), ty1, ty2, _, rfl, iteT ?_⟩
          refine ⟨_, rfl, r, [.str m, .str n, z], rfl, h.symm.imp sq sqt, rfl, ?_⟩
          refine ⟨_, rfl, _, rfl, iteT ?_⟩
          refine ⟨_, rfl, ixq h (i := 0) (v := .str m) rfl ⟨_, rfl, ?_⟩⟩
          refine ⟨_, _, rfl, .yes h0, _, rfl, iteT ?_⟩
          refine ⟨_, rfl, ixq h (i := 1) (v := .str n) rfl ⟨_, rfl, ?_⟩⟩
          refine ⟨_, _, rfl, .yes h1, ?_⟩
          refine ⟨_, rfl, _, rfl, iteF ?_⟩
          refine ⟨_, rfl, ixq h (i := 0) (v := .str m) rfl ?_⟩
          refine ⟨_, rfl, ixq h (i := 1) (v := .str n) rfl ?_⟩
          refine ⟨rfl, _, rfl, ?_⟩
          rw [show decide (V.str m = V.str n) = false from decide_eq_false fun e => h2 (by injection e)]
          refine iteF ?_
          refine ⟨_, rfl, ixq h (i := 2) (v := z) rfl ?_⟩
          refine ⟨_, _, rfl, h3, _, rfl, iteT ?_⟩
          exact ⟨_, rfl, mk1 (fin hk)⟩
    · rintro σ H1 ⟨x3, x4, x5, out, hle, _⟩
      exact absurd hle (by omega)
theorem okX_checked (F : FnP K "checked_system" s_checked_system [.non] f fd) (G : Facts mg) (BX : ExcS P w K mg base "BadDifference" CD "place") (C_is_limit : Cal P w K mg base 1 "is_limit" spIsLimit []) (C_u_is_end : Cal P w K mg base 1 "_is_end" spIsEnd []) :
    FnOk P w K mg base (L2.CX P w) 3 f fd ["system", "names"] (spChk CD) :=
  fn_or (fn_lift0 ((ok_checked F G C_is_limit C_u_is_end).mono (by decide))) (badChecked F G BX C_is_limit C_u_is_end)
end
end K1

namespace K1
open PySem PySem.Spec PyProof.Rows L2 Ls
/-! ### rings -/
def nV (ks : List Str) (b : Str → Nat) : List (Key × V) := tabV ks fun n => V.int ((b n : Nat) : Int)
theorem nV_put {ks : List Str} {b : Str → Nat} {n : Str} {v : Nat} : putK (nV ks b) (Sum.inr n : Key) (V.int (v : Int)) = nV (Df.ins ks n) (Df.put b n v) := by
  unfold nV
  rw [putK_tab]
  refine tabV_congr fun m _ => ?_
  unfold Df.put
  split <;> rfl
def ringV (f : List Nat) : List V := f.map fun (q : Nat) => V.int (q : Int)
def spCycle : Sp := fun vs H Q _ => ∃ (a bf : Addr) (x y : Str) (S : List Df3) (ks : List Str) (b : Str → Nat) (d : Nat), vs = [.ref a, .ref bf, .str x] ∧ SysAt H a S ∧ H bf = some (.dK (nV ks b)) ∧ ks.length ≤ 900000 ∧
  (∀ n ∈ ks, ∃ c, S[b n]? = some (n, Df.nx S b n, c)) ∧ (∀ i, i ≤ ks.length → Df.it S b i x ∈ ks) ∧ y = Df.it S b (ks.length + 1) x ∧ 0 < d ∧ d ≤ 900000 ∧ Df.it S b d y = y ∧ (∀ i, Df.it S b i y ∈ ks) ∧ (∀ j, 0 < j → j < d → Df.it S b j y ≠ y) ∧
  ∀ H' q, Same H H' → H' q = some (.lst (ringV ((List.range d).map fun i => b (Df.it S b i y)))) → Q (.ref q) H'
def spRing : Sp := fun vs H Q _ => ∃ (a : Addr) (S : List Df3), vs = [.ref a] ∧ SysQ H a S ∧ GoodS S ∧ S.length ≤ 100000 ∧ ((∃ p, Df.Solves S p) → ∀ H', Same H H' → Q .non H') ∧ (∀ f, Df.IsRing S f → ∀ H' b, Same H H' → H' b = some (.lst (ringV f)) → Q (.ref b) H')
section
variable {P : Program} {w : World} {K : PySem.W.Frag} {mg : Str → Option Value} {base : Heap} {f C : Addr} {fd : FuncData} {k : Nat}
theorem sc_u_cycle : FnScope ["system", "before", "name", "_", "start", "found"] ["system", "before", "name"] (defScope s_u_cycle) := ⟨rfl, rfl, rfl, by decide +kernel, rfl, by decide +kernel, by decide +kernel⟩
theorem ok_cycle (F : FnP K "_cycle" s_u_cycle [] f fd) (G : Facts mg) : FnOk P w K mg base CX0 1 f fd ["system", "before", "name"] spCycle := by
  refine F.ok sc_u_cycle (fun vs H Q E h => ?_) (fun cdv A outer s H vs Q E hr h => ?_)
  · obtain ⟨a, bf, x, y, S, ks, b, d, rfl, _⟩ := h
    rfl
  · obtain ⟨a, bf, x, y, S, ks, b, d, rfl, ⟨vs, ha, hvs⟩, hbf, hkl, hpre, hback, hy, hd0, hd9, hdy, hin, hmin, hk⟩ := h
    have hu := hu_of hr
    refine ⟨_, PSs.nox (pss_cons (ps_for PassesOwn.never rfl (pi_range1 (by rfl) G.range_ (pa_cons (pe_op op_add (pe_callB call_lenD (by rfl) G.len_ PySem.boot_len (pa_cons (pv 1) pa_nil)) pe_int) pa_nil)) (pg_name (i := 3) sc_u_cycle.nd rfl (by first | exact .inl rfl | exact .inr rfl))
        (pss_one (ps_set (i := 2) sc_u_cycle.nd rfl (.inl rfl) (pe_ix (kIxT K) (pe_ix (kIxL K) (pv 0) (pe_dget hu (pv 1) (pv 2) (fun _ _ => rfl)) (fun _ _ => rfl)) pe_int (fun _ _ => rfl)))))
      (pss_cons (ps_set (i := 4) sc_u_cycle.nd rfl (.inl rfl) (pv 2))
      (pss_cons (ps_set (i := 5) sc_u_cycle.nd rfl (.inl rfl) (pe_lst pa_nil))
      (pss_one (ps_while PassesOwn.never (pt_val pe_bl) (pss_cons (ps_expr (pe_bm PySem.F.plainAttrs_list PySem.F.slot_list_append PySem.F.type_list_append mt_append (pv 5) (pa_cons (pe_dget hu (pv 1) (pv 2) (fun _ _ => rfl)) pa_nil)))
        (pss_cons (ps_set (i := 2) sc_u_cycle.nd rfl (.inl rfl) (pe_ix (kIxT K) (pe_ix (kIxL K) (pv 0) (pe_dget hu (pv 1) (pv 2) (fun _ _ => rfl)) (fun _ _ => rfl)) pe_int (fun _ _ => rfl)))
        (pss_one (ps_if (pt_cmpR op_eq (pv 2) (pv 4) (nomark _)) (pss_one (ps_ret (pv 5))) pss_nil))))))))), ?_⟩
    have step : ∀ n, n ∈ ks → ∀ H', Same H H' → ∃ r v c, valV (nV ks b) (Sum.inr n : Key) = some (V.int (b n : Int)) ∧ vs[b n]? = some (V.ref r) ∧ v = Df.nx S b n ∧ H' r = some (.tup (rowT (n, v, c))) := fun n hn H' s => by
      obtain ⟨c, e⟩ := hpre n hn
      obtain ⟨v, hv, r, rfl, hr'⟩ := pget hvs e
      exact ⟨r, _, c, valV_tab_in hn, hv, rfl, s _ _ hr'⟩
    refine ⟨_, rfl, bf, _, rfl, hbf, ?_⟩
    rw [show (nV ks b).length = ks.length from tabV_len _ _]
    refine ⟨_, _, rfl, rfl, (ks.length : Int) + 1, rfl, by omega, by omega, ?_⟩
    refine for_it (walk_range (lo := 0) (n := ((ks.length : Int) + 1).toNat)) (fun i σ H' => ∃ x3 x4 x5, H' = H ∧ σ = [some (.ref a), some (.ref bf), some (.str (Df.it S b i x)), x3, x4, x5])
      ⟨none, none, none, rfl, rfl⟩ (fun _ _ _ _ _ => True.intro) ?_ ?_
    · rintro i x' σ H9 H1 hi ⟨x3, x4, x5, rfl, rfl⟩ ⟨rfl, rfl⟩
      obtain ⟨r, v, c, e1, e2, rfl, e3⟩ := step _ (hback i (by omega)) H1 (Same.refl H1)
      refine ⟨_, rfl, _, rfl, _, rfl, bf, _, rfl, dget hbf e1, a, vs, _, _, rfl, rfl, sq ha, atI_nat e2, r, _, _, _, rfl, rfl, sqt e3, rfl, ?_⟩
      exact ⟨_, _, _, rfl, rfl⟩
    · rintro σ H1 ⟨x3, x4, x5, rfl, rfl⟩
      rw [show ((ks.length : Int) + 1).toNat = ks.length + 1 by omega, ← hy]
      refine ⟨_, rfl, ?_⟩
      refine ⟨by show 0 ≤ sizeLine; decide, fun F hF => ?_⟩
      refine ⟨fun m σ H' => ∃ i x3, i < d ∧ m = d - i ∧ σ = [some (.ref a), some (.ref bf), some (.str (Df.it S b i y)), x3, some (.str y), some (.ref F)] ∧ Same H1 H' ∧ H' F = some (.lst (ringV ((List.range i).map fun i => b (Df.it S b i y)))),
        ⟨d, 0, x3, hd0, rfl, rfl, same_upd hF, upd_same⟩, ?_⟩
      rintro m σ H2 ⟨i, x3, hi, rfl, rfl, s2, hF2⟩
      obtain ⟨r, v, c, e1, e2, rfl, e3⟩ := step _ (hin i) H2 s2
      refine ⟨_, rfl, iteT ⟨fun σ' H' => ∃ m', m' < d - i ∧ _, fun _ _ h => h, ?_⟩⟩
      have hb2 := s2 _ _ hbf
      have hFb : F ≠ bf := (ne_of_none hbf hF).symm
      refine ⟨_, rfl, .inl ⟨rfl, _, sq hF2⟩, _, rfl, _, rfl, bf, _, rfl, dget hb2 e1, F, _, _, rfl, rfl, hF2, ?_, ?_⟩
      · unfold ringV
        rw [List.length_map, List.length_map, List.length_range]
        exact szlt (by omega)
      have s3 : Same H1 (upd H2 F (.lst (ringV ((List.range i).map fun i => b (Df.it S b i y)) ++ [V.int (b (Df.it S b i y) : Int)]))) := same_mut s2 hF
      have hF3 : (upd H2 F (.lst (ringV ((List.range i).map fun i => b (Df.it S b i y)) ++ [V.int (b (Df.it S b i y) : Int)]))) F = some (.lst (ringV ((List.range (i + 1)).map fun i => b (Df.it S b i y)))) := by
        rw [upd_same, List.range_succ]
        simp [ringV]
      obtain ⟨r, v, c, e1, e2, e4, e3⟩ := step _ (hin i) _ s3
      refine ⟨_, rfl, _, rfl, _, rfl, bf, _, rfl, dget (s3 _ _ hbf) e1, a, vs, _, _, rfl, rfl, sq (s3 _ _ ha), atI_nat e2, r, _, _, _, rfl, rfl, sqt e3, rfl, ?_⟩
      have e5 : v = Df.it S b (i + 1) y := e4
      subst e5
      refine ⟨_, rfl, _, rfl, rfl, _, rfl, ?_⟩
      by_cases he : Df.it S b (i + 1) y = y
      · rw [show decide (V.str (Df.it S b (i + 1) y) = V.str y) = true by rw [he]; exact decide_eq_true rfl]
        have hd1 : i + 1 = d := Nat.le_antisymm hi (Nat.le_of_not_lt fun z => hmin (i + 1) (Nat.succ_pos i) z he)
        rw [hd1] at hF3
        exact iteT ⟨_, rfl, hk _ F s3 hF3⟩
      · rw [show decide (V.str (Df.it S b (i + 1) y) = V.str y) = false from decide_eq_false fun e => he (by injection e)]
        have hd1 : i + 1 < d := Nat.lt_of_le_of_ne hi fun z => he (z ▸ hdy)
        exact iteF ⟨d - (i + 1), by omega, i + 1, _, hd1, rfl, rfl, s3, hF3⟩
end
end K1

namespace K1
open PySem PySem.Spec PyProof.Rows L2 Ls
section
variable {P : Program} {w : World} {K : PySem.W.Frag} {mg : Str → Option Value} {base : Heap} {f C : Addr} {fd : FuncData} {k : Nat}
theorem sc_ring : FnScope ["system", "names", "worth", "name", "before", "turn", "last", "place", "left", "right", "limit"] ["system"] (defScope s_ring) := ⟨rfl, rfl, rfl, by decide +kernel, rfl, by decide +kernel, by decide +kernel⟩
theorem ok_ring (F : FnP K "ring" s_ring [] f fd) (G : Facts mg) (C_checked_system : Cal P w K mg base 2 "checked_system" spChecked [.non]) (C_names_of : Cal P w K mg base 1 "names_of" spNamesOf []) (C_u_cycle : Cal P w K mg base 1 "_cycle" spCycle []) :
    FnOk P w K mg base CX0 3 f fd ["system"] spRing := by
  refine F.ok sc_ring (fun vs H Q E h => ?_) (fun cdv A outer s H vs Q E hr h => ?_)
  · obtain ⟨a, S, rfl, _⟩ := h
    rfl
  · obtain ⟨a, S, rfl, hS, hgood, hlen, hkN, hkR⟩ := h
    have hu := hu_of hr
    refine ⟨_, PSs.nox (pss_cons (ps_set (i := 0) sc_ring.nd rfl (.inl rfl) (pe_c C_checked_system hr (by decide) (by rfl) (pa_cons (pv 0) pa_nil)))
      (pss_cons (ps_set (i := 1) sc_ring.nd rfl (.inl rfl) (pe_op op_cat (pe_lst (pa_cons pe_str pa_nil)) (pe_c C_names_of hr (by decide) (by rfl) (pa_cons (pv 0) pa_nil))))
      (pss_cons (ps_setDc (i := 2) (own := [("name", 3)]) (g := gName 3) (tt := tYes) rfl sc_ring.nd rfl rfl (sw_trueD rfl rfl rfl (by decide +kernel)) (kpi_list K (pv 1)) (blkOk_by (by kernel_rfl)) (fun _ _ _ _ _ => (pg_name (i := 3) sc_ring.nd rfl (by first | exact .inl rfl | exact .inr rfl))) (fun _ _ _ _ _ => pts_nil) (fun _ _ _ _ _ => (pv 3)) (fun _ _ _ _ _ => pe_int))
      (pss_cons (ps_set (i := 4) sc_ring.nd rfl (.inl rfl) pe_dnewK)
      (pss_cons (ps_for PassesOwn.never rfl (pi_range1 (by rfl) G.range_ (pa_cons (pe_op op_add (pe_callB (kLen K) (by rfl) G.len_ PySem.boot_len (pa_cons (pv 1) pa_nil)) pe_int) pa_nil)) (pg_name (i := 5) sc_ring.nd rfl (by first | exact .inl rfl | exact .inr rfl))
        (pss_cons (ps_set (i := 6) sc_ring.nd rfl (.inl rfl) pe_non)
        (pss_cons (ps_for PassesOwn.never rfl (kpi_enum K (by rfl) G.enumerate_ (pa_cons (pv 0) pa_nil)) (kpg_tup K rfl (pgs_cons (pg_name (i := 7) sc_ring.nd rfl (by first | exact .inl rfl | exact .inr rfl)) (pgs_cons (kpg_tup K rfl (pgs_cons (pg_name (i := 8) sc_ring.nd rfl (by first | exact .inl rfl | exact .inr rfl)) (pgs_cons (pg_name (i := 9) sc_ring.nd rfl (by first | exact .inl rfl | exact .inr rfl)) (pgs_cons (pg_name (i := 10) sc_ring.nd rfl (by first | exact .inl rfl | exact .inr rfl)) pgs_nil)))) pgs_nil)))
          (pss_one (ps_if (pt_cmpR op_lt (pe_op op_add (pe_dget hu (pv 2) (pv 9) (fun _ _ => rfl)) (pv 10)) (pe_dget hu (pv 2) (pv 8) (fun _ _ => rfl)) (nomark _)) (pss_cons (ps_dput hu (pv 2) (pv 8) (pe_op op_add (pe_dget hu (pv 2) (pv 9) (fun _ _ => rfl)) (pv 10)) rfl)
            (pss_cons (ps_dput hu (pv 4) (pv 8) (pv 7) rfl)
            (pss_one (ps_set (i := 6) sc_ring.nd rfl (.inl rfl) (pv 8))))) pss_nil)))
        (pss_cons (ps_if (pt_cmpR op_isN (pv 6) pe_non (nomark _)) (pss_one (ps_ret pe_non)) pss_nil)
        (pss_one (ps_if (pt_cmpR op_eq (pv 5) (pe_callB (kLen K) (by rfl) G.len_ PySem.boot_len (pa_cons (pv 1) pa_nil)) (nomark _)) (pss_one (ps_ret (pe_c C_u_cycle hr (by decide) (by rfl) (pa_cons (pv 0) (pa_cons (pv 4) (pa_cons (pv 6) pa_nil)))))) pss_nil))))))
      (pss_one (ps_ret pe_non))))))), ?_⟩
    refine ⟨_, rfl, a, S, rfl, hS, hgood, by omega, fun H1 b s1 hS1 => ?_⟩
    -- names
    refine ⟨by show 1 ≤ sizeLine; decide, fun p np => ?_⟩
    have s2 := same_upd np (o := .lst [.str "0"])
    refine ⟨_, rfl, b, S, rfl, hS1.mono s2, by omega, fun H3 q s3 nq hq => ?_⟩
    have hl1 := len_namesOf S
    have hnd := nd_namesOf S
    have hpq : H3 p = some (.lst [.str "0"]) := s3 _ _ upd_same
    refine ⟨p, q, [.str "0"], (namesOf S).map V.str, rfl, rfl, hpq, hq, szl (by simp; omega), fun nl hnl => ?_⟩
    generalize hns : ("0" : Str) :: namesOf S = ns at hnd
    have hcat : [V.str "0"] ++ (namesOf S).map V.str = ns.map V.str := by rw [← hns]; rfl
    rw [hcat]
    have hnl1 : ns.length ≤ 1 + 2 * S.length := by rw [← hns, List.length_cons]; omega
    have hinS : ∀ e ∈ S, e.1 ∈ ns ∧ e.2.1 ∈ ns := fun e he => by
      rw [← hns]
      exact ⟨in_names ⟨e, he, .inl rfl⟩, in_names ⟨e, he, .inr rfl⟩⟩
    have s4 := same_upd hnl (o := .lst (ns.map V.str))
    have sA : Same H (upd H3 nl (.lst (ns.map V.str))) := s1.trans (s2.trans (s3.trans s4))
    have hS4 : SysAt (upd H3 nl (.lst (ns.map V.str))) b S := hS1.mono (s2.trans (s3.trans s4))
    have hn4 : (upd H3 nl (.lst (ns.map V.str))) nl = some (.lst (ns.map V.str)) := upd_same
    generalize upd H3 nl (.lst (ns.map V.str)) = H4 at sA hS4 hn4 ⊢
    obtain ⟨vs, hb4, hvs⟩ := hS4
    -- worth
    refine ⟨_, rfl, nl, rfl, ⟨_, sq hn4⟩, fun dw hdw => ?_⟩
    refine dc_it (walk_list (K := K) (a := nl) (xs := ns.map V.str)) (fun i H' => Same H4 H' ∧ H' dw = some (.dK (ptV (ns.take i) x0))) ⟨same_upd hdw, upd_same⟩ (fun i H' _ ⟨s5, _⟩ => sq (s5 _ _ hn4)) ?_ ?_
    · rintro i x H9 H' hi ⟨s5, hd⟩ ⟨rfl, ex⟩
      rw [List.length_map] at hi
      have ex : x = V.str ns[i] := by
        rw [List.getElem?_map, List.getElem?_eq_getElem hi] at ex
        exact (Option.some.inj ex).symm
      subst ex
      have hno : ns[i] ∉ ns.take i := fun hm => by
        obtain ⟨j, hj, ej⟩ := List.mem_take_iff_getElem.mp hm
        have := (List.getElem_inj hnd).mp ej
        omega
      refine ⟨rfl, _, rfl, ptV (ns.take i) x0, Sum.inr ns[i], rfl, hd, ?_, same_mut s5 hdw, ?_⟩
      · rw [show (ptV (ns.take i) x0).length = (ns.take i).length from tabV_len _ _, List.length_take]
        exact szlt (by omega)
      · rw [upd_same, ptV_put hno, take_snoc hi]
        have : Df.put x0 ns[i] 0 = x0 := by
          funext m
          unfold Df.put x0
          split <;> rfl
        rw [this]
    rintro H5 ⟨s5, hw5⟩
    rw [List.length_map, List.take_length] at hw5
    -- before
    intro db hdb
    have hwb : dw ≠ db := ne_of_none hw5 hdb
    have hdb4 : H4 db = none := s5.free hdb
    -- the turns
    refine ⟨_, rfl, nl, _, rfl, .inl (sq (same_upd hdb _ _ (s5 _ _ hn4))), ?_⟩
    rw [List.length_map]
    refine ⟨_, _, rfl, rfl, (ns.length : Int) + 1, rfl, by omega, by omega, ?_⟩
    refine for_it (walk_range (lo := 0) (n := ((ns.length : Int) + 1).toNat)) (fun t σ H' => ∃ x3 x5 x6 x7 x8 x9 x10 w ks bb τ, t ≤ ns.length ∧ σ = [some (.ref b), some (.ref nl), some (.ref dw), x3, some (.ref db), x5, x6, x7, x8, x9, x10] ∧ Same H4 H' ∧
        H' dw = some (.dK (ptV ns w)) ∧ H' db = some (.dK (nV ks bb)) ∧ Df.BF S w ks bb τ t 0)
      ⟨_, _, _, _, _, _, _, x0, [], fun _ => 0, fun _ => 0, Nat.zero_le _, rfl, s5.trans (same_upd hdb), by rw [upd_ne hwb]; exact hw5, upd_same, Df.BF.start S x0 _⟩ (fun _ _ _ _ _ => True.intro) ?_ ?_
    · rintro t x σ H9 H6 ht ⟨x3, x5, x6, x7, x8, x9, x10, w, ks, bb, τ, htn, rfl, s6, hw6, hb6, bf⟩ ⟨rfl, rfl⟩
      -- last = None; the edges
      refine ⟨_, rfl, b, vs, rfl, sq (s6 _ _ hb4), ?_⟩
      refine for_it (walk_enum (K := K) (a := b) (xs := vs)) (fun i σ H' => ∃ x3 x6 x7 x8 x9 x10 w ks bb τ, σ = [some (.ref b), some (.ref nl), some (.ref dw), x3, some (.ref db), some (.int ((0 : Int) + (t : Int))), some x6, x7, x8, x9, x10] ∧ Same H4 H' ∧
          H' dw = some (.dK (ptV ns w)) ∧ H' db = some (.dK (nV ks bb)) ∧ Df.BF S w ks bb τ t i ∧
          ((x6 = .non ∧ ∀ q e, q < i → S[q]? = some e → w e.1 ≤ w e.2.1 + e.2.2) ∨ ∃ l, x6 = .str l ∧ t * S.length < τ l))
        ⟨_, .non, _, _, _, _, w, ks, bb, τ, rfl, s6, hw6, hb6, bf, .inl ⟨rfl, fun q e h => absurd h (Nat.not_lt_zero _)⟩⟩ (fun i σ H' _ ⟨_, _, _, _, _, _, _, _, _, _, _, s7, _⟩ => sq (s7 _ _ hb4)) ?_ ?_
      · rintro i x σ H0 H' hi ⟨x3, x6, x7, x8, x9, x10, w, ks, bb, τ, rfl, s7, hw7, hb7, bf, hlast⟩ ⟨T', y1, y2, rfl, nT, rfl, e1, e2⟩
        cases e1
        rw [plen hvs] at hi
        obtain ⟨v, hv', r, rfl, hrow⟩ := pget hvs (List.getElem?_eq_getElem hi)
        have e2 : vs[i]? = some y2 := e2
        rw [hv'] at e2
        cases e2
        have he : S[i]? = some (S[i].1, S[i].2.1, S[i].2.2) := List.getElem?_eq_getElem hi
        have hSi := hinS _ (List.getElem_mem hi)
        have s8 : Same H0 (upd H0 T' (.tup [V.int (i : Int), V.ref r])) := same_upd nT
        have hrow2 := s8 _ _ (s7 _ _ hrow)
        have hw8 := s8 _ _ hw7
        have hb8 := s8 _ _ hb7
        have s78 := s7.trans s8
        refine ⟨T', _, rfl, sqt upd_same, rfl, _, _, rfl, _, _, rfl, r, _, rfl, sqt hrow2, rfl, _, _, rfl, _, _, rfl, _, _, rfl, rfl, rfl, ?_⟩
        generalize upd H0 T' (.tup [V.int (i : Int), V.ref r]) = H8 at s78 hw8 hb8 ⊢
        have gl : ∀ H'', H'' dw = some (.dK (ptV ns w)) → DGet H'' dw (.str S[i].1) (some (.int (w S[i].1))) := fun H'' h => dget h (valV_tab_in hSi.1)
        have gr : ∀ H'', H'' dw = some (.dK (ptV ns w)) → DGet H'' dw (.str S[i].2.1) (some (.int (w S[i].2.1))) := fun H'' h => dget h (valV_tab_in hSi.2)
        refine ⟨_, rfl, _, rfl, dw, _, rfl, gr _ hw8, _, rfl, _, _, rfl, rfl, _, rfl, _, rfl, dw, _, rfl, gl _ hw8, _, _, rfl, rfl, _, rfl, ?_⟩
        by_cases hlt : w S[i].2.1 + S[i].2.2 < w S[i].1
        · rw [decide_eq_true hlt]
          refine iteT ?_
          have hnl : (ptV ns w).length < sizeLine := by
            rw [show (ptV ns w).length = ns.length from tabV_len _ _]
            exact szlt (by omega)
          have hkl : (nV ks bb).length < sizeLine := by
            rw [show (nV ks bb).length = ks.length from tabV_len _ _]
            have : ks.length ≤ ns.length := Df.nodup_le bf.nd fun x hx => by
              obtain ⟨e, e1, e2, _⟩ := bf.pre x hx
              exact e2 ▸ (hinS e (List.mem_of_getElem? e1)).1
            exact szlt (by omega)
          have bf' := bf.step he (fun e he => (hgood e he).2.2.1) hlt
          refine ⟨_, rfl, _, rfl, dw, _, rfl, gr _ hw8, _, rfl, _, _, rfl, rfl, _, rfl, _, rfl, dw, _, rfl, DPut.k (k := (Sum.inr S[i].1 : Key)) hw8 hnl, ?_⟩
          refine ⟨_, rfl, _, rfl, _, rfl, db, _, rfl, DPut.k (k := (Sum.inr S[i].1 : Key)) (by rw [upd_ne hwb.symm]; exact hb8) hkl, ?_⟩
          refine ⟨_, rfl, _, _, _, _, _, _, _, _, _, _, rfl, same_mut (same_mut s78 hdw) hdb4, ?_, ?_, bf', .inr ⟨_, rfl, ?_⟩⟩
          · rw [upd_ne hwb, upd_same]
            congr 2
            unfold ptV
            rw [putK_tab, show Df.ins ns S[i].1 = ns from if_pos hSi.1]
            refine tabV_congr fun m _ => ?_
            unfold Df.put
            split <;> rfl
          · rw [upd_same]
            congr 2
            exact nV_put
          · rw [Df.put_same]
            omega
        · rw [decide_eq_false hlt]
          refine iteF ⟨_, _, _, _, _, _, w, ks, bb, τ, rfl, s78, hw8, hb8, bf.keep he (by omega), ?_⟩
          rcases hlast with ⟨e6, hq⟩ | hl
          · refine .inl ⟨e6, fun q e hq2 heq => ?_⟩
            by_cases hqi : q = i
            · subst hqi
              rw [he] at heq
              cases heq
              show w S[q].1 ≤ w S[q].2.1 + S[q].2.2
              omega
            · exact hq q e (by omega) heq
          · exact .inr hl
      · rintro σ H7 ⟨x3, x6, x7, x8, x9, x10, w, ks, bb, τ, rfl, s7, hw7, hb7, bf, hlast⟩
        rw [plen hvs] at bf hlast
        rcases hlast with ⟨rfl, hq⟩ | ⟨l, rfl, hl⟩
        · refine ⟨_, rfl, rfl, _, rfl, iteT ?_⟩
          refine hkN ⟨w, fun e he => ?_⟩ H7 (sA.trans s7)
          obtain ⟨q, hq1, hq2⟩ := List.mem_iff_getElem.mp he
          have := hq q e hq1 (by rw [List.getElem?_eq_getElem hq1, hq2])
          omega
        · refine ⟨_, rfl, rfl, _, rfl, ?_⟩
          refine iteF ?_
          refine ⟨_, rfl, _, rfl, nl, _, rfl, .inl (sq (s7 _ _ hn4)), rfl, _, rfl, ?_⟩
          rw [List.length_map]
          have hks : ∀ x ∈ ks, x ∈ ns := fun x hx => by
            obtain ⟨e, e1, e2, _⟩ := bf.pre x hx
            exact e2 ▸ (hinS e (List.mem_of_getElem? e1)).1
          have hkl : ks.length ≤ ns.length := Df.nodup_le bf.nd hks
          by_cases htl : t = ns.length
          · rw [show decide (V.int ((0 : Int) + (t : Int)) = V.int (ns.length : Int)) = true from decide_eq_true (by rw [htl]; congr 1; omega)]
            refine iteT ?_
            obtain ⟨d, hd0, hd1, hd2, hd3⟩ := bf.ringed (by omega) hl
            have hring := bf.isRing (fun e he => (hgood e he).2.2.1) hd0 hd1 hd2 hd3
            have hdl : d ≤ ns.length := by
              have h1 := Df.nodup_le hring.nd (ks := ns) fun x hx => by
                obtain ⟨q, hq1, rfl⟩ := List.mem_map.mp hx
                have hq2 := hring.small q hq1
                rw [Df.at_of (List.getElem?_eq_getElem hq2)]
                exact (hinS _ (List.getElem_mem hq2)).1
              simpa [Df.lefts] using h1
            refine ⟨_, rfl, _, rfl, _, rfl, b, db, l, _, S, ks, bb, d, rfl, ⟨vs, s7 _ _ hb4, pmono (fun _ _ q => q.imp fun _ q => ⟨q.1, s7 _ _ q.2⟩) hvs⟩, hb7, by omega, fun n hn => ?_, bf.back (by omega) hl, rfl, hd0, by omega, hd1, hd2, hd3, fun H8 q s8 hq => ?_⟩
            · obtain ⟨c, e, _⟩ := bf.nx_of hn
              exact ⟨c, e⟩
            · exact hkR _ hring H8 q (sA.trans (s7.trans s8)) hq
          · rw [show decide (V.int ((0 : Int) + (t : Int)) = V.int (ns.length : Int)) = false from decide_eq_false fun e => htl (by injection e with e; omega)]
            refine iteF ⟨_, _, _, _, _, _, _, w, ks, bb, τ, by omega, rfl, s7, hw7, hb7, bf.turn⟩
    · rintro σ H7 ⟨x3, x5, x6, x7, x8, x9, x10, w, ks, bb, τ, htn, _⟩
      exact absurd htn (by omega)
end
end K1

namespace K1
open PySem PySem.Spec PyProof.Rows L2 Ls
/-! ### solution -/
def sysNs (S : List Df3) : List Str := ("0" : Str) :: namesOf S
theorem sys_in (S : List Df3) : ∀ e ∈ S, e.1 ∈ ("0" : Str) :: namesOf S ∧ e.2.1 ∈ ("0" : Str) :: namesOf S := fun e he => ⟨in_names ⟨e, he, .inl rfl⟩, in_names ⟨e, he, .inr rfl⟩⟩
def spSolution : Sp := fun vs H Q _ => ∃ (a : Addr) (S : List Df3) (L : Int), vs = [.ref a] ∧ SysQ H a S ∧ GoodS S ∧ S.length ≤ 400 ∧ Df.Fit (("0" : Str) :: namesOf S) S L ∧
  ((∀ p, ¬ Df.Solves S p) → ∀ H', Same H H' → Q .non H') ∧ (∀ x, Df.Solves S (Df.pt0 "0" x) → ∀ H' d, Same H H' → H' d = some (.dK (ptV (namesOf S) x)) → Q (.ref d) H')
section
variable {P : Program} {w : World} {K : PySem.W.Frag} {mg : Str → Option Value} {base : Heap} {f C : Addr} {fd : FuncData} {k : Nat}
theorem sc_solution : FnScope ["system", "table"] ["system"] (defScope s_solution) := ⟨rfl, rfl, rfl, by decide +kernel, rfl, by decide +kernel, by decide +kernel⟩
theorem ok_solution (F : FnP K "solution" s_solution [] f fd) (G : Facts mg) (C_checked_system : Cal P w K mg base 2 "checked_system" spChecked [.non]) (C_names_of : Cal P w K mg base 1 "names_of" spNamesOf [])
    (C_table_of : Cal P w K mg base 5 "table_of" (spTableOf C) []) (C_point_of : Cal P w K mg base 5 "point_of" (spPoint C) []) : FnOk P w K mg base CX0 6 f fd ["system"] spSolution := by
  refine F.ok sc_solution (fun vs H Q E h => ?_) (fun cdv A outer s H vs Q E hr h => ?_)
  · obtain ⟨a, S, L, rfl, _⟩ := h
    rfl
  · obtain ⟨a, S, L, rfl, hS, hgood, hlen, fit, hkN, hkP⟩ := h
    have hu := hu_of hr
    refine ⟨_, PSs.nox (pss_cons (ps_set (i := 0) sc_solution.nd rfl (.inl rfl) (pe_c C_checked_system hr (by decide) (by rfl) (pa_cons (pv 0) pa_nil)))
      (pss_cons (ps_set (i := 1) sc_solution.nd rfl (.inl rfl) (pe_c C_table_of hr (by decide) (by rfl) (pa_cons (pe_c C_names_of hr (by decide) (by rfl) (pa_cons (pv 0) pa_nil)) (pa_cons (pv 0) pa_nil))))
      (pss_one (ps_ret (pe_ifExp (pt_cmpR op_isN (pv 1) pe_non (nomark _)) pe_non (pe_c C_point_of hr (by decide) (by rfl) (pa_cons (pv 1) pa_nil))))))), ?_⟩
    refine ⟨_, rfl, a, S, rfl, hS, hgood, by omega, fun H1 b s1 hS1 => ?_⟩
    refine ⟨_, rfl, b, S, rfl, hS1, by omega, fun H2 q s2 nq hq => ?_⟩
    have hl := len_namesOf S
    refine ⟨_, rfl, fun _ => True, q, b, namesOf S, _, S, rfl, fun _ _ => trivial, hq, Lab.of (nd_namesOf S), by omega, hS1.mono s2, sys_in S, hgood.ends, fun R e H3 t s3 ht => ?_, fun e H3 s3 => ?_⟩
    · refine ⟨_, rfl, rfl, _, rfl, ?_⟩
      rw [decide_eq_false (show ¬ V.ref t = V.non from fun z => by cases z)]
      refine iteF ?_
      obtain ⟨R', x', hp, hs⟩ := fit.point (nd_namesOf S) e x0
      refine ⟨_, rfl, fun _ => True, t, namesOf S, R, R', x', rfl, ht, nd_namesOf S, hgood.names, by omega, hp, fun H4 d s4 nd hd => ?_⟩
      exact hkP x' hs H4 d (s1.trans (s2.trans (s3.trans s4))) hd
    · refine ⟨_, rfl, rfl, _, rfl, iteT ?_⟩
      exact hkN (fit.none e) H3 (s1.trans (s2.trans s3))
end
end K1

namespace K1
open PySem PySem.Spec PyProof.Rows L2 Ls
/-! ### _table, tight: a system without solutions is refused -/
/-- what the walk asks of an own error without a text -/
structure ExcF (K : PySem.W.Frag) (mg : Str → Option Value) (x : Str) (C : Addr) : Prop where
  gP : mg x = some (.ref C)
  xP : PySem.W.excIn K C [.type "ValueError", .type "Exception", .type "BaseException", .type "object"] "ValueError.__new__" = true
  kP : PySem.W.keepIn K (.ref C) = true
  bP : PySem.W.subIn K (.ref C) (.type "BaseException") = some true
  tP : PySem.W.typeIn K (.ref C) = some (.type "type")
  eP : PySem.W.exmOne K (.ref C) (.ref C) = some true
def moreN (told two : List Str) : List Str := two.filter fun n => decide (n ≠ "0") && !decide (n ∈ told)
theorem Lab.dup {A : List Str} {l : Str} (hA : (A ++ [l]).Nodup) (h0 : ("" : Str) ∉ A) (hl : l ≠ "") : Lab (A ++ [("" : Str), l]) (A ++ [l, l]) := by
  have n1 := List.nodup_append.mp hA
  have hlA : l ∉ A := fun z => n1.2.2 l z l List.mem_cons_self rfl
  refine ⟨?_, by simp, fun i u hi hu => ?_, fun h => absurd (by simp) h⟩
  · rw [List.nodup_append]
    refine ⟨n1.1, by simp [hl.symm], fun x hx y hy e => ?_⟩
    subst e
    rcases List.mem_cons.mp hy with z | z
    · exact h0 (z ▸ hx)
    · exact hlA ((List.mem_singleton.mp z) ▸ hx)
  · rcases Nat.lt_or_ge i A.length with h | h
    · rw [List.getElem?_append_left h] at hi
      refine ⟨by rw [List.getElem?_append_left h]; exact hi, fun j hj e => ?_⟩
      rcases Nat.lt_or_ge j A.length with h2 | h2
      · rw [List.getElem?_append_left h2] at e
        obtain ⟨h3, e3⟩ := List.getElem?_eq_some_iff.mp hi
        obtain ⟨h4, e4⟩ := List.getElem?_eq_some_iff.mp e
        have := (List.getElem_inj n1.1).mp (e3.trans e4.symm)
        omega
      · rw [List.getElem?_append_right h2] at e
        have hm := List.mem_of_getElem? e
        have : u = l := by simpa using hm
        exact hlA (this ▸ List.mem_of_getElem? hi)
    · rw [List.getElem?_append_right h] at hi ⊢
      cases hk : i - A.length with
      | zero =>
        rw [hk] at hi
        exact absurd (Option.some.inj hi).symm hu
      | succ k =>
        rw [hk] at hi
        cases k with
        | zero =>
          have : l = u := Option.some.inj hi
          subst this
          refine ⟨rfl, fun j hj e => ?_⟩
          rw [List.getElem?_append_right (by omega)] at e
          have : j - A.length = (j - A.length - 2) + 2 := by omega
          rw [this] at e
          simp at e
        | succ k => simp at hi
theorem tab_lab {S : List Df3} (hS : GoodS S) {l r : Str} (hl : l ≠ "") (hr : r ≠ "") : ∃ ns, Lab ns (("0" : Str) :: (namesOf S ++ moreN (namesOf S) [l, r])) ∧ l ∈ ns ∧ r ∈ ns ∧ ∀ x, x ∈ ("0" : Str) :: namesOf S → x ∈ ns := by
  have nd0 := nd_namesOf S
  have n1 := List.nodup_cons.mp nd0
  have h00 : ("0" : Str) ≠ "" := by decide +kernel
  have hz : ("" : Str) ∉ ("0" : Str) :: namesOf S := fun z => (List.mem_cons.mp z).elim (fun z => h00 z.symm) hS.names
  by_cases hd : l = r ∧ l ∉ ("0" : Str) :: namesOf S
  · obtain ⟨rfl, hln⟩ := hd
    have hm : moreN (namesOf S) [l, l] = [l, l] := by
      have h1 : l ≠ "0" := fun z => hln (z ▸ List.mem_cons_self)
      have h2 : l ∉ namesOf S := fun z => hln (List.mem_cons_of_mem _ z)
      simp [moreN, h1, h2]
    refine ⟨(("0" : Str) :: namesOf S) ++ [("" : Str), l], ?_, by simp, by simp, fun x hx => List.mem_append_left _ hx⟩
    rw [hm]
    refine Lab.dup (A := ("0" : Str) :: namesOf S) ?_ hz hl
    rw [List.nodup_append]
    refine ⟨nd0, by simp, fun x hx y hy e => ?_⟩
    rw [List.mem_singleton.mp hy] at e
    exact hln (e ▸ hx)
  · have hmem : ∀ x, x = l ∨ x = r → x ∈ (("0" : Str) :: (namesOf S ++ moreN (namesOf S) [l, r])) := fun x hx => by
      by_cases h0 : x = "0"
      · rw [h0]; exact List.mem_cons_self
      · refine List.mem_cons_of_mem _ (List.mem_append.mpr ?_)
        by_cases h1 : x ∈ namesOf S
        · exact .inl h1
        · exact .inr (List.mem_filter.mpr ⟨by rcases hx with rfl | rfl <;> simp, by simp [h0, h1]⟩)
    refine ⟨_, Lab.of ?_, hmem l (.inl rfl), hmem r (.inr rfl), fun x hx => ?_⟩
    · refine List.nodup_cons.mpr ⟨fun h => ?_, List.nodup_append.mpr ⟨n1.2, ?_, fun x hx y hy e => ?_⟩⟩
      · rcases List.mem_append.mp h with h | h
        · exact n1.1 h
        · have := (List.mem_filter.mp h).2
          simp at this
      · by_cases hlr : l = r
        · subst hlr
          have hin : l ∈ ("0" : Str) :: namesOf S := Classical.byContradiction fun z => hd ⟨rfl, z⟩
          have : moreN (namesOf S) [l, l] = [] := by
            rcases List.mem_cons.mp hin with z | z
            · simp [moreN, z]
            · simp [moreN, z]
          rw [this]
          exact List.nodup_nil
        · exact List.Nodup.sublist List.filter_sublist (by simp [hlr])
      · subst e
        have := (List.mem_filter.mp hy).2
        simp at this
        exact this.2 hx
    · rcases List.mem_cons.mp hx with rfl | hx
      · exact List.mem_cons_self
      · exact List.mem_cons_of_mem _ (List.mem_append_left _ hx)
def spTabX (CN C : Addr) : Sp := fun vs H Q E => ∃ (a t : Addr) (S : List Df3) (l r : Str), vs = [.ref a, .ref t] ∧ SysAt H a S ∧ GoodS S ∧ H t = some (.tup [.str l, .str r]) ∧ l ≠ "" ∧ r ≠ "" ∧ S.length ≤ 400 ∧ (Df.addedR Df.blankR S = none → ∀ H', Same H H' → E (.ref CN) none H') ∧
  (∀ R, Df.addedR Df.blankR S = some R → ∀ H' t' ns, Same H H' → l ∈ ns → r ∈ ns → ns.Nodup → ns.length ≤ (namesOf S).length + 3 → (∀ x, x ∈ ("0" : Str) :: namesOf S → x ∈ ns) → TabAt (fun _ => True) C H' t' ns R → Q (.ref t') H')
def spTightX (CN C : Addr) : Sp := fun vs H Q E => ∃ (a : Addr) (S : List Df3) (l r : Str), vs = [.ref a, .str l, .str r] ∧ SysQ H a S ∧ GoodS S ∧ l ≠ "" ∧ r ≠ "" ∧ S.length ≤ 400 ∧ (Df.addedR Df.blankR S = none → ∀ H', Same H H' → E (.ref CN) none H') ∧
  (∀ R, Df.addedR Df.blankR S = some R → ∀ H', Same H H' → Q (if l = r then .int 0 else if Df.HALFI < R l r then .non else .int (R l r)) H')
section
variable {P : Program} {w : World} {K : PySem.W.Frag} {mg : Str → Option Value} {base : Heap} {f C CN : Addr} {fd : FuncData} {k : Nat}
theorem sc_u_table : FnScope ["system", "names", "told", "table", "name"] ["system", "names"] (defScope s_u_table) := ⟨rfl, rfl, rfl, by decide +kernel, rfl, by decide +kernel, by decide +kernel⟩
theorem ok_tabx (F : FnP K "_table" s_u_table [] f fd) (G : Facts mg) (NX : ExcF K mg "NoSolution" CN) (C_names_of : Cal P w K mg base 1 "names_of" spNamesOf []) (C_table_of : Cal P w K mg base 5 "table_of" (spTableOf C) []) : FnOk P w K mg base (L2.CX P w) 6 f fd ["system", "names"] (spTabX CN C) := by
  refine F.ok sc_u_table (fun vs H Q E h => ?_) (fun cdv A outer s H vs Q E hr h => ?_)
  · obtain ⟨a, t, S, l, r, rfl, _⟩ := h
    rfl
  · obtain ⟨a, t, S, l, r, rfl, hS, hgood, ht, hl0, hr0, hlen, hkN, hk⟩ := h
    have hu := hu_of hr
    refine ⟨_, (pss_cons (ps_set (i := 2) sc_u_table.nd rfl (.inr rfl) (pe_c C_names_of hr (by decide) (by rfl) (pa_cons (pv 0) pa_nil)))
      (pss_cons (ps_set (i := 3) sc_u_table.nd rfl (.inl rfl) (pe_c C_table_of hr (by decide) (by rfl) (pa_cons (pe_op op_cat (pv 2) (pe_lc (own := [("name", 4)]) (g := gName 4) rfl sc_u_table.nd  (kpi_tup K (pv 1)) (blkOk_by (by kernel_rfl)) (fun _ _ _ _ _ => (pg_name (i := 4) sc_u_table.nd rfl (by first | exact .inl rfl | exact .inr rfl))) (fun _ _ _ _ _ => (pts_one (PW.pt (pw_and (pt_cmpR op_ne (pv 4) pe_str (nomark _)) (pw_and1 (pt_cmpR (kNotIn K) (pv 4) (pv 2) (by rfl))))))) (fun _ _ _ _ _ => (pv 4)))) (pa_cons (pv 0) pa_nil))))
      (pss_cons (ps_if (pt_cmpR op_isN (pv 3) pe_non (nomark _)) (pss_one (ps_raise rfl (takes_of rfl rfl rfl rfl) (pmk_own0 PySem.F.excBase_ValueError NX.xP NX.gP NX.kP (raises_own NX.bP NX.tP) (by rfl)))) pss_nil)
      (pss_one (ps_ret (pv 3)))))), ?_⟩
    refine ⟨_, rfl, a, S, rfl, hS, by omega, fun H1 q s1 nq hq => ?_⟩
    have hl := len_namesOf S
    have ht1 := s1 _ _ ht
    refine ⟨_, rfl, _, rfl, t, rfl, ⟨_, sqt ht1⟩, fun D hD => ?_⟩
    refine lc_it (walk_tup (K := K) (a := t) (xs := [l, r].map V.str)) (fun i H' => Same H1 H' ∧ H' D = some (.lst ((moreN (namesOf S) ([l, r].take i)).map V.str))) ⟨same_upd hD, upd_same⟩ (fun i H' _ ⟨s2, _⟩ => sqt (s2 _ _ ht1)) ?_ ?_
    · rintro i x H9 H' hi ⟨s2, d2⟩ ⟨rfl, ex⟩
      have hi2 : i < [l, r].length := by simpa using hi
      have ex : x = V.str [l, r][i] := by
        rw [List.getElem?_map, List.getElem?_eq_getElem hi2] at ex
        exact (Option.some.inj ex).symm
      subst ex
      have hm : moreN (namesOf S) ([l, r].take (i + 1)) = moreN (namesOf S) ([l, r].take i) ++ (if (decide ([l, r][i] ≠ "0") && !decide ([l, r][i] ∈ namesOf S)) = true then [[l, r][i]] else []) := by
        rw [take_snoc hi2]
        unfold moreN
        rw [List.filter_append]
        congr 1
        simp only [List.filter_cons, List.filter_nil]
      have hll : ((moreN (namesOf S) ([l, r].take i)).map V.str).length < sizeLine := by
        rw [List.length_map]
        have h1 : (moreN (namesOf S) ([l, r].take i)).length ≤ ([l, r].take i).length := List.length_filter_le _ _
        rw [List.length_take] at h1
        exact szlt (by simp at h1; omega)
      refine ⟨rfl, _, rfl, rfl, _, rfl, ?_⟩
      by_cases h0 : [l, r][i] = "0"
      · rw [show (!decide (V.str [l, r][i] = V.str "0")) = false by rw [h0]; rfl]
        refine iteF (iteF ⟨s2, ?_⟩)
        rw [hm, if_neg (by simp [h0]), List.append_nil]
        exact d2
      · rw [show (!decide (V.str [l, r][i] = V.str "0")) = true by rw [decide_eq_false fun e => h0 (by injection e)]; rfl]
        refine iteT ⟨_, rfl, _, rfl, q, _, rfl, .inl (sq (s2 _ _ hq)), rfl, flat_str _, _, rfl, ?_⟩
        rw [inV_str]
        by_cases hin : [l, r][i] ∈ namesOf S
        · rw [decide_eq_true hin]
          refine iteF ⟨s2, ?_⟩
          rw [hm, if_neg (by simp [hin]), List.append_nil]
          exact d2
        · rw [decide_eq_false hin]
          refine iteT ⟨_, rfl, _, d2, hll, same_mut s2 hD, ?_⟩
          rw [upd_same, hm, if_pos (by simp [hin, h0]), List.map_append]
          rfl
    rintro H2 ⟨s2, d2⟩
    rw [show ([l, r].map V.str).length = 2 from rfl, show [l, r].take 2 = [l, r] from rfl] at d2
    have hml : (moreN (namesOf S) [l, r]).length ≤ 2 := List.length_filter_le _ _
    refine ⟨q, D, _, _, rfl, rfl, s2 _ _ hq, d2, szl (by simp; omega), fun T1 nT1 => ?_⟩
    rw [← List.map_append]
    have s3 := same_upd nT1 (o := .lst ((namesOf S ++ moreN (namesOf S) [l, r]).map V.str))
    obtain ⟨ns, lab, hln, hrn, hsub⟩ := tab_lab hgood hl0 hr0
    have hnl : ns.length ≤ (namesOf S).length + 3 := by rw [← lab.len]; simp; omega
    refine ⟨_, rfl, fun _ => True, T1, a, _, ns, S, rfl, fun _ _ => trivial, upd_same, lab, by simp; omega, hS.mono (s1.trans (s2.trans s3)), fun e he => ⟨hsub _ (sys_in S e he).1, hsub _ (sys_in S e he).2⟩, hgood.ends, fun R' e H3 t3 s4 ht3 => ?_, fun e H3 s4 => ?_⟩
    · refine ⟨_, rfl, rfl, _, rfl, ?_⟩
      rw [decide_eq_false (show ¬ V.ref t3 = V.non from fun z => by cases z)]
      refine iteF ⟨_, rfl, ?_⟩
      exact hk R' e H3 t3 ns (s1.trans (s2.trans (s3.trans s4))) hln hrn lab.nd hnl hsub ht3
    · refine ⟨_, rfl, rfl, _, rfl, iteT ?_⟩
      exact hkN e H3 (s1.trans (s2.trans (s3.trans s4)))
theorem sc_tight : FnScope ["system", "left", "right", "name", "table"] ["system", "left", "right"] (defScope s_tight) := ⟨rfl, rfl, rfl, by decide +kernel, rfl, by decide +kernel, by decide +kernel⟩
theorem ok_tightx (F : FnP K "tight" s_tight [] f fd) (G : Facts mg) (C_checked_system : Cal P w K mg base 2 "checked_system" spChecked [.non]) (C_u_is_end : Cal P w K mg base 1 "_is_end" spIsEnd []) (C_u_table : CalX P w K mg base 6 "_table" (spTabX CN C) [])
    (C_upper : Cal P w K mg base 1 "upper" (spUpper C) []) : FnOk P w K mg base (L2.CX P w) 7 f fd ["system", "left", "right"] (spTightX CN C) := by
  refine F.ok sc_tight (fun vs H Q E h => ?_) (fun cdv A outer s H vs Q E hr h => ?_)
  · obtain ⟨a, S, l, r, rfl, _⟩ := h
    rfl
  · obtain ⟨a, S, l, r, rfl, hS, hgood, hl0, hr0, hlen, hkN, hk⟩ := h
    have hu := hu_of hr
    refine ⟨_, (pss_cons (ps_set (i := 0) sc_tight.nd rfl (.inl rfl) (pe_c C_checked_system hr (by decide) (by rfl) (pa_cons (pv 0) pa_nil)))
      (pss_cons (ps_for (passes_of rfl) rfl (kpi_tup K (pe_tup (pa_cons (pv 1) (pa_cons (pv 2) pa_nil)))) (pg_name (i := 3) sc_tight.nd rfl (by first | exact .inl rfl | exact .inr rfl))
        (pss_one (ps_if (pt_not (pt_val (pe_c C_u_is_end hr (by decide) (by rfl) (pa_cons (pv 3) (pa_cons pe_non pa_nil))))) (pss_one ps_never) pss_nil)))
      (pss_cons (ps_set (i := 4) sc_tight.nd rfl (.inl rfl) (pe_cx C_u_table (takes_of rfl rfl rfl rfl) (fun _ _ _ _ h => h) hr (by decide) (by rfl) (pa_cons (pv 0) (pa_cons (pe_tup (pa_cons (pv 1) (pa_cons (pv 2) pa_nil))) pa_nil))))
      (pss_one (ps_ret (pe_ifExp (pt_cmpR op_eq (pv 1) (pv 2) (nomark _)) pe_int (pe_c C_upper hr (by decide) (by rfl) (pa_cons (pv 4) (pa_cons (pv 1) (pa_cons (pv 2) pa_nil)))))))))), ?_⟩
    refine ⟨_, rfl, a, S, rfl, hS, hgood, by omega, fun H1 b s1 hS1 => ?_⟩
    refine ⟨_, rfl, _, rfl, by show 2 ≤ sizeLine; decide, fun p np => ?_⟩
    refine ⟨p, rfl, ⟨_, sqt upd_same⟩, ?_⟩
    have s2 := same_upd np (o := .tup [.str l, .str r])
    generalize hH2 : upd H1 p (.tup [.str l, .str r]) = H2 at s2 ⊢
    have hp : H2 p = some (.tup [.str l, .str r]) := by rw [← hH2]; exact upd_same
    refine for_it (walk_tup (K := K) (a := p) (xs := [l, r].map V.str)) (fun i σ H' => ∃ x3 x4, H' = H2 ∧ σ = [some (.ref b), some (.str l), some (.str r), x3, x4]) ⟨_, _, rfl, rfl⟩ (fun i σ H' _ ⟨_, _, e, _⟩ => sqt (e ▸ hp)) ?_ ?_
    · rintro i x σ H9 H' hi ⟨x3, x4, rfl, rfl⟩ ⟨rfl, ex⟩
      have hi2 : i < [l, r].length := by simpa using hi
      have ex : x = V.str [l, r][i] := by
        rw [List.getElem?_map, List.getElem?_eq_getElem hi2] at ex
        exact (Option.some.inj ex).symm
      subst ex
      have hne : [l, r][i] ≠ "" := by
        have := List.getElem_mem hi2
        rcases List.mem_cons.mp this with e | e
        · rw [e]; exact hl0
        · rw [List.mem_singleton.mp e]; exact hr0
      refine ⟨_, rfl, _, _, rfl, .yes hne, _, rfl, iteF ⟨_, _, rfl, rfl⟩⟩
    · rintro σ H' ⟨x3, x4, rfl, rfl⟩
      refine ⟨_, rfl, _, rfl, _, rfl, by show 2 ≤ sizeLine; decide, fun p2 np2 => ?_⟩
      have s3 := same_upd np2 (o := .tup [.str l, .str r])
      refine ⟨b, p2, S, l, r, rfl, hS1.mono (s2.trans s3), hgood, upd_same, hl0, hr0, hlen, fun e H4 s4 => hkN e H4 (s1.trans (s2.trans (s3.trans s4))), fun R e H4 t ns s4 hln hrn hnd _ _ ht => ?_⟩
      refine ⟨_, rfl, _, rfl, rfl, _, rfl, ?_⟩
      have := hk R e H4 (s1.trans (s2.trans (s3.trans s4)))
      by_cases hlr : l = r
      · rw [show decide (V.str l = V.str r) = true by rw [hlr]; exact decide_eq_true rfl]
        rw [if_pos hlr] at this
        exact iteT this
      · rw [decide_eq_false (show ¬ V.str l = V.str r from fun e => hlr (by injection e))]
        rw [if_neg hlr] at this
        exact iteF ⟨_, rfl, _, rfl, _, rfl, _, t, l, r, ns, R, rfl, ht, hln, hrn, hl0, hr0, hnd, this⟩
end
end K1

namespace K1
open PySem PySem.Spec PyProof.Rows L2 Ls
/-! ### what a system with a bad row, a bad end, makes of each def -/
def spBad1 (CD : Addr) : Sp := fun vs H Q E => ∃ (a : Addr) (n : Nat), vs = [.ref a] ∧ BadSys H a n ∧ RaisesAt CD H n E
/-- l, r are ends, of which the first bad one is v -/
inductive BadEnd (H : Hp) : V → V → V → Prop where
  | left {l r : V} (h : EndV H l false) : BadEnd H l r l
  | right {l r : V} (h : EndV H l true) (k : EndV H r false) : BadEnd H l r r
theorem BadEnd.mono {H H' : Hp} (s : Same H H') {l r v : V} (h : BadEnd H l r v) : BadEnd H' l r v := by
  cases h with
  | left h => exact .left (h.mono s)
  | right h k => exact .right (h.mono s) (k.mono s)
def spBad3 (CD CB : Addr) : Sp := fun vs H Q E => ∃ (a : Addr) (l r : V), vs = [.ref a, l, r] ∧
  ((∃ n, BadSys H a n ∧ RaisesAt CD H n E) ∨ ∃ S v, SysQ H a S ∧ GoodS S ∧ S.length ≤ 900000 ∧ BadEnd H l r v ∧ ∀ d H', Same H H' → H' d = some (.xd [("name", v)]) → E (.ref CB) (some d) H')
def spBadI (CD : Addr) : Sp := fun vs H Q E => ∃ (a : Addr) (v : V), vs = [.ref a, v] ∧ ((∃ n, BadSys H a n ∧ RaisesAt CD H n E) ∨ ∃ S, SysQ H a S ∧ GoodS S ∧ S.length ≤ 900000 ∧ BadRow H v ∧ RaisesAt CD H 0 E)
section
variable {P : Program} {w : World} {K : PySem.W.Frag} {mg : Str → Option Value} {base : Heap} {f C CD CB CN : Addr} {fd : FuncData} {k : Nat}
theorem badRing (F : FnP K "ring" s_ring [] f fd) (G : Facts mg) (X_checked_system : CalX P w K mg base 3 "checked_system" (spChk CD) [.non]) : FnOk P w K mg base (L2.CX P w) 4 f fd ["system"] (spBad1 CD) := by
  refine F.ok sc_ring (fun vs H Q E h => ?_) (fun cdv A outer s H vs Q E hr h => ?_)
  · obtain ⟨a, n, rfl, _⟩ := h
    rfl
  · obtain ⟨a, n, rfl, hb, hk⟩ := h
    have hu := hu_of hr
    refine ⟨_, (pss_cons (ps_set (i := 0) sc_ring.nd rfl (.inl rfl) (pe_cx X_checked_system (takes_of rfl rfl rfl rfl) (fun _ _ _ _ h => h) hr (by decide) (by rfl) (pa_cons (pv 0) pa_nil)))
      pss_no), ?_⟩
    exact ⟨_, rfl, .inr ⟨a, n, rfl, hb, hk⟩⟩
theorem okX_ring (F : FnP K "ring" s_ring [] f fd) (G : Facts mg) (X_checked_system : CalX P w K mg base 3 "checked_system" (spChk CD) [.non]) (C_checked_system : Cal P w K mg base 2 "checked_system" spChecked [.non]) (C_names_of : Cal P w K mg base 1 "names_of" spNamesOf []) (C_u_cycle : Cal P w K mg base 1 "_cycle" spCycle []) :
    FnOk P w K mg base (L2.CX P w) 4 f fd ["system"] (fun vs H Q E => spRing vs H Q E ∨ spBad1 CD vs H Q E) :=
  fn_or (fn_lift0 ((ok_ring F G C_checked_system C_names_of C_u_cycle).mono (by decide))) (badRing F G X_checked_system)
theorem badSolution (F : FnP K "solution" s_solution [] f fd) (G : Facts mg) (X_checked_system : CalX P w K mg base 3 "checked_system" (spChk CD) [.non]) : FnOk P w K mg base (L2.CX P w) 4 f fd ["system"] (spBad1 CD) := by
  refine F.ok sc_solution (fun vs H Q E h => ?_) (fun cdv A outer s H vs Q E hr h => ?_)
  · obtain ⟨a, n, rfl, _⟩ := h
    rfl
  · obtain ⟨a, n, rfl, hb, hk⟩ := h
    have hu := hu_of hr
    refine ⟨_, (pss_cons (ps_set (i := 0) sc_solution.nd rfl (.inl rfl) (pe_cx X_checked_system (takes_of rfl rfl rfl rfl) (fun _ _ _ _ h => h) hr (by decide) (by rfl) (pa_cons (pv 0) pa_nil)))
      pss_no), ?_⟩
    exact ⟨_, rfl, .inr ⟨a, n, rfl, hb, hk⟩⟩
theorem okX_solution (F : FnP K "solution" s_solution [] f fd) (G : Facts mg) (X_checked_system : CalX P w K mg base 3 "checked_system" (spChk CD) [.non]) (C_checked_system : Cal P w K mg base 2 "checked_system" spChecked [.non]) (C_names_of : Cal P w K mg base 1 "names_of" spNamesOf [])
    (C_table_of : Cal P w K mg base 5 "table_of" (spTableOf C) []) (C_point_of : Cal P w K mg base 5 "point_of" (spPoint C) []) :
    FnOk P w K mg base (L2.CX P w) 6 f fd ["system"] (fun vs H Q E => spSolution vs H Q E ∨ spBad1 CD vs H Q E) :=
  fn_or (fn_lift0 (ok_solution F G C_checked_system C_names_of C_table_of C_point_of)) ((badSolution F G X_checked_system).mono (by decide))
theorem sc_fewest : FnScope ["system", "table", "groups", "heads", "names", "found", "row", "one", "other"] ["system"] (defScope s_fewest) := ⟨rfl, rfl, rfl, by decide +kernel, rfl, by decide +kernel, by decide +kernel⟩
theorem okX_fewest (F : FnP K "fewest" s_fewest [] f fd) (G : Facts mg) (X_checked_system : CalX P w K mg base 3 "checked_system" (spChk CD) [.non]) : FnOk P w K mg base (L2.CX P w) 4 f fd ["system"] (spBad1 CD) := by
  refine F.ok sc_fewest (fun vs H Q E h => ?_) (fun cdv A outer s H vs Q E hr h => ?_)
  · obtain ⟨a, n, rfl, _⟩ := h
    rfl
  · obtain ⟨a, n, rfl, hb, hk⟩ := h
    have hu := hu_of hr
    refine ⟨_, (pss_cons (ps_set (i := 0) sc_fewest.nd rfl (.inl rfl) (pe_cx X_checked_system (takes_of rfl rfl rfl rfl) (fun _ _ _ _ h => h) hr (by decide) (by rfl) (pa_cons (pv 0) pa_nil)))
      pss_no), ?_⟩
    exact ⟨_, rfl, .inr ⟨a, n, rfl, hb, hk⟩⟩
theorem badTight (F : FnP K "tight" s_tight [] f fd) (G : Facts mg) (NB : ExcS P w K mg base "BadName" CB "name") (X_checked_system : CalX P w K mg base 3 "checked_system" (spChk CD) [.non]) (C_u_is_end : Cal P w K mg base 1 "_is_end" spIsEnd []) :
    FnOk P w K mg base (L2.CX P w) 4 f fd ["system", "left", "right"] (spBad3 CD CB) := by
  refine F.ok sc_tight (fun vs H Q E h => ?_) (fun cdv A outer s H vs Q E hr h => ?_)
  · obtain ⟨a, l, r, rfl, _⟩ := h
    rfl
  · obtain ⟨a, l, r, rfl, h⟩ := h
    have hu := hu_of hr
    refine ⟨_, (pss_cons (ps_set (i := 0) sc_tight.nd rfl (.inl rfl) (pe_cx X_checked_system (takes_of rfl rfl rfl rfl) (fun _ _ _ _ h => h) hr (by decide) (by rfl) (pa_cons (pv 0) pa_nil)))
      (pss_cons (ps_for (passes_of rfl) rfl (kpi_tup K (pe_tup (pa_cons (pv 1) (pa_cons (pv 2) pa_nil)))) (pg_name (i := 3) sc_tight.nd rfl (by first | exact .inl rfl | exact .inr rfl))
        (pss_one (ps_if (pt_not (pt_val (pe_c C_u_is_end hr (by decide) (by rfl) (pa_cons (pv 3) (pa_cons pe_non pa_nil))))) (pss_one (ps_raise rfl (takes_of rfl rfl rfl rfl) (pmk_sup NB hr (by decide) (by rfl) (pv 3)))) pss_nil)))
      pss_no)), ?_⟩
    rcases h with ⟨n, hb, hk⟩ | ⟨S, v, hS, hgood, hlen, hend, hk⟩
    · exact ⟨_, rfl, .inr ⟨a, n, rfl, hb, hk⟩⟩
    · refine ⟨_, rfl, .inl ⟨a, S, rfl, hS, hgood, hlen, fun H1 b s1 hS1 => ?_⟩⟩
      refine ⟨_, rfl, _, rfl, by show 2 ≤ sizeLine; decide, fun p np => ?_⟩
      refine ⟨p, rfl, ⟨_, sqt upd_same⟩, ?_⟩
      have s2 := same_upd np (o := .tup [l, r])
      have hend2 := hend.mono (s1.trans s2)
      have hp : (upd H1 p (.tup [l, r])) p = some (.tup [l, r]) := upd_same
      have sA := s1.trans s2
      generalize upd H1 p (.tup [l, r]) = H2 at s2 hend2 hp sA ⊢
      cases hend2 with
      | left h =>
        refine for_it (walk_tup (K := K) (a := p) (xs := [l, r])) (fun i σ H' => i = 0 ∧ H' = H2 ∧ ∃ x3 x4, σ = [some (.ref b), some l, some r, x3, x4]) ⟨rfl, rfl, _, _, rfl⟩ (fun i σ H' _ ⟨_, e, _⟩ => sqt (e ▸ hp)) ?_ ?_
        · rintro i x σ H9 H' hi ⟨rfl, rfl, x3, x4, rfl⟩ ⟨rfl, ex⟩
          cases ex
          refine ⟨_, rfl, _, _, rfl, h, _, rfl, iteT ?_⟩
          exact ⟨_, rfl, mk1 fun d H3 s3 _ e => hk d H3 (sA.trans s3) e⟩
        · rintro σ H' ⟨e, _⟩
          cases e
      | right h k =>
        refine for_it (walk_tup (K := K) (a := p) (xs := [l, r])) (fun i σ H' => i ≤ 1 ∧ H' = H2 ∧ ∃ x3 x4, σ = [some (.ref b), some l, some r, x3, x4]) ⟨Nat.zero_le _, rfl, _, _, rfl⟩ (fun i σ H' _ ⟨_, e, _⟩ => sqt (e ▸ hp)) ?_ ?_
        · rintro i x σ H9 H' hi ⟨hi1, rfl, x3, x4, rfl⟩ ⟨rfl, ex⟩
          cases i with
          | zero =>
            cases ex
            exact ⟨_, rfl, _, _, rfl, h, _, rfl, iteF ⟨Nat.le_refl _, rfl, _, _, rfl⟩⟩
          | succ i =>
            have : i = 0 := by omega
            subst this
            cases ex
            refine ⟨_, rfl, _, _, rfl, k, _, rfl, iteT ?_⟩
            exact ⟨_, rfl, mk1 fun d H3 s3 _ e => hk d H3 (sA.trans s3) e⟩
        · rintro σ H' ⟨e, _⟩
          exact absurd (show 2 ≤ 1 from e) (by decide)
theorem okX_tight (F : FnP K "tight" s_tight [] f fd) (G : Facts mg) (NB : ExcS P w K mg base "BadName" CB "name") (X_checked_system : CalX P w K mg base 3 "checked_system" (spChk CD) [.non]) (C_checked_system : Cal P w K mg base 2 "checked_system" spChecked [.non]) (C_u_is_end : Cal P w K mg base 1 "_is_end" spIsEnd [])
    (C_u_table : CalX P w K mg base 6 "_table" (spTabX CN C) []) (C_upper : Cal P w K mg base 1 "upper" (spUpper C) []) :
    FnOk P w K mg base (L2.CX P w) 7 f fd ["system", "left", "right"] (fun vs H Q E => spTightX CN C vs H Q E ∨ spBad3 CD CB vs H Q E) :=
  fn_or (ok_tightx F G C_checked_system C_u_is_end C_u_table C_upper) ((badTight F G NB X_checked_system C_u_is_end).mono (by decide))
theorem sc_chain : FnScope ["system", "left", "right", "before", "found", "at"] ["system", "left", "right"] (defScope s_chain) := ⟨rfl, rfl, rfl, by decide +kernel, rfl, by decide +kernel, by decide +kernel⟩
theorem okX_chain (F : FnP K "chain" s_chain [] f fd) (G : Facts mg) (X_tight : CalX P w K mg base 7 "tight" (fun vs H Q E => spTightX CN C vs H Q E ∨ spBad3 CD CB vs H Q E) []) : FnOk P w K mg base (L2.CX P w) 8 f fd ["system", "left", "right"] (spBad3 CD CB) := by
  refine F.ok sc_chain (fun vs H Q E h => ?_) (fun cdv A outer s H vs Q E hr h => ?_)
  · obtain ⟨a, l, r, rfl, _⟩ := h
    rfl
  · have hu := hu_of hr
    obtain ⟨a, l, r, rfl, h⟩ := h
    refine ⟨_, (pss_cons (ps_if (pt_cmpR op_isN (pe_cx X_tight (takes_of rfl rfl rfl rfl) (fun _ _ _ _ h => h) hr (by decide) (by rfl) (pa_cons (pv 0) (pa_cons (pv 1) (pa_cons (pv 2) pa_nil)))) pe_non (nomark _)) (pss_one (ps_ret pe_non)) pss_nil)
      pss_no), ?_⟩
    exact ⟨_, rfl, _, rfl, _, rfl, .inr ⟨a, l, r, rfl, h⟩⟩
theorem sc_implied : FnScope ["system", "difference", "left", "right", "limit", "table"] ["system", "difference"] (defScope s_implied) := ⟨rfl, rfl, rfl, by decide +kernel, rfl, by decide +kernel, by decide +kernel⟩
theorem okX_implied (F : FnP K "implied" s_implied [] f fd) (G : Facts mg) (X_checked_system : CalX P w K mg base 3 "checked_system" (spChk CD) [.non]) : FnOk P w K mg base (L2.CX P w) 4 f fd ["system", "difference"] (spBadI CD) := by
  refine F.ok sc_implied (fun vs H Q E h => ?_) (fun cdv A outer s H vs Q E hr h => ?_)
  · obtain ⟨a, v, rfl, _⟩ := h
    rfl
  · obtain ⟨a, v, rfl, h⟩ := h
    have hu := hu_of hr
    refine ⟨_, (pss_cons (ps_set (i := 0) sc_implied.nd rfl (.inl rfl) (pe_cx X_checked_system (takes_of rfl rfl rfl rfl) (fun _ _ _ _ h => h) hr (by decide) (by rfl) (pa_cons (pv 0) pa_nil)))
      (pss_cons (ps_asg (pe_cx X_checked_system (takes_of rfl rfl rfl rfl) (fun _ _ _ _ h => h) hr (by decide) (by rfl) (pa_cons (pe_lst (pa_cons (pv 1) pa_nil)) pa_nil)) (pg_lst rfl (pgs_cons (kpg_tup K rfl (pgs_cons (pg_name (i := 2) sc_implied.nd rfl (by first | exact .inl rfl | exact .inr rfl)) (pgs_cons (pg_name (i := 3) sc_implied.nd rfl (by first | exact .inl rfl | exact .inr rfl)) (pgs_cons (pg_name (i := 4) sc_implied.nd rfl (by first | exact .inl rfl | exact .inr rfl)) pgs_nil)))) pgs_nil)))
      pss_no)), ?_⟩
    rcases h with ⟨n, hb, hk⟩ | ⟨S, hS, hgood, hlen, hbad, hk⟩
    · exact ⟨_, rfl, .inr ⟨a, n, rfl, hb, hk⟩⟩
    · refine ⟨_, rfl, .inl ⟨a, S, rfl, hS, hgood, hlen, fun H1 b s1 hS1 => ?_⟩⟩
      refine ⟨_, rfl, by show 1 ≤ sizeLine; decide, fun p np => ?_⟩
      have s2 := same_upd np (o := .lst [v])
      refine .inr ⟨p, 0, rfl, ⟨[v], [], v, .inr upd_same, by show 1 ≤ 900000; decide, rfl, .nil, fun _ h => (List.not_mem_nil h).elim, hbad.mono (s1.trans s2), rfl⟩, hk.mono (s1.trans s2)⟩
end
end K1

namespace K1
open PySem PySem.Spec PyProof.Rows L2 Ls
/-! ### what the script draws -/
theorem SqL.mono {K : PySem.W.Frag} {H H' : Hp} (s : Same H H') {a : Addr} {xs : List V} (h : SqL K H a xs) : SqL K H' a xs := by
  rcases h with h | h
  · rcases h with h | ⟨o, h⟩
    · exact .inl (.inl (s _ _ h))
    · exact .inl (.inr ⟨o, s _ _ h⟩)
  · exact .inr h
def Scr (K : PySem.W.Frag) (H : Hp) (a : Addr) (ns : List Int) : Prop := SqL K H a (ns.map V.int) ∧ ns.length ≤ 1000
theorem Scr.mono {K : PySem.W.Frag} {H H' : Hp} (s : Same H H') {a : Addr} {ns : List Int} (h : Scr K H a ns) : Scr K H' a ns := ⟨SqL.mono s h.1, h.2⟩
def spDraw (K : PySem.W.Frag) : Sp := fun vs H Q _ => ∃ (a : Addr) (ns : List Int) (at_ many : Int), vs = [.ref a, .int at_, .int many] ∧ Scr K H a ns ∧ 0 < many ∧ ∀ H' d, Same H H' → 0 ≤ d → d < many → Q (.int d) H'
theorem dpInts (K : PySem.W.Frag) (H : Hp) : ∀ ns : List Int, DpAll K H (ns.map V.int) (ns.map PyData.int)
  | [] => .nil
  | n :: ns => .cons (.int n) (dpInts K H ns)
theorem eqv_nil (ns : List Int) : PyData.eqv (.list (ns.map PyData.int)) (.list []) = ns.isEmpty := by
  cases ns with
  | nil => simp [PyData.eqv, PyData.eqvAll]
  | cons n ns => simp [PyData.eqv, PyData.eqvAll]
theorem cut60 (ns : List Int) : cutV (ns.map V.int) none (some 60) = (ns.take 60).map V.int := by
  unfold cutV
  have h1 : HT.sIx (ns.map V.int).length (ns.map V.int).length (some 60) = min 60 (ns.map V.int).length := by
    have := HT.sIx_nat (ns.map V.int).length (ns.map V.int).length 60
    rw [show (some (60 : Int)) = some ((60 : Nat) : Int) from rfl, this]
  rw [h1, HT.sIx_none, List.drop_zero, Nat.sub_zero, List.map_take]
  rw [← List.take_eq_take_min]
section
variable {P : Program} {w : World} {K : PySem.W.Frag} {mg : Str → Option Value} {base : Heap} {f C : Addr} {fd : FuncData} {k : Nat}
theorem sc_u_law_draw : FnScope ["script", "at", "many", "row", "cell", "turn", "step", "mixed"] ["script", "at", "many"] (defScope s_u_law_draw) := ⟨rfl, rfl, rfl, by decide +kernel, rfl, by decide +kernel, by decide +kernel⟩
theorem ok_draw (F : FnP K "_law_draw" s_u_law_draw [] f fd) (G : Facts mg) : FnOk P w K mg base CX0 1 f fd ["script", "at", "many"] (spDraw K) := by
  refine F.ok sc_u_law_draw (fun vs H Q E h => ?_) (fun cdv A outer s H vs Q E hr h => ?_)
  · obtain ⟨a, ns, at_, many, rfl, _⟩ := h
    rfl
  · obtain ⟨a, ns, at_, many, rfl, ⟨hS, hlen⟩, hm, hk⟩ := h
    have hu := hu_of hr
    refine ⟨_, PSs.nox (pss_cons (ps_set (i := 3) sc_u_law_draw.nd rfl (.inl rfl) (pe_ifExp (pt_cmpR (kNeD K hr.units) (pv 0) (pe_lst pa_nil) (nomark _)) (pe_slice (kSlL K) (pv 0) po_none (po_some pe_int)) (pe_lst (pa_cons pe_int pa_nil))))
      (pss_cons (ps_par (i := 4) (j := 5) (by rfl) sc_u_law_draw.nd rfl rfl (by decide) rfl rfl (pa_cons (pe_ix (kIxL K) (pv 3) (pe_op op_mod (pv 1) (pe_callB (kLen K) (by rfl) G.len_ PySem.boot_len (pa_cons (pv 3) pa_nil))) (fun _ _ => rfl)) (pa_cons (pe_op op_fdiv (pv 1) (pe_callB (kLen K) (by rfl) G.len_ PySem.boot_len (pa_cons (pv 3) pa_nil))) pa_nil)) (by rfl))
      (pss_cons (ps_if (pt_cmpR op_ge (pv 4) (pe_op op_pow pe_int pe_int) (nomark _)) (pss_cons (ps_set (i := 4) sc_u_law_draw.nd rfl (.inl rfl) (pe_op op_mod (pe_callTy call_int1 (by rfl) G.int_ (by decide +kernel) (pa_cons (pv 4) pa_nil)) (pe_op op_pow pe_int pe_int)))
        (pss_cons (ps_for PassesOwn.never rfl (pi_range1 (by rfl) G.range_ (pa_cons (pe_op op_mod (pv 5) pe_int) pa_nil)) (pg_name (i := 6) sc_u_law_draw.nd rfl (by first | exact .inl rfl | exact .inr rfl))
          (pss_one (ps_set (i := 4) sc_u_law_draw.nd rfl (.inl rfl) (pe_op op_fdiv (pv 4) pe_int))))
        (pss_one (ps_ret (pe_op op_mod (pe_op op_mod (pe_callTy call_int1 (by rfl) G.int_ (by decide +kernel) (pa_cons (pv 4) pa_nil)) pe_int) (pv 2)))))) pss_nil)
      (pss_cons (ps_set (i := 7) sc_u_law_draw.nd rfl (.inl rfl) (pe_op op_add (pe_op op_mul (pe_op op_add (pe_op op_add (pe_op op_mod (pe_callTy call_int1 (by rfl) G.int_ (by decide +kernel) (pa_cons (pe_op op_add (pv 4) (pe_op op_mul pe_int (pv 5))) pa_nil)) pe_int) (pe_op op_mul pe_int (pv 1))) pe_int) pe_int) (pe_op op_mod (pe_callTy call_int1 (by rfl) G.int_ (by decide +kernel) (pa_cons (pe_op op_fdiv (pv 4) pe_int) pa_nil)) pe_int)))
      (pss_one (ps_ret (pe_op op_mod (pe_callTy call_int1 (by rfl) G.int_ (by decide +kernel) (pa_cons (pe_op op_mod (pe_op op_mul (pe_op op_mod (pv 7) pe_int) pe_int) pe_int) pa_nil)) (pv 2)))))))), ?_⟩
    refine ⟨_, rfl, by show 0 ≤ sizeLine; decide, fun p np => ?_⟩
    have s1 := same_upd np (o := .lst [])
    refine ⟨_, _, .lst (SqL.mono s1 hS) (dpInts K _ ns), .lst (sq upd_same) .nil, PySem.W.shaped_ints ns, rfl, _, rfl, ?_⟩
    rw [eqv_nil]
    by_cases he : ns = []
    case' pos =>
      subst he
      refine iteF ⟨by show 1 ≤ sizeLine; decide, fun b nb => ?_⟩
      have sH := s1.trans (same_upd nb (o := .lst [.int 7]))
      have hb : (upd (upd H p (.lst [])) b (.lst [.int 7])) b = some (.lst (([7] : List Int).map V.int)) := upd_same
      have hne : ([7] : List Int) ≠ [] := by decide
      have hl : ([7] : List Int).length ≤ 60 := by decide
      generalize upd (upd H p (.lst [])) b (.lst [.int 7]) = H1 at sH hb ⊢
      generalize ([7] : List Int) = row at hb hne hl
    case' neg =>
      rw [show (!ns.isEmpty) = true by cases ns with | nil => exact absurd rfl he | cons _ _ => rfl]
      refine iteT ⟨_, rfl, _, rfl, a, _, rfl, SqL.mono s1 hS, fun b nb => ?_⟩
      rw [cut60]
      have sH := s1.trans (same_upd nb (o := .lst ((ns.take 60).map V.int)))
      have hb : (upd (upd H p (.lst [])) b (.lst ((ns.take 60).map V.int))) b = some (.lst ((ns.take 60).map V.int)) := upd_same
      have hne : ns.take 60 ≠ [] := by
        cases ns with
        | nil => exact absurd rfl he
        | cons _ _ => simp
      have hl : (ns.take 60).length ≤ 60 := by rw [List.length_take]; omega
      generalize upd (upd H p (.lst [])) b (.lst ((ns.take 60).map V.int)) = H1 at sH hb ⊢
      generalize ns.take 60 = row at hb hne hl
    all_goals
      have hl0 : (0 : Int) < (row.length : Int) := by
        cases row with
        | nil => exact absurd rfl hne
        | cons _ _ => simp
      have hlm : (row.map V.int).length = row.length := List.length_map _
      have m1 := Int.emod_nonneg at_ (b := (row.length : Int)) (by omega)
      have m2 := Int.emod_lt_of_pos at_ hl0
      obtain ⟨m, hm1, hm2⟩ : ∃ m : Nat, at_ % (row.length : Int) = (m : Int) ∧ m < row.length := ⟨(at_ % (row.length : Int)).toNat, by omega, by omega⟩
      have hat : atI (row.map V.int) (at_ % (row.length : Int)) = some (.int row[m]) := by
        rw [hm1]
        exact atI_nat (by rw [List.getElem?_map, List.getElem?_eq_getElem hm2]; rfl)
      refine ⟨_, rfl, _, rfl, _, rfl, b, _, rfl, .inl (sq hb), ?_⟩
      rw [hlm]
      refine ⟨_, _, rfl, rfl, hl0, b, _, _, _, rfl, rfl, sq hb, hat, ?_⟩
      refine ⟨_, rfl, _, rfl, b, _, rfl, .inl (sq hb), ?_⟩
      rw [hlm]
      refine ⟨_, _, rfl, rfl, ⟨hl0, by omega⟩, ?_⟩
      generalize row[m] = cell
      refine ⟨_, _, rfl, ?_⟩
      refine ⟨_, rfl, _, _, rfl, rfl, ⟨by decide, by decide, by decide⟩, _, _, rfl, rfl, _, rfl, ?_⟩
      by_cases hc : (10 : Int) ^ (18 : Int).toNat ≤ cell
      · rw [decide_eq_true hc]
        refine iteT ⟨_, rfl, .inl ⟨_, rfl, _, _, rfl, rfl, ⟨by decide, by decide, by decide⟩, _, _, rfl, rfl, ?_, ?_⟩⟩
        · exact Int.pow_pos (by decide)
        have t1 := Int.emod_nonneg (at_ / (row.length : Int)) (b := 40) (by decide)
        have t2 := Int.emod_lt_of_pos (at_ / (row.length : Int)) (b := 40) (by decide)
        refine ⟨_, rfl, _, _, rfl, rfl, (by decide : (0 : Int) < 40), at_ / (row.length : Int) % 40, rfl, by omega, by omega, ?_⟩
        refine for_it (walk_range (lo := 0) (n := (at_ / (row.length : Int) % 40).toNat)) (fun i σ H' => ∃ c x6, H' = H1 ∧ σ = [some (.ref a), some (.int at_), some (.int many), some (.ref b), some (.int c), some (.int (at_ / (row.length : Int))), x6, none]) ⟨_, _, rfl, rfl⟩ (fun _ _ _ _ _ => True.intro) ?_ ?_
        · rintro i x σ H9 H' hi ⟨c, x6, rfl, rfl⟩ ⟨rfl, rfl⟩
          exact ⟨_, rfl, _, _, rfl, rfl, ⟨by decide, by decide⟩, _, _, rfl, rfl⟩
        · rintro σ H' ⟨c, x6, rfl, rfl⟩
          refine ⟨_, rfl, .inl ⟨_, rfl, _, _, rfl, rfl, (by decide : (0 : Int) < 97), _, rfl, _, _, rfl, rfl, hm, ?_⟩⟩
          exact hk _ _ sH (Int.emod_nonneg _ (by omega)) (Int.emod_lt_of_pos _ hm)
      · rw [decide_eq_false hc]
        refine iteF ?_
        refine ⟨_, rfl, _, rfl, _, _, rfl, rfl, .inl ⟨by decide, by decide⟩, _, _, rfl, rfl, .inl ⟨_, rfl, _, _, rfl, rfl, (by decide : (0 : Int) < 1000003), _, rfl, _, _, rfl, rfl, .inl ⟨by decide, by decide⟩, _, _, rfl, rfl, _, _, rfl, rfl, _, _, rfl, rfl, .inr ⟨by decide, by decide⟩, _, rfl, _, _, rfl, rfl, ⟨by decide, by decide⟩, .inl ⟨_, rfl, _, _, rfl, rfl, (by decide : (0 : Int) < 999983), _, _, rfl, rfl, ?_⟩⟩⟩
        refine ⟨_, rfl, _, _, rfl, rfl, (by decide : (0 : Int) < 2147483647), _, _, rfl, rfl, .inr ⟨by decide, by decide⟩, _, _, rfl, rfl, (by decide : (0 : Int) < 4294967291), .inl ⟨_, rfl, _, rfl, _, _, rfl, rfl, hm, ?_⟩⟩
        exact hk _ _ sH (Int.emod_nonneg _ (by omega)) (Int.emod_lt_of_pos _ hm)
end
end K1

namespace K1
open PySem PySem.Spec PyProof.Rows L2 Ls
/-! ### the law's drawn names and systems -/
def pools : List (List Str) := [["a", "b", "c", "d"], ["z", "Z9", "00", " "], ["n", "n1", "m", "long name"], ["x", "xx", "xxx", "y"]]
theorem pools_ok : ∀ ks ∈ pools, (("0" : Str) :: (ks ++ (["new", "old"] : List Str))).Nodup ∧ ("" : Str) ∉ ks ∧ ks.length = 4 := by decide +kernel
def spPool (K : PySem.W.Frag) : Sp := fun vs H Q _ => ∃ (a : Addr) (ns : List Int) (at_ : Int), vs = [.ref a, .int at_] ∧ Scr K H a ns ∧ ∀ H' t ks, Same H H' → ks ∈ pools → H' t = some (.tup (ks.map V.str)) → Q (.ref t) H'
/-- a system as the law draws it -/
structure DrawnS (names : List Str) (S : List Df3) : Prop where
  ends : ∀ e ∈ S, e.1 ∈ ("0" : Str) :: names ∧ e.2.1 ∈ ("0" : Str) :: names ∧ e.1 ≠ e.2.1
  lim : ∀ e ∈ S, -5000000000000000 ≤ e.2.2 ∧ e.2.2 ≤ 5000000000000000
def spSystem (K : PySem.W.Frag) : Sp := fun vs H Q _ => ∃ (a t : Addr) (ns : List Int) (at_ most : Int) (names : List Str), vs = [.ref a, .int at_, .ref t, .int most] ∧ Scr K H a ns ∧ H t = some (.tup (names.map V.str)) ∧ (("0" : Str) :: names).Nodup ∧ 1 ≤ names.length ∧ names.length ≤ 10 ∧ 0 ≤ most ∧ most ≤ 20 ∧
  ∀ H' b S, Same H H' → SysAt H' b S → DrawnS names S → (S.length : Int) ≤ most → Q (.ref b) H'
def spWorth : Sp := fun vs H Q _ => ∃ (n : Str) (d : Addr) (ks : List Str) (x : Str → Int), vs = [.str n, .ref d] ∧ H d = some (.dK (ptV ks x)) ∧ n ∈ ("0" : Str) :: ks ∧ Q (.int (Df.pt0 ("0" : Str) x n)) H
def spSolves : Sp := fun vs H Q _ => ∃ (a d : Addr) (S : List Df3) (ks : List Str) (x : Str → Int), vs = [.ref a, .ref d] ∧ SysAt H a S ∧ H d = some (.dK (ptV ks x)) ∧ (∀ e ∈ S, e.1 ∈ ("0" : Str) :: ks ∧ e.2.1 ∈ ("0" : Str) :: ks) ∧ Df.Solves S (Df.pt0 ("0" : Str) x) ∧ Q (.bl true) H
theorem other_ne {n one d : Int} (h0 : 0 ≤ one) (h1 : one < n) (d0 : 0 ≤ d) (d1 : d < n - 1) : (one + 1 + d) % n ≠ one := fun e => by
  by_cases h : one + 1 + d < n
  · rw [Int.emod_eq_of_lt (by omega) h] at e; omega
  · have : (one + 1 + d) % n = one + 1 + d - n := by
      rw [show one + 1 + d = (one + 1 + d - n) + n by omega, Int.add_emod_right, Int.emod_eq_of_lt (by omega) (by omega)]
      omega
    omega
theorem nth_of {α : Type} {xs : List α} {i : Int} (h0 : 0 ≤ i) (h1 : i < (xs.length : Int)) : ∃ m : Nat, i = (m : Int) ∧ m < xs.length := ⟨i.toNat, by omega, by omega⟩
section
variable {P : Program} {w : World} {K : PySem.W.Frag} {mg : Str → Option Value} {base : Heap} {f C : Addr} {fd : FuncData} {k : Nat}
theorem sc_u_law_pool : FnScope ["script", "at"] ["script", "at"] (defScope s_u_law_pool) := ⟨rfl, rfl, rfl, by decide +kernel, rfl, by decide +kernel, by decide +kernel⟩
theorem ok_pool (F : FnP K "_law_pool" s_u_law_pool [] f fd) (G : Facts mg) (C_u_law_draw : Cal P w K mg base 1 "_law_draw" (spDraw K) []) : FnOk P w K mg base CX0 2 f fd ["script", "at"] (spPool K) := by
  refine F.ok sc_u_law_pool (fun vs H Q E h => ?_) (fun cdv A outer s H vs Q E hr h => ?_)
  · obtain ⟨a, ns, at_, rfl, _⟩ := h
    rfl
  · obtain ⟨a, ns, at_, rfl, hS, hk⟩ := h
    have hu := hu_of hr
    refine ⟨_, PSs.nox (pss_one (ps_ret (pe_ix (kIxT K) (pe_tup (pa_cons (pe_tup (pa_cons pe_str (pa_cons pe_str (pa_cons pe_str (pa_cons pe_str pa_nil))))) (pa_cons (pe_tup (pa_cons pe_str (pa_cons pe_str (pa_cons pe_str (pa_cons pe_str pa_nil))))) (pa_cons (pe_tup (pa_cons pe_str (pa_cons pe_str (pa_cons pe_str (pa_cons pe_str pa_nil))))) (pa_cons (pe_tup (pa_cons pe_str (pa_cons pe_str (pa_cons pe_str (pa_cons pe_str pa_nil))))) pa_nil))))) (pe_c C_u_law_draw hr (by decide) (by rfl) (pa_cons (pv 0) (pa_cons (pv 1) (pa_cons pe_int pa_nil)))) (fun _ _ => rfl)))), ?_⟩
    refine ⟨by show 4 ≤ sizeLine; decide, fun p1 n1 => ?_⟩
    have s1 := same_upd n1 (o := .tup [.str "a", .str "b", .str "c", .str "d"])
    have h1 : (upd H p1 (.tup [.str "a", .str "b", .str "c", .str "d"])) p1 = some (.tup ((["a", "b", "c", "d"] : List Str).map V.str)) := upd_same
    refine ⟨by show 4 ≤ sizeLine; decide, fun p2 n2 => ?_⟩
    have s2 := same_upd n2 (o := .tup [.str "z", .str "Z9", .str "00", .str " "])
    refine ⟨by show 4 ≤ sizeLine; decide, fun p3 n3 => ?_⟩
    have s3 := same_upd n3 (o := .tup [.str "n", .str "n1", .str "m", .str "long name"])
    refine ⟨by show 4 ≤ sizeLine; decide, fun p4 n4 => ?_⟩
    have s4 := same_upd n4 (o := .tup [.str "x", .str "xx", .str "xxx", .str "y"])
    refine ⟨by show 4 ≤ sizeLine; decide, fun p n => ?_⟩
    have s5 := same_upd n (o := .tup [.ref p1, .ref p2, .ref p3, .ref p4])
    have sA := s1.trans (s2.trans (s3.trans (s4.trans s5)))
    refine ⟨_, rfl, _, rfl, a, ns, _, 4, rfl, hS.mono sA, by decide, fun H' d s6 d0 d4 => ?_⟩
    have sB := sA.trans s6
    have g1 := s6 _ _ (s5 _ _ (s4 _ _ (s3 _ _ (s2 _ _ h1))))
    have g2 := s6 _ _ (s5 _ _ (s4 _ _ (s3 _ _ (upd_same (a := p2)))))
    have g3 := s6 _ _ (s5 _ _ (s4 _ _ (upd_same (a := p3))))
    have g4 := s6 _ _ (s5 _ _ (upd_same (a := p4)))
    have g5 := s6 _ _ (upd_same (a := p))
    have c : d = 0 ∨ d = 1 ∨ d = 2 ∨ d = 3 := by omega
    rcases c with rfl | rfl | rfl | rfl
    · exact ⟨p, _, _, .ref p1, rfl, rfl, sqt g5, rfl, hk H' p1 _ sB (by decide +kernel) g1⟩
    · exact ⟨p, _, _, .ref p2, rfl, rfl, sqt g5, rfl, hk H' p2 ["z", "Z9", "00", " "] sB (by decide +kernel) g2⟩
    · exact ⟨p, _, _, .ref p3, rfl, rfl, sqt g5, rfl, hk H' p3 ["n", "n1", "m", "long name"] sB (by decide +kernel) g3⟩
    · exact ⟨p, _, _, .ref p4, rfl, rfl, sqt g5, rfl, hk H' p4 ["x", "xx", "xxx", "y"] sB (by decide +kernel) g4⟩
end
end K1

namespace K1
open PySem PySem.Spec PyProof.Rows L2 Ls
theorem DrawnS.nil (names : List Str) : DrawnS names [] := ⟨fun _ h => (List.not_mem_nil h).elim, fun _ h => (List.not_mem_nil h).elim⟩
theorem scale_lim {l s : Int} (h0 : -3 ≤ l) (h1 : l ≤ 5) (hs : s = 1 ∨ s = 1000 ∨ s = 1000000000000000) : -5000000000000000 ≤ (l - 1) * s + l ∧ (l - 1) * s + l ≤ 5000000000000000 := by
  rcases hs with rfl | rfl | rfl <;> omega
section
variable {P : Program} {w : World} {K : PySem.W.Frag} {mg : Str → Option Value} {base : Heap} {f C : Addr} {fd : FuncData} {k : Nat}
theorem sc_u_law_system : FnScope ["script", "at", "names", "most", "found", "ends", "scale", "turn", "spot", "one", "other", "limit"] ["script", "at", "names", "most"] (defScope s_u_law_system) := ⟨rfl, rfl, rfl, by decide +kernel, rfl, by decide +kernel, by decide +kernel⟩
theorem ok_system (F : FnP K "_law_system" s_u_law_system [] f fd) (G : Facts mg) (C_u_law_draw : Cal P w K mg base 1 "_law_draw" (spDraw K) []) : FnOk P w K mg base CX0 2 f fd ["script", "at", "names", "most"] (spSystem K) := by
  refine F.ok sc_u_law_system (fun vs H Q E h => ?_) (fun cdv A outer s H vs Q E hr h => ?_)
  · obtain ⟨a, t, ns, at_, most, names, rfl, _⟩ := h
    rfl
  · obtain ⟨a, t, ns, at_, most, names, rfl, hS, ht, hnd, hl1, hl9, hm0, hm9, hk⟩ := h
    have hu := hu_of hr
    refine ⟨_, PSs.nox (pss_cons (ps_par (i := 4) (j := 5) (by rfl) sc_u_law_system.nd rfl rfl (by decide) rfl rfl (pa_cons (pe_lst pa_nil) (pa_cons (pe_op kCatT (pe_tup (pa_cons pe_str pa_nil)) (pe_callTy kTuple (by rfl) G.tuple_ (by decide +kernel) (pa_cons (pv 2) pa_nil))) pa_nil)) (by rfl))
      (pss_cons (ps_set (i := 6) sc_u_law_system.nd rfl (.inl rfl) (pe_ix (kIxT K) (pe_tup (pa_cons pe_int (pa_cons pe_int (pa_cons pe_int (pa_cons pe_int (pa_cons (pe_op op_pow pe_int pe_int) pa_nil)))))) (pe_c C_u_law_draw hr (by decide) (by rfl) (pa_cons (pv 0) (pa_cons (pv 1) (pa_cons pe_int pa_nil)))) (fun _ _ => rfl)))
      (pss_cons (ps_for PassesOwn.never rfl (pi_range1 (by rfl) G.range_ (pa_cons (pe_c C_u_law_draw hr (by decide) (by rfl) (pa_cons (pv 0) (pa_cons (pe_op op_add (pv 1) pe_int) (pa_cons (pe_op op_add (pv 3) pe_int) pa_nil)))) pa_nil)) (pg_name (i := 7) sc_u_law_system.nd rfl (by first | exact .inl rfl | exact .inr rfl))
        (pss_cons (ps_set (i := 8) sc_u_law_system.nd rfl (.inl rfl) (pe_op op_add (pe_op op_add (pv 1) pe_int) (pe_op op_mul pe_int (pv 7))))
        (pss_cons (ps_set (i := 9) sc_u_law_system.nd rfl (.inl rfl) (pe_c C_u_law_draw hr (by decide) (by rfl) (pa_cons (pv 0) (pa_cons (pv 8) (pa_cons (pe_callB (kLen K) (by rfl) G.len_ PySem.boot_len (pa_cons (pv 5) pa_nil)) pa_nil)))))
        (pss_cons (ps_set (i := 10) sc_u_law_system.nd rfl (.inl rfl) (pe_op op_mod (pe_callTy call_int1 (by rfl) G.int_ (by decide +kernel) (pa_cons (pe_op op_add (pe_op op_add (pv 9) pe_int) (pe_c C_u_law_draw hr (by decide) (by rfl) (pa_cons (pv 0) (pa_cons (pe_op op_add (pv 8) pe_int) (pa_cons (pe_op op_sub (pe_callB (kLen K) (by rfl) G.len_ PySem.boot_len (pa_cons (pv 5) pa_nil)) pe_int) pa_nil))))) pa_nil)) (pe_callB (kLen K) (by rfl) G.len_ PySem.boot_len (pa_cons (pv 5) pa_nil))))
        (pss_cons (ps_set (i := 11) sc_u_law_system.nd rfl (.inl rfl) (pe_op op_sub (pe_c C_u_law_draw hr (by decide) (by rfl) (pa_cons (pv 0) (pa_cons (pe_op op_add (pv 8) pe_int) (pa_cons pe_int pa_nil)))) pe_int))
        (pss_cons (ps_if (PW.pt (pw_and (pt_cmpR op_gt (pv 6) pe_int (nomark _)) (pw_and1 (pt_cmpR op_eq (pe_c C_u_law_draw hr (by decide) (by rfl) (pa_cons (pv 0) (pa_cons (pe_op op_add (pv 8) pe_int) (pa_cons pe_int pa_nil)))) pe_int (nomark _))))) (pss_one (ps_set (i := 11) sc_u_law_system.nd rfl (.inl rfl) (pe_op op_add (pe_op op_mul (pe_op op_sub (pv 11) pe_int) (pv 6)) (pv 11)))) pss_nil)
        (pss_one (ps_expr (pe_bm PySem.F.plainAttrs_list PySem.F.slot_list_append PySem.F.type_list_append mt_append (pv 4) (pa_cons (pe_tup (pa_cons (pe_ix (kIxT K) (pv 5) (pv 9) (fun _ _ => rfl)) (pa_cons (pe_ix (kIxT K) (pv 5) (pv 10) (fun _ _ => rfl)) (pa_cons (pv 11) pa_nil)))) pa_nil))))))))))
      (pss_one (ps_ret (pv 4)))))), ?_⟩
    -- found, ends
    refine ⟨by show 0 ≤ sizeLine; decide, fun d nd => ?_⟩
    have s1 := same_upd nd (o := .lst [])
    refine ⟨by show 1 ≤ sizeLine; decide, fun p np => ?_⟩
    have s2 := same_upd np (o := .tup [.str "0"])
    refine ⟨_, rfl, t, names.map V.str, rfl, .inr (s2 _ _ (s1 _ _ ht)), fun H2 q s3 nq hq => ?_⟩
    refine ⟨p, q, [.str "0"], names.map V.str, rfl, rfl, s3 _ _ upd_same, hq, szl (by simp; omega), fun H3 e s4 ne he => ?_⟩
    have he : H3 e = some (.tup ((("0" : Str) :: names).map V.str)) := he
    generalize hen : ("0" : Str) :: names = ends at hnd he
    have hel : ends.length = names.length + 1 := by rw [← hen]; rfl
    have helm : (ends.map V.str).length = ends.length := List.length_map _
    have sA : Same H H3 := s1.trans (s2.trans (s3.trans s4))
    have hd3 : H3 d = some (.lst []) := s4 _ _ (s3 _ _ (s2 _ _ upd_same))
    refine ⟨_, _, rfl, ?_⟩
    -- scale
    refine ⟨_, _, rfl, rfl, ⟨by decide, by decide, by decide⟩, by show 5 ≤ sizeLine; decide, fun p5 n5 => ?_⟩
    have s5 := same_upd n5 (o := .tup [.int 1, .int 1, .int 1, .int 1000, .int ((10 : Int) ^ (15 : Int).toNat)])
    refine ⟨_, rfl, _, rfl, a, ns, _, 5, rfl, hS.mono (sA.trans s5), by decide, fun H6 ds s6 ds0 ds5 => ?_⟩
    have g5 := s6 _ _ (upd_same (H := H3) (a := p5) (o := .tup [.int 1, .int 1, .int 1, .int 1000, .int ((10 : Int) ^ (15 : Int).toNat)]))
    have hsc : ∃ sc : Int, atI [V.int 1, .int 1, .int 1, .int 1000, .int ((10 : Int) ^ (15 : Int).toNat)] ds = some (.int sc) ∧ (sc = 1 ∨ sc = 1000 ∨ sc = 1000000000000000) := by
      have c : ds = 0 ∨ ds = 1 ∨ ds = 2 ∨ ds = 3 ∨ ds = 4 := by omega
      rcases c with rfl | rfl | rfl | rfl | rfl
      · exact ⟨1, rfl, .inl rfl⟩
      · exact ⟨1, rfl, .inl rfl⟩
      · exact ⟨1, rfl, .inl rfl⟩
      · exact ⟨1000, rfl, .inr (.inl rfl)⟩
      · exact ⟨1000000000000000, rfl, .inr (.inr rfl)⟩
    obtain ⟨sc, hsc, hsc2⟩ := hsc
    refine ⟨p5, _, _, _, rfl, rfl, sqt g5, hsc, ?_⟩
    have sB : Same H H6 := sA.trans (s5.trans s6)
    have he6 := s6 _ _ (s5 _ _ he)
    have hd6 := s6 _ _ (s5 _ _ hd3)
    -- the rows
    refine ⟨_, rfl, _, rfl, _, _, rfl, rfl, _, rfl, _, _, rfl, rfl, a, ns, _, _, rfl, hS.mono sB, by omega, fun H7 n7 s7 n70 n7m => ?_⟩
    refine ⟨n7, rfl, by omega, by omega, ?_⟩
    refine for_it (walk_range (lo := 0) (n := n7.toNat)) (fun i σ H' => ∃ x7 x8 x9 x10 x11 out S, σ = [some (.ref a), some (.int at_), some (.ref t), some (.int most), some (.ref d), some (.ref e), some (.int sc), x7, x8, x9, x10, x11] ∧ Same H H' ∧ H' d = some (.lst out) ∧ H' e = some (.tup (ends.map V.str)) ∧
        Paired (RowT H') out S ∧ DrawnS names S ∧ S.length = i)
      ⟨_, _, _, _, _, [], [], rfl, sB.trans s7, s7 _ _ hd6, s7 _ _ he6, .nil, DrawnS.nil names, rfl⟩ (fun _ _ _ _ _ => True.intro) ?_ ?_
    · rintro i x σ H8 H' hi ⟨x7, x8, x9, x10, x11, out, S, rfl, s8, hd, he, hp, hdr, hSl⟩ ⟨rfl, rfl⟩
      -- spot, one
      refine ⟨_, rfl, _, _, rfl, rfl, _, rfl, _, _, rfl, rfl, .inl ⟨by decide, by decide⟩, _, _, rfl, rfl, ?_⟩
      refine ⟨_, rfl, _, rfl, _, rfl, e, _, rfl, .inr (sqt he), ?_⟩
      rw [helm]
      refine ⟨a, ns, _, _, rfl, hS.mono s8, by omega, fun H9 one s9 o0 o1 => ?_⟩
      -- other
      have he9 := s9 _ _ he
      refine ⟨_, rfl, _, _, rfl, rfl, _, rfl, _, rfl, _, _, rfl, rfl, _, rfl, e, _, rfl, .inr (sqt he9), ?_⟩
      rw [helm]
      refine ⟨_, _, rfl, rfl, a, ns, _, _, rfl, hS.mono (s8.trans s9), by omega, fun H10 dd s10 d0 d1 => ?_⟩
      have he10 := s10 _ _ he9
      refine ⟨_, _, rfl, rfl, .inl ⟨_, rfl, _, rfl, e, _, rfl, .inr (sqt he10), ?_⟩⟩
      rw [helm]
      have hone : (one + 1 + dd) % (ends.length : Int) ≠ one := other_ne o0 o1 d0 d1
      have r0 := Int.emod_nonneg (one + 1 + dd) (b := (ends.length : Int)) (by omega)
      have r1 := Int.emod_lt_of_pos (one + 1 + dd) (b := (ends.length : Int)) (by omega)
      refine ⟨_, _, rfl, rfl, (show (0 : Int) < (ends.length : Int) by omega), ?_⟩
      -- limit
      refine ⟨_, rfl, _, rfl, _, _, rfl, rfl, a, ns, _, 9, rfl, hS.mono (s8.trans (s9.trans s10)), by decide, fun H11 dl s11 l0 l9 => ?_⟩
      refine ⟨_, _, rfl, rfl, ?_⟩
      have s811 := s8.trans (s9.trans (s10.trans s11))
      have s8b := s9.trans (s10.trans s11)
      -- what is left once the limit stands
      have fin : ∀ (lim : Int) (HH : Hp) (x8 x9 x10 : Option V), -5000000000000000 ≤ lim → lim ≤ 5000000000000000 → Same H' HH → Same H HH →
          tDrop (tBM K "list" rAppend (tVar 4) (tCons (tTup (tCons (tOp (rIxT K) (tVar 5) (tVar 9)) (tCons (tOp (rIxT K) (tVar 5) (tVar 10)) (tCons (tVar 11) tNil)))) tNil))
            { nx := fun σ H' => ∃ x7 x8 x9 x10 x11 out S, σ = [some (.ref a), some (.int at_), some (.ref t), some (.int most), some (.ref d), some (.ref e), some (.int sc), x7, x8, x9, x10, x11] ∧ Same H H' ∧ H' d = some (.lst out) ∧ H' e = some (.tup (ends.map V.str)) ∧
                Paired (RowT H') out S ∧ DrawnS names S ∧ S.length = i + 1, rt := Q } [some (.ref a), some (.int at_), some (.ref t), some (.int most), some (.ref d), some (.ref e), some (.int sc), some (.int (0 + (i : Int))), x8, some (.int one), some (.int ((one + 1 + dd) % (ends.length : Int))), some (.int lim)] HH := by
        intro lim HH x8 x9 x10 b0 b1 sx sy
        obtain ⟨m1, e1, hm1⟩ := nth_of o0 (show one < (ends.length : Int) by omega)
        obtain ⟨m2, e2, hm2⟩ := nth_of r0 r1
        have hdH := sx _ _ hd
        have heH := sx _ _ he
        refine ⟨_, rfl, .inl ⟨rfl, _, sq hdH⟩, ?_⟩
        refine ⟨_, rfl, _, rfl, e, _, _, _, rfl, rfl, sqt heH, by rw [e1]; exact atI_nat (by rw [List.getElem?_map, List.getElem?_eq_getElem hm1]; rfl), ?_⟩
        refine ⟨_, rfl, _, rfl, e, _, _, _, rfl, rfl, sqt heH, by rw [e2]; exact atI_nat (by rw [List.getElem?_map, List.getElem?_eq_getElem hm2]; rfl), ?_⟩
        refine ⟨_, rfl, by show 3 ≤ sizeLine; decide, fun r nr => ?_⟩
        have sr := same_upd nr (o := .tup [.str ends[m1], .str ends[m2], .int lim])
        have hde : d ≠ e := fun z => by rw [z, he] at hd; cases hd
        refine ⟨d, out, .ref r, rfl, rfl, sr _ _ hdH, szlt (by rw [plen hp]; omega), _, _, _, _, _, out ++ [.ref r], S ++ [(ends[m1], ends[m2], lim)], rfl, same_mut (sy.trans sr) nd, upd_same, by rw [upd_ne hde.symm]; exact sr _ _ heH, ?_, ?_, by rw [List.length_append, hSl]; rfl⟩
        · have hrd : r ≠ d := (ne_of_none hdH nr).symm
          have keep : ∀ v e, RowT H' v e → RowT (upd (upd HH r (.tup [.str ends[m1], .str ends[m2], .int lim])) d (.lst (out ++ [.ref r]))) v e := fun v e ⟨r', e1, e2⟩ =>
            ⟨r', e1, by
              have h1 := sr _ _ (sx _ _ e2)
              have : r' ≠ d := fun z => by rw [z, hd] at e2; cases e2
              rw [upd_ne this]; exact h1⟩
          exact (pmono keep hp).snoc ⟨r, rfl, by rw [upd_ne hrd]; exact upd_same⟩
        · have hne : ends[m1] ≠ ends[m2] := fun z => by
            have := (List.getElem_inj hnd).mp z
            omega
          refine ⟨fun ee hee => ?_, fun ee hee => ?_⟩
          · rcases List.mem_append.mp hee with h | h
            · exact hdr.ends _ h
            · rw [List.mem_singleton.mp h, hen]
              exact ⟨List.getElem_mem hm1, List.getElem_mem hm2, hne⟩
          · rcases List.mem_append.mp hee with h | h
            · exact hdr.lim _ h
            · rw [List.mem_singleton.mp h]
              exact ⟨b0, b1⟩
      refine ⟨_, rfl, _, _, rfl, rfl, _, rfl, ?_⟩
      by_cases hs1 : (1 : Int) < sc
      · rw [decide_eq_true hs1]
        refine iteT ?_
        refine ⟨_, rfl, _, rfl, _, _, rfl, rfl, a, ns, _, 2, rfl, hS.mono s811, by decide, fun H12 d2 s12 c0 c2 => ?_⟩
        refine ⟨rfl, _, rfl, ?_⟩
        by_cases h1 : d2 = 1
        · rw [show decide (V.int d2 = V.int 1) = true by rw [h1]; exact decide_eq_true rfl]
          refine iteT ⟨_, rfl, _, _, rfl, rfl, _, rfl, _, _, rfl, rfl, .inl ⟨by omega, by omega⟩, _, rfl, _, _, rfl, rfl, ?_⟩
          have := scale_lim (l := dl - 3) (s := sc) (by omega) (by omega) hsc2
          exact fin _ H12 _ none none this.1 this.2 (s8b.trans s12) (s811.trans s12)
        · rw [show decide (V.int d2 = V.int 1) = false from decide_eq_false fun z => h1 (by injection z)]
          exact iteF (fin _ H12 _ none none (by omega) (by omega) (s8b.trans s12) (s811.trans s12))
      · rw [decide_eq_false hs1]
        exact iteF (fin _ H11 _ none none (by omega) (by omega) s8b s811)
    · rintro σ H' ⟨x7, x8, x9, x10, x11, out, S, rfl, s8, hd, he, hp, hdr, hSl⟩
      exact ⟨_, rfl, hk H' d S s8 ⟨out, hd, hp⟩ hdr (by omega)⟩
end
end K1

namespace K1
open PySem PySem.Spec PyProof.Rows L2 Ls
/-! ### the law's bad rows -/
def spGreat : Sp := fun vs H Q _ => vs = [] ∧ ∀ c : Int, (¬ (-1000000000000000000 < c ∧ c < 1000000000000000000)) → Q (.int c) H
def spLBad (K : PySem.W.Frag) : Sp := fun vs H Q _ => ∃ (a : Addr) (ns : List Int) (at_ : Int), vs = [.ref a, .int at_] ∧ Scr K H a ns ∧ ∀ H' v, Same H H' → BadRow H' v → Q v H'
section
variable {P : Program} {w : World} {K : PySem.W.Frag} {mg : Str → Option Value} {base : Heap} {f C CD CB CN : Addr} {fd : FuncData} {k : Nat}
theorem sc_u_law_great : FnScope ["found", "step"] [] (defScope s_u_law_great) := ⟨rfl, rfl, rfl, by decide +kernel, rfl, by decide +kernel, by decide +kernel⟩
theorem ok_great (F : FnP K "_law_great" s_u_law_great [] f fd) (G : Facts mg) : FnOk P w K mg base CX0 1 f fd [] spGreat := by
  refine F.ok sc_u_law_great (fun vs H Q E h => ?_) (fun cdv A outer s H vs Q E hr h => ?_)
  · obtain ⟨rfl, _⟩ := h
    rfl
  · obtain ⟨rfl, hk⟩ := h
    have hu := hu_of hr
    refine ⟨_, PSs.nox (pss_cons (ps_set (i := 0) sc_u_law_great.nd rfl (.inl rfl) pe_int)
      (pss_cons (ps_for PassesOwn.never rfl (pi_range1 (by rfl) G.range_ (pa_cons pe_int pa_nil)) (pg_name (i := 1) sc_u_law_great.nd rfl (by first | exact .inl rfl | exact .inr rfl))
        (pss_one (ps_set (i := 0) sc_u_law_great.nd rfl (.inl rfl) (pe_op op_add (pe_op op_mulW (pv 0) (pe_op op_pow pe_int pe_int)) pe_int))))
      (pss_one (ps_ret (pv 0))))), ?_⟩
    refine ⟨74, rfl, by decide, by decide, ?_⟩
    refine for_it (walk_range (lo := 0) (n := (74 : Int).toNat)) (fun i σ H' => ∃ (c : Int) (x1 : Option V), σ = [some (.int c), x1] ∧ H' = H ∧ 7 ≤ c ∧ c.natAbs < 2 ^ (3 + 201 * i) ∧ (0 < i → 1000000000000000000 ≤ c)) ⟨7, none, rfl, rfl, by decide, by decide, fun z => absurd z (by decide)⟩ (fun _ _ _ _ _ => True.intro) ?_ ?_
    · rintro i x σ H9 H' hi ⟨c, x1, rfl, rfl, h7, hb, _⟩ ⟨rfl, rfl⟩
      have hi : i < 74 := hi
      have hten : ((10 : Int) ^ (60 : Int).toNat).natAbs < 2 ^ 200 := by decide
      have hw : CMulW c ((10 : Int) ^ (60 : Int).toNat) := wide_mul hb hten (by omega) (by decide) (by omega)
      refine ⟨_, rfl, _, _, rfl, rfl, ⟨by decide, by decide, by decide⟩, _, _, rfl, rfl, hw, _, _, rfl, rfl, ?_⟩
      refine ⟨_, _, rfl, rfl, ?_, ?_, fun _ => ?_⟩
      · have : (1 : Int) ≤ (10 : Int) ^ (60 : Int).toNat := by decide
        have := Int.mul_le_mul_of_nonneg_left this (show 0 ≤ c by omega)
        omega
      · have h1 : (c * (10 : Int) ^ (60 : Int).toNat).natAbs < 2 ^ ((3 + 201 * i) + 200) := wide_lt hb hten
        have h2 : 2 ^ (3 + 201 * (i + 1)) = 2 ^ ((3 + 201 * i) + 200) * 2 := by rw [← Nat.pow_succ]; congr 1
        have h3 : 0 < 2 ^ ((3 + 201 * i) + 200) := Nat.pow_pos (by decide)
        have h4 := Int.natAbs_add_le (c * (10 : Int) ^ (60 : Int).toNat) 1
        rw [h2]
        have h5 : (1 : Int).natAbs = 1 := rfl
        omega
      · have : (1000000000000000000 : Int) ≤ (10 : Int) ^ (60 : Int).toNat := by decide
        have := Int.mul_le_mul_of_nonneg_left this (show 0 ≤ c by omega)
        omega
    · rintro σ H' ⟨c, x1, rfl, rfl, h7, hb, hg⟩
      have := hg (by decide)
      exact ⟨_, rfl, hk c (by omega)⟩
theorem sc_u_law_bad : FnScope ["script", "at", "odd"] ["script", "at"] (defScope s_u_law_bad) := ⟨rfl, rfl, rfl, by decide +kernel, rfl, by decide +kernel, by decide +kernel⟩
theorem ok_lbad (F : FnP K "_law_bad" s_u_law_bad [] f fd) (G : Facts mg) (C_u_law_draw : Cal P w K mg base 1 "_law_draw" (spDraw K) []) (C_u_law_great : Cal P w K mg base 1 "_law_great" spGreat []) : FnOk P w K mg base CX0 2 f fd ["script", "at"] (spLBad K) := by
  refine F.ok sc_u_law_bad (fun vs H Q E h => ?_) (fun cdv A outer s H vs Q E hr h => ?_)
  · obtain ⟨a, ns, at_, rfl, _⟩ := h
    rfl
  · obtain ⟨a, ns, at_, rfl, hS, hk⟩ := h
    have hu := hu_of hr
    refine ⟨_, PSs.nox (pss_cons (ps_set (i := 2) sc_u_law_bad.nd rfl (.inl rfl) (pe_tup (pa_cons pe_non (pa_cons pe_int (pa_cons pe_str (pa_cons (pe_tup pa_nil) (pa_cons (pe_tup (pa_cons pe_str (pa_cons pe_str pa_nil))) (pa_cons (pe_tup (pa_cons pe_str (pa_cons pe_str (pa_cons pe_int (pa_cons pe_int pa_nil))))) (pa_cons (pe_tup (pa_cons pe_str (pa_cons pe_str (pa_cons pe_int pa_nil)))) (pa_cons (pe_tup (pa_cons pe_str (pa_cons pe_str (pa_cons pe_int pa_nil)))) (pa_cons (pe_tup (pa_cons pe_str (pa_cons pe_str (pa_cons pe_int pa_nil)))) (pa_cons (pe_tup (pa_cons pe_str (pa_cons pe_str (pa_cons pe_int pa_nil)))) (pa_cons (pe_tup (pa_cons pe_int (pa_cons pe_str (pa_cons pe_int pa_nil)))) (pa_cons (pe_tup (pa_cons pe_str (pa_cons pe_non (pa_cons pe_int pa_nil)))) (pa_cons (pe_tup (pa_cons pe_str (pa_cons pe_str (pa_cons pe_non pa_nil)))) (pa_cons (pe_tup (pa_cons pe_str (pa_cons pe_str (pa_cons pe_str pa_nil)))) (pa_cons (pe_tup (pa_cons pe_str (pa_cons pe_str (pa_cons pe_bl pa_nil)))) (pa_cons (pe_tup (pa_cons pe_str (pa_cons pe_str (pa_cons pe_bl pa_nil)))) (pa_cons (pe_tup (pa_cons pe_str (pa_cons pe_str (pa_cons (pe_op op_pow pe_int pe_int) pa_nil)))) (pa_cons (pe_tup (pa_cons pe_str (pa_cons pe_str (pa_cons (pe_op op_sub pe_int (pe_op op_pow pe_int pe_int)) pa_nil)))) (pa_cons (pe_tup (pa_cons pe_str (pa_cons pe_str (pa_cons (pe_c0 C_u_law_great hr (by decide) (by rfl)) pa_nil)))) (pa_cons (pe_lst (pa_cons pe_str (pa_cons pe_str pa_nil))) (pa_cons (pe_lst (pa_cons pe_str (pa_cons pe_str (pa_cons pe_int pa_nil)))) (pa_cons (pe_tup (pa_cons pe_str (pa_cons (pe_tup (pa_cons pe_str pa_nil)) (pa_cons pe_int pa_nil)))) (pa_cons (pe_tup (pa_cons (pe_lst (pa_cons pe_str pa_nil)) (pa_cons pe_str (pa_cons pe_int pa_nil)))) (pa_cons pe_dnewK (pa_cons (pe_tup (pa_cons pe_str (pa_cons pe_str (pa_cons (pe_tup (pa_cons pe_int pa_nil)) pa_nil)))) pa_nil)))))))))))))))))))))))))))
      (pss_one (ps_ret (pe_ix (kIxT K) (pv 2) (pe_c C_u_law_draw hr (by decide) (by rfl) (pa_cons (pv 0) (pa_cons (pv 1) (pa_cons (pe_callB (kLen K) (by rfl) G.len_ PySem.boot_len (pa_cons (pv 2) pa_nil)) pa_nil)))) (fun _ _ => rfl))))), ?_⟩
    revert hS hk; generalize H = H0; intro hS hk
    refine ⟨by show 0 ≤ sizeLine; decide, fun p1 n1 => ?_⟩
    have s1 := same_upd n1 (o := .tup [])
    have h1 : (upd H0 p1 (.tup [])) p1 = some (.tup []) := upd_same
    generalize upd H0 p1 (.tup []) = H1 at s1 h1 ⊢
    refine ⟨by show 2 ≤ sizeLine; decide, fun p2 n2 => ?_⟩
    have s2 := same_upd n2 (o := .tup [.str "a", .str "b"])
    have h2 : (upd H1 p2 (.tup [.str "a", .str "b"])) p2 = some (.tup [.str "a", .str "b"]) := upd_same
    generalize upd H1 p2 (.tup [.str "a", .str "b"]) = H2 at s2 h2 ⊢
    refine ⟨by show 4 ≤ sizeLine; decide, fun p3 n3 => ?_⟩
    have s3 := same_upd n3 (o := .tup [.str "a", .str "b", .int 1, .int 2])
    have h3 : (upd H2 p3 (.tup [.str "a", .str "b", .int 1, .int 2])) p3 = some (.tup [.str "a", .str "b", .int 1, .int 2]) := upd_same
    generalize upd H2 p3 (.tup [.str "a", .str "b", .int 1, .int 2]) = H3 at s3 h3 ⊢
    refine ⟨by show 3 ≤ sizeLine; decide, fun p4 n4 => ?_⟩
    have s4 := same_upd n4 (o := .tup [.str "a", .str "a", .int 0])
    have h4 : (upd H3 p4 (.tup [.str "a", .str "a", .int 0])) p4 = some (.tup [.str "a", .str "a", .int 0]) := upd_same
    generalize upd H3 p4 (.tup [.str "a", .str "a", .int 0]) = H4 at s4 h4 ⊢
    refine ⟨by show 3 ≤ sizeLine; decide, fun p5 n5 => ?_⟩
    have s5 := same_upd n5 (o := .tup [.str "0", .str "0", .int 1])
    have h5 : (upd H4 p5 (.tup [.str "0", .str "0", .int 1])) p5 = some (.tup [.str "0", .str "0", .int 1]) := upd_same
    generalize upd H4 p5 (.tup [.str "0", .str "0", .int 1]) = H5 at s5 h5 ⊢
    refine ⟨by show 3 ≤ sizeLine; decide, fun p6 n6 => ?_⟩
    have s6 := same_upd n6 (o := .tup [.str "", .str "a", .int 1])
    have h6 : (upd H5 p6 (.tup [.str "", .str "a", .int 1])) p6 = some (.tup [.str "", .str "a", .int 1]) := upd_same
    generalize upd H5 p6 (.tup [.str "", .str "a", .int 1]) = H6 at s6 h6 ⊢
    refine ⟨by show 3 ≤ sizeLine; decide, fun p7 n7 => ?_⟩
    have s7 := same_upd n7 (o := .tup [.str "a", .str "", .int 1])
    have h7 : (upd H6 p7 (.tup [.str "a", .str "", .int 1])) p7 = some (.tup [.str "a", .str "", .int 1]) := upd_same
    generalize upd H6 p7 (.tup [.str "a", .str "", .int 1]) = H7 at s7 h7 ⊢
    refine ⟨by show 3 ≤ sizeLine; decide, fun p8 n8 => ?_⟩
    have s8 := same_upd n8 (o := .tup [.int 1, .str "a", .int 1])
    have h8 : (upd H7 p8 (.tup [.int 1, .str "a", .int 1])) p8 = some (.tup [.int 1, .str "a", .int 1]) := upd_same
    generalize upd H7 p8 (.tup [.int 1, .str "a", .int 1]) = H8 at s8 h8 ⊢
    refine ⟨by show 3 ≤ sizeLine; decide, fun p9 n9 => ?_⟩
    have s9 := same_upd n9 (o := .tup [.str "a", .non, .int 1])
    have h9 : (upd H8 p9 (.tup [.str "a", .non, .int 1])) p9 = some (.tup [.str "a", .non, .int 1]) := upd_same
    generalize upd H8 p9 (.tup [.str "a", .non, .int 1]) = H9 at s9 h9 ⊢
    refine ⟨by show 3 ≤ sizeLine; decide, fun p10 n10 => ?_⟩
    have s10 := same_upd n10 (o := .tup [.str "a", .str "b", .non])
    have h10 : (upd H9 p10 (.tup [.str "a", .str "b", .non])) p10 = some (.tup [.str "a", .str "b", .non]) := upd_same
    generalize upd H9 p10 (.tup [.str "a", .str "b", .non]) = H10 at s10 h10 ⊢
    refine ⟨by show 3 ≤ sizeLine; decide, fun p11 n11 => ?_⟩
    have s11 := same_upd n11 (o := .tup [.str "a", .str "b", .str "1"])
    have h11 : (upd H10 p11 (.tup [.str "a", .str "b", .str "1"])) p11 = some (.tup [.str "a", .str "b", .str "1"]) := upd_same
    generalize upd H10 p11 (.tup [.str "a", .str "b", .str "1"]) = H11 at s11 h11 ⊢
    refine ⟨by show 3 ≤ sizeLine; decide, fun p12 n12 => ?_⟩
    have s12 := same_upd n12 (o := .tup [.str "a", .str "b", .bl true])
    have h12 : (upd H11 p12 (.tup [.str "a", .str "b", .bl true])) p12 = some (.tup [.str "a", .str "b", .bl true]) := upd_same
    generalize upd H11 p12 (.tup [.str "a", .str "b", .bl true]) = H12 at s12 h12 ⊢
    refine ⟨by show 3 ≤ sizeLine; decide, fun p13 n13 => ?_⟩
    have s13 := same_upd n13 (o := .tup [.str "a", .str "b", .bl false])
    have h13 : (upd H12 p13 (.tup [.str "a", .str "b", .bl false])) p13 = some (.tup [.str "a", .str "b", .bl false]) := upd_same
    generalize upd H12 p13 (.tup [.str "a", .str "b", .bl false]) = H13 at s13 h13 ⊢
    refine ⟨_, _, rfl, rfl, ⟨by decide, by decide, by decide⟩, ?_⟩
    refine ⟨by show 3 ≤ sizeLine; decide, fun p14 n14 => ?_⟩
    have s14 := same_upd n14 (o := .tup [.str "a", .str "b", .int ((10 : Int) ^ (18 : Int).toNat)])
    have h14 : (upd H13 p14 (.tup [.str "a", .str "b", .int ((10 : Int) ^ (18 : Int).toNat)])) p14 = some (.tup [.str "a", .str "b", .int ((10 : Int) ^ (18 : Int).toNat)]) := upd_same
    generalize upd H13 p14 (.tup [.str "a", .str "b", .int ((10 : Int) ^ (18 : Int).toNat)]) = H14 at s14 h14 ⊢
    refine ⟨_, _, rfl, rfl, ⟨by decide, by decide, by decide⟩, _, _, rfl, rfl, ?_⟩
    refine ⟨by show 3 ≤ sizeLine; decide, fun p15 n15 => ?_⟩
    have s15 := same_upd n15 (o := .tup [.str "a", .str "0", .int (0 - (10 : Int) ^ (18 : Int).toNat)])
    have h15 : (upd H14 p15 (.tup [.str "a", .str "0", .int (0 - (10 : Int) ^ (18 : Int).toNat)])) p15 = some (.tup [.str "a", .str "0", .int (0 - (10 : Int) ^ (18 : Int).toNat)]) := upd_same
    generalize upd H14 p15 (.tup [.str "a", .str "0", .int (0 - (10 : Int) ^ (18 : Int).toNat)]) = H15 at s15 h15 ⊢
    refine ⟨rfl, fun gr hgr => ?_⟩
    refine ⟨by show 3 ≤ sizeLine; decide, fun p16 n16 => ?_⟩
    have s16 := same_upd n16 (o := .tup [.str "a", .str "b", .int gr])
    have h16 : (upd H15 p16 (.tup [.str "a", .str "b", .int gr])) p16 = some (.tup [.str "a", .str "b", .int gr]) := upd_same
    generalize upd H15 p16 (.tup [.str "a", .str "b", .int gr]) = H16 at s16 h16 ⊢
    refine ⟨by show 2 ≤ sizeLine; decide, fun p17 n17 => ?_⟩
    have s17 := same_upd n17 (o := .lst [.str "a", .str "b"])
    have h17 : (upd H16 p17 (.lst [.str "a", .str "b"])) p17 = some (.lst [.str "a", .str "b"]) := upd_same
    generalize upd H16 p17 (.lst [.str "a", .str "b"]) = H17 at s17 h17 ⊢
    refine ⟨by show 3 ≤ sizeLine; decide, fun p18 n18 => ?_⟩
    have s18 := same_upd n18 (o := .lst [.str "a", .str "a", .int 0])
    have h18 : (upd H17 p18 (.lst [.str "a", .str "a", .int 0])) p18 = some (.lst [.str "a", .str "a", .int 0]) := upd_same
    generalize upd H17 p18 (.lst [.str "a", .str "a", .int 0]) = H18 at s18 h18 ⊢
    refine ⟨by show 1 ≤ sizeLine; decide, fun p19 n19 => ?_⟩
    have s19 := same_upd n19 (o := .tup [.str "b"])
    have h19 : (upd H18 p19 (.tup [.str "b"])) p19 = some (.tup [.str "b"]) := upd_same
    generalize upd H18 p19 (.tup [.str "b"]) = H19 at s19 h19 ⊢
    refine ⟨by show 3 ≤ sizeLine; decide, fun p20 n20 => ?_⟩
    have s20 := same_upd n20 (o := .tup [.str "a", .ref p19, .int 1])
    have h20 : (upd H19 p20 (.tup [.str "a", .ref p19, .int 1])) p20 = some (.tup [.str "a", .ref p19, .int 1]) := upd_same
    generalize upd H19 p20 (.tup [.str "a", .ref p19, .int 1]) = H20 at s20 h20 ⊢
    refine ⟨by show 1 ≤ sizeLine; decide, fun p21 n21 => ?_⟩
    have s21 := same_upd n21 (o := .lst [.str "a"])
    have h21 : (upd H20 p21 (.lst [.str "a"])) p21 = some (.lst [.str "a"]) := upd_same
    generalize upd H20 p21 (.lst [.str "a"]) = H21 at s21 h21 ⊢
    refine ⟨by show 3 ≤ sizeLine; decide, fun p22 n22 => ?_⟩
    have s22 := same_upd n22 (o := .tup [.ref p21, .str "b", .int 1])
    have h22 : (upd H21 p22 (.tup [.ref p21, .str "b", .int 1])) p22 = some (.tup [.ref p21, .str "b", .int 1]) := upd_same
    generalize upd H21 p22 (.tup [.ref p21, .str "b", .int 1]) = H22 at s22 h22 ⊢
    refine fun p23 n23 => ?_
    have s23 := same_upd n23 (o := .dK [])
    have h23 : (upd H22 p23 (.dK [])) p23 = some (.dK []) := upd_same
    generalize upd H22 p23 (.dK []) = H23 at s23 h23 ⊢
    refine ⟨by show 1 ≤ sizeLine; decide, fun p24 n24 => ?_⟩
    have s24 := same_upd n24 (o := .tup [.int 1])
    have h24 : (upd H23 p24 (.tup [.int 1])) p24 = some (.tup [.int 1]) := upd_same
    generalize upd H23 p24 (.tup [.int 1]) = H24 at s24 h24 ⊢
    refine ⟨by show 3 ≤ sizeLine; decide, fun p25 n25 => ?_⟩
    have s25 := same_upd n25 (o := .tup [.str "a", .str "b", .ref p24])
    have h25 : (upd H24 p25 (.tup [.str "a", .str "b", .ref p24])) p25 = some (.tup [.str "a", .str "b", .ref p24]) := upd_same
    generalize upd H24 p25 (.tup [.str "a", .str "b", .ref p24]) = H25 at s25 h25 ⊢
    refine ⟨by show 25 ≤ sizeLine; decide, fun p26 n26 => ?_⟩
    have s26 := same_upd n26 (o := .tup [.non, .int 7, .str "a", .ref p1, .ref p2, .ref p3, .ref p4, .ref p5, .ref p6, .ref p7, .ref p8, .ref p9, .ref p10, .ref p11, .ref p12, .ref p13, .ref p14, .ref p15, .ref p16, .ref p17, .ref p18, .ref p20, .ref p22, .ref p23, .ref p25])
    have h26 : (upd H25 p26 (.tup [.non, .int 7, .str "a", .ref p1, .ref p2, .ref p3, .ref p4, .ref p5, .ref p6, .ref p7, .ref p8, .ref p9, .ref p10, .ref p11, .ref p12, .ref p13, .ref p14, .ref p15, .ref p16, .ref p17, .ref p18, .ref p20, .ref p22, .ref p23, .ref p25])) p26 = some (.tup [.non, .int 7, .str "a", .ref p1, .ref p2, .ref p3, .ref p4, .ref p5, .ref p6, .ref p7, .ref p8, .ref p9, .ref p10, .ref p11, .ref p12, .ref p13, .ref p14, .ref p15, .ref p16, .ref p17, .ref p18, .ref p20, .ref p22, .ref p23, .ref p25]) := upd_same
    generalize upd H25 p26 (.tup [.non, .int 7, .str "a", .ref p1, .ref p2, .ref p3, .ref p4, .ref p5, .ref p6, .ref p7, .ref p8, .ref p9, .ref p10, .ref p11, .ref p12, .ref p13, .ref p14, .ref p15, .ref p16, .ref p17, .ref p18, .ref p20, .ref p22, .ref p23, .ref p25]) = H26 at s26 h26 ⊢
    have S26 : Same H26 H26 := Same.refl _
    have S25 : Same H25 H26 := s26.trans S26
    have S24 : Same H24 H26 := s25.trans S25
    have S23 : Same H23 H26 := s24.trans S24
    have S22 : Same H22 H26 := s23.trans S23
    have S21 : Same H21 H26 := s22.trans S22
    have S20 : Same H20 H26 := s21.trans S21
    have S19 : Same H19 H26 := s20.trans S20
    have S18 : Same H18 H26 := s19.trans S19
    have S17 : Same H17 H26 := s18.trans S18
    have S16 : Same H16 H26 := s17.trans S17
    have S15 : Same H15 H26 := s16.trans S16
    have S14 : Same H14 H26 := s15.trans S15
    have S13 : Same H13 H26 := s14.trans S14
    have S12 : Same H12 H26 := s13.trans S13
    have S11 : Same H11 H26 := s12.trans S12
    have S10 : Same H10 H26 := s11.trans S11
    have S9 : Same H9 H26 := s10.trans S10
    have S8 : Same H8 H26 := s9.trans S9
    have S7 : Same H7 H26 := s8.trans S8
    have S6 : Same H6 H26 := s7.trans S7
    have S5 : Same H5 H26 := s6.trans S6
    have S4 : Same H4 H26 := s5.trans S5
    have S3 : Same H3 H26 := s4.trans S4
    have S2 : Same H2 H26 := s3.trans S3
    have S1 : Same H1 H26 := s2.trans S2
    have S0 : Same H0 H26 := s1.trans S1
    replace h1 := S1 _ _ h1
    replace h2 := S2 _ _ h2
    replace h3 := S3 _ _ h3
    replace h4 := S4 _ _ h4
    replace h5 := S5 _ _ h5
    replace h6 := S6 _ _ h6
    replace h7 := S7 _ _ h7
    replace h8 := S8 _ _ h8
    replace h9 := S9 _ _ h9
    replace h10 := S10 _ _ h10
    replace h11 := S11 _ _ h11
    replace h12 := S12 _ _ h12
    replace h13 := S13 _ _ h13
    replace h14 := S14 _ _ h14
    replace h15 := S15 _ _ h15
    replace h16 := S16 _ _ h16
    replace h17 := S17 _ _ h17
    replace h18 := S18 _ _ h18
    replace h19 := S19 _ _ h19
    replace h20 := S20 _ _ h20
    replace h21 := S21 _ _ h21
    replace h22 := S22 _ _ h22
    replace h23 := S23 _ _ h23
    replace h24 := S24 _ _ h24
    replace h25 := S25 _ _ h25
    have hall : ∀ v ∈ ([.non, .int 7, .str "a", .ref p1, .ref p2, .ref p3, .ref p4, .ref p5, .ref p6, .ref p7, .ref p8, .ref p9, .ref p10, .ref p11, .ref p12, .ref p13, .ref p14, .ref p15, .ref p16, .ref p17, .ref p18, .ref p20, .ref p22, .ref p23, .ref p25] : List V), BadRow H26 v := by
      intro v hv
      rcases List.mem_cons.mp hv with rfl | hv
      · exact .no .non
      rcases List.mem_cons.mp hv with rfl | hv
      · exact .no (.int _)
      rcases List.mem_cons.mp hv with rfl | hv
      · exact .no (.str _)
      rcases List.mem_cons.mp hv with rfl | hv
      · exact .len (.inl h1) (by decide)
      rcases List.mem_cons.mp hv with rfl | hv
      · exact .len (.inl h2) (by decide)
      rcases List.mem_cons.mp hv with rfl | hv
      · exact .len (.inl h3) (by decide)
      rcases List.mem_cons.mp hv with rfl | hv
      · exact .eq (.inl h4) (by decide)
      rcases List.mem_cons.mp hv with rfl | hv
      · exact .eq (.inl h5) (by decide)
      rcases List.mem_cons.mp hv with rfl | hv
      · exact .e0 (.inl h6) .emp
      rcases List.mem_cons.mp hv with rfl | hv
      · exact .e1 (.inl h7) (.yes (by decide)) .emp
      rcases List.mem_cons.mp hv with rfl | hv
      · exact .e0 (.inl h8) (.int _)
      rcases List.mem_cons.mp hv with rfl | hv
      · exact .e1 (.inl h9) (.yes (by decide)) .non
      rcases List.mem_cons.mp hv with rfl | hv
      · exact .lim (.inl h10) (by decide) (by decide) (by decide) .non
      rcases List.mem_cons.mp hv with rfl | hv
      · exact .lim (.inl h11) (by decide) (by decide) (by decide) (.str _)
      rcases List.mem_cons.mp hv with rfl | hv
      · exact .lim (.inl h12) (by decide) (by decide) (by decide) (.bl _)
      rcases List.mem_cons.mp hv with rfl | hv
      · exact .lim (.inl h13) (by decide) (by decide) (by decide) (.bl _)
      rcases List.mem_cons.mp hv with rfl | hv
      · exact .lim (.inl h14) (by decide) (by decide) (by decide) (.out (by decide))
      rcases List.mem_cons.mp hv with rfl | hv
      · exact .lim (.inl h15) (by decide) (by decide) (by decide) (.out (by decide))
      rcases List.mem_cons.mp hv with rfl | hv
      · exact .lim (.inl h16) (by decide) (by decide) (by decide) (.out hgr)
      rcases List.mem_cons.mp hv with rfl | hv
      · exact .len (.inr h17) (by decide)
      rcases List.mem_cons.mp hv with rfl | hv
      · exact .eq (.inr h18) (by decide)
      rcases List.mem_cons.mp hv with rfl | hv
      · exact .e1 (.inl h20) (.yes (by decide)) (.seq (.inl h19))
      rcases List.mem_cons.mp hv with rfl | hv
      · exact .e0 (.inl h22) (.seq (.inr h21))
      rcases List.mem_cons.mp hv with rfl | hv
      · exact .no (.dK h23)
      rcases List.mem_cons.mp hv with rfl | hv
      · exact .lim (.inl h25) (by decide) (by decide) (by decide) (.seq (.inl h24))
      cases hv
    refine ⟨_, rfl, _, rfl, _, rfl, _, rfl, p26, _, rfl, .inr (sqt h26), ?_⟩
    refine ⟨a, ns, _, 25, rfl, hS.mono S0, by decide, fun H' dd s' d0 d1 => ?_⟩
    obtain ⟨m, em, hm⟩ := nth_of (xs := ([.non, .int 7, .str "a", .ref p1, .ref p2, .ref p3, .ref p4, .ref p5, .ref p6, .ref p7, .ref p8, .ref p9, .ref p10, .ref p11, .ref p12, .ref p13, .ref p14, .ref p15, .ref p16, .ref p17, .ref p18, .ref p20, .ref p22, .ref p23, .ref p25] : List V)) d0 d1
    refine ⟨p26, _, _, _, rfl, rfl, sqt (s' _ _ h26), (by rw [em]; exact atI_nat (List.getElem?_eq_getElem hm)), ?_⟩
    exact hk H' _ (S0.trans s') ((hall _ (List.getElem_mem hm)).mono s')
end
end K1

namespace K1
open PySem PySem.Spec PyProof.Rows L2 Ls
/-! ### the law asks, and looks at what is raised -/
def spAsk (CD : Addr) : Sp := fun vs H Q E => ∃ (n : Int) (a : Addr) (m : Nat), vs = [.int n, .ref a] ∧ 0 ≤ n ∧ n < 6 ∧ BadSys H a m ∧ RaisesAt CD H m E
def spRefused : Sp := fun vs H Q _ => ∃ (n : Int) (a : Addr) (m : Nat), vs = [.int n, .ref a, .int (m : Int)] ∧ 0 ≤ n ∧ n < 6 ∧ BadSys H a m ∧ ∀ H', Same H H' → Q (.bl true) H'
def spEnds : Sp := fun vs H Q _ => ∃ (a : Addr) (S : List Df3), vs = [.ref a] ∧ SysQ H a S ∧ GoodS S ∧ S.length ≤ 900000 ∧ ∀ H', Same H H' → Q (.bl true) H'
/-- what the written part says of BadDifference, of BadName -/
structure XFacts (K : PySem.W.Frag) (mg : Str → Option Value) (CD CB CN CL : Addr) : Prop where
  gN : mg "NoSolution" = some (.ref CN)
  gL : mg "LoopshedsError" = some (.ref CL)
  ecD : ExcC K CD
  ecB : ExcC K CB
  eDD : PySem.W.exmOne K (.ref CD) (.ref CD) = some true
  eBB : PySem.W.exmOne K (.ref CB) (.ref CB) = some true
  kDB : PySem.W.kitOne K (.ref CD) (.ref CB) = some false
  kDN : PySem.W.kitOne K (.ref CD) (.ref CN) = some false
  kDL : PySem.W.kitOne K (.ref CD) (.ref CL) = some true
  kDV : PySem.W.kitOne K (.ref CD) (.type "ValueError") = some true
  kBD : PySem.W.kitOne K (.ref CB) (.ref CD) = some false
theorem dInt {i j : Int} (h : i ≠ j) : decide (V.int i = V.int j) = false := decide_eq_false fun e => h (by injection e)
section
variable {P : Program} {w : World} {K : PySem.W.Frag} {mg : Str → Option Value} {base : Heap} {f C CD CB CN CL : Addr} {fd : FuncData} {k : Nat}
theorem sc_u_law_ask : FnScope ["number", "system"] ["number", "system"] (defScope s_u_law_ask) := ⟨rfl, rfl, rfl, by decide +kernel, rfl, by decide +kernel, by decide +kernel⟩
theorem okX_ask (F : FnP K "_law_ask" s_u_law_ask [] f fd) (G : Facts mg) (X_ring : CalX P w K mg base 4 "ring" (fun vs H Q E => spRing vs H Q E ∨ spBad1 CD vs H Q E) []) (X_solution : CalX P w K mg base 6 "solution" (fun vs H Q E => spSolution vs H Q E ∨ spBad1 CD vs H Q E) [])
    (X_tight : CalX P w K mg base 7 "tight" (fun vs H Q E => spTightX CN C vs H Q E ∨ spBad3 CD CB vs H Q E) []) (X_chain : CalX P w K mg base 8 "chain" (spBad3 CD CB) []) (X_fewest : CalX P w K mg base 4 "fewest" (spBad1 CD) []) (X_implied : CalX P w K mg base 4 "implied" (spBadI CD) []) :
    FnOk P w K mg base (L2.CX P w) 9 f fd ["number", "system"] (spAsk CD) := by
  refine F.ok sc_u_law_ask (fun vs H Q E h => ?_) (fun cdv A outer s H vs Q E hr h => ?_)
  · obtain ⟨n, a, m, rfl, _⟩ := h
    rfl
  · obtain ⟨n, a, m, rfl, h0, h6, hb, hk⟩ := h
    have hu := hu_of hr
    refine ⟨_, (pss_cons (ps_if (pt_cmpR op_eq (pv 0) pe_int (nomark _)) (pss_one (ps_ret (pe_cx X_ring (takes_of rfl rfl rfl rfl) (fun _ _ _ _ h => h) hr (by decide) (by rfl) (pa_cons (pv 1) pa_nil)))) pss_nil)
      (pss_cons (ps_if (pt_cmpR op_eq (pv 0) pe_int (nomark _)) (pss_one (ps_ret (pe_cx X_solution (takes_of rfl rfl rfl rfl) (fun _ _ _ _ h => h) hr (by decide) (by rfl) (pa_cons (pv 1) pa_nil)))) pss_nil)
      (pss_cons (ps_if (pt_cmpR op_eq (pv 0) pe_int (nomark _)) (pss_one (ps_ret (pe_cx X_tight (takes_of rfl rfl rfl rfl) (fun _ _ _ _ h => h) hr (by decide) (by rfl) (pa_cons (pv 1) (pa_cons pe_str (pa_cons pe_str pa_nil)))))) pss_nil)
      (pss_cons (ps_if (pt_cmpR op_eq (pv 0) pe_int (nomark _)) (pss_one (ps_ret (pe_cx X_chain (takes_of rfl rfl rfl rfl) (fun _ _ _ _ h => h) hr (by decide) (by rfl) (pa_cons (pv 1) (pa_cons pe_str (pa_cons pe_non pa_nil)))))) pss_nil)
      (pss_cons (ps_if (pt_cmpR op_eq (pv 0) pe_int (nomark _)) (pss_one (ps_ret (pe_cx X_fewest (takes_of rfl rfl rfl rfl) (fun _ _ _ _ h => h) hr (by decide) (by rfl) (pa_cons (pv 1) pa_nil)))) pss_nil)
      (pss_one (ps_ret (pe_cx X_implied (takes_of rfl rfl rfl rfl) (fun _ _ _ _ h => h) hr (by decide) (by rfl) (pa_cons (pv 1) (pa_cons pe_non pa_nil)))))))))), ?_⟩
    have c : n = 0 ∨ n = 1 ∨ n = 2 ∨ n = 3 ∨ n = 4 ∨ n = 5 := by omega
    refine ⟨_, rfl, rfl, _, rfl, ?_⟩
    by_cases e0 : n = 0
    · rw [decide_eq_true (show V.int n = V.int 0 by rw [e0])]
      exact iteT ⟨_, rfl, .inr ⟨a, m, rfl, hb, hk⟩⟩
    rw [dInt e0]
    refine iteF ⟨_, rfl, rfl, _, rfl, ?_⟩
    by_cases e1 : n = 1
    · rw [decide_eq_true (show V.int n = V.int 1 by rw [e1])]
      exact iteT ⟨_, rfl, .inr ⟨a, m, rfl, hb, hk⟩⟩
    rw [dInt e1]
    refine iteF ⟨_, rfl, rfl, _, rfl, ?_⟩
    by_cases e2 : n = 2
    · rw [decide_eq_true (show V.int n = V.int 2 by rw [e2])]
      exact iteT ⟨_, rfl, .inr ⟨a, _, _, rfl, .inl ⟨m, hb, hk⟩⟩⟩
    rw [dInt e2]
    refine iteF ⟨_, rfl, rfl, _, rfl, ?_⟩
    by_cases e3 : n = 3
    · rw [decide_eq_true (show V.int n = V.int 3 by rw [e3])]
      exact iteT ⟨_, rfl, a, _, _, rfl, .inl ⟨m, hb, hk⟩⟩
    rw [dInt e3]
    refine iteF ⟨_, rfl, rfl, _, rfl, ?_⟩
    by_cases e4 : n = 4
    · rw [decide_eq_true (show V.int n = V.int 4 by rw [e4])]
      exact iteT ⟨_, rfl, a, m, rfl, hb, hk⟩
    rw [dInt e4]
    exact iteF ⟨_, rfl, a, _, rfl, .inl ⟨m, hb, hk⟩⟩
theorem sc_u_law_refused : FnScope ["number", "system", "place", "error"] ["number", "system", "place"] (defScope s_u_law_refused) := ⟨rfl, rfl, rfl, by decide +kernel, rfl, by decide +kernel, by decide +kernel⟩
theorem ok_refused (F : FnP K "_law_refused" s_u_law_refused [] f fd) (G : Facts mg) (NX : XFacts K mg CD CB CN CL) (BX : ExcS P w K mg base "BadDifference" CD "place") (NB : ExcS P w K mg base "BadName" CB "name") (X_u_law_ask : CalX P w K mg base 9 "_law_ask" (spAsk CD) []) :
    FnOk P w K mg base CX0 10 f fd ["number", "system", "place"] spRefused := by
  refine F.ok sc_u_law_refused (fun vs H Q E h => ?_) (fun cdv A outer s H vs Q E hr h => ?_)
  · obtain ⟨n, a, m, rfl, _⟩ := h
    rfl
  · obtain ⟨n, a, m, rfl, h0, h6, hb, hk⟩ := h
    have hu := hu_of hr
    refine ⟨_, PSs.nox (pss_one (ps_try_as (i := 3) rfl rfl sc_u_law_refused.nd rfl rfl ⟨rfl, by decide, .inl BX.gC⟩ takes0 (fun W pn xe tk _ => (pss_cons (ps_expr (pe_cxS X_u_law_ask tk hr (by decide) (by rfl) (pa_cons (pv 0) (pa_cons (pv 1) pa_nil))))
        (pss_one (ps_ret pe_bl)))) (fun a oe cls d pn hz hd => (pss_cons (ps_if (PW.pt (pw_or (pt_val (pe_callB (call_isD hz hd) (by rfl) G.isinstance_ (by decide +kernel) (pa_cons (pv 3) (pa_cons (pe_glob (v := .ref CB) (by rfl) NB.gC rfl) pa_nil)))) (pw_or (pt_val (pe_callB (call_isD hz hd) (by rfl) G.isinstance_ (by decide +kernel) (pa_cons (pv 3) (pa_cons (pe_glob (v := .ref CN) (by rfl) NX.gN rfl) pa_nil)))) (pw_or1 (pt_not (pt_val (pe_callB (call_isD hz hd) (by rfl) G.isinstance_ (by decide +kernel) (pa_cons (pv 3) (pa_cons (pe_glob (v := .ref CL) (by rfl) NX.gL rfl) pa_nil))))))))) (pss_one (ps_ret pe_bl)) pss_nil)
        (pss_one (ps_ret (pe_and (pe_cmpR op_eq (pe_xf BX.xf BX.no hz hd (pv 3)) (pv 2) (nomark _)) (pe_and (pe_not (pe_callB (kIsi K) (by rfl) G.isinstance_ (by decide +kernel) (pa_cons (pe_xf BX.xf BX.no hz hd (pv 3)) (pa_cons (pe_ty "bool" (by rfl) G.bool_ (by decide +kernel)) pa_nil)))) (pe_one (pe_callB (call_isD hz hd) (by rfl) G.isinstance_ (by decide +kernel) (pa_cons (pv 3) (pa_cons (pe_ty "ValueError" (by rfl) G.ValueError_ (by decide +kernel)) pa_nil)))))))))))), ?_⟩
    refine ⟨_, rfl, _, rfl, n, a, m, rfl, h0, h6, hb, fun d H1 s1 hd => ⟨true, NX.eDD, fun _ e he => ?_, fun z => nomatch z⟩⟩
    -- if isinstance ..
    refine ⟨_, rfl, .ref CB, .ref CB, false, CD, d, _, rfl, rfl, NX.ecD, rfl, hd, fun u r => r, NX.kDB, _, rfl, iteF ?_⟩
    refine ⟨_, rfl, .ref CN, .ref CN, false, CD, d, _, rfl, rfl, NX.ecD, rfl, hd, fun u r => r, NX.kDN, _, rfl, iteF ?_⟩
    refine ⟨_, rfl, .ref CL, .ref CL, true, CD, d, _, rfl, rfl, NX.ecD, rfl, hd, fun u r => r, NX.kDL, _, rfl, iteF ?_⟩
    -- error.place == place and ..
    refine ⟨_, rfl, rfl, rfl, d, _, _, rfl, hd, rfl, _, rfl, rfl, ?_⟩
    rw [decide_eq_true rfl]
    refine ⟨_, rfl, iteT ?_⟩
    refine ⟨_, rfl, rfl, rfl, d, _, _, rfl, hd, rfl, _, _, _, _, false, rfl, .ty "bool", .base (.int _), kit_ty (by decide +kernel), _, rfl, _, rfl, iteT ?_⟩
    refine ⟨_, rfl, .ty "ValueError", .type "ValueError", true, CD, d, _, rfl, rfl, NX.ecD, rfl, hd, fun u r => r, NX.kDV, ?_⟩
    exact hk H1 s1
end
end K1

namespace K1
open PySem PySem.Spec PyProof.Rows L2 Ls
/-! ### bad ends -/
/-- the name told is the name asked for -/
inductive NameEq (H : Hp) : V → V → Prop where
  | emp : NameEq H (.str "") (.str "")
  | non : NameEq H .non .non
  | int (i : Int) : NameEq H (.int i) (.int i)
  | tup {p q : Addr} (h1 : H p = some (.tup [.str "b"])) (h2 : H q = some (.tup [.str "b"])) : NameEq H (.ref p) (.ref q)
theorem NameEq.mono {H H' : Hp} (s : Same H H') {u v : V} (h : NameEq H u v) : NameEq H' u v := by
  cases h with
  | emp => exact .emp
  | non => exact .non
  | int i => exact .int i
  | tup h1 h2 => exact .tup (s _ _ h1) (s _ _ h2)
theorem NameEq.ne {K : PySem.W.Frag} {H : Hp} {u v : V} (h : NameEq H u v) {Q : VK} (q : Q (.bl false) H) : rNeD K u v H Q := by
  cases h with
  | emp => exact ⟨_, _, .str _, .str _, by decide +kernel, by decide +kernel, q⟩
  | non => exact ⟨_, _, .non, .non, by decide +kernel, by decide +kernel, q⟩
  | int i =>
    refine ⟨_, _, .int i, .int i, rfl, rfl, ?_⟩
    rw [show PyData.eqv (.int i) (.int i) = true from by simp [PyData.eqv]]
    exact q
  | tup h1 h2 => exact ⟨_, _, .tup (sqt h1) (.cons (.str _) .nil), .tup (sqt h2) (.cons (.str _) .nil), by decide +kernel, by decide +kernel, q⟩
def Trip (H : Hp) (v : V) : Prop := ∃ p l r n u, v = .ref p ∧ H p = some (.tup [l, r, n]) ∧ BadEnd H l r u ∧ NameEq H u n
theorem Trip.mono {H H' : Hp} (s : Same H H') {v : V} (h : Trip H v) : Trip H' v :=
  have ⟨p, l, r, n, u, e, h1, h2, h3⟩ := h; ⟨p, l, r, n, u, e, s _ _ h1, h2.mono s, h3.mono s⟩
section
variable {P : Program} {w : World} {K : PySem.W.Frag} {mg : Str → Option Value} {base : Heap} {f C CD CB CN CL : Addr} {fd : FuncData} {k : Nat}
theorem sc_u_law_ends : FnScope ["system", "left", "right", "name", "asked", "error"] ["system"] (defScope s_u_law_ends) := ⟨rfl, rfl, rfl, by decide +kernel, rfl, by decide +kernel, by decide +kernel⟩
theorem ok_ends (F : FnP K "_law_ends" s_u_law_ends [] f fd) (G : Facts mg) (NX : XFacts K mg CD CB CN CL) (BX : ExcS P w K mg base "BadDifference" CD "place") (NB : ExcS P w K mg base "BadName" CB "name")
    (X_tight : CalX P w K mg base 7 "tight" (fun vs H Q E => spTightX CN C vs H Q E ∨ spBad3 CD CB vs H Q E) []) (X_chain : CalX P w K mg base 8 "chain" (spBad3 CD CB) []) : FnOk P w K mg base CX0 9 f fd ["system"] spEnds := by
  obtain ⟨fT, fdT, psT, dsT, FT, hT, kT, bT, vT⟩ := X_tight.ex
  obtain ⟨fC, fdC, psC, dsC, FC, hC, kC, bC, vC⟩ := X_chain.ex
  cases vT
  cases vC
  have cT : CalAX P w K mg base 7 fT (fun vs H Q E => spTightX CN C vs H Q E ∨ spBad3 CD CB vs H Q E) := ⟨fdT, psT, FT, kT, bT⟩
  have cC : CalAX P w K mg base 8 fC (spBad3 CD CB) := ⟨fdC, psC, FC, kC, bC⟩
  refine F.ok sc_u_law_ends (fun vs H Q E h => ?_) (fun cdv A outer s H vs Q E hr h => ?_)
  · obtain ⟨a, S, rfl, _⟩ := h
    rfl
  · obtain ⟨a, S, rfl, hS, hgood, hlen, hk⟩ := h
    have hu := hu_of hr
    refine ⟨_, PSs.nox (pss_cons (ps_for PassesOwn.never rfl (kpi_tup K (pe_tup (pa_cons (pe_tup (pa_cons pe_str (pa_cons pe_str (pa_cons pe_str pa_nil)))) (pa_cons (pe_tup (pa_cons pe_str (pa_cons pe_str (pa_cons pe_str pa_nil)))) (pa_cons (pe_tup (pa_cons pe_non (pa_cons pe_str (pa_cons pe_non pa_nil)))) (pa_cons (pe_tup (pa_cons pe_str (pa_cons pe_int (pa_cons pe_int pa_nil)))) (pa_cons (pe_tup (pa_cons pe_str (pa_cons (pe_tup (pa_cons pe_str pa_nil)) (pa_cons (pe_tup (pa_cons pe_str pa_nil)) pa_nil)))) pa_nil))))))) (kpg_tup K rfl (pgs_cons (pg_name (i := 1) sc_u_law_ends.nd rfl (by first | exact .inl rfl | exact .inr rfl)) (pgs_cons (pg_name (i := 2) sc_u_law_ends.nd rfl (by first | exact .inl rfl | exact .inr rfl)) (pgs_cons (pg_name (i := 3) sc_u_law_ends.nd rfl (by first | exact .inl rfl | exact .inr rfl)) pgs_nil))))
        (pss_one (ps_for PassesOwn.never rfl (kpi_tup K (pe_tup (pa_cons (pe_glob (v := .ref fT) (by rfl) hT rfl) (pa_cons (pe_glob (v := .ref fC) (by rfl) hC rfl) pa_nil)))) (pg_name (i := 4) sc_u_law_ends.nd rfl (by first | exact .inl rfl | exact .inr rfl))
          (pss_one (ps_try_as (i := 5) rfl rfl sc_u_law_ends.nd rfl rfl ⟨rfl, by decide, .inl NB.gC⟩ takes0 (fun W pn xe tk _ => (pss_cons (ps_expr (pe_cxv (i := 4) cT cC tk hr (by decide) (by decide) rfl (.inl rfl) (pa_cons (pv 0) (pa_cons (pv 1) (pa_cons (pv 2) pa_nil)))))
            (pss_one (ps_ret pe_bl)))) (fun a oe cls d pn hz hd => (pss_one (ps_if (PW.pt (pw_or (pt_cmpR (kNeD K hr.units) (pe_xf NB.xf NB.no hz hd (pv 5)) (pv 3) (nomark _)) (pw_or1 (pt_val (pe_callB (call_isD hz hd) (by rfl) G.isinstance_ (by decide +kernel) (pa_cons (pv 5) (pa_cons (pe_glob (v := .ref CD) (by rfl) BX.gC rfl) pa_nil))))))) (pss_one (ps_ret pe_bl)) pss_nil))))))))
      (pss_one (ps_ret pe_bl))), ?_⟩
    refine tFor_ok ?_
    refine ⟨by show 3 ≤ sizeLine; decide, fun p1 n1 => ?_⟩
    have s1 := same_upd n1 (o := .tup [.str "", .str "a", .str ""])
    have h1 : (upd H p1 (.tup [.str "", .str "a", .str ""])) p1 = some (.tup [.str "", .str "a", .str ""]) := upd_same
    generalize upd H p1 (.tup [.str "", .str "a", .str ""]) = H1 at s1 h1 ⊢
    refine ⟨by show 3 ≤ sizeLine; decide, fun p2 n2 => ?_⟩
    have s2 := same_upd n2 (o := .tup [.str "a", .str "", .str ""])
    have h2 : (upd H1 p2 (.tup [.str "a", .str "", .str ""])) p2 = some (.tup [.str "a", .str "", .str ""]) := upd_same
    generalize upd H1 p2 (.tup [.str "a", .str "", .str ""]) = H2 at s2 h2 ⊢
    refine ⟨by show 3 ≤ sizeLine; decide, fun p3 n3 => ?_⟩
    have s3 := same_upd n3 (o := .tup [.non, .str "", .non])
    have h3 : (upd H2 p3 (.tup [.non, .str "", .non])) p3 = some (.tup [.non, .str "", .non]) := upd_same
    generalize upd H2 p3 (.tup [.non, .str "", .non]) = H3 at s3 h3 ⊢
    refine ⟨by show 3 ≤ sizeLine; decide, fun p4 n4 => ?_⟩
    have s4 := same_upd n4 (o := .tup [.str "a", .int 3, .int 3])
    have h4 : (upd H3 p4 (.tup [.str "a", .int 3, .int 3])) p4 = some (.tup [.str "a", .int 3, .int 3]) := upd_same
    generalize upd H3 p4 (.tup [.str "a", .int 3, .int 3]) = H4 at s4 h4 ⊢
    refine ⟨by show 1 ≤ sizeLine; decide, fun p5 n5 => ?_⟩
    have s5 := same_upd n5 (o := .tup [.str "b"])
    have h5 : (upd H4 p5 (.tup [.str "b"])) p5 = some (.tup [.str "b"]) := upd_same
    generalize upd H4 p5 (.tup [.str "b"]) = H5 at s5 h5 ⊢
    refine ⟨by show 1 ≤ sizeLine; decide, fun p6 n6 => ?_⟩
    have s6 := same_upd n6 (o := .tup [.str "b"])
    have h6 : (upd H5 p6 (.tup [.str "b"])) p6 = some (.tup [.str "b"]) := upd_same
    generalize upd H5 p6 (.tup [.str "b"]) = H6 at s6 h6 ⊢
    refine ⟨by show 3 ≤ sizeLine; decide, fun p7 n7 => ?_⟩
    have s7 := same_upd n7 (o := .tup [.str "0", .ref p5, .ref p6])
    have h7 : (upd H6 p7 (.tup [.str "0", .ref p5, .ref p6])) p7 = some (.tup [.str "0", .ref p5, .ref p6]) := upd_same
    generalize upd H6 p7 (.tup [.str "0", .ref p5, .ref p6]) = H7 at s7 h7 ⊢
    refine ⟨by show 5 ≤ sizeLine; decide, fun p8 n8 => ?_⟩
    have s8 := same_upd n8 (o := .tup [.ref p1, .ref p2, .ref p3, .ref p4, .ref p7])
    have h8 : (upd H7 p8 (.tup [.ref p1, .ref p2, .ref p3, .ref p4, .ref p7])) p8 = some (.tup [.ref p1, .ref p2, .ref p3, .ref p4, .ref p7]) := upd_same
    generalize upd H7 p8 (.tup [.ref p1, .ref p2, .ref p3, .ref p4, .ref p7]) = H8 at s8 h8 ⊢
    have t7 := s7.trans s8
    have t6 := s6.trans t7
    have t5 := s5.trans t6
    have t4 := s4.trans t5
    have t3 := s3.trans t4
    have t2 := s2.trans t3
    have hall : ∀ v ∈ ([.ref p1, .ref p2, .ref p3, .ref p4, .ref p7] : List V), Trip H8 v := by
      intro v hv
      rcases List.mem_cons.mp hv with rfl | hv
      · exact ⟨p1, _, _, _, _, rfl, t2 _ _ h1, .left .emp, .emp⟩
      rcases List.mem_cons.mp hv with rfl | hv
      · exact ⟨p2, _, _, _, _, rfl, t3 _ _ h2, .right (.yes (by decide)) .emp, .emp⟩
      rcases List.mem_cons.mp hv with rfl | hv
      · exact ⟨p3, _, _, _, _, rfl, t4 _ _ h3, .left .non, .non⟩
      rcases List.mem_cons.mp hv with rfl | hv
      · exact ⟨p4, _, _, _, _, rfl, t5 _ _ h4, .right (.yes (by decide)) (.int 3), .int 3⟩
      rcases List.mem_cons.mp hv with rfl | hv
      · exact ⟨p7, _, _, _, _, rfl, s8 _ _ h7, .right (.yes (by decide)) (.seq (.inl (t6 _ _ h5))), .tup (t6 _ _ h5) (t7 _ _ h6)⟩
      cases hv
    have hS8 := hS.mono (s1.trans t2)
    have sH := s1.trans t2
    clear s1 s2 s3 s4 s5 s6 s7 s8 t2 t3 t4 t5 t6 t7 n1 n2 n3 n4 n5 n6 n7 n8 h1 h2 h3 h4 h5 h6 h7
    refine ⟨p8, rfl, ⟨_, sqt h8⟩, ?_⟩
    refine for_ok (walk_tup (K := K) (a := p8) (xs := [.ref p1, .ref p2, .ref p3, .ref p4, .ref p7])) (fun i σ H' => ∃ x1 x2 x3 x4 x5, σ = [some (.ref a), x1, x2, x3, x4, x5] ∧ Same H8 H') ⟨_, _, _, _, _, rfl, Same.refl _⟩ (fun i σ H' _ ⟨_, _, _, _, _, _, s⟩ => sqt (s _ _ h8)) ?_ ?_
    · rintro i x σ H9 H' hi ⟨x1, x2, x3, x4, x5, rfl, s9⟩ ⟨rfl, ex⟩
      obtain ⟨p, l, r, n, u, rfl, hp, hend, hne⟩ := (hall x (List.mem_of_getElem? ex)).mono s9
      refine ⟨p, _, rfl, sqt hp, rfl, _, _, rfl, _, _, rfl, _, _, rfl, rfl, ?_⟩
      refine tFor_ok ?_
      refine ⟨by show 2 ≤ sizeLine; decide, fun q nq => ?_⟩
      have sq1 := same_upd nq (o := .tup [.ref fT, .ref fC])
      have hq : (upd H' q (.tup [.ref fT, .ref fC])) q = some (.tup [.ref fT, .ref fC]) := upd_same
      have hend1 := hend.mono sq1
      have hne1 := hne.mono sq1
      have sA := s9.trans sq1
      generalize upd H' q (.tup [.ref fT, .ref fC]) = H10 at sq1 hq hend1 hne1 sA ⊢
      refine ⟨q, rfl, ⟨_, sqt hq⟩, ?_⟩
      refine for_ok (walk_tup (K := K) (a := q) (xs := [.ref fT, .ref fC])) (fun i σ H' => ∃ x4 x5, σ = [some (.ref a), some l, some r, some n, x4, x5] ∧ Same H10 H') ⟨_, _, rfl, Same.refl _⟩ (fun i σ H' _ ⟨_, _, _, s⟩ => sqt (s _ _ hq)) ?_ ?_
      · rintro j x σ H12 H11 hj ⟨x4, x5, rfl, s11⟩ ⟨rfl, ex⟩
        have hend2 := hend1.mono s11
        have hSx := hS8.mono (sA.trans s11)
        have c : j = 0 ∨ j = 1 := by
          have : j < 2 := hj
          omega
        rcases c with rfl | rfl
        · cases (Option.some.inj ex : V.ref fT = x)
          refine .inl ⟨rfl, _, rfl, _, rfl, _, rfl, .inr ⟨a, l, r, rfl, .inr ⟨S, u, hSx, hgood, hlen, hend2, fun d H3 s3 hd => ⟨true, NX.eBB, fun _ e he => ?_, fun z => nomatch z⟩⟩⟩⟩
          refine ⟨_, rfl, rfl, rfl, d, _, _, rfl, hd, rfl, _, rfl, (hne1.mono (s11.trans s3)).ne ⟨_, rfl, iteF ?_⟩⟩
          refine ⟨_, rfl, .ref CD, .ref CD, false, CB, d, _, rfl, rfl, NX.ecB, rfl, hd, fun u r => r, NX.kBD, _, rfl, iteF ?_⟩
          exact ⟨_, _, rfl, s11.trans s3⟩
        · cases (Option.some.inj ex : V.ref fC = x)
          refine .inr ⟨rfl, _, rfl, _, rfl, _, rfl, a, l, r, rfl, .inr ⟨S, u, hSx, hgood, hlen, hend2, fun d H3 s3 hd => ⟨true, NX.eBB, fun _ e he => ?_, fun z => nomatch z⟩⟩⟩
          refine ⟨_, rfl, rfl, rfl, d, _, _, rfl, hd, rfl, _, rfl, (hne1.mono (s11.trans s3)).ne ⟨_, rfl, iteF ?_⟩⟩
          refine ⟨_, rfl, .ref CD, .ref CD, false, CB, d, _, rfl, rfl, NX.ecB, rfl, hd, fun u r => r, NX.kBD, _, rfl, iteF ?_⟩
          exact ⟨_, _, rfl, s11.trans s3⟩
      · rintro σ H11 ⟨x4, x5, rfl, s11⟩
        exact ⟨_, _, _, _, _, rfl, sA.trans s11⟩
    · rintro σ H' ⟨x1, x2, x3, x4, x5, rfl, s9⟩
      exact hk H' (sH.trans s9)
end
end K1

namespace K1
open PySem PySem.Spec PyProof.Rows L2 Ls
theorem ltOf {k : Nat} {A : Around} (h : Room k A) : A.units < cLine := by have := h.un; omega
/-! ### the known good system -/
def Fr : Int := (10 : Int) ^ (18 : Int).toNat - 1
theorem Fr_eq : Fr = 999999999999999999 := by decide
def Sg : List Df3 := [("a", "0", Fr), ("0", "a", 0 - Fr), ("b", "a", 0 - Fr), ("0", "b", 0)]
theorem Sg_good : GoodS Sg := by
  have hF := Fr_eq
  intro e he
  have n1 : ("a" : Str) ≠ "" := by decide
  have n2 : ("0" : Str) ≠ "" := by decide
  have n3 : ("b" : Str) ≠ "" := by decide
  rcases List.mem_cons.mp he with rfl | he
  · exact ⟨n1, n2, by decide, by show _ < Fr; omega, by show Fr < _; omega⟩
  rcases List.mem_cons.mp he with rfl | he
  · exact ⟨n2, n1, by decide, by show _ < 0 - Fr; omega, by show 0 - Fr < _; omega⟩
  rcases List.mem_cons.mp he with rfl | he
  · exact ⟨n3, n1, by decide, by show _ < 0 - Fr; omega, by show 0 - Fr < _; omega⟩
  rcases List.mem_cons.mp he with rfl | he
  · exact ⟨n2, n3, by decide, by decide, by decide⟩
  cases he
theorem Sg_names : namesOf Sg = (["a", "b"] : List Str) := by decide +kernel
def pg : Str → Int := fun x => if x = "a" then Fr else 0
theorem Sg_solves : Df.Solves Sg pg := by
  have hF := Fr_eq
  have ha : pg "a" = Fr := if_pos rfl
  have h0 : pg "0" = 0 := if_neg (by decide)
  have hb : pg "b" = 0 := if_neg (by decide)
  intro e he
  rcases List.mem_cons.mp he with rfl | he
  · show pg "a" - pg "0" ≤ Fr; omega
  rcases List.mem_cons.mp he with rfl | he
  · show pg "0" - pg "a" ≤ 0 - Fr; omega
  rcases List.mem_cons.mp he with rfl | he
  · show pg "b" - pg "a" ≤ 0 - Fr; omega
  rcases List.mem_cons.mp he with rfl | he
  · show pg "0" - pg "b" ≤ 0; omega
  cases he
theorem Sg_tight : (Df.addedR Df.blankR Sg).map (fun R => R "b" "0") = some 0 := by decide +kernel
theorem Sg_fit : Df.Fit (("0" : Str) :: namesOf Sg) Sg 1000000000000000000 := by
  have hF := Fr_eq
  refine ⟨by decide, fun e he => ⟨(sys_in Sg e he).1, (sys_in Sg e he).2, ?_⟩, by rw [Sg_names]; decide⟩
  have := Sg_good e he
  omega
theorem Sg_point {x : Str → Int} (h : Df.Solves Sg (Df.pt0 ("0" : Str) x)) : x ("a" : Str) = Fr ∧ x ("b" : Str) = 0 := by
  have hF := Fr_eq
  have e0 : Df.pt0 ("0" : Str) x ("0" : Str) = 0 := if_pos rfl
  have ea : Df.pt0 ("0" : Str) x ("a" : Str) = x ("a" : Str) := if_neg (by decide)
  have eb : Df.pt0 ("0" : Str) x ("b" : Str) = x ("b" : Str) := if_neg (by decide)
  have h1 : Df.pt0 ("0" : Str) x ("a" : Str) - Df.pt0 ("0" : Str) x ("0" : Str) ≤ Fr := h ("a", "0", Fr) List.mem_cons_self
  have h2 : Df.pt0 ("0" : Str) x ("0" : Str) - Df.pt0 ("0" : Str) x ("a" : Str) ≤ 0 - Fr := h ("0", "a", 0 - Fr) (List.mem_cons_of_mem _ List.mem_cons_self)
  have h3 : Df.pt0 ("0" : Str) x ("b" : Str) - Df.pt0 ("0" : Str) x ("a" : Str) ≤ 0 - Fr := h ("b", "a", 0 - Fr) (List.mem_cons_of_mem _ (List.mem_cons_of_mem _ List.mem_cons_self))
  have h4 : Df.pt0 ("0" : Str) x ("0" : Str) - Df.pt0 ("0" : Str) x ("b" : Str) ≤ 0 := h ("0", "b", 0) (List.mem_cons_of_mem _ (List.mem_cons_of_mem _ (List.mem_cons_of_mem _ List.mem_cons_self)))
  omega
end K1

namespace K1
open PySem PySem.Spec PyProof.Rows L2 Ls
/-! ### systems as data; the law's names of a system -/
def OkN (S : List Df3) : Prop := ∀ e ∈ S, PySem.PyData.strOk e.1 = true ∧ PySem.PyData.strOk e.2.1 = true
theorem okNames {S : List Df3} (h : OkN S) : ∀ x ∈ namesOf S, PySem.PyData.strOk x = true := fun x hx => by
  obtain ⟨e, he, h1, _⟩ := mem_namesOf.mp hx
  rcases h1 with rfl | rfl
  · exact (h e he).1
  · exact (h e he).2
/-! rows as data -/
def rowD (e : Df3) : PyData := .tuple [.str e.1, .str e.2.1, .int e.2.2]
theorem rowD_ok {e : Df3} (h : PySem.PyData.strOk e.1 = true ∧ PySem.PyData.strOk e.2.1 = true) : PyData.canLay0 (rowD e) = true := by
  unfold rowD
  simp only [PyData.canLay0, PyData.canLayAll0, h.1, h.2]
  rfl
theorem rowD_dep (e : Df3) : PyData.depth (rowD e) ≤ 5 := by
  unfold rowD
  simp only [PyData.depth, PyData.depthAll]
  omega
theorem dpSys {K : PySem.W.Frag} {H : Hp} : ∀ {vs : List V} {S : List Df3}, Paired (RowT H) vs S → DpAll K H vs (S.map rowD)
  | _, _, .nil => .nil
  | _, _, .cons ⟨r, e, h⟩ t => by
    subst e
    exact .cons (.tup (sqt h) (.cons (.str _) (.cons (.str _) (.cons (.int _) .nil)))) (dpSys t)
theorem eqv_none (S : List Df3) : PyData.eqv (.list (S.map rowD)) (.list []) = S.isEmpty := by
  cases S with
  | nil => simp [PyData.eqv, PyData.eqvAll]
  | cons e S => simp [PyData.eqv, PyData.eqvAll]
theorem shaped_sys {S : List Df3} (h : OkN S) : SeqAt.shaped (.list (S.map rowD)) = true := shaped_list rowD 5 (by decide) rowD_dep S fun e he => rowD_ok (h e he)
theorem eqv_sys {S : List Df3} (h : OkN S) : PyData.eqv (.list (S.map rowD)) (.list (S.map rowD)) = true := eqv_list rowD S fun e he => rowD_ok (h e he)
theorem cut_upto (xs : List V) (n : Nat) : cutV xs none (some (n : Int)) = xs.take n := by
  unfold cutV
  rw [HT.sIx_nat, HT.sIx_none, List.drop_zero, Nat.sub_zero, ← List.take_eq_take_min]
theorem cut_from (xs : List V) (n : Nat) : cutV xs (some (n : Int)) none = xs.drop n := by
  unfold cutV
  rw [HT.sIx_nat, HT.sIx_none]
  rcases Nat.le_total n xs.length with h | h
  · rw [Nat.min_eq_left h, List.take_of_length_le (by rw [List.length_drop]; omega)]
  · rw [Nat.min_eq_right h, List.drop_of_length_le (Nat.le_refl _), List.drop_of_length_le h]
    simp
theorem ptake {α β : Type} {F : α → β → Prop} : ∀ {xs : List α} {ys : List β} (n : Nat), Paired F xs ys → Paired F (xs.take n) (ys.take n)
  | _, _, 0, _ => by simp only [List.take_zero]; exact .nil
  | _, _, n + 1, .nil => by simp only [List.take_nil]; exact .nil
  | _, _, n + 1, .cons r t => .cons r (ptake n t)
theorem pdrop {α β : Type} {F : α → β → Prop} : ∀ {xs : List α} {ys : List β} (n : Nat), Paired F xs ys → Paired F (xs.drop n) (ys.drop n)
  | _, _, 0, h => h
  | _, _, n + 1, .nil => by simp only [List.drop_nil]; exact .nil
  | _, _, n + 1, .cons r t => pdrop n t
theorem papp {α β : Type} {F : α → β → Prop} : ∀ {xs us : List α} {ys zs : List β}, Paired F xs ys → Paired F us zs → Paired F (xs ++ us) (ys ++ zs)
  | _, _, _, _, .nil, h => h
  | _, _, _, _, .cons r t, h => .cons r (papp t h)
def spLawNames : Sp := spNamesOf
section
variable {P : Program} {w : World} {K : PySem.W.Frag} {mg : Str → Option Value} {base : Heap} {f C : Addr} {fd : FuncData} {k : Nat}
end
end K1

namespace K1
open PySem PySem.Spec PyProof.Rows L2 Ls
/-! ### the law -/
theorem DrawnS.good4 {Z : List Str} {S : List Df3} (z : ("" : Str) ∉ Z) (h : DrawnS Z S) : GoodS S := fun e he => by
  obtain ⟨h1, h2, h3⟩ := h.ends e he
  have ⟨h4, h5⟩ := h.lim e he
  have nz : ∀ x ∈ ("0" : Str) :: Z, x ≠ "" := fun x hx q => by
    subst q
    rcases List.mem_cons.mp hx with k | k
    · exact absurd k (by decide +kernel)
    · exact z k
  exact ⟨nz _ h1, nz _ h2, h3, by omega, by omega⟩
/-- a bad row put into a good system -/
theorem bad_put {H : Hp} {q : Addr} {vs : List V} {S : List Df3} {v : V} {m : Nat} {rest : List V} (hq : SeqR H q (vs.take m ++ v :: rest)) (hl : (vs.take m ++ v :: rest).length ≤ 900000) (hvs : Paired (RowT H) vs S) (hg : GoodS S) (hm : m ≤ S.length) (hv : BadRow H v) : BadSys H q m := by
  have hlen := plen hvs
  have h1 : (vs.take m).length = m := by rw [List.length_take]; omega
  have h2 : (S.take m).length = m := by rw [List.length_take]; omega
  refine ⟨_, S.take m, v, hq, hl, ?_, ?_, fun e he => hg e (List.mem_of_mem_take he), hv, h2.symm⟩
  · rw [h2, List.getElem?_append_right (by omega), h1, Nat.sub_self]; rfl
  · rw [h2, List.take_append_of_le_length (by omega), List.take_of_length_le (by omega)]
    exact pmono (fun _ _ z => z.imp fun _ z => ⟨z.1, .inl z.2⟩) (ptake m hvs)
def spLaw (K : PySem.W.Frag) : Sp := fun vs H Q _ => ∃ (a : Addr) (ns : List Int), vs = [.ref a] ∧ Scr K H a ns ∧ ∀ H', Q (.bl true) H'
section
variable {P : Program} {w : World} {K : PySem.W.Frag} {mg : Str → Option Value} {base : Heap} {f C CD CB CN CL : Addr} {fd : FuncData} {k : Nat}
theorem cut_names4 (ks : List Str) (n : Nat) : cutV (ks.map V.str) none (some (n : Int)) = (ks.take n).map V.str := by
  have := cut_upto (ks.map V.str) n
  rw [← List.map_take] at this
  exact this
theorem sc_law : FnScope ["script", "names", "system", "at", "bad", "late", "both", "number", "row", "error", "far", "good"] ["script"] (defScope s_law) := ⟨rfl, rfl, rfl, by decide +kernel, rfl, by decide +kernel, by decide +kernel⟩
theorem ok_law (F : FnP K "law" s_law [] f fd) (G : Facts mg) (NX : XFacts K mg CD CB CN CL) (BX : ExcS P w K mg base "BadDifference" CD "place") (C_u_law_draw : Cal P w K mg base 1 "_law_draw" (spDraw K) []) (C_u_law_pool : Cal P w K mg base 2 "_law_pool" (spPool K) []) (C_u_law_system : Cal P w K mg base 2 "_law_system" (spSystem K) [])
    (C_u_law_bad : Cal P w K mg base 2 "_law_bad" (spLBad K) []) (C_u_law_refused : Cal P w K mg base 10 "_law_refused" spRefused []) (C_u_law_ends : Cal P w K mg base 9 "_law_ends" spEnds []) (X_implied : CalX P w K mg base 4 "implied" (spBadI CD) [])
    (X_ring : CalX P w K mg base 4 "ring" (fun vs H Q E => spRing vs H Q E ∨ spBad1 CD vs H Q E) []) (X_solution : CalX P w K mg base 6 "solution" (fun vs H Q E => spSolution vs H Q E ∨ spBad1 CD vs H Q E) []) (X_tight : CalX P w K mg base 7 "tight" (fun vs H Q E => spTightX CN C vs H Q E ∨ spBad3 CD CB vs H Q E) []) :
    FnOk P w K mg base CX0 11 f fd ["script"] (spLaw K) := by
  refine F.ok sc_law (fun vs H Q E h => ?_) (fun cdv A outer s H vs Q E hr h => ?_)
  · obtain ⟨a, ns, rfl, _⟩ := h
    rfl
  · obtain ⟨a, ns, rfl, hS, hk⟩ := h
    have hu := hu_of hr
    refine ⟨_, PSs.nox (pss_cons (ps_set (i := 1) sc_law.nd rfl (.inl rfl) (pe_slice kSlT (pe_c C_u_law_pool hr (by decide) (by rfl) (pa_cons (pv 0) (pa_cons pe_int pa_nil))) po_none (po_some pe_int)))
      (pss_cons (ps_set (i := 2) sc_law.nd rfl (.inl rfl) (pe_c C_u_law_system hr (by decide) (by rfl) (pa_cons (pv 0) (pa_cons pe_int (pa_cons (pv 1) (pa_cons pe_int pa_nil))))))
      (pss_cons (ps_set (i := 3) sc_law.nd rfl (.inl rfl) (pe_c C_u_law_draw hr (by decide) (by rfl) (pa_cons (pv 0) (pa_cons pe_int (pa_cons (pe_op op_add (pe_callB (kLen K) (by rfl) G.len_ PySem.boot_len (pa_cons (pv 2) pa_nil)) pe_int) pa_nil)))))
      (pss_cons (ps_set (i := 4) sc_law.nd rfl (.inl rfl) (pe_op op_cat (pe_op op_cat (pe_slice (kSlL K) (pv 2) po_none (po_some (pv 3))) (pe_lst (pa_cons (pe_c C_u_law_bad hr (by decide) (by rfl) (pa_cons (pv 0) (pa_cons pe_int pa_nil))) pa_nil))) (pe_slice (kSlL K) (pv 2) (po_some (pv 3)) po_none)))
      (pss_cons (ps_set (i := 5) sc_law.nd rfl (.inl rfl) (pe_op op_add (pe_op op_add (pe_c C_u_law_draw hr (by decide) (by rfl) (pa_cons (pv 0) (pa_cons pe_int (pa_cons (pe_op op_sub (pe_callB (kLen K) (by rfl) G.len_ PySem.boot_len (pa_cons (pv 4) pa_nil)) (pv 3)) pa_nil)))) (pv 3)) pe_int))
      (pss_cons (ps_set (i := 6) sc_law.nd rfl (.inl rfl) (pe_op op_cat (pe_op op_cat (pe_slice (kSlL K) (pv 4) po_none (po_some (pv 5))) (pe_lst (pa_cons (pe_c C_u_law_bad hr (by decide) (by rfl) (pa_cons (pv 0) (pa_cons pe_int pa_nil))) pa_nil))) (pe_slice (kSlL K) (pv 4) (po_some (pv 5)) po_none)))
      (pss_cons (ps_for PassesOwn.never rfl (pi_range1 (by rfl) G.range_ (pa_cons pe_int pa_nil)) (pg_name (i := 7) sc_law.nd rfl (by first | exact .inl rfl | exact .inr rfl))
        (pss_cons (ps_if (PW.pt (pw_or (pt_not (pt_val (pe_c C_u_law_refused hr (by decide) (by rfl) (pa_cons (pv 7) (pa_cons (pv 4) (pa_cons (pv 3) pa_nil)))))) (pw_or1 (pt_not (pt_val (pe_c C_u_law_refused hr (by decide) (by rfl) (pa_cons (pv 7) (pa_cons (pv 6) (pa_cons (pv 3) pa_nil))))))))) (pss_one (ps_ret pe_bl)) pss_nil)
        (pss_one (ps_if (pt_not (pt_val (pe_c C_u_law_refused hr (by decide) (by rfl) (pa_cons (pv 7) (pa_cons (pe_callTy kTuple (by rfl) G.tuple_ (by decide +kernel) (pa_cons (pv 6) pa_nil)) (pa_cons (pv 3) pa_nil)))))) (pss_one (ps_ret pe_bl)) pss_nil))))
      (pss_cons (ps_if (PW.pt (pw_or (pt_not (pt_val (pe_c C_u_law_ends hr (by decide) (by rfl) (pa_cons (pv 2) pa_nil)))) (pw_or1 (pt_not (pt_val (pe_c C_u_law_ends hr (by decide) (by rfl) (pa_cons (pe_lst (pa_cons (pe_tup (pa_cons pe_str (pa_cons pe_str (pa_cons pe_int pa_nil)))) (pa_cons (pe_tup (pa_cons pe_str (pa_cons pe_str (pa_cons (pe_un un_neg pe_int) pa_nil)))) pa_nil))) pa_nil))))))) (pss_one (ps_ret pe_bl)) pss_nil)
      (pss_cons (ps_for PassesOwn.never rfl (kpi_tup K (pe_tup (pa_cons (pe_tup (pa_cons pe_str (pa_cons pe_str (pa_cons pe_bl pa_nil)))) (pa_cons (pe_tup (pa_cons pe_str (pa_cons pe_str (pa_cons pe_int pa_nil)))) (pa_cons pe_non pa_nil))))) (pg_name (i := 8) sc_law.nd rfl (by first | exact .inl rfl | exact .inr rfl))
        (pss_one (ps_try_as (i := 9) rfl rfl sc_law.nd rfl rfl ⟨rfl, by decide, .inl BX.gC⟩ takes0 (fun W pn xe tk _ => (pss_cons (ps_expr (pe_cxS X_implied tk hr (by decide) (by rfl) (pa_cons (pv 2) (pa_cons (pv 8) pa_nil))))
          (pss_one (ps_ret pe_bl)))) (fun a oe cls d pn hz hd => (pss_one (ps_if (pt_cmpR op_ne (pe_xf BX.xf BX.no hz hd (pv 9)) pe_int (nomark _)) (pss_one (ps_ret pe_bl)) pss_nil))))))
      (pss_cons (ps_set (i := 10) sc_law.nd rfl (.inl rfl) (pe_op op_sub (pe_op op_pow pe_int pe_int) pe_int))
      (pss_cons (ps_set (i := 11) sc_law.nd rfl (.inl rfl) (pe_lst (pa_cons (pe_lst (pa_cons pe_str (pa_cons pe_str (pa_cons (pv 10) pa_nil)))) (pa_cons (pe_tup (pa_cons pe_str (pa_cons pe_str (pa_cons (pe_op op_sub pe_int (pv 10)) pa_nil)))) (pa_cons (pe_lst (pa_cons pe_str (pa_cons pe_str (pa_cons (pe_op op_sub pe_int (pv 10)) pa_nil)))) (pa_cons (pe_tup (pa_cons pe_str (pa_cons pe_str (pa_cons pe_int pa_nil)))) pa_nil))))))
      (pss_one (ps_ret (pe_and (pe_cmpR op_isN (pe_cx X_ring takes0 (fun _ _ _ _ h => h) hr (by decide) (by rfl) (pa_cons (pv 11) pa_nil)) pe_non (nomark _)) (pe_and (pe_cmpR op_eq (pe_cx X_tight takes0 (fun _ _ _ _ h => h) hr (by decide) (by rfl) (pa_cons (pv 11) (pa_cons pe_str (pa_cons pe_str pa_nil)))) pe_int (nomark _)) (pe_one (pe_cmpR (op_eq_dictA (ltOf hr)) (pe_cx X_solution takes0 (fun _ _ _ _ h => h) hr (by decide) (by rfl) (pa_cons (pe_callTy kTuple (by rfl) G.tuple_ (by decide +kernel) (pa_cons (pv 11) pa_nil)) pa_nil)) (pe_disp (pps_cons pe_str (pv 10) (pps_cons pe_str pe_int pps_nil)) (by rfl) (by rfl) (fun z => by cases z) (by decide)) (nomark _)))))))))))))))))), ?_⟩
    -- names
    refine ⟨_, rfl, a, ns, _, rfl, hS, fun H2 t ks s2 hks ht => ?_⟩
    obtain ⟨hnd, hne, hkl⟩ := pools_ok ks hks
    refine ⟨3, rfl, t, _, rfl, ht, fun H4 nm s4 nnm hnm => ?_⟩
    rw [show (3 : Int) = ((3 : Nat) : Int) from rfl, cut_names4 ks 3] at hnm
    have hl2 : (ks.take 3).length = 3 := by rw [List.length_take]; omega
    have hndn : (("0" : Str) :: ks.take 3).Nodup := hnd.sublist (List.Sublist.cons_cons _ ((List.take_sublist _ _).trans (List.sublist_append_left _ _)))
    have z : ("" : Str) ∉ ks.take 3 := fun h => hne (List.mem_of_mem_take h)
    generalize ks.take 3 = names at hnm hl2 hndn z
    have sA := s2.trans s4
    -- system
    refine ⟨_, rfl, _, rfl, a, nm, ns, _, 7, names, rfl, hS.mono sA, hnm, hndn, by omega, by omega, by decide, by decide, fun H5 b S s5 hb hdr hSl => ?_⟩
    have sB := sA.trans s5
    have hgood := hdr.good4 z
    obtain ⟨vs, hbv, hvs⟩ := hb
    have hvl := plen hvs
    -- at
    refine ⟨_, rfl, _, rfl, b, _, rfl, .inl (sq hbv), _, _, rfl, rfl, a, ns, _, _, rfl, hS.mono sB, by omega, fun H6 at_ s6 a0 a1 => ?_⟩
    obtain ⟨m, rfl⟩ : ∃ m : Nat, at_ = (m : Int) := ⟨at_.toNat, by omega⟩
    have hm : m ≤ S.length := by omega
    have hb6 := s6 _ _ hbv
    -- bad
    refine ⟨_, rfl, _, rfl, (m : Int), rfl, b, _, rfl, sq hb6, fun q1 n1 => ?_⟩
    rw [cut_upto]
    have t1 := same_upd n1 (o := .lst (vs.take m))
    have g1 : (upd H6 q1 (.lst (vs.take m))) q1 = some (.lst (vs.take m)) := upd_same
    generalize upd H6 q1 (.lst (vs.take m)) = H7 at t1 g1 ⊢
    refine ⟨_, rfl, a, ns, _, rfl, hS.mono (sB.trans (s6.trans t1)), fun H8 v s8 hv => ?_⟩
    refine ⟨by show 1 ≤ sizeLine; decide, fun q2 n2 => ?_⟩
    have t2 := same_upd n2 (o := .lst [v])
    have g2 : (upd H8 q2 (.lst [v])) q2 = some (.lst [v]) := upd_same
    have hv2 := hv.mono t2
    generalize upd H8 q2 (.lst [v]) = H9 at t2 g2 hv2 ⊢
    refine ⟨q1, q2, _, _, rfl, rfl, t2 _ _ (s8 _ _ g1), g2, szl (by rw [List.length_take]; show _ + 1 ≤ _; omega), fun q3 n3 => ?_⟩
    have t3 := same_upd n3 (o := .lst (vs.take m ++ [v]))
    have g3 : (upd H9 q3 (.lst (vs.take m ++ [v]))) q3 = some (.lst (vs.take m ++ [v])) := upd_same
    have hv3 := hv2.mono t3
    generalize upd H9 q3 (.lst (vs.take m ++ [v])) = H10 at t3 g3 hv3 ⊢
    have u6 := t1.trans (s8.trans (t2.trans t3))
    refine ⟨_, rfl, _, rfl, (m : Int), rfl, b, _, rfl, sq (u6 _ _ hb6), fun q4 n4 => ?_⟩
    rw [cut_from]
    have t4 := same_upd n4 (o := .lst (vs.drop m))
    have g4 : (upd H10 q4 (.lst (vs.drop m))) q4 = some (.lst (vs.drop m)) := upd_same
    have hv4 := hv3.mono t4
    generalize upd H10 q4 (.lst (vs.drop m)) = H11 at t4 g4 hv4 ⊢
    refine ⟨q3, q4, _, _, rfl, rfl, t4 _ _ g3, g4, szl (by rw [List.length_append, List.length_take, List.length_drop]; show _ + 1 + _ ≤ _; omega), fun q5 n5 => ?_⟩
    have t5 := same_upd n5 (o := .lst (vs.take m ++ [v] ++ vs.drop m))
    have g5 : (upd H11 q5 (.lst (vs.take m ++ [v] ++ vs.drop m))) q5 = some (.lst (vs.take m ++ [v] ++ vs.drop m)) := upd_same
    have hv5 := hv4.mono t5
    generalize upd H11 q5 (.lst (vs.take m ++ [v] ++ vs.drop m)) = H12 at t5 g5 hv5 ⊢
    have u12 := s6.trans (u6.trans (t4.trans t5))
    have sC := sB.trans u12
    have hb12 := u12 _ _ hbv
    have hvs12 : Paired (RowT H12) vs S := pmono (fun _ _ q => q.imp fun _ q => ⟨q.1, u12 _ _ q.2⟩) hvs
    have hbl : (vs.take m ++ [v] ++ vs.drop m).length = S.length + 1 := by
      rw [List.length_append, List.length_append, List.length_take, List.length_drop]
      show _ + 1 + _ = _
      omega
    have hbad : BadSys H12 q5 m := bad_put (rest := vs.drop m) (.inr (by rw [g5, List.append_assoc]; rfl)) (by rw [show vs.take m ++ v :: vs.drop m = vs.take m ++ [v] ++ vs.drop m by simp, hbl]; omega) hvs12 hgood hm hv5
    -- late
    refine ⟨_, rfl, _, rfl, q5, _, rfl, .inl (sq g5), _, rfl, _, _, rfl, rfl, a, ns, _, _, rfl, hS.mono sC, by rw [hbl]; omega, fun H13 dl s13 l0 l1 => ?_⟩
    rw [hbl] at l1
    refine ⟨_, rfl, _, _, rfl, rfl, _, _, rfl, rfl, ?_⟩
    obtain ⟨L, eL⟩ : ∃ L : Nat, dl + (m : Int) + 1 = (L : Int) := ⟨(dl + (m : Int) + 1).toNat, by omega⟩
    have hL : m + 1 ≤ L := by omega
    have hL2 : L ≤ S.length + 1 := by omega
    have g13 := s13 _ _ g5
    -- both
    refine ⟨_, rfl, _, rfl, (L : Int), congrArg V.int eL, q5, _, rfl, sq g13, fun r1 m1 => ?_⟩
    rw [cut_upto]
    generalize hB : vs.take m ++ [v] ++ vs.drop m = B at g13 hbl
    have w1 := same_upd m1 (o := .lst (B.take L))
    have k1 : (upd H13 r1 (.lst (B.take L))) r1 = some (.lst (B.take L)) := upd_same
    generalize upd H13 r1 (.lst (B.take L)) = H14 at w1 k1 ⊢
    refine ⟨_, rfl, a, ns, _, rfl, hS.mono (sC.trans (s13.trans w1)), fun H15 v2 s15 hw => ?_⟩
    refine ⟨by show 1 ≤ sizeLine; decide, fun r2 m2 => ?_⟩
    have w2 := same_upd m2 (o := .lst [v2])
    have k2 : (upd H15 r2 (.lst [v2])) r2 = some (.lst [v2]) := upd_same
    generalize upd H15 r2 (.lst [v2]) = H16 at w2 k2 ⊢
    refine ⟨r1, r2, _, _, rfl, rfl, w2 _ _ (s15 _ _ k1), k2, szl (by rw [List.length_take]; show _ + 1 ≤ _; omega), fun r3 m3 => ?_⟩
    have w3 := same_upd m3 (o := .lst (B.take L ++ [v2]))
    have k3 : (upd H16 r3 (.lst (B.take L ++ [v2]))) r3 = some (.lst (B.take L ++ [v2])) := upd_same
    generalize upd H16 r3 (.lst (B.take L ++ [v2])) = H17 at w3 k3 ⊢
    have u17 := w1.trans (s15.trans (w2.trans w3))
    refine ⟨_, rfl, _, rfl, (L : Int), congrArg V.int eL, q5, _, rfl, sq (u17 _ _ g13), fun r4 m4 => ?_⟩
    rw [cut_from]
    have w4 := same_upd m4 (o := .lst (B.drop L))
    have k4 : (upd H17 r4 (.lst (B.drop L))) r4 = some (.lst (B.drop L)) := upd_same
    generalize upd H17 r4 (.lst (B.drop L)) = H18 at w4 k4 ⊢
    refine ⟨r3, r4, _, _, rfl, rfl, w4 _ _ k3, k4, szl (by rw [List.length_append, List.length_take, List.length_drop]; show _ + 1 + _ ≤ _; omega), fun r5 m5 => ?_⟩
    have w5 := same_upd m5 (o := .lst (B.take L ++ [v2] ++ B.drop L))
    have k5 : (upd H18 r5 (.lst (B.take L ++ [v2] ++ B.drop L))) r5 = some (.lst (B.take L ++ [v2] ++ B.drop L)) := upd_same
    generalize upd H18 r5 (.lst (B.take L ++ [v2] ++ B.drop L)) = H19 at w5 k5 ⊢
    have u19 := s13.trans (u17.trans (w4.trans w5))
    have sD := sC.trans u19
    have hbad19 := hbad.mono u19
    have hb19 := u19 _ _ hb12
    have hvs19 : Paired (RowT H19) vs S := pmono (fun _ _ q => q.imp fun _ q => ⟨q.1, u19 _ _ q.2⟩) hvs12
    have hSys : SysQ H19 b S := ⟨vs, .inr hb19, pmono (fun _ _ q => q.imp fun _ q => ⟨q.1, .inl q.2⟩) hvs19⟩
    have hshape : ∃ rest, B.take L ++ [v2] ++ B.drop L = vs.take m ++ v :: rest ∧ (vs.take m ++ v :: rest).length ≤ 900000 := by
      have hB2 : B = vs.take m ++ v :: vs.drop m := by rw [← hB]; simp
      have h1 : (vs.take m).length = m := by rw [List.length_take]; omega
      have h2 : B.take L = vs.take m ++ v :: (vs.drop m).take (L - m - 1) := by
        rw [hB2, List.take_append, List.take_of_length_le (by omega), h1]
        congr 1
        rw [show L - m = (L - m - 1) + 1 by omega]
        rfl
      refine ⟨(vs.drop m).take (L - m - 1) ++ [v2] ++ B.drop L, by rw [h2]; simp, ?_⟩
      have h3 : (vs.take m ++ v :: ((vs.drop m).take (L - m - 1) ++ [v2] ++ B.drop L)) = B.take L ++ [v2] ++ B.drop L := by rw [h2]; simp
      rw [h3, List.length_append, List.length_append, List.length_take, List.length_drop]
      show _ + 1 + _ ≤ _
      omega
    obtain ⟨rest, hrest, hrl⟩ := hshape
    have hv19 := hv5.mono u19
    have hbo19 : H19 r5 = some (.lst (vs.take m ++ v :: rest)) := by rw [k5, hrest]
    have hboth : SeqR H19 r5 (vs.take m ++ v :: rest) := .inr hbo19
    clear hrest k1 k2 k3 k4 w1 w2 w3 w4 w5 m1 m2 m3 m4 m5 s15 u17 g13 g1 g2 g3 g4 t1 t2 t3 t4 t5 n1 n2 n3 n4 n5 u6 u12 hv hv2 hv3 hv4 hw
    -- the six questions
    refine ⟨6, rfl, by decide, by decide, ?_⟩
    refine for_it (walk_range (lo := 0) (n := (6 : Int).toNat)) (fun i σ H' => ∃ x5 x7 x8 x9 x10 x11, σ = [some (.ref a), some (.ref nm), some (.ref b), some (.int (m : Int)), some (.ref q5), x5, some (.ref r5), x7, x8, x9, x10, x11] ∧ Same H19 H') ⟨_, _, _, _, _, _, rfl, Same.refl _⟩ (fun _ _ _ _ _ => True.intro) ?_ ?_
    · rintro i x σ H9 H' hi ⟨x5, x7, x8, x9, x10, x11, rfl, s1⟩ ⟨rfl, rfl⟩
      have hi : i < 6 := hi
      refine ⟨_, rfl, _, rfl, _, rfl, _, q5, m, rfl, by omega, by omega, hbad19.mono s1, fun H2 s2 => ?_⟩
      refine ⟨_, rfl, iteF ?_⟩
      have hb2 : BadSys H2 r5 m := bad_put (hboth.mono (s1.trans s2)) hrl (pmono (fun _ _ q => q.imp fun _ q => ⟨q.1, s2 _ _ (s1 _ _ q.2)⟩) hvs19) hgood hm ((hv19.mono s1).mono s2)
      refine ⟨_, rfl, _, rfl, _, rfl, _, r5, m, rfl, by omega, by omega, hb2, fun H3 s3 => ?_⟩
      refine ⟨_, rfl, iteF ?_⟩
      have s13' := s1.trans (s2.trans s3)
      have hbo := s13' _ _ hbo19
      refine ⟨_, rfl, _, rfl, r5, _, rfl, .inl hbo, fun H4 tq s4 ntq htq => ?_⟩
      have s14 := s13'.trans s4
      have hb4 : BadSys H4 tq m := bad_put (.inl htq) hrl (pmono (fun _ _ q => q.imp fun _ q => ⟨q.1, s14 _ _ q.2⟩) hvs19) hgood hm (hv19.mono s14)
      refine ⟨_, rfl, _, tq, m, rfl, by omega, by omega, hb4, fun H5 s5 => ?_⟩
      exact ⟨_, rfl, iteF ⟨_, _, _, _, _, _, rfl, s14.trans s5⟩⟩
    rintro σ H20 ⟨x5, x7, x8, x9, x10, x11, rfl, s20⟩
    have hSys20 := hSys.mono s20
    -- the ends
    refine ⟨_, rfl, b, S, rfl, hSys20, hgood, by omega, fun H21 s21 => ⟨_, rfl, iteF ?_⟩⟩
    refine ⟨by show 3 ≤ sizeLine; decide, fun p1 n1 => ?_⟩
    have t1 := same_upd n1 (o := .tup (rowT ("a", "0", 0)))
    have h1 : (upd H21 p1 (.tup (rowT ("a", "0", 0)))) p1 = some (.tup (rowT ("a", "0", 0))) := upd_same
    refine ⟨_, rfl, by show 3 ≤ sizeLine; decide, fun p2 n2 => ?_⟩
    have t2 := same_upd n2 (o := .tup (rowT ("0", "a", -1)))
    have h2 : (upd (upd H21 p1 (.tup (rowT ("a", "0", 0)))) p2 (.tup (rowT ("0", "a", -1)))) p2 = some (.tup (rowT ("0", "a", -1))) := upd_same
    refine ⟨by show 2 ≤ sizeLine; decide, fun p3 n3 => ?_⟩
    have t3 := same_upd n3 (o := .lst [.ref p1, .ref p2])
    have u3 := s21.trans (t1.trans (t2.trans t3))
    refine ⟨p3, [("a", "0", 0), ("0", "a", -1)], rfl, ⟨_, .inr upd_same, .cons ⟨p1, rfl, .inl (t3 _ _ (t2 _ _ h1))⟩ (.cons ⟨p2, rfl, .inl (t3 _ _ h2)⟩ .nil)⟩, fun e he => ?_, by show 2 ≤ 900000; decide, fun H22 s22 => ⟨_, rfl, iteF ?_⟩⟩
    · rcases List.mem_cons.mp he with rfl | he
      · exact ⟨by decide, by decide, by decide, by decide, by decide⟩
      · rw [List.mem_singleton.mp he]
        exact ⟨by decide, by decide, by decide, by decide, by decide⟩
    have u22 := u3.trans s22
    clear h1 h2 t1 t2 t3 n1 n2 n3
    -- implied at bad rows
    unfold tNext
    dsimp only
    unfold tSeq
    refine tFor_ok ?_
    refine ⟨by show 3 ≤ sizeLine; decide, fun p4 n4 => ?_⟩
    have t4 := same_upd n4 (o := .tup [.str "a", .str "b", .bl true])
    have h4 : (upd H22 p4 (.tup [.str "a", .str "b", .bl true])) p4 = some (.tup [.str "a", .str "b", .bl true]) := upd_same
    generalize upd H22 p4 (.tup [.str "a", .str "b", .bl true]) = H23 at t4 h4 ⊢
    refine ⟨by show 3 ≤ sizeLine; decide, fun p5 n5 => ?_⟩
    have t5 := same_upd n5 (o := .tup [.str "a", .str "a", .int 0])
    have h5 : (upd H23 p5 (.tup [.str "a", .str "a", .int 0])) p5 = some (.tup [.str "a", .str "a", .int 0]) := upd_same
    generalize upd H23 p5 (.tup [.str "a", .str "a", .int 0]) = H24 at t5 h5 ⊢
    refine ⟨by show 3 ≤ sizeLine; decide, fun p6 n6 => ?_⟩
    have t6 := same_upd n6 (o := .tup [.ref p4, .ref p5, .non])
    have h6 : (upd H24 p6 (.tup [.ref p4, .ref p5, .non])) p6 = some (.tup [.ref p4, .ref p5, .non]) := upd_same
    generalize upd H24 p6 (.tup [.ref p4, .ref p5, .non]) = H25 at t6 h6 ⊢
    have hall : ∀ v ∈ ([.ref p4, .ref p5, .non] : List V), BadRow H25 v := by
      intro v hv
      rcases List.mem_cons.mp hv with rfl | hv
      · exact .lim (.inl (t6 _ _ (t5 _ _ h4))) (by decide) (by decide) (by decide) (.bl _)
      rcases List.mem_cons.mp hv with rfl | hv
      · exact .eq (.inl (t6 _ _ h5)) (by decide)
      rcases List.mem_cons.mp hv with rfl | hv
      · exact .no .non
      cases hv
    have hSys25 := hSys20.mono (u22.trans (t4.trans (t5.trans t6)))
    refine ⟨p6, rfl, ⟨_, sqt h6⟩, ?_⟩
    refine for_ok (walk_tup (K := K) (a := p6) (xs := [.ref p4, .ref p5, .non])) (fun i σ H' => ∃ x5 x7 x8 x9 x10 x11, σ = [some (.ref a), some (.ref nm), some (.ref b), some (.int (m : Int)), some (.ref q5), x5, some (.ref r5), x7, x8, x9, x10, x11] ∧ Same H25 H') ⟨_, _, _, _, _, _, rfl, Same.refl _⟩ (fun i σ H' _ ⟨_, _, _, _, _, _, _, s⟩ => sqt (s _ _ h6)) ?_ ?_
    · rintro i x σ H9 H' hi ⟨x5, x7, x8, x9, x10, x11, rfl, s1⟩ ⟨rfl, ex⟩
      have hbr := (hall x (List.mem_of_getElem? ex)).mono s1
      refine ⟨_, rfl, _, rfl, b, x, rfl, .inr ⟨S, hSys25.mono s1, hgood, by omega, hbr, fun d H3 s3 hd => ⟨true, NX.eDD, fun _ e he => ?_, fun z => nomatch z⟩⟩⟩
      exact ⟨_, rfl, rfl, rfl, d, _, _, rfl, hd, rfl, rfl, _, rfl, iteF ⟨_, _, _, _, _, _, rfl, s1.trans s3⟩⟩
    rintro σ H26 ⟨x5, x7, x8, x9, x10, x11, rfl, s26⟩
    clear hall h4 h5 h6 t4 t5 t6 n4 n5 n6
    -- the good one
    refine ⟨_, _, rfl, rfl, ⟨by decide, by decide, by decide⟩, _, _, rfl, rfl, ?_⟩
    show gName 10 (V.int Fr) _ _ _
    refine ⟨.int Fr, rfl, by show 3 ≤ sizeLine; decide, fun g1 m1 => ?_⟩
    have v1 := same_upd m1 (o := .lst [.str "a", .str "0", .int Fr])
    have j1 : (upd H26 g1 (.lst [.str "a", .str "0", .int Fr])) g1 = some (.lst [.str "a", .str "0", .int Fr]) := upd_same
    generalize upd H26 g1 (.lst [.str "a", .str "0", .int Fr]) = H27 at v1 j1 ⊢
    refine ⟨.int Fr, rfl, 0, Fr, rfl, rfl, by show 3 ≤ sizeLine; decide, fun g2 m2 => ?_⟩
    have v2 := same_upd m2 (o := .tup [.str "0", .str "a", .int (0 - Fr)])
    have j2 : (upd H27 g2 (.tup [.str "0", .str "a", .int (0 - Fr)])) g2 = some (.tup [.str "0", .str "a", .int (0 - Fr)]) := upd_same
    generalize upd H27 g2 (.tup [.str "0", .str "a", .int (0 - Fr)]) = H28 at v2 j2 ⊢
    refine ⟨.int Fr, rfl, 0, Fr, rfl, rfl, by show 3 ≤ sizeLine; decide, fun g3 m3 => ?_⟩
    have v3 := same_upd m3 (o := .lst [.str "b", .str "a", .int (0 - Fr)])
    have j3 : (upd H28 g3 (.lst [.str "b", .str "a", .int (0 - Fr)])) g3 = some (.lst [.str "b", .str "a", .int (0 - Fr)]) := upd_same
    generalize upd H28 g3 (.lst [.str "b", .str "a", .int (0 - Fr)]) = H29 at v3 j3 ⊢
    refine ⟨by show 3 ≤ sizeLine; decide, fun g4 m4 => ?_⟩
    have v4 := same_upd m4 (o := .tup [.str "0", .str "b", .int 0])
    have j4 : (upd H29 g4 (.tup [.str "0", .str "b", .int 0])) g4 = some (.tup [.str "0", .str "b", .int 0]) := upd_same
    generalize upd H29 g4 (.tup [.str "0", .str "b", .int 0]) = H30 at v4 j4 ⊢
    refine ⟨by show 4 ≤ sizeLine; decide, fun g5 m5 => ?_⟩
    have v5 := same_upd m5 (o := .lst [.ref g1, .ref g2, .ref g3, .ref g4])
    have j5 : (upd H30 g5 (.lst [.ref g1, .ref g2, .ref g3, .ref g4])) g5 = some (.lst [.ref g1, .ref g2, .ref g3, .ref g4]) := upd_same
    generalize upd H30 g5 (.lst [.ref g1, .ref g2, .ref g3, .ref g4]) = H31 at v5 j5 ⊢
    have y5 := v5
    have y4 := v4.trans v5
    have y3 := v3.trans y4
    have y2 := v2.trans y3
    have hrows : Paired (RowQ H31) [.ref g1, .ref g2, .ref g3, .ref g4] Sg := .cons ⟨g1, rfl, .inr (y2 _ _ j1)⟩ (.cons ⟨g2, rfl, .inl (y3 _ _ j2)⟩ (.cons ⟨g3, rfl, .inr (y4 _ _ j3)⟩ (.cons ⟨g4, rfl, .inl (y5 _ _ j4)⟩ .nil)))
    have hSg : SysQ H31 g5 Sg := ⟨_, .inr j5, hrows⟩
    clear v1 v2 v3 v4 v5 y2 y3 y4 y5 j1 j2 j3 j4
    have hsome : ∃ R, Df.addedR Df.blankR Sg = some R ∧ R "b" "0" = 0 := by
      have := Sg_tight
      cases e : Df.addedR Df.blankR Sg with
      | none => rw [e] at this; cases this
      | some R => rw [e] at this; exact ⟨R, rfl, Option.some.inj this⟩
    obtain ⟨R0, hR0, hR1⟩ := hsome
    -- ring(good) is None
    refine ⟨_, rfl, .inl ⟨g5, Sg, rfl, hSg, Sg_good, by decide, fun _ H32 s32 => ?_, fun f hf _ _ _ _ => absurd Sg_solves (hf.none pg)⟩⟩
    refine ⟨rfl, _, rfl, iteT ?_⟩
    -- tight(good, 'b', '0') == 0
    refine ⟨_, rfl, .inl ⟨g5, Sg, "b", "0", rfl, hSg.mono s32, Sg_good, by decide, by decide, by decide, fun e => (by rw [hR0] at e; cases e), fun R e H33 s33 => ?_⟩⟩
    rw [hR0] at e
    cases e
    rw [if_neg (show ¬ (("b" : Str) = "0") by decide), hR1, if_neg (show ¬ Df.HALFI < 0 by decide)]
    refine ⟨rfl, _, rfl, iteT ?_⟩
    -- solution(tuple(good)) == {..}
    have s3233 := s32.trans s33
    refine ⟨_, rfl, g5, _, rfl, .inl (s3233 _ _ j5), fun H34 tq s34 ntq htq => ?_⟩
    have hrows34 : Paired (RowQ H34) [.ref g1, .ref g2, .ref g3, .ref g4] Sg := pmono (fun _ _ q => q.imp fun _ q => ⟨q.1, q.2.imp ((s3233.trans s34) _ _) ((s3233.trans s34) _ _)⟩) hrows
    refine .inl ⟨tq, Sg, _, rfl, ⟨_, .inl htq, hrows34⟩, Sg_good, by decide, Sg_fit, fun hno => ?_, fun x hx H35 dd s35 hdd => ?_⟩
    · exact fun _ _ => absurd Sg_solves (hno pg)
    · obtain ⟨xa, xb⟩ := Sg_point hx
      rw [Sg_names] at hdd
      refine fun p np => ⟨.int Fr, rfl, upd_same, [(Sum.inr ("a" : Str), .int Fr), (Sum.inr ("b" : Str), .int 0)], rfl, by show 2 ≤ 15; decide, ?_⟩
      have hdp : dd ≠ p := ne_of_none hdd np
      have hm : ∀ u v : V, mergeK [] [((Sum.inr ("a" : Str) : Key), u), ((Sum.inr ("b" : Str) : Key), v)] = [(Sum.inr ("a" : Str), u), (Sum.inr ("b" : Str), v)] := fun u v => by kernel_rfl
      refine ⟨dd, p, _, _, rfl, rfl, by rw [upd_ne hdp, upd_ne hdp]; exact hdd, upd_same, by rw [hm]; rfl, fun q hq => ?_, ?_⟩
      · rw [hm]
        rcases List.mem_cons.mp hq with rfl | hq
        · show valV _ (Sum.inr ("a" : Str)) = some (.int (x ("a" : Str))) ∧ _
          rw [xa]
          exact ⟨by kernel_rfl, rfl⟩
        rcases List.mem_cons.mp hq with rfl | hq
        · show valV _ (Sum.inr ("b" : Str)) = some (.int (x ("b" : Str))) ∧ _
          rw [xb]
          exact ⟨by kernel_rfl, rfl⟩
        cases hq
      · exact hk _
end
end K1

namespace K1
open PySem PySem.Spec PyProof.Rows L2 Ls
def d_Table___init__ : He.DefD := ⟨("Table", some "__init__"), "__init__", "Table.__init__", defArgs s_Table___init__, defBody s_Table___init__, defScope s_Table___init__, [.non], []⟩
def d_blank : He.DefD := ⟨("blank", none), "blank", "blank", defArgs s_blank, defBody s_blank, defScope s_blank, [], []⟩
def d_more : He.DefD := ⟨("more", none), "more", "more", defArgs s_more, defBody s_more, defScope s_more, [], []⟩
def d_added : He.DefD := ⟨("added", none), "added", "added", defArgs s_added, defBody s_added, defScope s_added, [], []⟩
def d_table_of : He.DefD := ⟨("table_of", none), "table_of", "table_of", defArgs s_table_of, defBody s_table_of, defScope s_table_of, [], []⟩
def d_upper : He.DefD := ⟨("upper", none), "upper", "upper", defArgs s_upper, defBody s_upper, defScope s_upper, [], []⟩
def d_set_to : He.DefD := ⟨("set_to", none), "set_to", "set_to", defArgs s_set_to, defBody s_set_to, defScope s_set_to, [], []⟩
def d_point_of : He.DefD := ⟨("point_of", none), "point_of", "point_of", defArgs s_point_of, defBody s_point_of, defScope s_point_of, [], []⟩
def d_u_is_end : He.DefD := ⟨("_is_end", none), "_is_end", "_is_end", defArgs s_u_is_end, defBody s_u_is_end, defScope s_u_is_end, [], []⟩
def d_is_limit : He.DefD := ⟨("is_limit", none), "is_limit", "is_limit", defArgs s_is_limit, defBody s_is_limit, defScope s_is_limit, [], []⟩
def d_names_of : He.DefD := ⟨("names_of", none), "names_of", "names_of", defArgs s_names_of, defBody s_names_of, defScope s_names_of, [], []⟩
def d_checked_system : He.DefD := ⟨("checked_system", none), "checked_system", "checked_system", defArgs s_checked_system, defBody s_checked_system, defScope s_checked_system, [.non], []⟩
def d_u_cycle : He.DefD := ⟨("_cycle", none), "_cycle", "_cycle", defArgs s_u_cycle, defBody s_u_cycle, defScope s_u_cycle, [], []⟩
def d_ring : He.DefD := ⟨("ring", none), "ring", "ring", defArgs s_ring, defBody s_ring, defScope s_ring, [], []⟩
def d_solution : He.DefD := ⟨("solution", none), "solution", "solution", defArgs s_solution, defBody s_solution, defScope s_solution, [], []⟩
def d_u_table : He.DefD := ⟨("_table", none), "_table", "_table", defArgs s_u_table, defBody s_u_table, defScope s_u_table, [], []⟩
def d_tight : He.DefD := ⟨("tight", none), "tight", "tight", defArgs s_tight, defBody s_tight, defScope s_tight, [], []⟩
def d_fewest : He.DefD := ⟨("fewest", none), "fewest", "fewest", defArgs s_fewest, defBody s_fewest, defScope s_fewest, [], []⟩
def d_chain : He.DefD := ⟨("chain", none), "chain", "chain", defArgs s_chain, defBody s_chain, defScope s_chain, [], []⟩
def d_implied : He.DefD := ⟨("implied", none), "implied", "implied", defArgs s_implied, defBody s_implied, defScope s_implied, [], []⟩
def d_u_law_draw : He.DefD := ⟨("_law_draw", none), "_law_draw", "_law_draw", defArgs s_u_law_draw, defBody s_u_law_draw, defScope s_u_law_draw, [], []⟩
def d_u_law_pool : He.DefD := ⟨("_law_pool", none), "_law_pool", "_law_pool", defArgs s_u_law_pool, defBody s_u_law_pool, defScope s_u_law_pool, [], []⟩
def d_u_law_system : He.DefD := ⟨("_law_system", none), "_law_system", "_law_system", defArgs s_u_law_system, defBody s_u_law_system, defScope s_u_law_system, [], []⟩
def d_u_law_great : He.DefD := ⟨("_law_great", none), "_law_great", "_law_great", defArgs s_u_law_great, defBody s_u_law_great, defScope s_u_law_great, [], []⟩
def d_u_law_bad : He.DefD := ⟨("_law_bad", none), "_law_bad", "_law_bad", defArgs s_u_law_bad, defBody s_u_law_bad, defScope s_u_law_bad, [], []⟩
def d_u_law_ask : He.DefD := ⟨("_law_ask", none), "_law_ask", "_law_ask", defArgs s_u_law_ask, defBody s_u_law_ask, defScope s_u_law_ask, [], []⟩
def d_u_law_refused : He.DefD := ⟨("_law_refused", none), "_law_refused", "_law_refused", defArgs s_u_law_refused, defBody s_u_law_refused, defScope s_u_law_refused, [], []⟩
def d_u_law_ends : He.DefD := ⟨("_law_ends", none), "_law_ends", "_law_ends", defArgs s_u_law_ends, defBody s_u_law_ends, defScope s_u_law_ends, [], []⟩
def d_law : He.DefD := ⟨("law", none), "law", "law", defArgs s_law, defBody s_law, defScope s_law, [], []⟩
def fn : List He.DefD := [d_Table___init__, d_blank, d_more, d_added, d_table_of, d_upper, d_set_to, d_point_of, d_u_is_end, d_is_limit, d_names_of, d_checked_system, d_u_cycle, d_ring, d_solution, d_u_table, d_tight, d_fewest, d_chain, d_implied, d_u_law_draw, d_u_law_pool, d_u_law_system, d_u_law_great, d_u_law_bad, d_u_law_ask, d_u_law_refused, d_u_law_ends, d_law]
def fa : List He.Fa := [.glo "blank", .glo "more", .glo "added", .glo "table_of", .glo "upper", .glo "set_to", .glo "point_of", .glo "_is_end", .glo "is_limit", .glo "names_of", .glo "checked_system", .glo "_cycle", .glo "ring", .glo "solution", .glo "_table", .glo "tight", .glo "fewest", .glo "chain", .glo "implied", .glo "_law_draw", .glo "_law_pool", .glo "_law_system", .glo "_law_great", .glo "_law_bad", .glo "_law_ask", .glo "_law_refused", .glo "_law_ends", .glo "law", .free "len", .free "range", .free "zip", .free "enumerate", .free "isinstance", .free "tuple", .free "list", .free "int", .free "bool", .free "str", .free "ValueError", .int "FAR" 1000000000000000000000000000000, .int "HALF" 100000000000000000000000000000, .int "MOST" 1000000000000000000, .glo "Table", .cls "Table", .noat "Table" "names", .noat "Table" "rows", .noat "Table" "spots", .mkr "Table", .glo "NoSolution", .exc "NoSolution", .exm "NoSolution" "NoSolution" true, .glo "BadDifference", .noat "BadDifference" "place", .exm "BadDifference" "BadDifference" true, .glo "BadName", .noat "BadName" "name", .exm "BadName" "BadName" true, .glo "LoopshedsError"]
abbrev R : PySem.W.OpenRow := PySem.W.OpenLaw.row PySem.Challenge.rw_loopsheds_k04_refused_differences
def names : List Str := (["FAR", "HALF", "Table", "blank", "more", "added", "table_of", "upper", "set_to", "point_of", "LoopshedsError", "BadName", "BadDifference", "NoSolution", "MOST", "is_limit"] : List Str) ++ (["_is_end", "checked_system", "names_of", "_cycle", "ring", "solution", "_table", "tight", "_tight_ways", "chain", "implied", "classes_of", "_limit", "_ring_of", "_needed", "fewest"] : List Str) ++ (["_law_draw", "_law_pool", "_law_system", "_law_great", "_law_bad", "_law_ask", "_law_refused", "_law_ends"] : List Str)
def fx : List Fx := [.exc "BadDifference", .exc "BadName", .isi "BadDifference" "BadName" false, .isi "BadDifference" "NoSolution" false, .isi "BadDifference" "LoopshedsError" true, .isb "BadDifference" "ValueError" true, .isi "BadName" "BadDifference" false]
def su : List SupD := [⟨"BadDifference", "BadDifference.__init__", defArgs s_BadDifference___init__, defBody s_BadDifference___init__, defScope s_BadDifference___init__⟩, ⟨"BadName", "BadName.__init__", defArgs s_BadName___init__, defBody s_BadName___init__, defScope s_BadName___init__⟩]
def hd : Hd := ⟨fa, fn, fx, su, "/claim/cut.py"⟩
abbrev hk : PySem.W.Hook := hookS 4 hd
def ob (s : PySem.W.SharedT) : AlS := obsSG 4 hd (HandSHeadRun.getT s)
theorem ob_eq (s : PySem.W.SharedT) : ob s = hk.obs s.abs := obsSG_eq (HandSHeadRun.getT_eq s)
theorem run (w : World) : HandSHeadRun.RunEq R (PySem.W.view R.prog [45]) hk ob 4000 names w := by
  intro os
  kernel_rfl
theorem facts {P : Program} {w : World} {K : PySem.W.Frag} {h : Heap} {mg : Str → Option Value} {f : Addr} (X : K.In h) (N : h.Ns mainGlobals mg) (hfa : mg ("law" : Str) = some (.ref f)) (cS : SaysS hd K) (hPf : ((P.main.file : Str) == hd.file) = true) (hPs : (P.main.scope.names.lookup ("super" : Str)).isSome = false) :
    ∃ fd : FuncData, (∀ (s : Shared) (v : Value), BindsTo s fd ⟨[v], []⟩ [("script", v)]) ∧ ∀ base : Heap, K.In base → base.Ns mainGlobals mg → FnOk P w K mg base CX0 11 f fd ["script"] (spLaw K) := by
  have c : He.SaysD fa fn K := cS.d_
  obtain ⟨fd_Table___init__, F_Table___init__⟩ := c.def_ 0 (d := d_Table___init__) rfl
  obtain ⟨fd_blank, F_blank⟩ := c.def_ 1 (d := d_blank) rfl
  obtain ⟨fd_more, F_more⟩ := c.def_ 2 (d := d_more) rfl
  obtain ⟨fd_added, F_added⟩ := c.def_ 3 (d := d_added) rfl
  obtain ⟨fd_table_of, F_table_of⟩ := c.def_ 4 (d := d_table_of) rfl
  obtain ⟨fd_upper, F_upper⟩ := c.def_ 5 (d := d_upper) rfl
  obtain ⟨fd_set_to, F_set_to⟩ := c.def_ 6 (d := d_set_to) rfl
  obtain ⟨fd_point_of, F_point_of⟩ := c.def_ 7 (d := d_point_of) rfl
  obtain ⟨fd_u_is_end, F_u_is_end⟩ := c.def_ 8 (d := d_u_is_end) rfl
  obtain ⟨fd_is_limit, F_is_limit⟩ := c.def_ 9 (d := d_is_limit) rfl
  obtain ⟨fd_names_of, F_names_of⟩ := c.def_ 10 (d := d_names_of) rfl
  obtain ⟨fd_checked_system, F_checked_system⟩ := c.def_ 11 (d := d_checked_system) rfl
  obtain ⟨fd_u_cycle, F_u_cycle⟩ := c.def_ 12 (d := d_u_cycle) rfl
  obtain ⟨fd_ring, F_ring⟩ := c.def_ 13 (d := d_ring) rfl
  obtain ⟨fd_solution, F_solution⟩ := c.def_ 14 (d := d_solution) rfl
  obtain ⟨fd_u_table, F_u_table⟩ := c.def_ 15 (d := d_u_table) rfl
  obtain ⟨fd_tight, F_tight⟩ := c.def_ 16 (d := d_tight) rfl
  obtain ⟨fd_fewest, F_fewest⟩ := c.def_ 17 (d := d_fewest) rfl
  obtain ⟨fd_chain, F_chain⟩ := c.def_ 18 (d := d_chain) rfl
  obtain ⟨fd_implied, F_implied⟩ := c.def_ 19 (d := d_implied) rfl
  obtain ⟨fd_u_law_draw, F_u_law_draw⟩ := c.def_ 20 (d := d_u_law_draw) rfl
  obtain ⟨fd_u_law_pool, F_u_law_pool⟩ := c.def_ 21 (d := d_u_law_pool) rfl
  obtain ⟨fd_u_law_system, F_u_law_system⟩ := c.def_ 22 (d := d_u_law_system) rfl
  obtain ⟨fd_u_law_great, F_u_law_great⟩ := c.def_ 23 (d := d_u_law_great) rfl
  obtain ⟨fd_u_law_bad, F_u_law_bad⟩ := c.def_ 24 (d := d_u_law_bad) rfl
  obtain ⟨fd_u_law_ask, F_u_law_ask⟩ := c.def_ 25 (d := d_u_law_ask) rfl
  obtain ⟨fd_u_law_refused, F_u_law_refused⟩ := c.def_ 26 (d := d_u_law_refused) rfl
  obtain ⟨fd_u_law_ends, F_u_law_ends⟩ := c.def_ 27 (d := d_u_law_ends) rfl
  obtain ⟨fd_law, F_law⟩ := c.def_ 28 (d := d_law) rfl
  have G : Facts mg := ⟨He.free_ok X N (c.fact 28 (f := .free "len") rfl), He.free_ok X N (c.fact 29 (f := .free "range") rfl), He.free_ok X N (c.fact 30 (f := .free "zip") rfl), He.free_ok X N (c.fact 31 (f := .free "enumerate") rfl), He.free_ok X N (c.fact 32 (f := .free "isinstance") rfl), He.free_ok X N (c.fact 33 (f := .free "tuple") rfl), He.free_ok X N (c.fact 34 (f := .free "list") rfl), He.free_ok X N (c.fact 35 (f := .free "int") rfl), He.free_ok X N (c.fact 36 (f := .free "bool") rfl), He.free_ok X N (c.fact 37 (f := .free "str") rfl), He.free_ok X N (c.fact 38 (f := .free "ValueError") rfl), He.int_ok X N (c.fact 39 (f := .int "FAR" 1000000000000000000000000000000) rfl), He.int_ok X N (c.fact 40 (f := .int "HALF" 100000000000000000000000000000) rfl), He.int_ok X N (c.fact 41 (f := .int "MOST" 1000000000000000000) rfl)⟩
  have T : TCls K (He.ga K "Table") := ⟨He.cls_ok (c.fact 43 (f := .cls "Table") rfl), He.noat_ok (c.fact 44 (f := .noat "Table" "names") rfl), He.noat_ok (c.fact 45 (f := .noat "Table" "rows") rfl), He.noat_ok (c.fact 46 (f := .noat "Table" "spots") rfl)⟩
  have NXF : ExcF K mg "NoSolution" (He.ga K "NoSolution") := ⟨He.glo_ok X N (c.fact 48 (f := .glo "NoSolution") rfl), (He.exc_ok (c.fact 49 (f := .exc "NoSolution") rfl)).1, (He.exc_ok (c.fact 49 (f := .exc "NoSolution") rfl)).2.1, (He.exc_ok (c.fact 49 (f := .exc "NoSolution") rfl)).2.2.1, (He.exc_ok (c.fact 49 (f := .exc "NoSolution") rfl)).2.2.2, He.exm_ok (c.fact 50 (f := .exm "NoSolution" "NoSolution" true) rfl)⟩
  obtain ⟨fdE0, ccE0, cfE0, UE0⟩ := cS.u 0 (P := P) hPf hPs rfl
  obtain ⟨_, _, docE0, pmE0, ctvE0, _, eE0, _⟩ := UE0.fn
  have bE0 : Binds K fdE0 ["self", "place"] [] := by rw [eE0]; exact Binds.all fun us hl => match us, hl with | [_, _], _ => rfl
  have noE0 : PySem.W.findIn K (.ref (He.ga K "BadDifference")) "place" = some none := He.noat_ok (c.fact 52 (f := .noat "BadDifference" "place") rfl)
  have ecE0 : ExcC K (He.ga K "BadDifference") := excB_ok (cS.x 0 (f := .exc "BadDifference") rfl)
  have XE_BadDifference : ∀ base : Heap, ExcS P w K mg base "BadDifference" (He.ga K "BadDifference") "place" := fun base => ⟨UE0.oex, noE0, (Ls.ExcC.xf ecE0), He.glo_ok X N (c.fact 51 (f := .glo "BadDifference") rfl), _, fdE0, ["self", "place"], UE0.ini, UE0.typ, ok_BadDifference UE0 noE0, bE0⟩
  obtain ⟨fdE1, ccE1, cfE1, UE1⟩ := cS.u 1 (P := P) hPf hPs rfl
  obtain ⟨_, _, docE1, pmE1, ctvE1, _, eE1, _⟩ := UE1.fn
  have bE1 : Binds K fdE1 ["self", "name"] [] := by rw [eE1]; exact Binds.all fun us hl => match us, hl with | [_, _], _ => rfl
  have noE1 : PySem.W.findIn K (.ref (He.ga K "BadName")) "name" = some none := He.noat_ok (c.fact 55 (f := .noat "BadName" "name") rfl)
  have ecE1 : ExcC K (He.ga K "BadName") := excB_ok (cS.x 1 (f := .exc "BadName") rfl)
  have XE_BadName : ∀ base : Heap, ExcS P w K mg base "BadName" (He.ga K "BadName") "name" := fun base => ⟨UE1.oex, noE1, (Ls.ExcC.xf ecE1), He.glo_ok X N (c.fact 54 (f := .glo "BadName") rfl), _, fdE1, ["self", "name"], UE1.ini, UE1.typ, ok_BadName UE1 noE1, bE1⟩
  have NX : XFacts K mg (He.ga K "BadDifference") (He.ga K "BadName") (He.ga K "NoSolution") (He.ga K "LoopshedsError") := ⟨He.glo_ok X N (c.fact 48 (f := .glo "NoSolution") rfl), He.glo_ok X N (c.fact 57 (f := .glo "LoopshedsError") rfl), ecE0, ecE1, He.exm_ok (c.fact 53 (f := .exm "BadDifference" "BadDifference" true) rfl), He.exm_ok (c.fact 56 (f := .exm "BadName" "BadName" true) rfl), of_decide_eq_true (cS.x 2 (f := .isi "BadDifference" "BadName" false) rfl), of_decide_eq_true (cS.x 3 (f := .isi "BadDifference" "NoSolution" false) rfl), of_decide_eq_true (cS.x 4 (f := .isi "BadDifference" "LoopshedsError" true) rfl), of_decide_eq_true (cS.x 5 (f := .isb "BadDifference" "ValueError" true) rfl), of_decide_eq_true (cS.x 6 (f := .isi "BadName" "BadDifference" false) rfl)⟩
  have e := hfa.symm.trans (He.glo_ok X N (c.fact 27 (f := .glo "law") rfl))
  cases e
  have b := FunD.bindsA (ps := ["script"]) F_law fun _ _ _ _ _ _ us hl => match us, hl with | [_], _ => rfl
  refine ⟨fd_law, fun s v => b s [v] rfl, fun base _ _ => ?_⟩
  have O_Table___init__ : FnOk P w K mg base CX0 1 (He.fAd K ("Table", some "__init__")) fd_Table___init__ ["self", "names", "rows", "spots"] (spTable (He.ga K "Table")) := ok_init F_Table___init__ G T
  obtain ⟨ds_M_Table, v_M_Table, b_M_Table⟩ := FunD.binds1 (ps := ["self", "names", "rows", "spots"]) F_Table___init__ 3 0 (List.cons_ne_nil _ _) rfl fun _ _ _ _ _ _ _ us its h1 h2 => match us, h1, its, h2 with | [_, _, _], _, [_], _ => ⟨_, rfl, rfl⟩
  have M_Table : Mak P w K mg base 1 "Table" (He.ga K "Table") (spTable (He.ga K "Table")) [.non] := ⟨_, fd_Table___init__, ["self", "names", "rows", "spots"], ds_M_Table, He.mkr_ok (c.fact 47 (f := .mkr "Table") rfl), O_Table___init__, He.glo_ok X N (c.fact 42 (f := .glo "Table") rfl), b_M_Table, v_M_Table⟩
  obtain ⟨ds_M_Table_1, v_M_Table_1, b_M_Table_1⟩ := FunD.binds1 (ps := ["self", "names", "rows", "spots"]) F_Table___init__ 4 1 (List.cons_ne_nil _ _) rfl fun _ _ _ _ _ _ _ us its h1 h2 => match us, h1, its, h2 with | [_, _, _, _], _, [_], _ => ⟨_, rfl, rfl⟩
  have M_Table_1 : Mak P w K mg base 1 "Table" (He.ga K "Table") (spTable (He.ga K "Table")) [] := ⟨_, fd_Table___init__, ["self", "names", "rows", "spots"], ds_M_Table_1, He.mkr_ok (c.fact 47 (f := .mkr "Table") rfl), O_Table___init__, He.glo_ok X N (c.fact 42 (f := .glo "Table") rfl), b_M_Table_1, v_M_Table_1⟩
  have O_blank : FnOk P w K mg base CX0 3 (He.fAd K ("blank", none)) fd_blank ["names"] (spBlank (He.ga K "Table")) := ok_blank F_blank G M_Table
  have b_C_blank : Binds K fd_blank ["names"] [] := FunD.bindsN F_blank fun _ _ _ _ _ _ us hl => match us, hl with | [_], _ => rfl
  have C_blank : Cal P w K mg base 3 "blank" (spBlank (He.ga K "Table")) [] := ⟨_, fd_blank, ["names"], [], O_blank, He.glo_ok X N (c.fact 0 (f := .glo "blank") rfl), F_blank.kp, b_C_blank, .nil⟩
  have O_more : FnOk P w K mg base CX0 3 (He.fAd K ("more", none)) fd_more ["table", "left", "right", "limit"] (spMore (He.ga K "Table")) := ok_more F_more G T M_Table_1
  have b_C_more : Binds K fd_more ["table", "left", "right", "limit"] [] := FunD.bindsN F_more fun _ _ _ _ _ _ us hl => match us, hl with | [_, _, _, _], _ => rfl
  have C_more : Cal P w K mg base 3 "more" (spMore (He.ga K "Table")) [] := ⟨_, fd_more, ["table", "left", "right", "limit"], [], O_more, He.glo_ok X N (c.fact 1 (f := .glo "more") rfl), F_more.kp, b_C_more, .nil⟩
  have O_added : FnOk P w K mg base CX0 4 (He.fAd K ("added", none)) fd_added ["table", "system"] (spAdded (He.ga K "Table")) := ok_added F_added G C_more
  have b_C_added : Binds K fd_added ["table", "system"] [] := FunD.bindsN F_added fun _ _ _ _ _ _ us hl => match us, hl with | [_, _], _ => rfl
  have C_added : Cal P w K mg base 4 "added" (spAdded (He.ga K "Table")) [] := ⟨_, fd_added, ["table", "system"], [], O_added, He.glo_ok X N (c.fact 2 (f := .glo "added") rfl), F_added.kp, b_C_added, .nil⟩
  have O_table_of : FnOk P w K mg base CX0 5 (He.fAd K ("table_of", none)) fd_table_of ["names", "system"] (spTableOf (He.ga K "Table")) := ok_table_of F_table_of G C_added C_blank
  have b_C_table_of : Binds K fd_table_of ["names", "system"] [] := FunD.bindsN F_table_of fun _ _ _ _ _ _ us hl => match us, hl with | [_, _], _ => rfl
  have C_table_of : Cal P w K mg base 5 "table_of" (spTableOf (He.ga K "Table")) [] := ⟨_, fd_table_of, ["names", "system"], [], O_table_of, He.glo_ok X N (c.fact 3 (f := .glo "table_of") rfl), F_table_of.kp, b_C_table_of, .nil⟩
  have O_upper : FnOk P w K mg base CX0 1 (He.fAd K ("upper", none)) fd_upper ["table", "left", "right"] (spUpper (He.ga K "Table")) := ok_upper F_upper G T
  have b_C_upper : Binds K fd_upper ["table", "left", "right"] [] := FunD.bindsN F_upper fun _ _ _ _ _ _ us hl => match us, hl with | [_, _, _], _ => rfl
  have C_upper : Cal P w K mg base 1 "upper" (spUpper (He.ga K "Table")) [] := ⟨_, fd_upper, ["table", "left", "right"], [], O_upper, He.glo_ok X N (c.fact 4 (f := .glo "upper") rfl), F_upper.kp, b_C_upper, .nil⟩
  have O_set_to : FnOk P w K mg base CX0 4 (He.fAd K ("set_to", none)) fd_set_to ["table", "name", "worth"] (spSetTo (He.ga K "Table")) := ok_set_to F_set_to G C_more
  have b_C_set_to : Binds K fd_set_to ["table", "name", "worth"] [] := FunD.bindsN F_set_to fun _ _ _ _ _ _ us hl => match us, hl with | [_, _, _], _ => rfl
  have C_set_to : Cal P w K mg base 4 "set_to" (spSetTo (He.ga K "Table")) [] := ⟨_, fd_set_to, ["table", "name", "worth"], [], O_set_to, He.glo_ok X N (c.fact 5 (f := .glo "set_to") rfl), F_set_to.kp, b_C_set_to, .nil⟩
  have O_point_of : FnOk P w K mg base CX0 5 (He.fAd K ("point_of", none)) fd_point_of ["table"] (spPoint (He.ga K "Table")) := ok_point_of F_point_of G T C_upper C_set_to
  have b_C_point_of : Binds K fd_point_of ["table"] [] := FunD.bindsN F_point_of fun _ _ _ _ _ _ us hl => match us, hl with | [_], _ => rfl
  have C_point_of : Cal P w K mg base 5 "point_of" (spPoint (He.ga K "Table")) [] := ⟨_, fd_point_of, ["table"], [], O_point_of, He.glo_ok X N (c.fact 6 (f := .glo "point_of") rfl), F_point_of.kp, b_C_point_of, .nil⟩
  have O_u_is_end : FnOk P w K mg base CX0 1 (He.fAd K ("_is_end", none)) fd_u_is_end ["thing", "known"] (spIsEnd) := ok_is_end F_u_is_end G
  have b_C_u_is_end : Binds K fd_u_is_end ["thing", "known"] [] := FunD.bindsN F_u_is_end fun _ _ _ _ _ _ us hl => match us, hl with | [_, _], _ => rfl
  have C_u_is_end : Cal P w K mg base 1 "_is_end" (spIsEnd) [] := ⟨_, fd_u_is_end, ["thing", "known"], [], O_u_is_end, He.glo_ok X N (c.fact 7 (f := .glo "_is_end") rfl), F_u_is_end.kp, b_C_u_is_end, .nil⟩
  have O_is_limit : FnOk P w K mg base CX0 1 (He.fAd K ("is_limit", none)) fd_is_limit ["thing"] (spIsLimit) := ok_is_limit F_is_limit G
  have b_C_is_limit : Binds K fd_is_limit ["thing"] [] := FunD.bindsN F_is_limit fun _ _ _ _ _ _ us hl => match us, hl with | [_], _ => rfl
  have C_is_limit : Cal P w K mg base 1 "is_limit" (spIsLimit) [] := ⟨_, fd_is_limit, ["thing"], [], O_is_limit, He.glo_ok X N (c.fact 8 (f := .glo "is_limit") rfl), F_is_limit.kp, b_C_is_limit, .nil⟩
  have O_names_of : FnOk P w K mg base CX0 1 (He.fAd K ("names_of", none)) fd_names_of ["system"] (spNamesOf) := ok_names_of F_names_of G
  have b_C_names_of : Binds K fd_names_of ["system"] [] := FunD.bindsN F_names_of fun _ _ _ _ _ _ us hl => match us, hl with | [_], _ => rfl
  have C_names_of : Cal P w K mg base 1 "names_of" (spNamesOf) [] := ⟨_, fd_names_of, ["system"], [], O_names_of, He.glo_ok X N (c.fact 9 (f := .glo "names_of") rfl), F_names_of.kp, b_C_names_of, .nil⟩
  have O_checked_system : FnOk P w K mg base CX0 2 (He.fAd K ("checked_system", none)) fd_checked_system ["system", "names"] (spChecked) := ok_checked F_checked_system G C_is_limit C_u_is_end
  obtain ⟨ds_C_checked_system, v_C_checked_system, b_C_checked_system⟩ := FunD.binds1 (ps := ["system", "names"]) F_checked_system 1 0 (List.cons_ne_nil _ _) rfl fun _ _ _ _ _ _ _ us its h1 h2 => match us, h1, its, h2 with | [_], _, [_], _ => ⟨_, rfl, rfl⟩
  have C_checked_system : Cal P w K mg base 2 "checked_system" (spChecked) [.non] := ⟨_, fd_checked_system, ["system", "names"], ds_C_checked_system, O_checked_system, He.glo_ok X N (c.fact 10 (f := .glo "checked_system") rfl), F_checked_system.kp, b_C_checked_system, v_C_checked_system⟩
  have OX_checked_system : FnOk P w K mg base (L2.CX P w) 3 (He.fAd K ("checked_system", none)) fd_checked_system ["system", "names"] (spChk (He.ga K "BadDifference")) := okX_checked F_checked_system G (XE_BadDifference base) C_is_limit C_u_is_end
  obtain ⟨ds_X_checked_system, v_X_checked_system, b_X_checked_system⟩ := FunD.binds1 (ps := ["system", "names"]) F_checked_system 1 0 (List.cons_ne_nil _ _) rfl fun _ _ _ _ _ _ _ us its h1 h2 => match us, h1, its, h2 with | [_], _, [_], _ => ⟨_, rfl, rfl⟩
  have X_checked_system : CalX P w K mg base 3 "checked_system" (spChk (He.ga K "BadDifference")) [.non] := ⟨_, fd_checked_system, ["system", "names"], ds_X_checked_system, OX_checked_system, He.glo_ok X N (c.fact 10 (f := .glo "checked_system") rfl), F_checked_system.kp, b_X_checked_system, v_X_checked_system⟩
  have O_u_cycle : FnOk P w K mg base CX0 1 (He.fAd K ("_cycle", none)) fd_u_cycle ["system", "before", "name"] (spCycle) := ok_cycle F_u_cycle G
  have b_C_u_cycle : Binds K fd_u_cycle ["system", "before", "name"] [] := FunD.bindsN F_u_cycle fun _ _ _ _ _ _ us hl => match us, hl with | [_, _, _], _ => rfl
  have C_u_cycle : Cal P w K mg base 1 "_cycle" (spCycle) [] := ⟨_, fd_u_cycle, ["system", "before", "name"], [], O_u_cycle, He.glo_ok X N (c.fact 11 (f := .glo "_cycle") rfl), F_u_cycle.kp, b_C_u_cycle, .nil⟩
  have O_ring : FnOk P w K mg base CX0 3 (He.fAd K ("ring", none)) fd_ring ["system"] (spRing) := ok_ring F_ring G C_checked_system C_names_of C_u_cycle
  have O_solution : FnOk P w K mg base CX0 6 (He.fAd K ("solution", none)) fd_solution ["system"] (spSolution) := ok_solution F_solution G C_checked_system C_names_of C_table_of C_point_of
  have O_u_table : FnOk P w K mg base (L2.CX P w) 6 (He.fAd K ("_table", none)) fd_u_table ["system", "names"] (spTabX (He.ga K "NoSolution") (He.ga K "Table")) := ok_tabx F_u_table G NXF C_names_of C_table_of
  have b_C_u_table : Binds K fd_u_table ["system", "names"] [] := FunD.bindsN F_u_table fun _ _ _ _ _ _ us hl => match us, hl with | [_, _], _ => rfl
  have C_u_table : CalX P w K mg base 6 "_table" (spTabX (He.ga K "NoSolution") (He.ga K "Table")) [] := ⟨_, fd_u_table, ["system", "names"], [], O_u_table, He.glo_ok X N (c.fact 14 (f := .glo "_table") rfl), F_u_table.kp, b_C_u_table, .nil⟩
  have O_tight : FnOk P w K mg base (L2.CX P w) 7 (He.fAd K ("tight", none)) fd_tight ["system", "left", "right"] (spTightX (He.ga K "NoSolution") (He.ga K "Table")) := ok_tightx F_tight G C_checked_system C_u_is_end C_u_table C_upper
  have OX_ring : FnOk P w K mg base (L2.CX P w) 4 (He.fAd K ("ring", none)) fd_ring ["system"] (fun vs H Q E => spRing vs H Q E ∨ spBad1 (He.ga K "BadDifference") vs H Q E) := okX_ring F_ring G X_checked_system C_checked_system C_names_of C_u_cycle
  have b_X_ring : Binds K fd_ring ["system"] [] := FunD.bindsN F_ring fun _ _ _ _ _ _ us hl => match us, hl with | [_], _ => rfl
  have X_ring : CalX P w K mg base 4 "ring" (fun vs H Q E => spRing vs H Q E ∨ spBad1 (He.ga K "BadDifference") vs H Q E) [] := ⟨_, fd_ring, ["system"], [], OX_ring, He.glo_ok X N (c.fact 12 (f := .glo "ring") rfl), F_ring.kp, b_X_ring, .nil⟩
  have OX_solution : FnOk P w K mg base (L2.CX P w) 6 (He.fAd K ("solution", none)) fd_solution ["system"] (fun vs H Q E => spSolution vs H Q E ∨ spBad1 (He.ga K "BadDifference") vs H Q E) := okX_solution F_solution G X_checked_system C_checked_system C_names_of C_table_of C_point_of
  have b_X_solution : Binds K fd_solution ["system"] [] := FunD.bindsN F_solution fun _ _ _ _ _ _ us hl => match us, hl with | [_], _ => rfl
  have X_solution : CalX P w K mg base 6 "solution" (fun vs H Q E => spSolution vs H Q E ∨ spBad1 (He.ga K "BadDifference") vs H Q E) [] := ⟨_, fd_solution, ["system"], [], OX_solution, He.glo_ok X N (c.fact 13 (f := .glo "solution") rfl), F_solution.kp, b_X_solution, .nil⟩
  have OX_fewest : FnOk P w K mg base (L2.CX P w) 4 (He.fAd K ("fewest", none)) fd_fewest ["system"] (spBad1 (He.ga K "BadDifference")) := okX_fewest F_fewest G X_checked_system
  have b_X_fewest : Binds K fd_fewest ["system"] [] := FunD.bindsN F_fewest fun _ _ _ _ _ _ us hl => match us, hl with | [_], _ => rfl
  have X_fewest : CalX P w K mg base 4 "fewest" (spBad1 (He.ga K "BadDifference")) [] := ⟨_, fd_fewest, ["system"], [], OX_fewest, He.glo_ok X N (c.fact 16 (f := .glo "fewest") rfl), F_fewest.kp, b_X_fewest, .nil⟩
  have OX_tight : FnOk P w K mg base (L2.CX P w) 7 (He.fAd K ("tight", none)) fd_tight ["system", "left", "right"] (fun vs H Q E => spTightX (He.ga K "NoSolution") (He.ga K "Table") vs H Q E ∨ spBad3 (He.ga K "BadDifference") (He.ga K "BadName") vs H Q E) := okX_tight F_tight G (XE_BadName base) X_checked_system C_checked_system C_u_is_end C_u_table C_upper
  have b_X_tight : Binds K fd_tight ["system", "left", "right"] [] := FunD.bindsN F_tight fun _ _ _ _ _ _ us hl => match us, hl with | [_, _, _], _ => rfl
  have X_tight : CalX P w K mg base 7 "tight" (fun vs H Q E => spTightX (He.ga K "NoSolution") (He.ga K "Table") vs H Q E ∨ spBad3 (He.ga K "BadDifference") (He.ga K "BadName") vs H Q E) [] := ⟨_, fd_tight, ["system", "left", "right"], [], OX_tight, He.glo_ok X N (c.fact 15 (f := .glo "tight") rfl), F_tight.kp, b_X_tight, .nil⟩
  have OX_chain : FnOk P w K mg base (L2.CX P w) 8 (He.fAd K ("chain", none)) fd_chain ["system", "left", "right"] (spBad3 (He.ga K "BadDifference") (He.ga K "BadName")) := okX_chain F_chain G X_tight
  have b_X_chain : Binds K fd_chain ["system", "left", "right"] [] := FunD.bindsN F_chain fun _ _ _ _ _ _ us hl => match us, hl with | [_, _, _], _ => rfl
  have X_chain : CalX P w K mg base 8 "chain" (spBad3 (He.ga K "BadDifference") (He.ga K "BadName")) [] := ⟨_, fd_chain, ["system", "left", "right"], [], OX_chain, He.glo_ok X N (c.fact 17 (f := .glo "chain") rfl), F_chain.kp, b_X_chain, .nil⟩
  have OX_implied : FnOk P w K mg base (L2.CX P w) 4 (He.fAd K ("implied", none)) fd_implied ["system", "difference"] (spBadI (He.ga K "BadDifference")) := okX_implied F_implied G X_checked_system
  have b_X_implied : Binds K fd_implied ["system", "difference"] [] := FunD.bindsN F_implied fun _ _ _ _ _ _ us hl => match us, hl with | [_, _], _ => rfl
  have X_implied : CalX P w K mg base 4 "implied" (spBadI (He.ga K "BadDifference")) [] := ⟨_, fd_implied, ["system", "difference"], [], OX_implied, He.glo_ok X N (c.fact 18 (f := .glo "implied") rfl), F_implied.kp, b_X_implied, .nil⟩
  have O_u_law_draw : FnOk P w K mg base CX0 1 (He.fAd K ("_law_draw", none)) fd_u_law_draw ["script", "at", "many"] (spDraw K) := ok_draw F_u_law_draw G
  have b_C_u_law_draw : Binds K fd_u_law_draw ["script", "at", "many"] [] := FunD.bindsN F_u_law_draw fun _ _ _ _ _ _ us hl => match us, hl with | [_, _, _], _ => rfl
  have C_u_law_draw : Cal P w K mg base 1 "_law_draw" (spDraw K) [] := ⟨_, fd_u_law_draw, ["script", "at", "many"], [], O_u_law_draw, He.glo_ok X N (c.fact 19 (f := .glo "_law_draw") rfl), F_u_law_draw.kp, b_C_u_law_draw, .nil⟩
  have O_u_law_pool : FnOk P w K mg base CX0 2 (He.fAd K ("_law_pool", none)) fd_u_law_pool ["script", "at"] (spPool K) := ok_pool F_u_law_pool G C_u_law_draw
  have b_C_u_law_pool : Binds K fd_u_law_pool ["script", "at"] [] := FunD.bindsN F_u_law_pool fun _ _ _ _ _ _ us hl => match us, hl with | [_, _], _ => rfl
  have C_u_law_pool : Cal P w K mg base 2 "_law_pool" (spPool K) [] := ⟨_, fd_u_law_pool, ["script", "at"], [], O_u_law_pool, He.glo_ok X N (c.fact 20 (f := .glo "_law_pool") rfl), F_u_law_pool.kp, b_C_u_law_pool, .nil⟩
  have O_u_law_system : FnOk P w K mg base CX0 2 (He.fAd K ("_law_system", none)) fd_u_law_system ["script", "at", "names", "most"] (spSystem K) := ok_system F_u_law_system G C_u_law_draw
  have b_C_u_law_system : Binds K fd_u_law_system ["script", "at", "names", "most"] [] := FunD.bindsN F_u_law_system fun _ _ _ _ _ _ us hl => match us, hl with | [_, _, _, _], _ => rfl
  have C_u_law_system : Cal P w K mg base 2 "_law_system" (spSystem K) [] := ⟨_, fd_u_law_system, ["script", "at", "names", "most"], [], O_u_law_system, He.glo_ok X N (c.fact 21 (f := .glo "_law_system") rfl), F_u_law_system.kp, b_C_u_law_system, .nil⟩
  have O_u_law_great : FnOk P w K mg base CX0 1 (He.fAd K ("_law_great", none)) fd_u_law_great [] (spGreat) := ok_great F_u_law_great G
  have b_C_u_law_great : Binds K fd_u_law_great [] [] := FunD.bindsN F_u_law_great fun _ _ _ _ _ _ us hl => match us, hl with | [], _ => rfl
  have C_u_law_great : Cal P w K mg base 1 "_law_great" (spGreat) [] := ⟨_, fd_u_law_great, [], [], O_u_law_great, He.glo_ok X N (c.fact 22 (f := .glo "_law_great") rfl), F_u_law_great.kp, b_C_u_law_great, .nil⟩
  have O_u_law_bad : FnOk P w K mg base CX0 2 (He.fAd K ("_law_bad", none)) fd_u_law_bad ["script", "at"] (spLBad K) := ok_lbad F_u_law_bad G C_u_law_draw C_u_law_great
  have b_C_u_law_bad : Binds K fd_u_law_bad ["script", "at"] [] := FunD.bindsN F_u_law_bad fun _ _ _ _ _ _ us hl => match us, hl with | [_, _], _ => rfl
  have C_u_law_bad : Cal P w K mg base 2 "_law_bad" (spLBad K) [] := ⟨_, fd_u_law_bad, ["script", "at"], [], O_u_law_bad, He.glo_ok X N (c.fact 23 (f := .glo "_law_bad") rfl), F_u_law_bad.kp, b_C_u_law_bad, .nil⟩
  have OX_u_law_ask : FnOk P w K mg base (L2.CX P w) 9 (He.fAd K ("_law_ask", none)) fd_u_law_ask ["number", "system"] (spAsk (He.ga K "BadDifference")) := okX_ask F_u_law_ask G X_ring X_solution X_tight X_chain X_fewest X_implied
  have b_X_u_law_ask : Binds K fd_u_law_ask ["number", "system"] [] := FunD.bindsN F_u_law_ask fun _ _ _ _ _ _ us hl => match us, hl with | [_, _], _ => rfl
  have X_u_law_ask : CalX P w K mg base 9 "_law_ask" (spAsk (He.ga K "BadDifference")) [] := ⟨_, fd_u_law_ask, ["number", "system"], [], OX_u_law_ask, He.glo_ok X N (c.fact 24 (f := .glo "_law_ask") rfl), F_u_law_ask.kp, b_X_u_law_ask, .nil⟩
  have O_u_law_refused : FnOk P w K mg base CX0 10 (He.fAd K ("_law_refused", none)) fd_u_law_refused ["number", "system", "place"] (spRefused) := ok_refused F_u_law_refused G NX (XE_BadDifference base) (XE_BadName base) X_u_law_ask
  have b_C_u_law_refused : Binds K fd_u_law_refused ["number", "system", "place"] [] := FunD.bindsN F_u_law_refused fun _ _ _ _ _ _ us hl => match us, hl with | [_, _, _], _ => rfl
  have C_u_law_refused : Cal P w K mg base 10 "_law_refused" (spRefused) [] := ⟨_, fd_u_law_refused, ["number", "system", "place"], [], O_u_law_refused, He.glo_ok X N (c.fact 25 (f := .glo "_law_refused") rfl), F_u_law_refused.kp, b_C_u_law_refused, .nil⟩
  have O_u_law_ends : FnOk P w K mg base CX0 9 (He.fAd K ("_law_ends", none)) fd_u_law_ends ["system"] (spEnds) := ok_ends F_u_law_ends G NX (XE_BadDifference base) (XE_BadName base) X_tight X_chain
  have b_C_u_law_ends : Binds K fd_u_law_ends ["system"] [] := FunD.bindsN F_u_law_ends fun _ _ _ _ _ _ us hl => match us, hl with | [_], _ => rfl
  have C_u_law_ends : Cal P w K mg base 9 "_law_ends" (spEnds) [] := ⟨_, fd_u_law_ends, ["system"], [], O_u_law_ends, He.glo_ok X N (c.fact 26 (f := .glo "_law_ends") rfl), F_u_law_ends.kp, b_C_u_law_ends, .nil⟩
  have O_law : FnOk P w K mg base CX0 11 (He.fAd K ("law", none)) fd_law ["script"] (spLaw K) := ok_law F_law G NX (XE_BadDifference base) C_u_law_draw C_u_law_pool C_u_law_system C_u_law_bad C_u_law_refused C_u_law_ends X_implied X_ring X_solution X_tight
  exact O_law
end K1
open PySem PySem.W PySem.Calls PyProof.Rows
theorem PySem.Challenge.cw_loopsheds_k04_refused_differences_holds : PySem.Challenge.rw_loopsheds_k04_refused_differences.Holds := by
  w_on; o_law
  refine HandSHeadRun.head_any (r := OpenLaw.row PySem.Challenge.rw_loopsheds_k04_refused_differences) (q := view (OpenLaw.row PySem.Challenge.rw_loopsheds_k04_refused_differences).prog [45]) (H := K1.hk) (ob := K1.ob) (M := 4000) (loose := K1.names) (d := HandSHeadRun.topDef (OpenLaw.row PySem.Challenge.rw_loopsheds_k04_refused_differences).prog 45) (kwd := []) K1.ob_eq
    (by kernel_rfl) (fun s => by kernel_rfl) K1.run (by kernel_rfl) (by kernel_rfl) (by kernel_rfl) (by rfl) (by first | assumption | decide +kernel) (by decide +kernel) ⟨rfl, rfl, rfl, rfl, rfl, by decide +kernel⟩ ?hw ?hc
  case hw => w_witness2
  case hc =>
    refine L2.walk_ofE (l := PySem.Challenge.rw_loopsheds_k04_refused_differences) (n := 63) (k := 11) (x := "script") (CX := L2.CX0) rfl (by decide) (by kernel_rfl) ⟨rfl, by decide, by decide⟩ ?F (fun _ _ _ _ z => z)
    intro w mg fa h Y G hmg0
    obtain ⟨K, KX, c⟩ := Y
    have hmg : mg ("law" : PySem.Str) = some (.ref fa) := by
      have e : (HandSHeadRun.topDef (OpenLaw.row PySem.Challenge.rw_loopsheds_k04_refused_differences).prog 45).name = ("law" : PySem.Str) := by kernel_rfl
      rw [← e]
      exact hmg0
    obtain ⟨fd, hb, hF⟩ := K1.facts (P := (PySem.Challenge.rw_loopsheds_k04_refused_differences).prog) (w := w) KX G hmg c (by kernel_rfl) (by kernel_rfl)
    exact ⟨K, fd, K1.spLaw K, KX, hb, fun H a ns hl _ hS => ⟨a, ns, rfl, ⟨hS, Nat.le_trans hl (by decide)⟩, fun _ => rfl⟩, hF⟩

