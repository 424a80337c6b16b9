import PyProof.Rows.All
import Wide.All
import OpenK.AllK
import Wide.FinOn
import KE.KStateDown
import KE.GoesEnum
import HandS.ForMost
import HandS.Defaults
import HandS.DictComp
import HandS.IsInst
import HandS.TupAny
import HandS.Wide
import HandS.Conv
import HandS.Flow
import HandS.Sort
import HandS.HeadHook1
import HandS.HeadHook2
import HandS.Walk
import OpenK.KEqL
import PyProof.Rows.StrMeet
import PyProof.Rows.TmSorted
import PyProof.P3Eq
import HandS.Exc
import HandS.ExcOwn
import HandS.TryOnly
import HandS.WordsExc
import HandS.OwnIter
import KE.KDictZip
import HandS.HotCalls
import HandS.ForExc
import KE.KDictList
import HandS.ExcCtx
import HandS.CallSlots
import PySem.Challenge.RW_loopsheds_k05_fewest
import HandS.Head0
import HandS.Head1
import HandS.Head2
import HandS.HeadEnd
set_option Elab.async false
set_option linter.all false
set_option maxRecDepth 100000
set_option maxHeartbeats 0
/-! ### rules of our own -/
namespace Ls
open PySem PySem.Spec PyProof.Rows L2
/-! a def of the module, a class, as callers need them -/
structure Cal (P : Program) (w : World) (K : PySem.W.Frag) (mg : Str → Option Value) (base : Heap) (k : Nat) (x : Str) (sp : Sp) (dvs : List V) : Prop where
  ex : ∃ (f : Addr) (fd : FuncData) (ps : List Str) (ds : List Value), FnOk P w K mg base CX0 k f fd ps sp ∧ mg x = some (.ref f) ∧ PySem.W.keepIn K (.ref f) = true ∧ Binds K fd ps ds ∧ Vals dvs ds
structure Mak (P : Program) (w : World) (K : PySem.W.Frag) (mg : Str → Option Value) (base : Heap) (k : Nat) (x : Str) (C : Addr) (sp : Sp) (dvs : List V) : Prop where
  ex : ∃ (f : Addr) (fd : FuncData) (ps : List Str) (ds : List Value), Mk K C f ∧ FnOk P w K mg base CX0 k f fd ps sp ∧ mg x = some (.ref C) ∧ Binds K fd ps ds ∧ Vals dvs ds
section
variable {X : Cx} {e : Expr} {es : List Expr} {t : TA} {p pos : Pos} {x : Str} {k j : Nat} {sp : Sp} {dvs : List V} {C : Addr}
theorem pe_c (c : Cal X.prog X.w X.K X.mg X.base k x sp dvs) (hr : Room j X.A) (hk : k ≤ j) (hg : Gl X x) (ha : PA X (e :: es) t) (hdb : (x == ("__debug__" : Str)) = false := by decide)
    (he : starEach (e :: es) X.env = (false, eval e X.env) :: starEach es X.env := by rfl) (hpl : (backTo pos (starEach es X.env)).any (·.1) = false := by rfl) : PE X (.Call (.Name x p) (e :: es) [] pos) (tCall sp dvs E0 t) := by
  have ⟨f, fd, ps, ds, F, hm, kp, b, d⟩ := c.ex
  exact pe_call F (hr.mono hk) hg hm kp b d pass0 ha hdb he hpl
theorem pe_mk (c : Mak X.prog X.w X.K X.mg X.base k x C sp dvs) (hr : Room j X.A) (hk : k + 1 ≤ j) (hg : Gl X x) (ha : PA X (e :: es) t) (hdb : (x == ("__debug__" : Str)) = false := by decide)
    (he : starEach (e :: es) X.env = (false, eval e X.env) :: starEach es X.env := by rfl) (hpl : (backTo pos (starEach es X.env)).any (·.1) = false := by rfl) : PE X (.Call (.Name x p) (e :: es) [] pos) (tMake C sp dvs E0 t) := by
  have ⟨f, fd, ps, ds, M, F, hm, b, d⟩ := c.ex
  exact pe_make M F (hr.mono hk) hg hm b d pass0 ha hdb he hpl
/-- a module's constant -/
theorem pe_gi {i : Int} (hg : Gl X x) (h : ∃ t, X.mg x = some (.int i t)) (hdb : (x == ("__debug__" : Str)) = false := by decide) : PE X (.Name x pos) (tC (.int i)) := by
  have ⟨t, ht⟩ := h
  exact pe_glob (v := .int i) hg ht ⟨t, rfl⟩ hdb
end
/-! x = {k: v for ..} on one line, x a local -/
section
variable {X : Cx}
theorem ps_setDc {i : Nat} {y : Str} {py : Pos} {kx vx tg iter : Expr} {ifs : List Expr} {scope : Scope} {own : List (Str × Nat)} {pos spos : Pos} {wi : TI} {g : TG} {tt : TT} {tk tv : TE} (hc : X.calm = true) (hN : X.N.Nodup) (hy : X.N[i]? = some y) (hyl : X.env.scope.names.lookup y = some .local)
    (hsw : swapsWith (.DictComp kx vx [⟨tg, iter, ifs, 0⟩] scope pos) (some (.Name y py)) spos.line X.env = pure true) (hi : PI X tg iter wi) (ok : BlkOk X.N X.env.scope scope own)
    (hg : ∀ (s : Shared) (H : Hp) (C : Addr) (cl : List (Str × Addr)) (fp : List Addr), PG (X.blk s H scope (compEnvC scope cl C X.env) fp) tg g) (ht : ∀ (s : Shared) (H : Hp) (C : Addr) (cl : List (Str × Addr)) (fp : List Addr), PTs (X.blk s H scope (compEnvC scope cl C X.env) fp) ifs tt)
    (hk : ∀ (s : Shared) (H : Hp) (C : Addr) (cl : List (Str × Addr)) (fp : List Addr), PE (X.blk s H scope (compEnvC scope cl C X.env) fp) kx tk)
    (he : ∀ (s : Shared) (H : Hp) (C : Addr) (cl : List (Str × Addr)) (fp : List Addr), PE (X.blk s H scope (compEnvC scope cl C X.env) fp) vx tv) (hs : ∀ x, foldedSetIterable iter X.env x = pure x := by intro _; rfl) :
    PS X (.Assign [.Name y py] (.DictComp kx vx [⟨tg, iter, ifs, 0⟩] scope pos) spos) (tAsg (tDc wi g tt tk tv (own.map (·.2))) (gName i)) := by
  refine ⟨fun pins s0 σ0 H0 D I0 h0 => ?_⟩
  rw [exec_Assign_Name_used _ _ _ _ hsw]
  refine wpAny_bind (wpAny_standAt (wpAny_bind ?_))
  show wpAny _ X.A (do let _ ← comprehension (.DictComp kx vx [⟨tg, iter, ifs, 0⟩] scope pos) scope X.env (firstIterPos [⟨tg, iter, ifs, 0⟩] pos) newDict false (eval iter X.env) (some (assign (.Name y py) X.env))) _ _ s0
  have h1 : tDc wi g tt tk tv (own.map (·.2)) σ0 H0 (fun x H1 => gName i x σ0 H1 D.nx) := h0
  refine wpAny_bind (thn (dc_core (Qf := fun _ s' => SP X pins D .next s') hc hN I0 hi ok hg ht hk he hs h1 fun L C s1 m H1 I1 q1 n1 f1 => ?_) fun _ _ hq => wpAny_pure (wpAny_pure hq))
  show wpAny _ _ (assign (.Name y py) X.env (.ref L)) _ _ _
  refine wpAny_assign_Name (store_ok2 (v := V.ref L) I1 hN hy (.inl hyl) rfl (fun s2 I2 ⟨a, sb, ha⟩ => ?_) (.inr hyl))
  have ⟨g0, g1, g2, g3, g4, g5⟩ := f1
  have hCa : C ≠ a := ha.elim (fun z => by rw [z]; exact g1) fun z e => g4 y a z e.symm
  exact ⟨m, n1.sameBut sb hCa, fun h3 sb3 => ⟨_, H1, I2.turned (t' := s2.toks) (fun b o hb e => (sb3.2 b hb).trans e) g0 g1 g3 g4 g5, q1⟩⟩
theorem sw_trueD {kx vx : Expr} {gs : List Comprehension} {scope : Scope} {pos py : Pos} {y : Str} {l : Nat} {env : Env} (hk : env.scope.kind = .function) (hy : env.scope.names.lookup y = some .local) (hl : (py.line == pos.line) = true)
    (ha : (scope.names.any fun (n, k) => n == y && (k == .local || k == .cell)) = false) : swapsWith (.DictComp kx vx gs scope pos) (some (.Name y py)) l env = pure true := by
  have k1 : env.kindOf y = some .local := hy
  have k2 : env.blockKind = .function := by rw [Env.blockKind, hk]; rfl
  simp only [swapsWith, k2, k1, ha, Expr.pos, hl]
  rfl
end
/-! for i, x in enumerate(a tuple) -/
def IteT (K : PySem.W.Frag) (a : Addr) : It :=
  ⟨fun i H => ∃ (xs : List V) (x : V), SqT K H a xs ∧ xs[i]? = some x, fun i H v H' => ∃ T x, v = .ref T ∧ H T = none ∧ H' = upd H T (.tup [.int (i : Nat), x]) ∧ ∀ xs, SqT K H a xs → xs[i]? = some x, fun i H => ∃ xs : List V, SqT K H a xs ∧ xs.length ≤ i⟩
theorem meets_enum1 {v : Value} {o : Obj} {H : Heap → Prop} (B : Begins v o H) :
    Meets (Builtin.«enumerate.__new__» ⟨[.type "enumerate", v], []⟩) (fun _ R s => H s.heap ∧
      R (.ok (.ret (.ref (s.heap.push o).objs.size))) { s with heap := (s.heap.push o).push { cls := .type "enumerate", data := .fields #[.none, .bool false, .ref s.heap.objs.size, rawInt 0, .none, .none] } }) :=
  .of_wp fun prog w A R s h => by
    obtain ⟨hp, g, d, tk, os⟩ := s; have ⟨h1, h2⟩ := h
    have hsub := sub_enumerate
    have q1 : ∀ {A' : Around} {E : Value → Shared → Prop} {Q : Value → Shared → Prop}, Q (.ref hp.objs.size) ⟨hp.push o, g, d, tk, os⟩ → wpAny (model prog w) A' (pyIter v) Q E ⟨hp, g, d, tk, os⟩ :=
      fun q => B.iter prog w _ _ ⟨hp, g, d, tk, os⟩ _ h1 q
    wp_walk using q1
    refine wpAny_stack_any fun st => wpAny_pure ?_
    split
    · rename_i c _ _ _ _ _
      cases (c == Value.type "enumerate") <;> (wp_walk using q1; exact ⟨_, rfl, h2⟩)
    · wp_walk using q1
      exact ⟨_, rfl, h2⟩
theorem enum_begins1 {prog : Program} {w : World} {A : Around} {E : Value → Shared → Prop} {s : Shared} {v : Value} {o : Obj} {H : Heap → Prop} {Q : Value → Shared → Prop} (B : Begins v o H) (h1 : H s.heap)
    (h : ∀ h', IsEnum h' (s.heap.objs.size + 1) s.heap.objs.size 0 .none → h'.get? s.heap.objs.size = some o → h'.objs.size = s.heap.objs.size + 2 → (∀ b o, s.heap.get? b = some o → h'.get? b = some o) → Q (.ref (s.heap.objs.size + 1)) { s with heap := h' }) :
    wpAny (model prog w) A (call (.type "enumerate") [v]) Q E s := by
  refine callType_new F.called_enumerate (by decide) (F.typeCall_enumerate_1 _) (F.newCall_enumerate_1 _) (fun obj => F.args_object_init_2 obj _) F.entry_enumerate_new (meets_enum1 B) ⟨h1, ?_⟩
  have hz : (s.heap.push o).objs.size = s.heap.objs.size + 1 := Heap.size_push ..
  show _ ∧ _; rw [hz]
  have he : IsEnum ((s.heap.push o).push { cls := .type "enumerate", data := .fields #[.none, .bool false, .ref s.heap.objs.size, rawInt 0, .none, .none] }) (s.heap.objs.size + 1) s.heap.objs.size 0 .none := by
    have := Heap.get?_push_size (s.heap.push o) (o := { cls := .type "enumerate", data := .fields #[.none, .bool false, .ref s.heap.objs.size, rawInt 0, .none, .none] }) rfl
    rwa [hz] at this
  exact ⟨⟨_, he, rfl⟩, h _ he (Heap.get?_push_of_some _ (Heap.get?_push_size _ B.free)) (by rw [Heap.size_push, hz]) fun b o x => Heap.get?_push_of_some _ (Heap.get?_push_of_some _ x)⟩
theorem turn_enumT {P : Program} {w : World} {K : PySem.W.Frag} {elts : List Expr} {kk : Nat} {tpos : Pos} (a e it : Addr) :
    Turn P w K (.Tuple elts kk tpos) (IteT K a) [e, it] e (fun i h => (∃ old, IsEnum h e it ((i : Nat) : Int) old) ∧ h.IsTupleIter it a i ∧ e ≠ it ∧ a ≠ it ∧ a ≠ e) where
  mem := List.mem_cons_self
  obj := fun i h st b hb => by
    have ⟨⟨old, he⟩, ⟨o, ho, hc, hd⟩, _⟩ := st
    rcases (show b = e ∨ b = it by simpa using hb) with z | z <;> rw [z]
    · exact ⟨_, he, fun v q => nomatch q⟩
    · exact ⟨o, ho, fun v q => by rw [hd] at q; cases q⟩
  keep := fun i h h' st k => ⟨st.1.imp fun old he => k e (by simp) _ he, st.2.1.at fun o q => k it (by simp) o q, st.2.2⟩
  item := fun X hP hw hK hc i pins s σ H E I hf st hg => by
    subst hP hw hK
    have ⟨⟨old, he⟩, hit, hne, hai, hae⟩ := st
    have ⟨xs, x, hq, hx⟩ := hg
    have ⟨its, rv, p, hz⟩ := I.tuple hq
    have ⟨u, hu, ru⟩ := rv.get hx
    have hel : e < s.heap.objs.size := Heap.lt_size he
    have hil : it < s.heap.objs.size := hit.elim fun _ q => Heap.lt_size q.1
    have hlt : i < its.toArray.size := by rw [List.size_toArray]; exact (List.getElem?_eq_some_iff.mp hu).1
    have pt : s.heap.IsTuple a its.toArray := p
    refine wpAny_pyNext_enum_itemD (Draws.tuple (A := X.A.in1) (show X.A.in1.handled = none from I.ok.hd hc) it a hai its.toArray) he ⟨hit, pt⟩ hlt hne (by simp [hne, hae.symm]) fun x' h' tk hPx ho hst' hT hsz hk => ?_
    have ex : x' = u := by
      have z : its.toArray[i]? = some x' := hPx
      rw [List.getElem?_toArray, hu] at z
      exact (Option.some.inj z).symm
    subst ex
    refine ⟨_, rfl, wpAny_letOwnedTupleGo_enum (s := { s with heap := h', toks := tk + 1 }) ho fun h'' he' sb => ?_⟩
    have hT2 : h''.get? s.heap.objs.size = some { cls := .type "tuple", data := .seq #[.int i tk, x'] } := (sb.2 _ (Nat.ne_of_gt hel)).trans hT
    have new : ObjOk X.prog X.w (upd H s.heap.objs.size (.tup [.int (i : Nat), x])) h'' s.heap.objs.size (.tup [.int (i : Nat), x]) := ⟨(by decide : 2 ≤ sizeLine), [.int i tk, x'], .cons ⟨_, rfl⟩ (.cons ru .nil), ⟨_, hT2, rfl, _, rfl⟩⟩
    have lt' : ∀ b, b ∈ [e, it] → b < s.heap.objs.size := fun b hb => by
      rcases (show b = e ∨ b = it by simpa using hb) with z | z <;> rw [z] <;> assumption
    have I1 : Inv X pins σ (upd H s.heap.objs.size (.tup [.int (i : Nat), x])) { s with heap := h'', toks := tk + 1 } :=
      I.turnedNew (ch := [e, it]) (fun b ob hb q => (sb.2 b fun z => hb (by simp [z])).trans (hk b ob (fun z => hb (by simp [z])) (fun z => hb (by simp [z])) q)) hf (Nat.le_refl _) new
    refine ⟨.ref s.heap.objs.size, _, I1, rfl, ⟨_, x, rfl, I.hok.fresh (Nat.le_refl _), rfl, fun ys hy => by rw [I.tuple_inj hy hq]; exact hx⟩, ⟨⟨x', ?_⟩, hst'.1.at fun o q => (sb.2 it (Ne.symm hne)).trans q, hne, hai, hae⟩, fun b hb => ?_⟩
    · rw [show ((i + 1 : Nat) : Int) = (i : Int) + 1 by omega]; exact he'
    · rw [upd_ne (Nat.ne_of_lt (lt' b hb))]
      exact (hf b hb).1
  done := fun X hP hw hK hc i pins s σ H E I hf st hg => by
    subst hP hw hK
    have ⟨⟨old, he⟩, hit, hne, hai, hae⟩ := st
    have ⟨xs, hq, hx⟩ := hg
    have ⟨its, rv, p, hz⟩ := I.tuple hq
    have ⟨f0, f1, f2, f3, f4, f5⟩ := hf it (by simp)
    have hl := rv.length
    have pt : s.heap.IsTuple a its.toArray := p
    have D0 : Draws X.prog X.w X.A.in1 it [it, a] 0 (fun _ _ => False) (fun _ h => h.IsTupleIter it a i ∧ h.IsTuple a its.toArray) :=
      { live := fun _ _ st => st.1.imp fun _ q => q.1
        frame := fun _ _ _ st hk => ⟨st.1.at fun o e => hk it (by simp) o e, st.2.at fun o e => hk a (by simp) o e⟩
        item := fun j s Q E hj => absurd hj (Nat.not_lt_zero _)
        done := fun s Q E st hE => wpAny_nextOf_tuple_end (show X.A.in1.handled = none from I.ok.hd hc) st.1 st.2 (by simp; omega) hE }
    exact wpAny_pyNext_enum_endD D0 he ⟨hit, pt⟩ fun h' eb => ⟨rfl, I.turned (t' := s.toks) (fun b o hb q => eb b o hb q) f0 f1 f3 f4 f5⟩
  self := fun A i s Q E st h => st.1.elim fun _ he => wpAny_pyIter_enum he h
def iEnumT (K : PySem.W.Frag) (ta : TA) : TI := fun σ H R => ta σ H fun vs H1 => ∃ a xs, vs = [.ref a] ∧ SqT K H1 a xs ∧ R (IteT K a) H1
theorem pi_enumT {X : Cx} {e : Expr} {ta : TA} {p pos tpos : Pos} {elts : List Expr} {kk : Nat} (hg : Gl X "enumerate") (hm : X.mg "enumerate" = none) (ha : PA X [e] ta) (hs : starEach [e] X.env = [(false, eval e X.env)] := by rfl) :
    PI X (.Tuple elts kk tpos) (.Call (.Name "enumerate" p) [e] [] pos) (iEnumT X.K ta) := by
  refine ⟨fun pins s0 σ0 H0 R I0 h0 => ?_⟩
  refine Call_ (ld_blt I0 hg hm boot_enumerate (PyProof.Rows.callWith_type1 (thn (ha.run pos pins s0 σ0 H0 _ I0 h0) fun us s1 ⟨vs, H1, I1, r1, q1⟩ => ?_) hs rfl))
  have ⟨a, xs, ex, hq, q⟩ := q1
  subst ex
  cases r1 with
  | cons r rr =>
    cases rr; cases r
    have ⟨its, rv, p', hz⟩ := I1.tuple hq
    have pt : s1.heap.IsTuple a its.toArray := p'
    refine enum_begins1 (begins_tuple a its.toArray) pt fun h' he hit hsz hk => wpAny_pyIter_enum he ?_
    have I2 : Inv X pins σ0 H1 { s1 with heap := h' } := I1.kept (t' := s1.toks) hk
    have hal : a < s1.heap.objs.size := pt.elim fun _ q => Heap.lt_size q.1
    refine ⟨s1.heap.objs.size + 1, [s1.heap.objs.size + 1, s1.heap.objs.size], _, _, H1, rfl, I2, turn_enumT a (s1.heap.objs.size + 1) s1.heap.objs.size, ⟨⟨.none, he⟩, ⟨_, hit, rfl, rfl⟩, Nat.succ_ne_self _, Nat.ne_of_lt hal, Nat.ne_of_lt (Nat.lt_succ_of_lt hal)⟩, fun b hb => ?_, q⟩
    have hle : s1.heap.objs.size ≤ b := by
      rcases (show b = s1.heap.objs.size + 1 ∨ b = s1.heap.objs.size by simpa using hb) with z | z <;> rw [z]
      · exact Nat.le_add_right _ _
      · exact Nat.le_refl _
    exact I1.fpOk hle (I1.hok.fresh hle)
/-! the same rules with the written part by its name (their readings must not name a comprehension's own block) -/
section
variable {X : Cx} (K : PySem.W.Frag)
def rLenQ : List V → Hp → VK → Prop := fun xs H Q => ∃ p ys, xs = [.ref p] ∧ (SqL K H p ys ∨ SqT K H p ys) ∧ Q (.int ys.length) H
def rListQ : List V → Hp → VK → Prop := fun xs H Q => ∃ p ys, xs = [.ref p] ∧ (SqL K H p ys ∨ SqT K H p ys) ∧ ∀ l, H l = none → Q (.ref l) (upd H l (.lst ys))
def rTupQ : List V → Hp → VK → Prop := fun xs H Q => ∃ p ys, xs = [.ref p] ∧ (H p = some (.lst ys) ∨ H p = some (.tup ys)) ∧ ∀ H' l, Same H H' → (H l = none ∨ l = p) → H' l = some (.tup ys) → Q (.ref l) H'
theorem kLen (h : X.K = K := by rfl) : CallR X (.builtin "len") (rLenQ K) := by subst h; exact call_len_seq
theorem kList (h : X.K = K := by rfl) : CallR X (.type "list") (rListQ K) := by subst h; exact call_list_of
theorem kTuple : CallR X (.type "tuple") rTupQ := fun pins s σ H xs us Q I r ⟨p, ys, ex, hp, q⟩ =>
  call_tuple_of pins s σ H xs us Q I r ⟨p, ys, ex, hp.elim (fun h => .inl ⟨.inl (.inl h), fun l nl => q _ l (fun b x e => by rw [upd_ne (ne_of_none e nl)]; exact e) (.inl nl) upd_same⟩) fun h => .inr ⟨.inl (.inl h), q H p (Same.refl H) (.inr rfl) h⟩⟩
theorem kSum (hc : X.calm = true) (h : X.K = K := by rfl) : CallR X (.builtin "sum") (rSum K) := by subst h; exact cr_sum hc
theorem kAll (hc : X.calm = true) (h : X.K = K := by rfl) : CallR X (.builtin "all") (rAll K) := by subst h; exact cr_all hc
theorem kSortedS (h : X.K = K := by rfl) : CallR X (.builtin "sorted") (rSortedS K) := by subst h; exact cr_sortedS
theorem kIsi (h : X.K = K := by rfl) : CallR X (.builtin "isinstance") (rIsi K) := by subst h; exact call_isi
theorem kIsiT (h : X.K = K := by rfl) : CallR X (.builtin "isinstance") (rIsiT K) := by subst h; exact call_isiT
theorem kEqD (hu : X.A.units + 64 < cLine) (h : X.K = K := by rfl) : OpR X (compareOp .Eq) (rEqD K) := by subst h; exact op_eqD hu
theorem kNeD (hu : X.A.units + 64 < cLine) (h : X.K = K := by rfl) : OpR X (compareOp .NotEq) (rNeD K) := by subst h; exact op_neD hu
theorem kIn (h : X.K = K := by rfl) : OpR X (compareOp .In) (rIn K false) := by subst h; exact op_in_seq
theorem kNotIn (h : X.K = K := by rfl) : OpR X (compareOp .NotIn) (rIn K true) := by subst h; exact op_notIn_seq
/-- tuple + tuple, a part of a tuple, tuple(x): a tuple stands there, new or not -/
def rCatU : R2 := fun x y H Q => ∃ a b xs ys, x = .ref a ∧ y = .ref b ∧ H a = some (.tup xs) ∧ H b = some (.tup ys) ∧ xs.length + ys.length ≤ sizeLine ∧ ∀ H' p, Same H H' → (H p = none ∨ p = a ∨ p = b) → H' p = some (.tup (xs ++ ys)) → Q (.ref p) H'
theorem new_same {H : Hp} {p : Addr} {o : HO} (h : H p = none) : Same H (upd H p o) := fun b x e => by rw [upd_ne (ne_of_none e h)]; exact e
theorem kCatT : OpR X (binaryOp .Add) rCatU := fun pins s σ H x y v u Q I rx ry ⟨a, b, xs, ys, ex, ey, ha, hb, hl, q⟩ =>
  op_catA pins s σ H x y v u Q I rx ry ⟨a, b, xs, ys, ex, ey, .inl (.inl ha), .inl (.inl hb), hl, fun e => by subst e; exact q H b (Same.refl H) (.inr (.inr rfl)) hb, fun _ e => by subst e; exact q H a (Same.refl H) (.inr (.inl rfl)) (by rw [List.append_nil]; exact ha), fun _ _ p np => q _ p (new_same np) (.inl np) upd_same⟩
def rSlU : V → Option Int → Option Int → Hp → VK → Prop := fun x lo hi H Q => ∃ a xs, x = .ref a ∧ H a = some (.tup xs) ∧ ∀ H' p, Same H H' → (H p = none ∨ p = a) → H' p = some (.tup (cutV xs lo hi)) → Q (.ref p) H'
theorem kSlT : SlR X rSlU := fun pins s σ H x v vl vu lo hi sl Q I rx hs pl pu ⟨a, xs, ex, ha, q⟩ =>
  sl_tupA pins s σ H x v vl vu lo hi sl Q I rx hs pl pu ⟨a, xs, ex, .inl (.inl ha), fun ⟨e1, e2⟩ => q H a (Same.refl H) (.inr rfl) (by unfold cutV; rw [e1, e2, List.drop_zero, Nat.sub_zero, List.take_length]; exact ha), fun _ p np => q _ p (new_same np) (.inl np) upd_same⟩
theorem kIxL (h : X.K = K := by rfl) : IxR X (rIxL K) := by subst h; exact ix_list
theorem kIxT (h : X.K = K := by rfl) : IxR X (rIxT K) := by subst h; exact ix_tup
theorem kIxQ (h : X.K = K := by rfl) : IxR X (rIx K) := by subst h; exact ix_seq
theorem kSlL (h : X.K = K := by rfl) : SlR X (rSlL K) := by subst h; exact sl_list
theorem kpg_tup {es : List Expr} {k : Nat} {t : TGs} {n : Nat} {pos : Pos} (hc : X.calm = true) (h : PGs X es t) (hk : X.K = K := by rfl) (hn : (assignEach es X.env).length = n := by rfl) (hst : (assignEach es X.env).findIdx? (·.1) = none := by rfl) : PG X (.Tuple es k pos) (gTup K n t) := by
  subst hk; exact pg_tup hc h hn hst
theorem kpi_list {tg l : Expr} {tl : TE} (hl : PE X l tl) (h : X.K = K := by rfl) : PI X tg l (iList K tl) := by subst h; exact pi_list hl
theorem kpi_tup {tg l : Expr} {tl : TE} (hl : PE X l tl) (h : X.K = K := by rfl) : PI X tg l (iTup K tl) := by subst h; exact pi_tup hl
theorem kpi_zip {e e2 : Expr} {ta : TA} {p pos tpos : Pos} {elts : List Expr} {kk : Nat} (hg : Gl X "zip") (hm : X.mg "zip" = none) (ha : PA X [e, e2] ta) (h : X.K = K := by rfl)
    (hs : starEach [e, e2] X.env = (false, eval e X.env) :: starEach [e2] X.env := by rfl) (hpl : (backTo pos (starEach [e2] X.env)).any (·.1) = false := by rfl) : PI X (.Tuple elts kk tpos) (.Call (.Name "zip" p) [e, e2] [] pos) (iZip K ta) := by
  subst h; exact pi_zip hg hm ha hs hpl
theorem kpi_enum {e : Expr} {ta : TA} {p pos tpos : Pos} {elts : List Expr} {kk : Nat} (hg : Gl X "enumerate") (hm : X.mg "enumerate" = none) (ha : PA X [e] ta) (h : X.K = K := by rfl) (hs : starEach [e] X.env = [(false, eval e X.env)] := by rfl) :
    PI X (.Tuple elts kk tpos) (.Call (.Name "enumerate" p) [e] [] pos) (iEnum K ta) := by subst h; exact pi_enum hg hm ha hs
theorem kpi_enumT {e : Expr} {ta : TA} {p pos tpos : Pos} {elts : List Expr} {kk : Nat} (hg : Gl X "enumerate") (hm : X.mg "enumerate" = none) (ha : PA X [e] ta) (h : X.K = K := by rfl) (hs : starEach [e] X.env = [(false, eval e X.env)] := by rfl) :
    PI X (.Tuple elts kk tpos) (.Call (.Name "enumerate" p) [e] [] pos) (iEnumT K ta) := by subst h; exact pi_enumT hg hm ha hs
theorem kfld {e : Expr} {f : Str} {ta : TE} {pos : Pos} (he : PE X e ta) (hb : attributeBase e f X.env (eval e X.env) = eval e X.env := by rfl) (h : X.K = K := by rfl) : PE X (.Attribute e f pos) (tFld K ta f) := by subst h; exact pe_fld he hb
end
/-- a built-in class as a value -/
theorem pe_ty {X : Cx} {x : Str} {pos : Pos} (n : String) (hg : Gl X x) (hm : X.mg x = none) (hv : bootBuiltins x = some (.type n)) (hn : x ≠ "__name__" := by decide) (hd : (x == ("__debug__" : Str)) = false := by decide) : PE X (.Name x pos) (tC (.ty n)) :=
  pe_bltn (v := .ty n) hg hm hv rfl hn hd
end Ls

namespace Df
variable {α : Type} [DecidableEq α]
/-- a difference: left, right, limit -/
abbrev Row (α : Type) := α × α × Int
def Solves (S : List (Row α)) (p : α → Int) : Prop := ∀ e ∈ S, p e.1 - p e.2.1 ≤ e.2.2
def put {β : Type} (f : α → β) (a : α) (v : β) : α → β := fun x => if x = a then v else f x
theorem put_same {β : Type} {f : α → β} {a : α} {v : β} : put f a v a = v := if_pos rfl
theorem put_ne {β : Type} {f : α → β} {a x : α} {v : β} (h : x ≠ a) : put f a v x = f x := if_neg h
def ins (ks : List α) (a : α) : List α := if a ∈ ks then ks else ks ++ [a]
theorem mem_ins {ks : List α} {a x : α} : x ∈ ins ks a ↔ x ∈ ks ∨ x = a := by
  unfold ins
  split
  · rename_i h
    constructor
    · exact Or.inl
    · rintro (h' | rfl)
      · exact h'
      · exact h
  · simp
theorem nd_ins {ks : List α} {a : α} (h : ks.Nodup) : (ins ks a).Nodup := by
  unfold ins
  split
  · exact h
  · rename_i hn
    rw [List.nodup_append]
    refine ⟨h, by simp, fun x hx y hy => ?_⟩
    rw [List.mem_singleton.mp hy]
    exact fun e => hn (e ▸ hx)

/-- the state of the rounds, turn t, place p; w worth, ks and b the names and positions of before, τ the time of a name's last update -/
structure BF (S : List (Row α)) (w : α → Int) (ks : List α) (b : α → Nat) (τ : α → Nat) (t p : Nat) : Prop where
  nd : ks.Nodup
  mem : ∀ x, x ∈ ks ↔ 0 < τ x
  pre : ∀ x, x ∈ ks → ∃ e, S[b x]? = some e ∧ e.1 = x ∧ w e.2.1 + e.2.2 ≤ w x ∧ (τ e.2.1 < τ x ∨ w e.2.1 + e.2.2 < w x) ∧ τ x ≤ τ e.2.1 + S.length
  le : ∀ x, τ x ≤ t * S.length + p
  sat : ∀ (q : Nat) e, S[q]? = some e → w e.1 ≤ w e.2.1 + e.2.2 ∨ (q < p → t * S.length + q + 1 < τ e.2.1) ∧ (p ≤ q → t = 0 ∨ t * S.length + q + 1 < τ e.2.1 + S.length)

theorem BF.start (S : List (Row α)) (w : α → Int) (b : α → Nat) : BF S w [] b (fun _ => 0) 0 0 where
  nd := List.nodup_nil
  mem := fun x => by simp
  pre := fun x h => by simp at h
  le := fun x => Nat.zero_le _
  sat := fun q e h => .inr ⟨fun z => absurd z (Nat.not_lt_zero _), fun _ => .inl rfl⟩

theorem BF.turn {S : List (Row α)} {w : α → Int} {ks : List α} {b : α → Nat} {τ : α → Nat} {t : Nat} (h : BF S w ks b τ t S.length) : BF S w ks b τ (t + 1) 0 where
  nd := h.nd
  mem := h.mem
  pre := h.pre
  le := fun x => by
    have := h.le x
    rw [Nat.succ_mul]
    exact this
  sat := fun q e he => by
    rcases h.sat q e he with z | ⟨z, _⟩
    · exact .inl z
    · refine .inr ⟨fun k => absurd k (Nat.not_lt_zero _), fun _ => .inr ?_⟩
      have hq : q < S.length := (List.getElem?_eq_some_iff.mp he).1
      have := z hq
      rw [Nat.succ_mul]
      omega

theorem BF.keep {S : List (Row α)} {w : α → Int} {ks : List α} {b : α → Nat} {τ : α → Nat} {t p : Nat} {l r : α} {c : Int} (h : BF S w ks b τ t p) (he : S[p]? = some (l, r, c)) (hs : w l ≤ w r + c) : BF S w ks b τ t (p + 1) where
  nd := h.nd
  mem := h.mem
  pre := h.pre
  le := fun x => by have := h.le x; omega
  sat := fun q e hq => by
    by_cases hqp : q = p
    · subst hqp
      rw [he] at hq
      cases hq
      exact .inl hs
    · rcases h.sat q e hq with z | ⟨z1, z2⟩
      · exact .inl z
      · exact .inr ⟨fun k => z1 (by omega), fun k => z2 (by omega)⟩

theorem BF.step {S : List (Row α)} {w : α → Int} {ks : List α} {b : α → Nat} {τ : α → Nat} {t p : Nat} {l r : α} {c : Int} (h : BF S w ks b τ t p) (he : S[p]? = some (l, r, c)) (hne : ∀ e ∈ S, e.1 ≠ e.2.1) (hv : w r + c < w l) :
    BF S (put w l (w r + c)) (ins ks l) (put b l p) (put τ l (t * S.length + p + 1)) t (p + 1) := by
  have hp : p < S.length := (List.getElem?_eq_some_iff.mp he).1
  have hlr : r ≠ l := fun z => hne _ (List.mem_of_getElem? he) z.symm
  have hnew : t * S.length + p + 1 ≤ τ r + S.length := by
    rcases h.sat p _ he with z | ⟨_, z⟩
    · exact absurd z (by show ¬ w l ≤ w r + c; omega)
    · rcases z (Nat.le_refl _) with z | z
      · subst z; omega
      · have z : t * S.length + p + 1 < τ r + S.length := z
        omega
  refine ⟨nd_ins h.nd, fun x => ?_, fun x hx => ?_, fun x => ?_, fun q e hq => ?_⟩
  · rw [mem_ins]
    by_cases hx : x = l
    · subst hx
      rw [put_same]
      simp
    · rw [put_ne hx, h.mem x]
      simp [hx]
  · by_cases hxl : x = l
    · subst hxl
      refine ⟨(x, r, c), by rw [put_same]; exact he, rfl, ?_, .inl ?_, ?_⟩
      · show put w x (w r + c) r + c ≤ put w x (w r + c) x
        rw [put_same, put_ne hlr]
        exact Int.le_refl _
      · show put τ x _ r < put τ x _ x
        rw [put_same, put_ne hlr]
        have := h.le r
        omega
      · show put τ x _ x ≤ put τ x _ r + _
        rw [put_same, put_ne hlr]
        exact hnew
    · have hx' : x ∈ ks := (mem_ins.mp hx).resolve_right hxl
      obtain ⟨e, e1, e2, e3, e4, e5⟩ := h.pre x hx'
      refine ⟨e, by rw [put_ne hxl]; exact e1, e2, ?_⟩
      rw [put_ne hxl, put_ne hxl]
      by_cases hr : e.2.1 = l
      · rw [hr, put_same, put_same]
        rw [hr] at e3 e5
        have := h.le x
        refine ⟨by omega, .inr (by omega), ?_⟩
        have := h.le l
        omega
      · rw [put_ne hr, put_ne hr]
        exact ⟨e3, e4, e5⟩
  · by_cases hx : x = l
    · subst hx
      rw [put_same]
      omega
    · rw [put_ne hx]
      have := h.le x
      omega
  · by_cases hqp : q = p
    · subst hqp
      rw [he] at hq
      cases hq
      refine .inl ?_
      show put w l (w r + c) l ≤ put w l (w r + c) r + c
      rw [put_same, put_ne hlr]
      exact Int.le_refl _
    · by_cases hr : e.2.1 = l
      · right
        rw [hr, put_same]
        have hq' : q < S.length := (List.getElem?_eq_some_iff.mp hq).1
        exact ⟨fun k => by omega, fun k => .inr (by omega)⟩
      · rw [put_ne hr, put_ne hr]
        have hle : put w l (w r + c) e.1 ≤ w e.1 := by
          by_cases hl : e.1 = l
          · rw [hl, put_same]; omega
          · rw [put_ne hl]; exact Int.le_refl _
        rcases h.sat q e hq with z | ⟨z1, z2⟩
        · left
          exact Int.le_trans hle z
        · right
          exact ⟨fun k => z1 (by omega), fun k => z2 (by omega)⟩

/-! ### going back -/
def nx (S : List (Row α)) (b : α → Nat) (x : α) : α := match S[b x]? with
  | some e => e.2.1
  | none => x
def it (S : List (Row α)) (b : α → Nat) : Nat → α → α
  | 0, x => x
  | i + 1, x => nx S b (it S b i x)
theorem it_add (S : List (Row α)) (b : α → Nat) (i : Nat) (x : α) : ∀ j, it S b (i + j) x = it S b j (it S b i x)
  | 0 => rfl
  | j + 1 => by
    show nx S b (it S b (i + j) x) = nx S b (it S b j (it S b i x))
    rw [it_add S b i x j]
theorem it_succ (S : List (Row α)) (b : α → Nat) (i : Nat) (x : α) : it S b (i + 1) x = it S b i (nx S b x) := by
  rw [Nat.add_comm]
  exact it_add S b 1 x i
theorem BF.nx_of {S : List (Row α)} {w : α → Int} {ks : List α} {b : α → Nat} {τ : α → Nat} {t p : Nat} (h : BF S w ks b τ t p) {x : α} (hx : x ∈ ks) :
    ∃ c, S[b x]? = some (x, nx S b x, c) ∧ w (nx S b x) + c ≤ w x ∧ (τ (nx S b x) < τ x ∨ w (nx S b x) + c < w x) ∧ τ x ≤ τ (nx S b x) + S.length := by
  obtain ⟨⟨l, r, c⟩, e1, e2, e3, e4, e5⟩ := h.pre x hx
  have e2 : l = x := e2
  subst e2
  have en : nx S b l = r := by unfold nx; rw [e1]
  rw [en]
  exact ⟨c, e1, e3, e4, e5⟩

theorem nodup_le {l ks : List α} : l.Nodup → (∀ x ∈ l, x ∈ ks) → l.length ≤ ks.length := by
  induction l generalizing ks with
  | nil => intro _ _; exact Nat.zero_le _
  | cons a r ih =>
    intro h hs
    have ha : a ∈ ks := hs a List.mem_cons_self
    have hr := List.nodup_cons.mp h
    have := ih (ks := ks.erase a) hr.2 fun x hx => (List.mem_erase_of_ne (fun (e : x = a) => hr.1 (e ▸ hx))).mpr (hs x (List.mem_cons_of_mem _ hx))
    rw [List.length_erase_of_mem ha] at this
    have : 0 < ks.length := List.length_pos_of_mem ha
    simp only [List.length_cons]
    omega
theorem least {P : Nat → Prop} : ∀ n, P n → ∃ m, P m ∧ ∀ k, k < m → ¬ P k := by
  intro n
  induction n using Nat.strongRecOn with
  | ind n ih =>
    intro h
    by_cases hk : ∃ k, k < n ∧ P k
    · obtain ⟨k, h1, h2⟩ := hk
      exact ih k h1 h2
    · exact ⟨n, h, fun k h1 h2 => hk ⟨k, h1, h2⟩⟩
/-- two places of a long row of names out of few are alike -/
theorem pigeon {ks : List α} {f : Nat → α} {k : Nat} (hk : ks.length ≤ k) (h : ∀ i, i ≤ k → f i ∈ ks) : ∃ i j, i < j ∧ j ≤ k ∧ f i = f j := by
  refine Classical.byContradiction fun hn => ?_
  have hnd : ((List.range (k + 1)).map f).Nodup := by
    rw [List.nodup_iff_pairwise_ne, List.pairwise_map]
    refine List.Pairwise.imp_of_mem ?_ List.pairwise_lt_range
    intro a b ha hb hab e
    exact hn ⟨a, b, hab, by have := List.mem_range.mp hb; omega, e⟩
  have := nodup_le hnd (ks := ks) fun x hx => by
    obtain ⟨i, hi, rfl⟩ := List.mem_map.mp hx
    exact h i (by have := List.mem_range.mp hi; omega)
  simp only [List.length_map, List.length_range] at this
  omega

/-- the last name updated in round n leads back into before as often as one likes, and after ks.length + 1 steps it is on a ring -/
theorem BF.back {S : List (Row α)} {w : α → Int} {ks : List α} {b : α → Nat} {τ : α → Nat} {n p : Nat} {x : α} (h : BF S w ks b τ n p) (hn : ks.length ≤ n) (hx : n * S.length < τ x) : ∀ i, i ≤ ks.length → it S b i x ∈ ks := by
  have key : ∀ i, i ≤ ks.length → n * S.length < τ (it S b i x) + i * S.length := by
    intro i
    induction i with
    | zero => intro _; simpa [it] using hx
    | succ i ih =>
      intro hi
      have hi' := ih (by omega)
      have hm : i * S.length ≤ n * S.length := Nat.mul_le_mul_right _ (by omega)
      have hk : it S b i x ∈ ks := (h.mem _).mpr (by omega)
      obtain ⟨c, _, _, _, e⟩ := h.nx_of hk
      have e : τ (it S b i x) ≤ τ (it S b (i + 1) x) + S.length := e
      rw [Nat.succ_mul]
      omega
  intro i hi
  have := key i hi
  have hm : i * S.length ≤ n * S.length := Nat.mul_le_mul_right _ (by omega)
  exact (h.mem _).mpr (by omega)
theorem BF.ringed {S : List (Row α)} {w : α → Int} {ks : List α} {b : α → Nat} {τ : α → Nat} {n p : Nat} {x : α} (h : BF S w ks b τ n p) (hn : ks.length ≤ n) (hx : n * S.length < τ x) :
    ∃ d, 0 < d ∧ it S b d (it S b (ks.length + 1) x) = it S b (ks.length + 1) x ∧ (∀ i, it S b i (it S b (ks.length + 1) x) ∈ ks) ∧ ∀ j, 0 < j → j < d → it S b j (it S b (ks.length + 1) x) ≠ it S b (ks.length + 1) x := by
  have hb := h.back hn hx
  obtain ⟨i, j, hij, hj, e⟩ := pigeon (f := fun i => it S b i x) (Nat.le_refl _) hb
  have e : it S b i x = it S b j x := e
  -- the ring's names are in before
  have per : ∀ m, it S b (j - i) (it S b (i + m) x) = it S b (i + m) x := fun m => by
    rw [← it_add]
    have : i + m + (j - i) = j + m := by omega
    rw [this, it_add S b j x m, ← e, ← it_add]
  have all : ∀ m, it S b (i + m) x ∈ ks := by
    intro m
    induction m using Nat.strongRecOn with
    | ind m ih =>
      by_cases hm : i + m ≤ ks.length
      · exact hb _ hm
      · have h1 : j - i ≤ m := by omega
        have := per (m - (j - i))
        rw [← it_add] at this
        rw [show i + (m - (j - i)) + (j - i) = i + m by omega] at this
        rw [this]
        exact ih _ (by omega)
  have hy : it S b (ks.length + 1) x = it S b (i + (ks.length + 1 - i)) x := by rw [show i + (ks.length + 1 - i) = ks.length + 1 by omega]
  obtain ⟨d, ⟨hd, hdp⟩, hmin⟩ := least (P := fun d => 0 < d ∧ it S b d (it S b (ks.length + 1) x) = it S b (ks.length + 1) x) (j - i) ⟨by omega, by rw [hy]; exact per _⟩
  refine ⟨d, hd, hdp, fun m => ?_, fun m hm hmd z => hmin m hmd ⟨hm, z⟩⟩
  rw [hy, ← it_add, Nat.add_assoc]
  exact all _

/-! ### rings -/
section
variable [Inhabited α]
def at_ (S : List (Row α)) (q : Nat) : Row α := S.getD q (default, default, 0)
def lefts (S : List (Row α)) (f : List Nat) : List α := f.map fun q => (at_ S q).1
def rights (S : List (Row α)) (f : List Nat) : List α := f.map fun q => (at_ S q).2.1
def limits (S : List (Row α)) (f : List Nat) : List Int := f.map fun q => (at_ S q).2.2
structure IsRing (S : List (Row α)) (f : List Nat) : Prop where
  two : 2 ≤ f.length
  small : ∀ q ∈ f, q < S.length
  round : rights S f = (lefts S f).drop 1 ++ (lefts S f).take 1
  nd : (lefts S f).Nodup
  neg : (limits S f).sum < 0
omit [DecidableEq α] in
theorem at_of {S : List (Row α)} {q : Nat} {e : Row α} (h : S[q]? = some e) : at_ S q = e := by
  unfold at_
  rw [List.getD_eq_getElem?_getD, h]
  rfl
/-- what the walk round a ring finds -/
theorem BF.isRing {S : List (Row α)} {w : α → Int} {ks : List α} {b : α → Nat} {τ : α → Nat} {n p : Nat} {y : α} {d : Nat} (h : BF S w ks b τ n p) (hne : ∀ e ∈ S, e.1 ≠ e.2.1) (hd : 0 < d) (hp : it S b d y = y) (hin : ∀ i, it S b i y ∈ ks)
    (hmin : ∀ j, 0 < j → j < d → it S b j y ≠ y) : IsRing S ((List.range d).map fun i => b (it S b i y)) := by
  have hat : ∀ i, ∃ c, S[b (it S b i y)]? = some (it S b i y, it S b (i + 1) y, c) ∧ w (it S b (i + 1) y) + c ≤ w (it S b i y) ∧ (τ (it S b (i + 1) y) < τ (it S b i y) ∨ w (it S b (i + 1) y) + c < w (it S b i y)) := fun i => by
    obtain ⟨c, e1, e2, e3, _⟩ := h.nx_of (hin i)
    exact ⟨c, e1, e2, e3⟩
  have hl : lefts S ((List.range d).map fun i => b (it S b i y)) = (List.range d).map fun i => it S b i y := by
    unfold lefts
    rw [List.map_map]
    refine List.map_congr_left fun i _ => ?_
    obtain ⟨c, e, _⟩ := hat i
    show (at_ S (b (it S b i y))).1 = _
    rw [at_of e]
  have hr : rights S ((List.range d).map fun i => b (it S b i y)) = (List.range d).map fun i => it S b (i + 1) y := by
    unfold rights
    rw [List.map_map]
    refine List.map_congr_left fun i _ => ?_
    obtain ⟨c, e, _⟩ := hat i
    show (at_ S (b (it S b i y))).2.1 = _
    rw [at_of e]
  have hd2 : d ≠ 1 := fun z => by
    subst z
    obtain ⟨c, e, _⟩ := hat 0
    have := hne _ (List.mem_of_getElem? e)
    exact this hp.symm
  have inj : ∀ i j, i < j → j < d → it S b i y ≠ it S b j y := fun i j hij hj z => by
    refine hmin (i + (d - j)) (by omega) (by omega) ?_
    rw [it_add, z, ← it_add, show j + (d - j) = d by omega, hp]
  refine ⟨by simp; omega, fun q hq => ?_, ?_, ?_, ?_⟩
  · obtain ⟨i, _, rfl⟩ := List.mem_map.mp hq
    obtain ⟨c, e, _⟩ := hat i
    exact (List.getElem?_eq_some_iff.mp e).1
  · rw [hl, hr]
    apply List.ext_getElem?
    intro i
    by_cases hi : i + 1 < d
    · rw [List.getElem?_append_left (by simp; omega)]
      rw [List.getElem?_map, List.getElem?_drop, List.getElem?_map, List.getElem?_range (by omega), List.getElem?_range (by omega), Nat.add_comm 1 i]
      rfl
    · by_cases hi2 : i + 1 = d
      · rw [List.getElem?_append_right (by simp; omega)]
        simp only [List.getElem?_map, List.length_drop, List.length_map, List.length_range, List.getElem?_take]
        rw [List.getElem?_range (by omega), show i - (d - 1) = 0 by omega]
        rw [List.getElem?_range (by omega)]
        rw [if_pos (by omega)]
        show some (it S b (i + 1) y) = some (it S b 0 y)
        rw [hi2, hp]
        rfl
      · rw [List.getElem?_eq_none (by simp; omega), List.getElem?_eq_none (by simp; omega)]
  · rw [hl, List.nodup_iff_pairwise_ne, List.pairwise_map]
    refine List.Pairwise.imp_of_mem ?_ List.pairwise_lt_range
    intro i j hi hj hij
    exact inj i j hij (List.mem_range.mp hj)
  · -- the sum
    have hs : ∀ m, ((limits S ((List.range m).map fun i => b (it S b i y))).sum ≤ w y - w (it S b m y)) ∧ ((∃ k, k < m ∧ ¬ τ (it S b (k + 1) y) < τ (it S b k y)) → (limits S ((List.range m).map fun i => b (it S b i y))).sum < w y - w (it S b m y)) := by
      intro m
      induction m with
      | zero =>
        refine ⟨?_, fun ⟨k, hk, _⟩ => absurd hk (Nat.not_lt_zero _)⟩
        show (0 : Int) ≤ w y - w y
        omega
      | succ m ih =>
        obtain ⟨c, e1, e2, e3⟩ := hat m
        have el : (limits S ((List.range (m + 1)).map fun i => b (it S b i y))).sum = (limits S ((List.range m).map fun i => b (it S b i y))).sum + c := by
          unfold limits
          rw [List.range_succ, List.map_append, List.map_append, List.sum_append]
          congr 1
          show ((at_ S (b (it S b m y))).2.2 :: []).sum = c
          rw [at_of e1]
          simp
        rw [el]
        refine ⟨by omega, fun ⟨k, hk, hk2⟩ => ?_⟩
        by_cases hkm : k < m
        · have := ih.2 ⟨k, hkm, hk2⟩
          omega
        · have hkm : k = m := by omega
          subst hkm
          have := e3.resolve_left hk2
          omega
    have := (hs d).2 (by
      refine Classical.byContradiction fun hno => ?_
      have dec : ∀ m, m ≤ d → τ (it S b m y) + m ≤ τ y := by
        intro m
        induction m with
        | zero => intro _; exact Nat.le_refl _
        | succ m ih =>
          intro hm
          have h1 := ih (by omega)
          have h2 : τ (it S b (m + 1) y) < τ (it S b m y) := Classical.byContradiction fun z => hno ⟨m, by omega, z⟩
          omega
      have := dec d (Nat.le_refl _)
      rw [hp] at this
      omega)
    rw [hp] at this
    omega
omit [DecidableEq α] in
theorem sum_le {S : List (Row α)} {p : α → Int} (h : Solves S p) : ∀ f : List Nat, (∀ q ∈ f, q < S.length) → ((lefts S f).map p).sum - ((rights S f).map p).sum ≤ (limits S f).sum
  | [], _ => by show (0 : Int) - 0 ≤ 0; omega
  | q :: f, hq => by
    have ih := sum_le h f fun k hk => hq k (List.mem_cons_of_mem _ hk)
    have hlt := hq q List.mem_cons_self
    have e : S[q]? = some S[q] := List.getElem?_eq_getElem hlt
    have := h _ (List.mem_of_getElem? e)
    rw [← at_of e] at this
    simp only [lefts, rights, limits, List.map_cons, List.sum_cons] at ih ⊢
    omega
omit [DecidableEq α] in
/-- a system with a ring of negative sum has no solution -/
theorem IsRing.none {S : List (Row α)} {f : List Nat} (h : IsRing S f) (p : α → Int) : ¬ Solves S p := fun hs => by
  have h1 := sum_le hs f h.small
  have h2 := h.neg
  rw [h.round, List.map_append, List.sum_append] at h1
  have h3 : ((lefts S f).map p).sum = (((lefts S f).take 1).map p).sum + (((lefts S f).drop 1).map p).sum := by
    rw [← List.sum_append, ← List.map_append, List.take_append_drop]
  omega
end
def FARI : Int := 1000000000000000000000000000000
def HALFI : Int := 100000000000000000000000000000
theorem FARI_eq : FARI = 1000000000000000000000000000000 := rfl
theorem HALFI_eq : HALFI = 100000000000000000000000000000 := rfl

abbrev Tab (α : Type) := α → α → Int
def blankR : Tab α := fun u v => if u = v then 0 else FARI
def thru (R : Tab α) (l r : α) (c : Int) : Tab α := fun u v => if HALFI < R u l then R u v else if R u v ≤ R u l + (c + R r v) then R u v else R u l + (c + R r v)
def moreR (R : Tab α) (l r : α) (c : Int) : Option (Tab α) := if R l r ≤ c then some R else if R r l + c < 0 then none else some (thru R l r c)
def addedR : Tab α → List (Row α) → Option (Tab α)
  | R, [] => some R
  | R, e :: S => (moreR R e.1 e.2.1 e.2.2).bind fun R' => addedR R' S
/-- R is the tight table of S over ns; B bounds the finite limits -/
structure Ok (ns : List α) (B : Int) (S : List (Row α)) (R : Tab α) : Prop where
  diag : ∀ u ∈ ns, R u u = 0
  size : ∀ u ∈ ns, ∀ v ∈ ns, (-B ≤ R u v ∧ R u v ≤ B) ∨ FARI - B ≤ R u v
  tri : ∀ u ∈ ns, ∀ w ∈ ns, ∀ v ∈ ns, R u w ≤ HALFI → R w v ≤ HALFI → R u v ≤ R u w + R w v
  sound : ∀ p, Solves S p → ∀ u ∈ ns, ∀ v ∈ ns, R u v ≤ HALFI → p u - p v ≤ R u v
  compl : ∀ e ∈ S, R e.1 e.2.1 ≤ e.2.2
theorem Ok.blank (ns : List α) {B : Int} (h0 : 0 ≤ B) (hB : B ≤ 10 ^ 28) : Ok ns B [] (blankR : Tab α) where
  diag := fun u _ => if_pos rfl
  size := fun u _ v _ => by
    unfold blankR
    split
    · left; omega
    · right; omega
  tri := fun u _ w _ v _ h1 h2 => by
    unfold blankR at h1 h2 ⊢
    simp only [HALFI_eq, FARI_eq] at h1 h2 ⊢
    split at h1
    · rename_i e; subst e
      rw [if_pos rfl]; omega
    · omega
  sound := fun p _ u _ v _ h => by
    unfold blankR at h ⊢
    simp only [HALFI_eq, FARI_eq] at h ⊢
    split at h
    · rename_i e; subst e
      rw [if_pos rfl]; omega
    · omega
  compl := fun e he => by cases he
section
variable {ns : List α} {B : Int} {S : List (Row α)} {R : Tab α}
theorem Ok.fin (h : Ok ns B S R) (hB : B ≤ 10 ^ 28) {u v : α} (hu : u ∈ ns) (hv : v ∈ ns) (hf : R u v ≤ HALFI) : -B ≤ R u v ∧ R u v ≤ B := by
  rcases h.size u hu v hv with z | z
  · exact z
  · simp only [HALFI_eq, FARI_eq] at hf z
    omega
theorem Ok.inf (h : Ok ns B S R) (hB : B ≤ 10 ^ 28) {u v : α} (hu : u ∈ ns) (hv : v ∈ ns) (hf : HALFI < R u v) : FARI - B ≤ R u v := by
  rcases h.size u hu v hv with z | z
  · simp only [HALFI_eq, FARI_eq] at hf z
    omega
  · exact z
theorem Ok.wide (h : Ok ns B S R) {B' : Int} (hb : B ≤ B') : Ok ns B' S R :=
  { h with size := fun u hu v hv => by rcases h.size u hu v hv with z | z <;> omega }
theorem thru_le (l r : α) (c : Int) (u v : α) : thru R l r c u v ≤ R u v := by
  unfold thru
  split
  · exact Int.le_refl _
  · split
    · exact Int.le_refl _
    · omega
theorem thru_le2 {l r : α} {c : Int} {u v : α} (h : R u l ≤ HALFI) : thru R l r c u v ≤ R u l + (c + R r v) := by
  unfold thru
  rw [if_neg (by omega)]
  split
  · assumption
  · exact Int.le_refl _
theorem thru_cases (R : Tab α) (l r : α) (c : Int) (u v : α) : thru R l r c u v = R u v ∨ (R u l ≤ HALFI ∧ R u l + (c + R r v) < R u v ∧ thru R l r c u v = R u l + (c + R r v)) := by
  unfold thru
  split
  · exact .inl rfl
  · split
    · exact .inl rfl
    · exact .inr ⟨by omega, by omega, rfl⟩
theorem Ok.thru (h : Ok ns B S R) {l r : α} {c : Int} (hl : l ∈ ns) (hr : r ∈ ns) (hc : -B ≤ c ∧ c ≤ B) (hB : 3 * B ≤ 10 ^ 28) (hn : 0 ≤ R r l + c) : Ok ns (3 * B) (S ++ [(l, r, c)]) (thru R l r c) := by
  have hB1 : B ≤ 10 ^ 28 := by omega
  -- a finite new limit goes through finite ones
  have fin2 : ∀ u ∈ ns, ∀ v ∈ ns, R u l ≤ HALFI → R u l + (c + R r v) ≤ HALFI → R r v ≤ HALFI := fun u hu v hv h1 h2 => by
    by_cases hf : R r v ≤ HALFI
    · exact hf
    · have z1 := h.fin hB1 hu hl h1
      have z2 := h.inf hB1 hr hv (by omega)
      simp only [HALFI_eq, FARI_eq] at *
      omega
  have old : ∀ u ∈ ns, ∀ v ∈ ns, Df.thru R l r c u v ≤ HALFI → (Df.thru R l r c u v = R u v ∧ R u v ≤ HALFI) ∨ (R u l ≤ HALFI ∧ R r v ≤ HALFI ∧ Df.thru R l r c u v = R u l + (c + R r v)) := fun u hu v hv hf => by
    rcases thru_cases R l r c u v with e | ⟨e1, e2, e3⟩
    · exact .inl ⟨e, by omega⟩
    · exact .inr ⟨e1, fin2 u hu v hv e1 (by omega), e3⟩
  refine ⟨fun u hu => ?_, fun u hu v hv => ?_, fun u hu w hw v hv h1 h2 => ?_, fun p hp u hu v hv hf => ?_, fun e he => ?_⟩
  · rcases thru_cases R l r c u u with e | ⟨e1, e2, e3⟩
    · rw [e]; exact h.diag u hu
    · have hd := h.diag u hu
      have f2 := fin2 u hu u hu e1 (by simp only [HALFI_eq]; omega)
      have := h.tri r hr u hu l hl f2 e1
      omega
  · rcases thru_cases R l r c u v with e | ⟨e1, e2, e3⟩
    · rw [e]
      rcases h.size u hu v hv with z | z
      · left; omega
      · right; omega
    · rw [e3]
      have z1 := h.fin hB1 hu hl e1
      rcases h.size r hr v hv with z | z
      · left; omega
      · right; omega
  · rcases old u hu w hw h1 with ⟨e1, f1⟩ | ⟨a1, b1, e1⟩ <;> rcases old w hw v hv h2 with ⟨e2, f2⟩ | ⟨a2, b2, e2⟩
    · have := h.tri u hu w hw v hv f1 f2
      have := thru_le (R := R) l r c u v
      omega
    · have t := h.tri u hu w hw l hl f1 a2
      have z1 := h.fin hB1 hu hw f1
      have z2 := h.fin hB1 hw hl a2
      have hul : R u l ≤ HALFI := by simp only [HALFI_eq]; omega
      have := thru_le2 (R := R) (l := l) (r := r) (c := c) (u := u) (v := v) hul
      omega
    · have t := h.tri r hr w hw v hv b1 f2
      have := thru_le2 (R := R) (l := l) (r := r) (c := c) (u := u) (v := v) a1
      omega
    · have t := h.tri r hr w hw l hl b1 a2
      have := thru_le2 (R := R) (l := l) (r := r) (c := c) (u := u) (v := v) a1
      omega
  · have hp1 : Solves S p := fun e he => hp e (List.mem_append_left _ he)
    have hp2 : p l - p r ≤ c := hp (l, r, c) (by simp)
    rcases old u hu v hv hf with ⟨e1, f1⟩ | ⟨a1, b1, e1⟩
    · rw [e1]; exact h.sound p hp1 u hu v hv f1
    · have s1 := h.sound p hp1 u hu l hl a1
      have s2 := h.sound p hp1 r hr v hv b1
      omega
  · rcases List.mem_append.mp he with he | he
    · exact Int.le_trans (thru_le _ _ _ _ _) (h.compl e he)
    · rw [List.mem_singleton.mp he]
      show Df.thru R l r c l r ≤ c
      have d1 := h.diag l hl
      have d2 := h.diag r hr
      have := thru_le2 (R := R) (l := l) (r := r) (c := c) (u := l) (v := r) (by rw [d1]; decide)
      omega
theorem Ok.same (h : Ok ns B S R) {l r : α} {c : Int} (he : R l r ≤ c) : Ok ns B (S ++ [(l, r, c)]) R :=
  { h with
    sound := fun p hp => h.sound p fun e he => hp e (List.mem_append_left _ he)
    compl := fun e he' => by
      rcases List.mem_append.mp he' with k | k
      · exact h.compl e k
      · rw [List.mem_singleton.mp k]; exact he }
theorem Ok.more (h : Ok ns B S R) {l r : α} {c : Int} (hl : l ∈ ns) (hr : r ∈ ns) (hc : -B ≤ c ∧ c ≤ B) (hB : 3 * B ≤ 10 ^ 28) {R' : Tab α} (e : moreR R l r c = some R') : Ok ns (3 * B) (S ++ [(l, r, c)]) R' := by
  unfold moreR at e
  split at e
  · cases e
    rename_i he
    exact (h.same he).wide (by omega)
  · split at e
    · cases e
    · cases e
      exact h.thru hl hr hc hB (by omega)
theorem Ok.more_none (h : Ok ns B S R) {l r : α} {c : Int} (hl : l ∈ ns) (hr : r ∈ ns) (hc : -B ≤ c ∧ c ≤ B) (hB : 3 * B ≤ 10 ^ 28) (e : moreR R l r c = none) (p : α → Int) : ¬ Solves (S ++ [(l, r, c)]) p := fun hp => by
  unfold moreR at e
  split at e
  · cases e
  · split at e
    · rename_i h1 h2
      have hp1 : Solves S p := fun e he => hp e (List.mem_append_left _ he)
      have hp2 : p l - p r ≤ c := hp (l, r, c) (by simp)
      have := h.sound p hp1 r hr l hl (by simp only [HALFI_eq]; omega)
      omega
    · cases e
/-- all differences added, one behind another -/
theorem Ok.added : ∀ (T : List (Row α)) {S : List (Row α)} {R : Tab α} {B : Int}, Ok ns B S R → (∀ e ∈ T, e.1 ∈ ns ∧ e.2.1 ∈ ns ∧ -B ≤ e.2.2 ∧ e.2.2 ≤ B) → 0 ≤ B → 3 ^ T.length * B ≤ 10 ^ 28 →
    (∀ R', addedR R T = some R' → Ok ns (3 ^ T.length * B) (S ++ T) R') ∧ (addedR R T = none → ∀ p, ¬ Solves (S ++ T) p)
  | [], S, R, B, h, _, _, _ => by
    refine ⟨fun R' e => ?_, fun e => by cases e⟩
    cases e
    simpa using h
  | e :: T, S, R, B, h, hT, h0, hB => by
    obtain ⟨h1, h2, h3, h4⟩ := hT e List.mem_cons_self
    have e3 : (3 : Int) ^ (e :: T).length * B = 3 ^ T.length * (3 * B) := by
      rw [List.length_cons, Int.pow_succ, Int.mul_assoc]
    have e1 : (1 : Int) ≤ 3 ^ T.length := by have := Int.pow_pos (n := 3) (m := T.length) (by decide); omega
    have hB3 : 3 * B ≤ 10 ^ 28 := by
      rw [e3] at hB
      have := Int.mul_le_mul_of_nonneg_right e1 (show 0 ≤ 3 * B by omega)
      omega
    have hB3' : 3 ^ T.length * (3 * B) ≤ 10 ^ 28 := by rw [← e3]; exact hB
    have hS : S ++ e :: T = (S ++ [(e.1, e.2.1, e.2.2)]) ++ T := by simp
    cases hm : moreR R e.1 e.2.1 e.2.2 with
    | none =>
      refine ⟨fun R' k => ?_, fun _ p hp => ?_⟩
      · unfold addedR at k
        rw [hm] at k
        cases k
      · refine h.more_none h1 h2 ⟨h3, h4⟩ hB3 hm p fun d hd => hp d ?_
        rw [hS]
        exact List.mem_append_left _ hd
    | some R1 =>
      have ok1 := h.more h1 h2 ⟨h3, h4⟩ hB3 hm
      obtain ⟨k1, k2⟩ := Ok.added T ok1 (fun d hd => by
        obtain ⟨a, b, c, d'⟩ := hT d (List.mem_cons_of_mem _ hd)
        exact ⟨a, b, by omega, by omega⟩) (by omega) hB3'
      rw [hS, e3]
      have ea : addedR R (e :: T) = addedR R1 T := by
        show (moreR R e.1 e.2.1 e.2.2).bind _ = _
        rw [hm]
        rfl
      rw [ea]
      exact ⟨k1, k2⟩
end

/-! ### a point -/
def valOf (R : Tab α) (z k : α) : Int := if R z k ≤ HALFI then 0 - R z k else if R k z ≤ HALFI then R k z else 0
theorem valOf_le {ns : List α} {B : Int} {S : List (Row α)} {R : Tab α} (h : Ok ns B S R) (h0 : 0 ≤ B) (hB : B ≤ 10 ^ 28) {z k : α} (hz : z ∈ ns) (hk : k ∈ ns) : -B ≤ valOf R z k ∧ valOf R z k ≤ B := by
  unfold valOf
  split
  · have := h.fin hB hz hk (by assumption)
    omega
  · split
    · exact h.fin hB hk hz (by assumption)
    · omega
/-- a name is set to its value: never None -/
theorem Ok.setTo {ns : List α} {B : Int} {S : List (Row α)} {R : Tab α} (h : Ok ns B S R) (h0 : 0 ≤ B) (hB : 9 * B ≤ 10 ^ 28) {z k : α} (hz : z ∈ ns) (hk : k ∈ ns) :
    ∃ R1 R2, moreR R k z (valOf R z k) = some R1 ∧ moreR R1 z k (0 - valOf R z k) = some R2 ∧ Ok ns (9 * B) ((S ++ [(k, z, valOf R z k)]) ++ [(z, k, 0 - valOf R z k)]) R2 := by
  have hB1 : B ≤ 10 ^ 28 := by omega
  have hv := valOf_le h h0 hB1 hz hk
  have e1 : ∃ R1, moreR R k z (valOf R z k) = some R1 ∧ (R1 z k ≤ 0 - valOf R z k ∨ 0 ≤ R1 k z - valOf R z k) := by
    unfold moreR
    by_cases c1 : R k z ≤ valOf R z k
    · rw [if_pos c1]
      refine ⟨R, rfl, ?_⟩
      unfold valOf at c1 ⊢
      split
      · left; omega
      · rename_i g1
        rw [if_neg g1] at c1
        split
        · right; omega
        · rename_i g2
          rw [if_neg g2] at c1
          simp only [HALFI_eq] at g1 g2
          omega
    · rw [if_neg c1]
      have c2 : ¬ R z k + valOf R z k < 0 := by
        unfold valOf
        split
        · omega
        · rename_i g1
          split
          · rename_i g2
            exfalso
            apply c1
            unfold valOf
            rw [if_neg g1, if_pos g2]
            exact Int.le_refl _
          · simp only [HALFI_eq] at g1
            omega
      rw [if_neg c2]
      refine ⟨_, rfl, ?_⟩
      by_cases g1 : R z k ≤ HALFI
      · left
        have := thru_le (R := R) k z (valOf R z k) z k
        have ev : valOf R z k = 0 - R z k := by unfold valOf; rw [if_pos g1]
        omega
      · right
        have d1 := h.diag k hk
        have d2 := h.diag z hz
        unfold Df.thru
        rw [d1, d2, if_neg (by decide)]
        split
        · rename_i g2
          omega
        · omega
  obtain ⟨R1, m1, c⟩ := e1
  have ok1 := h.more hk hz hv (by omega) m1
  have e2 : ∃ R2, moreR R1 z k (0 - valOf R z k) = some R2 := by
    unfold moreR
    by_cases c1 : R1 z k ≤ 0 - valOf R z k
    · rw [if_pos c1]; exact ⟨_, rfl⟩
    · rw [if_neg c1, if_neg (by omega)]; exact ⟨_, rfl⟩
  obtain ⟨R2, m2⟩ := e2
  have ok2 := ok1.more hz hk (by omega) (by omega) m2
  refine ⟨R1, R2, m1, m2, ?_⟩
  rw [show 9 * B = 3 * (3 * B) by omega]
  exact ok2
/-- the values of all names but z, as the table holds them at the end, solve the system -/
theorem Ok.solves {ns : List α} {B : Int} {S T : List (Row α)} {R : Tab α} {x : α → Int} {z : α} (h : Ok ns B (S ++ T) R) (hB : B ≤ 10 ^ 28) (hz : z ∈ ns) (hS : ∀ e ∈ S, e.1 ∈ ns ∧ e.2.1 ∈ ns ∧ e.2.2 ≤ 10 ^ 28)
    (hx : ∀ k ∈ ns, k ≠ z → (k, z, x k) ∈ T ∧ (z, k, 0 - x k) ∈ T ∧ -B ≤ x k ∧ x k ≤ B) : Solves S fun a => if a = z then 0 else x a := by
  have key : ∀ k ∈ ns, k ≠ z → R k z = x k ∧ R z k = 0 - x k := fun k hk hkz => by
    obtain ⟨t1, t2, b1, b2⟩ := hx k hk hkz
    have c1 : R k z ≤ x k := h.compl _ (List.mem_append_right _ t1)
    have c2 : R z k ≤ 0 - x k := h.compl _ (List.mem_append_right _ t2)
    have f1 : R k z ≤ HALFI := by simp only [HALFI_eq]; omega
    have f2 : R z k ≤ HALFI := by simp only [HALFI_eq]; omega
    have t := h.tri k hk z hz k hk f1 f2
    rw [h.diag k hk] at t
    omega
  intro e he
  obtain ⟨l, r, c⟩ := e
  obtain ⟨hl, hr, hc⟩ := hS _ he
  have hl : l ∈ ns := hl
  have hr : r ∈ ns := hr
  have hc : c ≤ 10 ^ 28 := hc
  have hlr : R l r ≤ c := h.compl _ (List.mem_append_left _ he)
  have flr : R l r ≤ HALFI := by simp only [HALFI_eq]; omega
  show (if l = z then 0 else x l) - (if r = z then 0 else x r) ≤ c
  by_cases el : l = z
  · rw [if_pos el]
    by_cases er : r = z
    · rw [if_pos er]
      rw [el, er, h.diag z hz] at hlr
      omega
    · rw [if_neg er]
      have := (key r hr er).2
      rw [el] at hlr
      omega
  · rw [if_neg el]
    obtain ⟨_, _, b1, b2⟩ := hx l hl el
    by_cases er : r = z
    · rw [if_pos er]
      have := (key l hl el).1
      rw [er] at hlr
      omega
    · rw [if_neg er]
      obtain ⟨_, _, b3, b4⟩ := hx r hr er
      have k1 := (key l hl el).1
      have k2 := (key r hr er).1
      have t := h.tri l hl r hr z hz flr (by simp only [HALFI_eq]; omega)
      omega

/-! ### one after another -/
theorem addedR_append (A B : List (Row α)) : ∀ R : Tab α, addedR R (A ++ B) = (addedR R A).bind fun R' => addedR R' B := by
  induction A with
  | nil => intro R; rfl
  | cons e A ih =>
    intro R
    show (moreR R e.1 e.2.1 e.2.2).bind _ = ((moreR R e.1 e.2.1 e.2.2).bind _).bind _
    cases moreR R e.1 e.2.1 e.2.2 with
    | none => rfl
    | some R1 => exact ih R1
theorem addedR_one (R : Tab α) (e : Row α) : addedR R [e] = moreR R e.1 e.2.1 e.2.2 := by
  show (moreR R e.1 e.2.1 e.2.2).bind _ = _
  cases moreR R e.1 e.2.1 e.2.2 <;> rfl
def setR (R : Tab α) (z k : α) (x : Int) : Option (Tab α) := (moreR R k z x).bind fun R1 => moreR R1 z k (0 - x)
def pts (z : α) : Tab α → (α → Int) → List α → Option (Tab α × (α → Int))
  | R, x, [] => some (R, x)
  | R, x, k :: ks => (setR R z k (valOf R z k)).bind fun R' => pts z R' (put x k (valOf R z k)) ks
theorem pts_append (z : α) (A B : List α) : ∀ (R : Tab α) (x : α → Int), pts z R x (A ++ B) = (pts z R x A).bind fun p => pts z p.1 p.2 B := by
  induction A with
  | nil => intro R x; rfl
  | cons k A ih =>
    intro R x
    show (setR R z k (valOf R z k)).bind _ = ((setR R z k (valOf R z k)).bind _).bind _
    cases setR R z k (valOf R z k) with
    | none => rfl
    | some R1 => exact ih R1 _
theorem Ok.pts {ns : List α} {z : α} (hz : z ∈ ns) : ∀ (ks : List α) {S : List (Row α)} {R : Tab α} {B : Int} (x : α → Int), Ok ns B S R → ks.Nodup → (∀ k ∈ ks, k ∈ ns) → 0 ≤ B → 9 ^ ks.length * B ≤ 10 ^ 28 →
    ∃ R' x' T, Df.pts z R x ks = some (R', x') ∧ Ok ns (9 ^ ks.length * B) (S ++ T) R' ∧ (∀ k, k ∉ ks → x' k = x k) ∧ ∀ k ∈ ks, (k, z, x' k) ∈ T ∧ (z, k, 0 - x' k) ∈ T ∧ -(9 ^ ks.length * B) ≤ x' k ∧ x' k ≤ 9 ^ ks.length * B
  | [], S, R, B, x, h, _, _, _, _ => ⟨R, x, [], rfl, by simpa using h, fun _ _ => rfl, fun k hk => by cases hk⟩
  | k :: ks, S, R, B, x, h, hnd, hin, h0, hB => by
    have e9 : (9 : Int) ^ (k :: ks).length * B = 9 ^ ks.length * (9 * B) := by rw [List.length_cons, Int.pow_succ, Int.mul_assoc]
    have e1 : (1 : Int) ≤ 9 ^ ks.length := by have := Int.pow_pos (n := 9) (m := ks.length) (by decide); omega
    rw [e9] at hB ⊢
    have hB9 : 9 * B ≤ 9 ^ ks.length * (9 * B) := by
      have := Int.mul_le_mul_of_nonneg_right e1 (show 0 ≤ 9 * B by omega)
      omega
    have hk := hin k List.mem_cons_self
    obtain ⟨R1, R2, m1, m2, ok2⟩ := h.setTo h0 (by omega) hz hk
    have hv := valOf_le h h0 (by omega) hz hk
    have hnd' := List.nodup_cons.mp hnd
    obtain ⟨R', x', T, p1, p2, p3, p4⟩ := Ok.pts hz ks (put x k (valOf R z k)) ok2 hnd'.2 (fun j hj => hin j (List.mem_cons_of_mem _ hj)) (by omega) hB
    have hxk : x' k = valOf R z k := by rw [p3 k hnd'.1, put_same]
    refine ⟨R', x', (k, z, valOf R z k) :: (z, k, 0 - valOf R z k) :: T, ?_, ?_, fun j hj => ?_, fun j hj => ?_⟩
    · show (setR R z k (valOf R z k)).bind _ = _
      unfold setR
      rw [m1]
      show (moreR R1 z k (0 - valOf R z k)).bind _ = _
      rw [m2]
      exact p1
    · have : S ++ (k, z, valOf R z k) :: (z, k, 0 - valOf R z k) :: T = S ++ [(k, z, valOf R z k)] ++ [(z, k, 0 - valOf R z k)] ++ T := by simp
      rw [this]
      exact p2
    · rw [p3 j fun z => hj (List.mem_cons_of_mem _ z), put_ne fun (e : j = k) => hj (by rw [e]; exact List.mem_cons_self)]
    · rcases List.mem_cons.mp hj with rfl | hj
      · rw [hxk]
        exact ⟨List.mem_cons_self, List.mem_cons_of_mem _ List.mem_cons_self, by omega, by omega⟩
      · obtain ⟨q1, q2, q3, q4⟩ := p4 j hj
        exact ⟨List.mem_cons_of_mem _ (List.mem_cons_of_mem _ q1), List.mem_cons_of_mem _ (List.mem_cons_of_mem _ q2), q3, q4⟩
/-- a system whose table comes out has a solution, the point of the table -/
theorem Ok.point {ns : List α} {z : α} {ks : List α} {S : List (Row α)} {R : Tab α} {B : Int} (x : α → Int) (h : Ok ns B S R) (hns : ns = z :: ks) (hnd : ns.Nodup) (h0 : 0 ≤ B) (hB : 9 ^ ks.length * B ≤ 10 ^ 28) (hS : ∀ e ∈ S, e.1 ∈ ns ∧ e.2.1 ∈ ns ∧ e.2.2 ≤ 10 ^ 28) :
    ∃ R' x', Df.pts z R x ks = some (R', x') ∧ Solves S fun a => if a = z then 0 else x' a := by
  subst hns
  have hnd' := List.nodup_cons.mp hnd
  obtain ⟨R', x', T, p1, p2, _, p4⟩ := Ok.pts (ns := z :: ks) List.mem_cons_self ks x h hnd'.2 (fun k hk => List.mem_cons_of_mem _ hk) h0 hB
  refine ⟨R', x', p1, p2.solves hB List.mem_cons_self hS fun k hk hkz => ?_⟩
  rcases List.mem_cons.mp hk with rfl | hk
  · exact absurd rfl hkz
  · exact p4 k hk
end Df

/-! ### heaps, walks, texts: what does not hang on a program -/
namespace Ls
open PySem PySem.Spec PyProof.Rows L2
theorem same_upd {H : Hp} {p : Addr} {o : HO} (h : H p = none) : Same H (upd H p o) := fun b x e => by rw [upd_ne (ne_of_none e h)]; exact e
theorem same_mut {H H' : Hp} {p : Addr} {o : HO} (s : Same H H') (h : H p = none) : Same H (upd H' p o) := fun b x e => by rw [upd_ne (ne_of_none e h)]; exact s b x e
theorem sq {K : PySem.W.Frag} {H : Hp} {a : Addr} {xs : List V} (h : H a = some (.lst xs)) : SqL K H a xs := .inl (.inl h)
theorem sqt {K : PySem.W.Frag} {H : Hp} {a : Addr} {xs : List V} (h : H a = some (.tup xs)) : SqT K H a xs := .inl (.inl h)
theorem szl {n : Nat} (h : n ≤ 1000000) : n ≤ sizeLine := Nat.le_trans h (by decide)
theorem szlt {n : Nat} (h : n < 1000000) : n < sizeLine := Nat.lt_of_lt_of_le h (by decide)
theorem fresh_ne {H : Hp} {p q : Addr} {o : HO} (h : H p = some o) (n : H q = none) : p ≠ q := ne_of_none h n
section
variable {K : PySem.W.Frag} {a : Addr} {xs : List V}
theorem walk_enumT : Walk (IteT K a) xs.length (fun H => SqT K H a xs) (YPair (fun i => some (.int (i : Nat))) (fun i => xs[i]?)) :=
  ⟨fun i _ hi q => ⟨xs, xs[i], q, List.getElem?_eq_getElem hi⟩, fun _ q => ⟨xs, q, Nat.le_refl _⟩, fun i H v H' _ q y => have ⟨T, x, h1, h2, h3, h4⟩ := y; ⟨T, .int (i : Nat), x, h1, h2, h3, rfl, h4 xs q⟩⟩
end
section
variable {J : It} {n : Nat} {G : Hp → Prop} {Y : Nat → Hp → V → Hp → Prop}
/-- a dict comprehension over a walk -/
theorem dc_it (w : Walk J n G Y) {g : TG} {tt : TT} {tk tv : TE} {vs : List Nat} {σ : L2.St} {H1 : Hp} {D : Addr} {Qd : Hp → Prop} (Pv : Nat → Hp → Prop) (h0 : Pv 0 (upd H1 D (.dK []))) (hG : ∀ i H, i ≤ n → Pv i H → G H)
    (hs : ∀ i x H H', i < n → Pv i H → Y i H x H' → g x (wipe σ vs) H' fun σ2 H2 => wipe σ2 vs = wipe σ vs ∧ tt σ2 H2 fun b H3 =>
      if b = true then tk σ2 H3 fun y H4 => tv σ2 H4 fun z H5 => ∃ kvs k, y = kV k ∧ H5 D = some (.dK kvs) ∧ kvs.length < sizeLine ∧ Pv (i + 1) (upd H5 D (.dK (putK kvs k z))) else Pv (i + 1) H3) (hd : ∀ H, Pv n H → Qd H) :
    ∃ W : Nat → Nat → Hp → Prop, (∃ m, W 0 m (upd H1 D (.dK []))) ∧ ∀ i m H, W i m H →
      (J.stop i H ∧ Qd H) ∨ (J.go i H ∧ ∃ Nx : Hp → Prop, (∀ H', Nx H' → ∃ m', m' < m ∧ W (i + 1) m' H') ∧ ∀ x H', J.yld i H x H' → g x (wipe σ vs) H' fun σ2 H2 => wipe σ2 vs = wipe σ vs ∧ tt σ2 H2 fun b H3 =>
        if b = true then tk σ2 H3 fun y H4 => tv σ2 H4 fun z H5 => ∃ kvs k, y = kV k ∧ H5 D = some (.dK kvs) ∧ kvs.length < sizeLine ∧ Nx (upd H5 D (.dK (putK kvs k z))) else Nx H3) :=
  ⟨fun i m H => m = n - i ∧ i ≤ n ∧ Pv i H, ⟨n, (Nat.sub_zero n).symm, Nat.zero_le _, h0⟩, fun i m H ⟨e, hi, p⟩ => by
    have q := hG i H hi p
    rcases Nat.lt_or_ge i n with hlt | hge
    · exact .inr ⟨w.goes i H hlt q, Pv (i + 1), fun H' p' => ⟨n - (i + 1), by omega, rfl, hlt, p'⟩, fun x H' y => hs i x H H' hlt p (w.yields i H x H' hlt q y)⟩
    · have e : i = n := Nat.le_antisymm hi hge
      subst e
      exact .inl ⟨w.stops H q, hd H p⟩⟩
end
/-! rows paired -/
theorem pget {α β : Type} {F : α → β → Prop} : ∀ {xs : List α} {ys : List β} {i : Nat} {y : β}, Paired F xs ys → ys[i]? = some y → ∃ x, xs[i]? = some x ∧ F x y
  | _, _, _, _, .nil, e => by simp at e
  | _, _, 0, _, .cons r _, e => by
    have e : _ = _ := Option.some.inj e
    exact ⟨_, rfl, e ▸ r⟩
  | _, _, i + 1, y, .cons _ t, e => pget (i := i) t e
theorem pmono {α β : Type} {F F' : α → β → Prop} (h : ∀ x y, F x y → F' x y) : ∀ {xs : List α} {ys : List β}, Paired F xs ys → Paired F' xs ys
  | _, _, .nil => .nil
  | _, _, .cons r t => .cons (h _ _ r) (pmono h t)
theorem plen {α β : Type} {F : α → β → Prop} : ∀ {xs : List α} {ys : List β}, Paired F xs ys → xs.length = ys.length
  | _, _, .nil => rfl
  | _, _, .cons _ t => congrArg Nat.succ (plen t)
theorem pmap {α β γ : Type} {F : α → β → Prop} (g : γ → β) : ∀ {xs : List α} {zs : List γ}, Paired F xs (zs.map g) → Paired (fun x z => F x (g z)) xs zs
  | _, [], .nil => .nil
  | _, _ :: _, .cons r t => .cons r (pmap g t)
/-! dicts of names -/
/-- the dict with the keys ks, in order, n standing for v n -/
def tabV (ks : List Str) (v : Str → V) : List (Key × V) := ks.map fun n => (Sum.inr n, v n)
theorem tabV_len (ks : List Str) (v : Str → V) : (tabV ks v).length = ks.length := List.length_map _
theorem tabV_keys (ks : List Str) (v : Str → V) : (tabV ks v).map (fun kv => kV kv.1) = ks.map V.str := by
  unfold tabV; rw [List.map_map]; rfl
theorem valV_tab : ∀ (ks : List Str) (v : Str → V) (n : Str), valV (tabV ks v) (Sum.inr n : Key) = if n ∈ ks then some (v n) else none
  | [], v, n => by simp [tabV, valV]
  | k :: ks, v, n => by
    show valV ((Sum.inr k, v k) :: tabV ks v) (Sum.inr n : Key) = _
    by_cases h : k = n
    · subst h
      rw [valV_pos (p := ((Sum.inr k : Key), v k)) rfl, if_pos List.mem_cons_self]
    · rw [valV_neg (p := ((Sum.inr k : Key), v k)) (fun e => h (Sum.inr.inj e)), valV_tab ks v n]
      simp [Ne.symm h]
theorem valV_tab_in {ks : List Str} {v : Str → V} {n : Str} (h : n ∈ ks) : valV (tabV ks v) (Sum.inr n : Key) = some (v n) := by rw [valV_tab, if_pos h]
theorem valV_tab_no {ks : List Str} {v : Str → V} {n : Str} (h : n ∉ ks) : valV (tabV ks v) (Sum.inr n : Key) = none := by rw [valV_tab, if_neg h]
theorem tabV_congr {ks : List Str} {v v' : Str → V} (h : ∀ n ∈ ks, v n = v' n) : tabV ks v = tabV ks v' := List.map_congr_left fun n hn => by rw [h n hn]
theorem putK_tab (ks : List Str) (v : Str → V) (n : Str) (x : V) : putK (tabV ks v) (Sum.inr n : Key) x = tabV (Df.ins ks n) (Df.put v n x) := by
  unfold Df.ins
  by_cases h : n ∈ ks
  · rw [if_pos h]
    have hany : ((tabV ks v).any fun kv => decide (kv.1 = (Sum.inr n : Key))) = true := by rw [valV_any, valV_tab_in h]; rfl
    unfold putK
    rw [if_pos hany]
    unfold tabV
    rw [List.map_map]
    refine List.map_congr_left fun m _ => ?_
    by_cases e : m = n
    · subst e
      simp [Df.put]
    · have e2 : ¬ ((Sum.inr m : Key) = Sum.inr n) := fun z => e (Sum.inr.inj z)
      simp [Df.put, e]
  · rw [if_neg h, putK_new x (valV_tab_no h)]
    have e : tabV (ks ++ [n]) (Df.put v n x) = tabV ks (Df.put v n x) ++ [(Sum.inr n, x)] := by
      unfold tabV
      rw [List.map_append]
      simp [Df.put]
    rw [e]
    congr 1
    exact tabV_congr fun m hm => by rw [Df.put_ne]; exact fun z => h (z ▸ hm)
theorem ins_len (ks : List Str) (n : Str) : (Df.ins ks n).length ≤ ks.length + 1 := by
  unfold Df.ins
  split <;> simp
end Ls

/-! ### walks: how great a limit can be; what is implied -/
namespace Df
variable {α : Type} [DecidableEq α]
/-- a walk from u to v whose limits add up to c, all names but the last in V -/
inductive Wk (S : List (Row α)) (V : List α) : α → α → Int → Prop where
  | refl {u : α} (h : u ∈ V) : Wk S V u u 0
  | step {u x v : α} {c W : Int} (he : (u, x, c) ∈ S) (hu : u ∈ V) (t : Wk S V x v W) : Wk S V u v (c + W)
theorem Wk.start {S : List (Row α)} {V : List α} {u v : α} {W : Int} (h : Wk S V u v W) : u ∈ V := by
  cases h with
  | refl h => exact h
  | step _ h _ => exact h
theorem Wk.mono {S T : List (Row α)} {V : List α} (hS : ∀ e ∈ S, e ∈ T) {u v : α} {W : Int} (h : Wk S V u v W) : Wk T V u v W := by
  induction h with
  | refl h => exact .refl h
  | step he hu _ ih => exact .step (hS _ he) hu ih
theorem Wk.app {S : List (Row α)} {V : List α} {u x v : α} {W1 W2 : Int} (h : Wk S V u x W1) (g : Wk S V x v W2) : Wk S V u v (W1 + W2) := by
  induction h with
  | refl h => rw [Int.zero_add]; exact g
  | step he hu _ ih => rw [Int.add_assoc]; exact .step he hu (ih g)
theorem Wk.point {S : List (Row α)} {V : List α} {p : α → Int} (hp : Solves S p) {u v : α} {W : Int} (h : Wk S V u v W) : p u - p v ≤ W := by
  induction h with
  | refl h => omega
  | @step u x v c W he hu _ ih =>
    have h1 : p u - p x ≤ c := hp _ he
    omega
/-- where the walk leaves u for the last time -/
theorem Wk.last {S : List (Row α)} {V : List α} {u : α} (huV : u ∈ V) {x v : α} {W : Int} (h : Wk S V x v W) (huv : u ≠ v) :
    Wk S (V.filter (· ≠ u)) x v W ∨ ∃ w c W1 W2, (u, w, c) ∈ S ∧ Wk S (V.filter (· ≠ u)) w v W2 ∧ Wk S V x u W1 ∧ W = W1 + (c + W2) := by
  induction h with
  | refl h => exact .inl (.refl (List.mem_filter.mpr ⟨h, by simpa using huv.symm⟩))
  | @step x w v c W he hx t ih =>
    rcases ih huv with l | ⟨w', c', W1, W2, h1, h2, h3, h4⟩
    · by_cases hxu : x = u
      · subst hxu
        exact .inr ⟨w, c, 0, W, he, l, .refl hx, by omega⟩
      · exact .inl (.step he (List.mem_filter.mpr ⟨hx, by simpa using hxu⟩) l)
    · exact .inr ⟨w', c', c + W1, W2, h1, h2, .step he hx h3, by omega⟩
theorem filter_len {V : List α} {u : α} (h : u ∈ V) : (V.filter (· ≠ u)).length < V.length := by
  induction V with
  | nil => cases h
  | cons a V ih =>
    by_cases ha : a = u
    · subst ha
      rw [List.filter_cons_of_neg (by simp)]
      have := List.length_filter_le (fun x => decide (x ≠ a)) V
      simp only [List.length_cons]
      omega
    · rw [List.filter_cons_of_pos (by simpa using ha)]
      have := ih ((List.mem_cons.mp h).resolve_left fun z => ha z.symm)
      simp only [List.length_cons]
      omega
/-- a short way round: no greater, of bounded size, and the tight limit is no greater -/
theorem Ok.short {ns : List α} {B L : Int} {S : List (Row α)} {R : Tab α} (h : Ok ns B S R) {p : α → Int} (hp : Solves S p) (hS : ∀ e ∈ S, e.1 ∈ ns ∧ e.2.1 ∈ ns ∧ -L ≤ e.2.2 ∧ e.2.2 ≤ L) (h0 : 0 ≤ L) :
    ∀ (n : Nat) (V : List α), V.length ≤ n + 1 → (n + 1 : Int) * L ≤ 10 ^ 28 → (∀ x ∈ V, x ∈ ns) → ∀ {u v : α} {W : Int}, v ∈ ns → Wk S V u v W → ∃ W', W' ≤ W ∧ -((n : Int) * L) ≤ W' ∧ W' ≤ (n : Int) * L ∧ R u v ≤ W' := by
  intro n
  induction n with
  | zero =>
    intro V hV hL hVn u v W hv hw
    by_cases huv : u = v
    · subst huv
      have := hw.point hp
      have := h.diag u hv
      exact ⟨0, by omega, by omega, by omega, by omega⟩
    · rcases hw.last hw.start huv with l | ⟨w, c, W1, W2, _, l, _, _⟩
      · have := l.start
        simp at this
      · have h1 := filter_len hw.start
        have h2 := l.start
        cases hf : V.filter (· ≠ u) with
        | nil => rw [hf] at h2; cases h2
        | cons a t =>
          rw [hf] at h1
          simp only [List.length_cons] at h1
          omega
  | succ n ih =>
    intro V hV hL hVn u v W hv hw
    have hnL : ((n + 1 : Nat) : Int) * L = (n : Int) * L + L := by
      rw [show ((n + 1 : Nat) : Int) = (n : Int) + 1 by omega, Int.add_mul, Int.one_mul]
    have hnL2 : (((n + 1 : Nat) : Int) + 1) * L = (n : Int) * L + L + L := by
      rw [Int.add_mul, Int.one_mul, hnL]
    have hnL3 : ((n : Int) + 1) * L = (n : Int) * L + L := by rw [Int.add_mul, Int.one_mul]
    have hn0 : 0 ≤ (n : Int) * L := Int.mul_nonneg (by omega) h0
    rw [hnL2] at hL
    rw [hnL]
    have huV := hw.start
    by_cases huv : u = v
    · subst huv
      have := hw.point hp
      have := h.diag u hv
      exact ⟨0, by omega, by omega, by omega, by omega⟩
    · rcases hw.last huV huv with l | ⟨w, c, W1, W2, he, l, l1, eW⟩
      · have := l.start
        simp at this
      · have h1 := filter_len huV
        obtain ⟨W', k1, k2, k3, k4⟩ := ih (V.filter (· ≠ u)) (by omega) (by rw [hnL3]; omega) (fun x hx => hVn x (List.mem_filter.mp hx).1) hv l
        obtain ⟨e1, e2, e3, e4⟩ := hS _ he
        have hc : R u w ≤ c := h.compl _ he
        have p1 := l1.point hp
        have e3 : -L ≤ c := e3
        have e4 : c ≤ L := e4
        have t := h.tri u (hVn u huV) w e2 v hv (by simp only [HALFI_eq]; omega) (by simp only [HALFI_eq]; omega)
        exact ⟨c + W', by omega, by omega, by omega, by omega⟩
/-- finite limits are walks -/
def Walks (ns : List α) (S : List (Row α)) (R : Tab α) : Prop := ∀ u ∈ ns, ∀ v ∈ ns, R u v ≤ HALFI → Wk S ns u v (R u v)
theorem Walks.blank (ns : List α) : Walks ns [] (blankR : Tab α) := fun u hu v hv h => by
  unfold blankR at h ⊢
  split at h
  · rename_i e
    subst e
    rw [if_pos rfl]
    exact .refl hu
  · simp only [HALFI_eq, FARI_eq] at h
    omega
theorem Walks.more {ns : List α} {B : Int} {S : List (Row α)} {R : Tab α} (hw : Walks ns S R) (h : Ok ns B S R) {l r : α} {c : Int} (hl : l ∈ ns) (hr : r ∈ ns) (hc : -B ≤ c ∧ c ≤ B) (hB : 3 * B ≤ 10 ^ 28) {R' : Tab α} (e : moreR R l r c = some R') : Walks ns (S ++ [(l, r, c)]) R' := by
  have mono : ∀ {u v W}, Wk S ns u v W → Wk (S ++ [(l, r, c)]) ns u v W := fun g => g.mono fun e he => List.mem_append_left _ he
  unfold moreR at e
  split at e
  · cases e
    exact fun u hu v hv hf => mono (hw u hu v hv hf)
  · split at e
    · cases e
    · cases e
      intro u hu v hv hf
      rcases thru_cases R l r c u v with e | ⟨e1, e2, e3⟩
      · rw [e] at hf ⊢
        exact mono (hw u hu v hv hf)
      · rw [e3] at hf ⊢
        have b1 := h.fin (by omega) hu hl e1
        have hf2 : R r v ≤ HALFI := by
          by_cases hx : R r v ≤ HALFI
          · exact hx
          · have := h.inf (by omega) hr hv (by omega)
            simp only [HALFI_eq, FARI_eq] at hf this
            omega
        exact (mono (hw u hu l hl e1)).app (.step (by simp) hl (mono (hw r hr v hv hf2)))
theorem Walks.added {ns : List α} : ∀ (T : List (Row α)) {S : List (Row α)} {R : Tab α} {B : Int}, Walks ns S R → Ok ns B S R → (∀ e ∈ T, e.1 ∈ ns ∧ e.2.1 ∈ ns ∧ -B ≤ e.2.2 ∧ e.2.2 ≤ B) → 0 ≤ B → 3 ^ T.length * B ≤ 10 ^ 28 →
    ∀ R', addedR R T = some R' → Walks ns (S ++ T) R'
  | [], S, R, B, hw, h, _, _, _ => fun R' e => by
    cases e
    simpa using hw
  | e :: T, S, R, B, hw, h, hT, h0, hB => by
    obtain ⟨h1, h2, h3, h4⟩ := hT e List.mem_cons_self
    have e3 : (3 : Int) ^ (e :: T).length * B = 3 ^ T.length * (3 * B) := by
      rw [List.length_cons, Int.pow_succ, Int.mul_assoc]
    have e1 : (1 : Int) ≤ 3 ^ T.length := by have := Int.pow_pos (n := 3) (m := T.length) (by decide); omega
    have hB3 : 3 * B ≤ 10 ^ 28 := by
      rw [e3] at hB
      have := Int.mul_le_mul_of_nonneg_right e1 (show 0 ≤ 3 * B by omega)
      omega
    intro R' k
    cases hm : moreR R e.1 e.2.1 e.2.2 with
    | none =>
      unfold addedR at k
      rw [hm] at k
      cases k
    | some R1 =>
      have ea : addedR R (e :: T) = addedR R1 T := by
        show (moreR R e.1 e.2.1 e.2.2).bind _ = _
        rw [hm]
        rfl
      rw [ea] at k
      have hS : S ++ e :: T = (S ++ [(e.1, e.2.1, e.2.2)]) ++ T := by simp
      rw [hS]
      exact Walks.added T (hw.more h h1 h2 ⟨h3, h4⟩ hB3 hm) (h.more h1 h2 ⟨h3, h4⟩ hB3 hm) (fun d hd => by
        obtain ⟨a, b, c, d'⟩ := hT d (List.mem_cons_of_mem _ hd)
        exact ⟨a, b, by omega, by omega⟩) (by omega) (by rw [← e3]; exact hB) R' k
/-! ### a system's table as a whole -/
section
variable {ns : List α} {S : List (Row α)} {L : Int}
/-- the system S over ns, its limits at most L, small enough for the tables -/
structure Fit (ns : List α) (S : List (Row α)) (L : Int) : Prop where
  nn : 0 ≤ L
  ins : ∀ e ∈ S, e.1 ∈ ns ∧ e.2.1 ∈ ns ∧ -L ≤ e.2.2 ∧ e.2.2 ≤ L
  small : 9 ^ ns.length * (3 ^ S.length * L) ≤ 10 ^ 28
theorem pow9 (n : Nat) : (1 : Int) ≤ 9 ^ n := by have := Int.pow_pos (n := 9) (m := n) (by decide); omega
theorem pow3 (n : Nat) : (1 : Int) ≤ 3 ^ n := by have := Int.pow_pos (n := 3) (m := n) (by decide); omega
theorem Fit.le3 (h : Fit ns S L) : 3 ^ S.length * L ≤ 10 ^ 28 ∧ 0 ≤ 3 ^ S.length * L ∧ L ≤ 3 ^ S.length * L := by
  have h1 := Int.mul_le_mul_of_nonneg_right (pow3 S.length) h.nn
  have h2 := Int.mul_le_mul_of_nonneg_right (pow9 ns.length) (show 0 ≤ 3 ^ S.length * L by have := h.nn; omega)
  have := h.small
  have := h.nn
  omega
theorem Fit.some (h : Fit ns S L) {R : Tab α} (e : addedR blankR S = some R) : Ok ns (3 ^ S.length * L) S R ∧ Walks ns S R := by
  have h1 := h.le3
  have ok := Ok.blank ns h.nn (by omega)
  refine ⟨?_, ?_⟩
  · simpa using (Ok.added S ok h.ins h.nn h1.1).1 R e
  · simpa using Walks.added S (Walks.blank ns) ok h.ins h.nn h1.1 R e
theorem Fit.none (h : Fit ns S L) (e : addedR blankR S = none) (p : α → Int) : ¬ Solves S p := by
  have h1 := h.le3
  simpa using (Ok.added S (Ok.blank ns h.nn (by omega)) h.ins h.nn h1.1).2 e p
def pt0 (z : α) (x : α → Int) : α → Int := fun a => if a = z then 0 else x a
theorem Fit.point {z : α} {ks : List α} (h : Fit (z :: ks) S L) (hnd : (z :: ks).Nodup) {R : Tab α} (e : addedR blankR S = Option.some R) (x : α → Int) : ∃ R' x', pts z R x ks = Option.some (R', x') ∧ Solves S (pt0 z x') := by
  have h1 := h.le3
  have h2 := h.small
  refine (h.some e).1.point x rfl hnd h1.2.1 ?_ fun e he => ⟨(h.ins e he).1, (h.ins e he).2.1, by have := (h.ins e he).2.2.2; omega⟩
  have e9 : (9 : Int) ^ (z :: ks).length * (3 ^ S.length * L) = 9 * (9 ^ ks.length * (3 ^ S.length * L)) := by
    rw [List.length_cons, Int.pow_succ, Int.mul_comm (9 ^ ks.length) 9, Int.mul_assoc]
  rw [e9] at h2
  have h3 := Int.mul_le_mul_of_nonneg_right (pow9 ks.length) h1.2.1
  omega
theorem Fit.solvable (h : Fit ns S L) {z : α} {ks : List α} (hns : ns = z :: ks) (hnd : ns.Nodup) {R : Tab α} (e : addedR blankR S = Option.some R) : ∃ p, Solves S p := by
  subst hns
  obtain ⟨_, x', _, hs⟩ := h.point hnd e fun _ => 0
  exact ⟨_, hs⟩
/-- a finite limit is at most as great as a walk through all names -/
theorem Fit.bound (h : Fit ns S L) {R : Tab α} (e : addedR blankR S = Option.some R) {p : α → Int} (hp : Solves S p) {u v : α} (hu : u ∈ ns) (hv : v ∈ ns) (hf : R u v ≤ HALFI) (hL : (ns.length : Int) * L ≤ 10 ^ 28) :
    -((ns.length : Int) * L) ≤ R u v ∧ R u v ≤ (ns.length : Int) * L := by
  obtain ⟨ok, wk⟩ := h.some e
  have hw := wk u hu v hv hf
  cases hn : ns.length with
  | zero => rw [List.length_eq_zero_iff.mp hn] at hu; cases hu
  | succ n =>
    rw [hn] at hL
    have e1 : ((n + 1 : Nat) : Int) * L = (n : Int) * L + L := by rw [show ((n + 1 : Nat) : Int) = (n : Int) + 1 by omega, Int.add_mul, Int.one_mul]
    have h0 := h.nn
    obtain ⟨W', k1, k2, k3, k4⟩ := ok.short hp h.ins h.nn n ns (by omega) (by rw [show ((n : Int) + 1) = ((n + 1 : Nat) : Int) by omega]; exact hL) (fun x hx => hx) hv hw
    rw [e1]
    omega
/-- what `implied` answers -/
def implB (S : List (Row α)) (l r : α) (c : Int) : Bool := match addedR blankR S with
  | Option.none => true
  | Option.some R => decide (R l r ≤ c)
/-- implied: the denial has no solution -/
theorem Fit.implied (h : Fit ns S L) {l r : α} {c : Int} (hl : l ∈ ns) (hr : r ∈ ns) (hc : c ≤ 10 ^ 28) (hi : implB S l r c = true) (p : α → Int) : ¬ Solves (S ++ [(r, l, 0 - c - 1)]) p := fun hp => by
  have hS : Solves S p := fun e he => hp e (List.mem_append_left _ he)
  unfold implB at hi
  cases e : addedR blankR S with
  | none => exact h.none e p hS
  | some R =>
    rw [e] at hi
    have hi : R l r ≤ c := of_decide_eq_true hi
    have h1 := (h.some e).1.sound p hS l hl r hr (by simp only [HALFI_eq]; omega)
    have h2 := hp (r, l, 0 - c - 1) (by simp)
    have h2 : p r - p l ≤ 0 - c - 1 := h2
    omega
/-- not implied: the denial's table comes out -/
theorem denied {S : List (Row α)} {l r : α} {c : Int} (hi : implB S l r c = false) : ∃ R, addedR blankR (S ++ [(r, l, 0 - c - 1)]) = Option.some R := by
  unfold implB at hi
  cases e : addedR blankR S with
  | none => rw [e] at hi; cases hi
  | some R =>
    rw [e] at hi
    have hi : ¬ R l r ≤ c := of_decide_eq_false hi
    rw [addedR_append, e]
    show ∃ R', addedR R [(r, l, 0 - c - 1)] = Option.some R'
    rw [addedR_one]
    unfold moreR
    split
    · exact ⟨_, rfl⟩
    · rw [if_neg (show ¬ R l r + (0 - c - 1) < 0 by omega)]
      exact ⟨_, rfl⟩
/-- a system implies its own -/
theorem Fit.own (h : Fit ns S L) {e : Row α} (he : e ∈ S) : implB S e.1 e.2.1 e.2.2 = true := by
  unfold implB
  cases ea : addedR blankR S with
  | none => rfl
  | some R => exact decide_eq_true ((h.some ea).1.compl e he)
end
end Df

/-! ### partial tables: a limit or none -/
namespace Df
variable {α : Type} [DecidableEq α]
abbrev OTab (α : Type) := α → α → Option Int
/-- a closed partial table over ns -/
structure Cl (ns : List α) (F : OTab α) : Prop where
  diag : ∀ u ∈ ns, F u u = some 0
  tri : ∀ u ∈ ns, ∀ w ∈ ns, ∀ v ∈ ns, ∀ a b, F u w = some a → F w v = some b → ∃ c, F u v = some c ∧ c ≤ a + b
def Le (F : OTab α) (u v : α) (c : Int) : Prop := ∃ c', F u v = some c' ∧ c' ≤ c
theorem Le.of {F : OTab α} {u v : α} {c : Int} (h : F u v = some c) : Le F u v c := ⟨c, h, Int.le_refl _⟩
theorem Le.up {F : OTab α} {u v : α} {c d : Int} (h : Le F u v c) (k : c ≤ d) : Le F u v d := h.imp fun _ q => ⟨q.1, Int.le_trans q.2 k⟩
theorem Cl.le {ns : List α} {F : OTab α} (h : Cl ns F) {u w v : α} (hu : u ∈ ns) (hw : w ∈ ns) (hv : v ∈ ns) {a b : Int} (h1 : Le F u w a) (h2 : Le F w v b) : Le F u v (a + b) := by
  obtain ⟨a', e1, l1⟩ := h1
  obtain ⟨b', e2, l2⟩ := h2
  obtain ⟨c, e3, l3⟩ := h.tri u hu w hw v hv a' b' e1 e2
  exact ⟨c, e3, by omega⟩
def Comp (S : List (Row α)) (F : OTab α) : Prop := ∀ e ∈ S, Le F e.1 e.2.1 e.2.2
/-- a walk is no less than the closed table's limit -/
theorem Cl.walk {ns : List α} {F : OTab α} (h : Cl ns F) {S : List (Row α)} (hS : Comp S F) (hin : ∀ e ∈ S, e.1 ∈ ns ∧ e.2.1 ∈ ns) {u v : α} {W : Int} (w : Wk S ns u v W) (hv : v ∈ ns) : Le F u v W := by
  induction w with
  | refl h' => exact .of (h.diag _ h')
  | @step u x v c W he hu _ ih => exact h.le hu (hin _ he).2 hv (hS _ he) (ih hv)
/-- the finite limits of a table over ns -/
def opt (ns : List α) (R : Tab α) : OTab α := fun u v => if u ∈ ns ∧ v ∈ ns ∧ R u v ≤ HALFI then some (R u v) else none
theorem opt_some {ns : List α} {R : Tab α} {u v : α} {c : Int} (h : opt ns R u v = some c) : u ∈ ns ∧ v ∈ ns ∧ R u v ≤ HALFI ∧ R u v = c := by
  unfold opt at h
  split at h
  · rename_i q
    exact ⟨q.1, q.2.1, q.2.2, Option.some.inj h⟩
  · cases h
theorem opt_fin {ns : List α} {R : Tab α} {u v : α} (hu : u ∈ ns) (hv : v ∈ ns) (h : R u v ≤ HALFI) : opt ns R u v = some (R u v) := if_pos ⟨hu, hv, h⟩
theorem opt_inf {ns : List α} {R : Tab α} {u v : α} (h : HALFI < R u v) : opt ns R u v = none := if_neg fun q => by have := q.2.2; omega
theorem Ok.cl {ns : List α} {B : Int} {S : List (Row α)} {R : Tab α} (h : Ok ns B S R) (hB : B ≤ 10 ^ 28) : Cl ns (opt ns R) where
  diag := fun u hu => by
    have := h.diag u hu
    rw [opt_fin hu hu (by rw [this]; decide), this]
  tri := fun u hu w hw v hv a b h1 h2 => by
    obtain ⟨_, _, f1, e1⟩ := opt_some h1
    obtain ⟨_, _, f2, e2⟩ := opt_some h2
    have b1 := h.fin hB hu hw f1
    have b2 := h.fin hB hw hv f2
    have t := h.tri u hu w hw v hv f1 f2
    exact ⟨R u v, opt_fin hu hv (by simp only [HALFI_eq]; omega), by omega⟩
/-! ### a closed table has a solution -/
def minL : List Int → Int := fun l => l.foldl min 0
theorem foldl_min (l : List Int) : ∀ a : Int, l.foldl min a ≤ a ∧ (∀ x ∈ l, l.foldl min a ≤ x) ∧ (l.foldl min a = a ∨ l.foldl min a ∈ l) := by
  induction l with
  | nil => intro a; exact ⟨Int.le_refl _, by simp, .inl rfl⟩
  | cons b l ih =>
    intro a
    obtain ⟨h1, h2, h3⟩ := ih (min a b)
    rw [List.foldl_cons]
    have m1 : min a b ≤ a := Int.min_le_left a b
    have m2 : min a b ≤ b := Int.min_le_right a b
    refine ⟨Int.le_trans h1 m1, fun x hx => ?_, ?_⟩
    · rcases List.mem_cons.mp hx with rfl | hx
      · exact Int.le_trans h1 m2
      · exact h2 x hx
    · rcases h3 with h3 | h3
      · rw [h3]
        rcases (show min a b = a ∨ min a b = b by omega) with e | e
        · exact .inl e
        · exact .inr (by rw [e]; exact List.mem_cons_self)
      · exact .inr (List.mem_cons_of_mem _ h3)
def pot (ns : List α) (F : OTab α) (u : α) : Int := minL (ns.filterMap (F u))
theorem Cl.solves {ns : List α} {F : OTab α} (h : Cl ns F) {S : List (Row α)} (hS : Comp S F) (hin : ∀ e ∈ S, e.1 ∈ ns ∧ e.2.1 ∈ ns) : Solves S (pot ns F) := fun e he => by
  obtain ⟨hl, hr⟩ := hin e he
  obtain ⟨d, e1, l1⟩ := hS e he
  have pl := foldl_min (ns.filterMap (F e.1)) 0
  have pr := foldl_min (ns.filterMap (F e.2.1)) 0
  have key : ∀ v x, v ∈ ns → F e.1 v = some x → pot ns F e.1 ≤ x := fun v x hv hx => pl.2.1 x (List.mem_filterMap.mpr ⟨v, hv, hx⟩)
  show pot ns F e.1 - pot ns F e.2.1 ≤ e.2.2
  rcases pr.2.2 with k | k
  · have k : pot ns F e.2.1 = 0 := k
    have := key _ _ hr e1
    omega
  · obtain ⟨v, hv, hx⟩ := List.mem_filterMap.mp k
    have hx : F e.2.1 v = some (pot ns F e.2.1) := hx
    obtain ⟨c, e3, l3⟩ := h.tri _ hl _ hr _ hv _ _ e1 hx
    have := key _ _ hv e3
    omega
/-! ### the table by middles -/
def relax (F : OTab α) (u v : α) (c : Int) : OTab α := fun x y => if x = u ∧ y = v then (match F u v with | some d => if c < d then some c else some d | none => some c) else F x y
theorem relax_same (F : OTab α) (u v : α) (c : Int) : Le (relax F u v c) u v c := by
  unfold Le relax
  rw [if_pos ⟨rfl, rfl⟩]
  cases F u v with
  | none => exact ⟨c, rfl, Int.le_refl _⟩
  | some d =>
    show ∃ c', (if c < d then some c else some d) = some c' ∧ c' ≤ c
    split
    · exact ⟨c, rfl, Int.le_refl _⟩
    · exact ⟨d, rfl, by omega⟩
theorem relax_cases (F : OTab α) (u v : α) (c : Int) {x y : α} {d : Int} (h : relax F u v c x y = some d) : F x y = some d ∨ (x = u ∧ y = v ∧ d = c) := by
  unfold relax at h
  split at h
  · rename_i q
    obtain ⟨rfl, rfl⟩ := q
    revert h
    cases hF : F x y with
    | none => intro h; exact .inr ⟨rfl, rfl, (Option.some.inj h).symm⟩
    | some d' =>
      show (if c < d' then some c else some d') = some d → _
      split
      · intro h; exact .inr ⟨rfl, rfl, (Option.some.inj h).symm⟩
      · intro h; exact .inl h
  · exact .inl h
def Mono (F G : OTab α) : Prop := ∀ u v c, F u v = some c → Le G u v c
theorem Mono.refl (F : OTab α) : Mono F F := fun _ _ _ h => .of h
theorem Mono.le {F G : OTab α} (h : Mono F G) {u v : α} {c : Int} (k : Le F u v c) : Le G u v c := by
  obtain ⟨c', e, l⟩ := k
  exact (h _ _ _ e).up l
theorem Mono.trans {F G K : OTab α} (h : Mono F G) (k : Mono G K) : Mono F K := fun u v c e => k.le (h u v c e)
theorem relax_mono (F : OTab α) (u v : α) (c : Int) : Mono F (relax F u v c) := fun x y d h => by
  by_cases q : x = u ∧ y = v
  · obtain ⟨rfl, rfl⟩ := q
    unfold Le relax
    rw [if_pos ⟨rfl, rfl⟩, h]
    show ∃ c', (if c < d then some c else some d) = some c' ∧ c' ≤ d
    split
    · exact ⟨c, rfl, by omega⟩
    · exact ⟨d, rfl, Int.le_refl _⟩
  · refine ⟨d, ?_, Int.le_refl _⟩
    unfold relax
    rw [if_neg q]
    exact h
/-- every limit is that of a walk -/
def Snd (ns : List α) (S : List (Row α)) (F : OTab α) : Prop := ∀ u v c, F u v = some c → u ∈ ns ∧ v ∈ ns ∧ Wk S ns u v c
theorem Snd.relax {ns : List α} {S : List (Row α)} {F : OTab α} (h : Snd ns S F) {u v : α} {c : Int} (hu : u ∈ ns) (hv : v ∈ ns) (w : Wk S ns u v c) : Snd ns S (relax F u v c) := fun x y d e => by
  rcases relax_cases F u v c e with k | ⟨rfl, rfl, rfl⟩
  · exact h x y d k
  · exact ⟨hu, hv, w⟩
def Dg (ns : List α) (F : OTab α) : Prop := ∀ u ∈ ns, ∃ d, F u u = some d ∧ d ≤ 0
theorem Dg.mono {ns : List α} {F G : OTab α} (h : Dg ns F) (m : Mono F G) : Dg ns G := fun u hu => by
  obtain ⟨d, e, l⟩ := h u hu
  obtain ⟨d', e', l'⟩ := m _ _ _ e
  exact ⟨d', e', by omega⟩
theorem Comp.mono {S : List (Row α)} {F G : OTab α} (h : Comp S F) (m : Mono F G) : Comp S G := fun e he => m.le (h e he)
def Zero (ns : List α) (F : OTab α) : Prop := ∀ u ∈ ns, F u u = some 0
theorem Zero.back {ns : List α} {F G : OTab α} (h : Zero ns G) (d : Dg ns F) (m : Mono F G) : Zero ns F := fun u hu => by
  obtain ⟨x, e, l⟩ := d u hu
  obtain ⟨y, e2, l2⟩ := m _ _ _ e
  rw [h u hu] at e2
  cases e2
  rw [e]
  congr 1
  omega
def CloM (ns M : List α) (F : OTab α) : Prop := ∀ k ∈ M, ∀ u ∈ ns, ∀ v ∈ ns, ∀ a b, F u k = some a → F k v = some b → Le F u v (a + b)
/-- within the phase of the middle m: F the table at its start, G the present one -/
structure Ph (ns : List α) (S : List (Row α)) (m : α) (F G : OTab α) : Prop where
  snd : Snd ns S G
  mono : Mono F G
  lo : F m m = some 0 → ∀ u v c, G u v = some c → Le F u v c ∨ ∃ a b, F u m = some a ∧ F m v = some b ∧ a + b ≤ c
theorem Ph.start {ns : List α} {S : List (Row α)} {m : α} {F : OTab α} (h : Snd ns S F) : Ph ns S m F F := ⟨h, Mono.refl F, fun _ u v c e => .inl (.of e)⟩
/-- first: the limit from u to the middle, as it was read some time -/
def Rd1 (ns : List α) (S : List (Row α)) (m : α) (F : OTab α) (u : α) (first : Int) : Prop := u ∈ ns ∧ Wk S ns u m first ∧ (F m m = some 0 → Le F u m first)
theorem Ph.rd {ns : List α} {S : List (Row α)} {m : α} {F G : OTab α} (h : Ph ns S m F G) {u : α} {x : Int} (e : G u m = some x) : Rd1 ns S m F u x := by
  obtain ⟨hu, hm, w⟩ := h.snd _ _ _ e
  refine ⟨hu, w, fun z => ?_⟩
  rcases h.lo z _ _ _ e with k | ⟨a, b, e1, e2, l⟩
  · exact k
  · rw [z] at e2
    cases e2
    exact ⟨a, e1, by omega⟩
theorem Ph.step {ns : List α} {S : List (Row α)} {m : α} {F G : OTab α} (h : Ph ns S m F G) {u v : α} {x y : Int} (r : Rd1 ns S m F u x) (e : G m v = some y) : Ph ns S m F (relax G u v (x + y)) := by
  obtain ⟨hu, w, l⟩ := r
  obtain ⟨hm, hv, w2⟩ := h.snd _ _ _ e
  refine ⟨h.snd.relax hu hv (w.app w2), h.mono.trans (relax_mono _ _ _ _), fun z p q c k => ?_⟩
  rcases relax_cases _ _ _ _ k with k | ⟨rfl, rfl, rfl⟩
  · exact h.lo z _ _ _ k
  · right
    obtain ⟨a, e1, l1⟩ := l z
    rcases h.lo z _ _ _ e with ⟨b, e2, l2⟩ | ⟨a2, b, e2, e3, l2⟩
    · exact ⟨a, b, e1, e2, by omega⟩
    · rw [z] at e2
      cases e2
      exact ⟨a, b, e1, e3, by omega⟩
/-- what stands between two phases -/
structure Fw (ns : List α) (S : List (Row α)) (M : List α) (F : OTab α) : Prop where
  snd : Snd ns S F
  dg : Dg ns F
  cmp : Comp S F
  clo : Zero ns F → CloM ns M F
theorem Fw.next {ns : List α} {S : List (Row α)} {M : List α} {m : α} {F G : OTab α} (h : Fw ns S M F) (hm : m ∈ ns) (hM : ∀ k ∈ M, k ∈ ns) (p : Ph ns S m F G) (hd : ∀ u ∈ ns, ∀ v ∈ ns, ∀ a b, F u m = some a → F m v = some b → Le G u v (a + b)) : Fw ns S (M ++ [m]) G := by
  refine ⟨p.snd, h.dg.mono p.mono, h.cmp.mono p.mono, fun z k hk u hu v hv a b e1 e2 => ?_⟩
  have zF := z.back h.dg p.mono
  have zm := zF m hm
  have c := h.clo zF
  have l1 := p.lo zm _ _ _ e1
  have l2 := p.lo zm _ _ _ e2
  rcases List.mem_append.mp hk with hk | hk
  · have hkn := hM k hk
    rcases l1 with ⟨a1, f1, g1⟩ | ⟨a1, b1, f1, f1', g1⟩ <;> rcases l2 with ⟨a2, f2, g2⟩ | ⟨a2, b2, f2, f2', g2⟩
    · exact (p.mono.le (c k hk u hu v hv _ _ f1 f2)).up (by omega)
    · obtain ⟨x, ex, lx⟩ := c k hk u hu m hm _ _ f1 f2
      exact (hd u hu v hv _ _ ex f2').up (by omega)
    · obtain ⟨x, ex, lx⟩ := c k hk m hm v hv _ _ f1' f2
      exact (hd u hu v hv _ _ f1 ex).up (by omega)
    · obtain ⟨x, ex, lx⟩ := c k hk m hm m hm _ _ f1' f2
      rw [zm] at ex
      cases ex
      exact (hd u hu v hv _ _ f1 f2').up (by omega)
  · rw [List.mem_singleton.mp hk] at e1 e2 l1 l2
    have k1 : Le F u m a := by
      rcases l1 with l1 | ⟨x, y, f1, f2, g⟩
      · exact l1
      · rw [zm] at f2
        cases f2
        exact ⟨x, f1, by omega⟩
    have k2 : Le F m v b := by
      rcases l2 with l2 | ⟨x, y, f1, f2, g⟩
      · exact l2
      · rw [zm] at f1
        cases f1
        exact ⟨y, f2, by omega⟩
    obtain ⟨x, f1, g1⟩ := k1
    obtain ⟨y, f2, g2⟩ := k2
    exact (hd u hu v hv _ _ f1 f2).up (by omega)
theorem Fw.cl {ns : List α} {S : List (Row α)} {F : OTab α} (h : Fw ns S ns F) (z : Zero ns F) : Cl ns F := ⟨z, fun u hu w hw v hv a b e1 e2 => h.clo z w hw u hu v hv a b e1 e2⟩
theorem Fw.neg {ns : List α} {S : List (Row α)} {M : List α} {F : OTab α} (h : Fw ns S M F) {u : α} {d : Int} (e : F u u = some d) (hd : d < 0) (p : α → Int) : ¬ Solves S p := fun hp => by
  have := (h.snd _ _ _ e).2.2.point hp
  omega
/-- the law's table is the package's -/
theorem Fw.eq {ns : List α} {S : List (Row α)} {F : OTab α} (h : Fw ns S ns F) (z : Zero ns F) {L : Int} (fit : Fit ns S L) {R : Tab α} (e : addedR blankR S = some R) {p : α → Int} (hp : Solves S p) (hL : (ns.length : Int) * L ≤ 10 ^ 28) : opt ns R = F := by
  obtain ⟨ok, wk⟩ := fit.some e
  have cl := h.cl z
  have hin : ∀ e ∈ S, e.1 ∈ ns ∧ e.2.1 ∈ ns := fun e he => ⟨(fit.ins e he).1, (fit.ins e he).2.1⟩
  have up : ∀ u v c, F u v = some c → ∃ c', opt ns R u v = some c' ∧ c' ≤ c := fun u v c k => by
    obtain ⟨hu, hv, w⟩ := h.snd _ _ _ k
    cases hn : ns.length with
    | zero => rw [List.length_eq_zero_iff.mp hn] at hu; cases hu
    | succ n =>
      rw [hn] at hL
      obtain ⟨W', k1, k2, k3, k4⟩ := ok.short hp fit.ins fit.nn n ns (by omega) (by rw [show ((n : Int) + 1) = ((n + 1 : Nat) : Int) by omega]; exact hL) (fun x hx => hx) hv w
      have e1 : ((n + 1 : Nat) : Int) * L = (n : Int) * L + L := by rw [show ((n + 1 : Nat) : Int) = (n : Int) + 1 by omega, Int.add_mul, Int.one_mul]
      have h0 := fit.nn
      exact ⟨R u v, opt_fin hu hv (by simp only [HALFI_eq]; omega), by omega⟩
  funext u v
  cases hF : F u v with
  | some c =>
    obtain ⟨c', e1, l1⟩ := up u v c hF
    obtain ⟨hu, hv, f, e2⟩ := opt_some e1
    obtain ⟨c2, e3, l3⟩ := cl.walk h.cmp hin (wk u hu v hv f) hv
    rw [hF] at e3
    cases e3
    rw [e1]
    congr 1
    omega
  | none =>
    cases ho : opt ns R u v with
    | none => rfl
    | some c =>
      obtain ⟨hu, hv, f, e2⟩ := opt_some ho
      obtain ⟨c2, e3, _⟩ := cl.walk h.cmp hin (wk u hu v hv f) hv
      rw [hF] at e3
      cases e3
end Df

/-! ### classes of names; the fewest differences -/
namespace Df
variable {α : Type} [DecidableEq α]
def eqc (F : OTab α) (u v : α) : Bool := match F u v, F v u with
  | some a, some b => decide (a + b = 0)
  | _, _ => false
theorem eqc_iff {F : OTab α} {u v : α} : eqc F u v = true ↔ ∃ a b, F u v = some a ∧ F v u = some b ∧ a + b = 0 := by
  unfold eqc
  constructor
  · intro h
    split at h
    · rename_i a b e1 e2
      exact ⟨a, b, e1, e2, of_decide_eq_true h⟩
    · cases h
  · rintro ⟨a, b, e1, e2, e3⟩
    rw [e1, e2]
    exact decide_eq_true e3
theorem eqc_comm (F : OTab α) (u v : α) : eqc F u v = eqc F v u := by
  rw [Bool.eq_iff_iff, eqc_iff, eqc_iff]
  constructor
  · rintro ⟨a, b, e1, e2, e3⟩; exact ⟨b, a, e2, e1, by omega⟩
  · rintro ⟨a, b, e1, e2, e3⟩; exact ⟨b, a, e2, e1, by omega⟩
section
variable {ns : List α} {F : OTab α}
theorem Cl.eqc_refl (h : Cl ns F) {u : α} (hu : u ∈ ns) : eqc F u u = true := eqc_iff.mpr ⟨0, 0, h.diag u hu, h.diag u hu, rfl⟩
theorem Cl.exact (h : Cl ns F) {u w v : α} (hu : u ∈ ns) (hw : w ∈ ns) (hv : v ∈ ns) {a b : Int} (e1 : F u w = some a) (q : eqc F u w = true) (e2 : F w v = some b) : F u v = some (a + b) := by
  obtain ⟨a1, a2, f1, f2, f3⟩ := eqc_iff.mp q
  rw [e1] at f1
  cases f1
  obtain ⟨c, e3, l3⟩ := h.tri u hu w hw v hv _ _ e1 e2
  obtain ⟨d, e4, l4⟩ := h.tri w hw u hu v hv _ _ f2 e3
  rw [e2] at e4
  cases e4
  rw [e3]
  congr 1
  omega
theorem Cl.exact2 (h : Cl ns F) {u w v : α} (hu : u ∈ ns) (hw : w ∈ ns) (hv : v ∈ ns) {a b : Int} (e1 : F u w = some a) (q : eqc F w v = true) (e2 : F w v = some b) : F u v = some (a + b) := by
  obtain ⟨a1, a2, f1, f2, f3⟩ := eqc_iff.mp q
  rw [e2] at f1
  cases f1
  obtain ⟨c, e3, l3⟩ := h.tri u hu w hw v hv _ _ e1 e2
  obtain ⟨d, e4, l4⟩ := h.tri u hu v hv w hw _ _ e3 f2
  rw [e1] at e4
  cases e4
  rw [e3]
  congr 1
  omega
theorem Cl.eqc_trans (h : Cl ns F) {u w v : α} (hu : u ∈ ns) (hw : w ∈ ns) (hv : v ∈ ns) (q1 : eqc F u w = true) (q2 : eqc F w v = true) : eqc F u v = true := by
  obtain ⟨a, a', e1, e1', s1⟩ := eqc_iff.mp q1
  obtain ⟨b, b', e2, e2', s2⟩ := eqc_iff.mp q2
  have r1 := h.exact hu hw hv e1 q1 e2
  have r2 := h.exact hv hw hu e2' (by rw [eqc_comm]; exact q2) e1'
  exact eqc_iff.mpr ⟨_, _, r1, r2, by omega⟩
theorem Cl.nn (h : Cl ns F) {u v : α} (hu : u ∈ ns) (hv : v ∈ ns) {a b : Int} (e1 : F u v = some a) (e2 : F v u = some b) : 0 ≤ a + b := by
  obtain ⟨c, e3, l3⟩ := h.tri u hu v hv u hu _ _ e1 e2
  rw [h.diag u hu] at e3
  cases e3
  exact l3
end
/-! classes: a head and the others behind it -/
abbrev Grp (α : Type) := α × List α
def mem_ (g : Grp α) : List α := g.1 :: g.2
def addTo (F : OTab α) : List (Grp α) → α → List (Grp α)
  | [], x => [(x, [])]
  | g :: gs, x => if eqc F g.1 x = true then (g.1, g.2 ++ [x]) :: gs else g :: addTo F gs x
def classes (F : OTab α) (ns : List α) : List (Grp α) := ns.foldl (addTo F) []
theorem addTo_cases (F : OTab α) (x : α) : ∀ gs : List (Grp α), (∃ A g B, gs = A ++ g :: B ∧ (∀ k ∈ A, eqc F k.1 x = false) ∧ eqc F g.1 x = true ∧ addTo F gs x = A ++ (g.1, g.2 ++ [x]) :: B) ∨ ((∀ k ∈ gs, eqc F k.1 x = false) ∧ addTo F gs x = gs ++ [(x, [])])
  | [] => .inr ⟨fun k hk => (List.not_mem_nil hk).elim, rfl⟩
  | g :: gs => by
    by_cases q : eqc F g.1 x = true
    · exact .inl ⟨[], g, gs, rfl, fun k hk => (List.not_mem_nil hk).elim, q, by unfold addTo; rw [if_pos q]; rfl⟩
    · have e : addTo F (g :: gs) x = g :: addTo F gs x := by
        conv => lhs; unfold addTo
        rw [if_neg q]
      rw [e]
      have q : eqc F g.1 x = false := by simpa using q
      rcases addTo_cases F x gs with ⟨A, k, B, e1, e2, e3, e4⟩ | ⟨e1, e2⟩
      · refine .inl ⟨g :: A, k, B, by rw [e1]; rfl, fun j hj => ?_, e3, by rw [e4]; rfl⟩
        rcases List.mem_cons.mp hj with rfl | hj
        · exact q
        · exact e2 j hj
      · refine .inr ⟨fun j hj => ?_, by rw [e2]; rfl⟩
        rcases List.mem_cons.mp hj with rfl | hj
        · exact q
        · exact e1 j hj
/-- the law's heads -/
def addH (F : OTab α) (hs : List α) (x : α) : List α := if hs.any (fun h => eqc F h x) = true then hs else hs ++ [x]
theorem map_addTo (F : OTab α) (gs : List (Grp α)) (x : α) : (addTo F gs x).map (·.1) = addH F (gs.map (·.1)) x := by
  unfold addH
  rcases addTo_cases F x gs with ⟨A, g, B, e1, e2, e3, e4⟩ | ⟨e1, e2⟩
  · rw [e4, if_pos, e1]
    · simp
    · rw [List.any_eq_true]
      exact ⟨g.1, by rw [e1]; simp, e3⟩
  · rw [e2, if_neg]
    · simp
    · rw [List.any_eq_true]
      rintro ⟨h, hh, q⟩
      obtain ⟨k, hk, rfl⟩ := List.mem_map.mp hh
      rw [e1 k hk] at q
      cases q
theorem classes_snoc (F : OTab α) (ns : List α) (x : α) : classes F (ns ++ [x]) = addTo F (classes F ns) x := by
  unfold classes
  rw [List.foldl_append]
  rfl
theorem map_classes (F : OTab α) (ns : List α) : (classes F ns).map (·.1) = ns.foldl (addH F) [] := by
  have key : ∀ (l : List α) (gs : List (Grp α)), (l.foldl (addTo F) gs).map (·.1) = l.foldl (addH F) (gs.map (·.1)) := by
    intro l
    induction l with
    | nil => intro gs; rfl
    | cons x l ih =>
      intro gs
      rw [List.foldl_cons, List.foldl_cons, ih, map_addTo]
  exact key ns []
structure Part (F : OTab α) (ns : List α) (gs : List (Grp α)) : Prop where
  mem : ∀ x, x ∈ ns ↔ ∃ g ∈ gs, x ∈ mem_ g
  eq : ∀ g ∈ gs, ∀ x ∈ g.2, eqc F g.1 x = true
  sep : gs.Pairwise fun g k => eqc F g.1 k.1 = false
  nd : (gs.flatMap mem_).Nodup
theorem Part.nil (F : OTab α) : Part F [] [] := ⟨fun x => by simp, fun g h => (List.not_mem_nil h).elim, .nil, by simp⟩
theorem Part.add {F : OTab α} {ns : List α} {gs : List (Grp α)} (h : Part F ns gs) {x : α} (hx : x ∉ ns) : Part F (ns ++ [x]) (addTo F gs x) := by
  have hxg : ∀ g ∈ gs, x ∉ mem_ g := fun g hg z => hx ((h.mem x).mpr ⟨g, hg, z⟩)
  rcases addTo_cases F x gs with ⟨A, g, B, e1, e2, e3, e4⟩ | ⟨e1, e2⟩
  · rw [e4]
    subst e1
    refine ⟨fun y => ?_, fun k hk y hy => ?_, ?_, ?_⟩
    · rw [List.mem_append, List.mem_singleton, h.mem y]
      constructor
      · rintro (⟨k, hk, hy⟩ | rfl)
        · rcases List.mem_append.mp hk with hk | hk
          · exact ⟨k, List.mem_append_left _ hk, hy⟩
          · rcases List.mem_cons.mp hk with rfl | hk
            · refine ⟨(k.1, k.2 ++ [x]), by simp, ?_⟩
              rcases List.mem_cons.mp hy with rfl | hy
              · exact List.mem_cons_self
              · exact List.mem_cons_of_mem _ (List.mem_append_left _ hy)
            · exact ⟨k, List.mem_append_right _ (List.mem_cons_of_mem _ hk), hy⟩
        · exact ⟨(g.1, g.2 ++ [y]), by simp, List.mem_cons_of_mem _ (by simp)⟩
      · rintro ⟨k, hk, hy⟩
        rcases List.mem_append.mp hk with hk | hk
        · exact .inl ⟨k, List.mem_append_left _ hk, hy⟩
        · rcases List.mem_cons.mp hk with rfl | hk
          · rcases List.mem_cons.mp hy with rfl | hy
            · exact .inl ⟨g, by simp, List.mem_cons_self⟩
            · rcases List.mem_append.mp hy with hy | hy
              · exact .inl ⟨g, by simp, List.mem_cons_of_mem _ hy⟩
              · exact .inr (List.mem_singleton.mp hy)
          · exact .inl ⟨k, List.mem_append_right _ (List.mem_cons_of_mem _ hk), hy⟩
    · rcases List.mem_append.mp hk with hk | hk
      · exact h.eq k (List.mem_append_left _ hk) y hy
      · rcases List.mem_cons.mp hk with rfl | hk
        · rcases List.mem_append.mp hy with hy | hy
          · exact h.eq g (by simp) y hy
          · rw [List.mem_singleton.mp hy]; exact e3
        · exact h.eq k (List.mem_append_right _ (List.mem_cons_of_mem _ hk)) y hy
    · have s := h.sep
      rw [List.pairwise_append, List.pairwise_cons] at s ⊢
      refine ⟨s.1, ⟨s.2.1.1, s.2.1.2⟩, fun a ha b hb => ?_⟩
      rcases List.mem_cons.mp hb with rfl | hb
      · exact s.2.2 a ha g List.mem_cons_self
      · exact s.2.2 a ha b (List.mem_cons_of_mem _ hb)
    · have n := h.nd
      have hperm : ((A ++ (g.1, g.2 ++ [x]) :: B).flatMap mem_).Perm (x :: (A ++ g :: B).flatMap mem_) := by
        rw [List.flatMap_append, List.flatMap_cons, List.flatMap_append, List.flatMap_cons]
        have e : mem_ (g.1, g.2 ++ [x]) = mem_ g ++ [x] := rfl
        rw [e]
        have p1 : ((mem_ g ++ [x]) ++ B.flatMap mem_).Perm (x :: (mem_ g ++ B.flatMap mem_)) := by
          rw [List.append_assoc]
          exact List.perm_middle
        exact (List.Perm.append_left _ p1).trans List.perm_middle
      refine hperm.nodup_iff.mpr (List.nodup_cons.mpr ⟨fun z => ?_, n⟩)
      obtain ⟨k, hk, hy⟩ := List.mem_flatMap.mp z
      exact hxg k hk hy
  · rw [e2]
    refine ⟨fun y => ?_, fun k hk y hy => ?_, ?_, ?_⟩
    · rw [List.mem_append, List.mem_singleton, h.mem y]
      constructor
      · rintro (⟨k, hk, hy⟩ | rfl)
        · exact ⟨k, List.mem_append_left _ hk, hy⟩
        · exact ⟨(y, []), by simp, List.mem_cons_self⟩
      · rintro ⟨k, hk, hy⟩
        rcases List.mem_append.mp hk with hk | hk
        · exact .inl ⟨k, hk, hy⟩
        · rw [List.mem_singleton.mp hk] at hy
          exact .inr (by simpa [mem_] using hy)
    · rcases List.mem_append.mp hk with hk | hk
      · exact h.eq k hk y hy
      · rw [List.mem_singleton.mp hk] at hy
        cases hy
    · rw [List.pairwise_append]
      exact ⟨h.sep, by simp, fun a ha b hb => by rw [List.mem_singleton.mp hb]; exact e1 a ha⟩
    · rw [List.flatMap_append]
      rw [List.nodup_append]
      refine ⟨h.nd, by simp [mem_], fun a ha b hb e => ?_⟩
      subst e
      have : a = x := by simpa [mem_] using hb
      subst this
      obtain ⟨k, hk, hy⟩ := List.mem_flatMap.mp ha
      exact hxg k hk hy
theorem Part.of (F : OTab α) : ∀ {ns pre : List α} {gs : List (Grp α)}, Part F pre gs → (pre ++ ns).Nodup → Part F (pre ++ ns) (ns.foldl (addTo F) gs)
  | [], pre, gs, h, _ => by simpa using h
  | x :: ns, pre, gs, h, hnd => by
    have e : pre ++ x :: ns = (pre ++ [x]) ++ ns := by simp
    rw [e] at hnd ⊢
    have hx : x ∉ pre := fun z => by
      have := (List.nodup_append.mp (List.nodup_append.mp hnd).1).2.2 x z x (by simp)
      exact this rfl
    exact Part.of F (h.add hx) hnd
theorem part (F : OTab α) {ns : List α} (h : ns.Nodup) : Part F ns (classes F ns) := by
  have := Part.of F (ns := ns) (Part.nil F) (by simpa using h)
  simpa [classes] using this
/-! the differences told -/
def val (F : OTab α) (u v : α) : Int := (F u v).getD 0
def ringE (g : Grp α) : List (α × α) := (g.1 :: g.2).zip (g.2 ++ [g.1])
def row (F : OTab α) (p : α × α) : Row α := (p.1, p.2, val F p.1 p.2)
def ringP (g : Grp α) : List (α × α) := if g.2 = [] then [] else ringE g
def blocked (F : OTab α) (c : Int) (a b m : α) : Bool := decide (m ≠ a) && decide (m ≠ b) && (match F a m, F m b with
  | some x, some y => decide (x + y = c)
  | _, _ => false)
def needed (F : OTab α) (hs : List α) (a b : α) : Bool := match F a b with
  | none => false
  | some c => hs.all fun m => !blocked F c a b m
def pairsP (F : OTab α) (hs : List α) : List (α × α) := hs.flatMap fun a => (hs.filter fun b => decide (a ≠ b) && needed F hs a b).map fun b => (a, b)
def hds (gs : List (Grp α)) : List α := gs.map (·.1)
def fewP (F : OTab α) (gs : List (Grp α)) : List (α × α) := gs.flatMap ringP ++ pairsP F (hds gs)
def few (F : OTab α) (gs : List (Grp α)) : List (Row α) := (fewP F gs).map (row F)
theorem mem_pairs {F : OTab α} {hs : List α} {a b : α} : (a, b) ∈ pairsP F hs ↔ a ∈ hs ∧ b ∈ hs ∧ a ≠ b ∧ needed F hs a b = true := by
  unfold pairsP
  rw [List.mem_flatMap]
  constructor
  · rintro ⟨x, hx, hy⟩
    obtain ⟨y, hy, e⟩ := List.mem_map.mp hy
    cases e
    have := (List.mem_filter.mp hy)
    rw [Bool.and_eq_true] at this
    exact ⟨hx, this.1, of_decide_eq_true this.2.1, this.2.2⟩
  · rintro ⟨h1, h2, h3, h4⟩
    exact ⟨a, h1, List.mem_map.mpr ⟨b, List.mem_filter.mpr ⟨h2, by rw [decide_eq_true h3, h4]; rfl⟩, rfl⟩⟩
theorem blocked_iff {F : OTab α} {c : Int} {a b m : α} : blocked F c a b m = true ↔ m ≠ a ∧ m ≠ b ∧ ∃ x y, F a m = some x ∧ F m b = some y ∧ x + y = c := by
  unfold blocked
  rw [Bool.and_eq_true, Bool.and_eq_true, decide_eq_true_iff, decide_eq_true_iff, and_assoc]
  refine and_congr Iff.rfl (and_congr Iff.rfl ?_)
  constructor
  · intro h
    split at h
    · rename_i x y e1 e2
      exact ⟨x, y, e1, e2, of_decide_eq_true h⟩
    · cases h
  · rintro ⟨x, y, e1, e2, e3⟩
    rw [e1, e2]
    exact decide_eq_true e3
theorem needed_some {F : OTab α} {hs : List α} {a b : α} (h : needed F hs a b = true) : ∃ c, F a b = some c ∧ ∀ m ∈ hs, blocked F c a b m = false := by
  unfold needed at h
  split at h
  · cases h
  · rename_i c e
    refine ⟨c, e, fun m hm => ?_⟩
    have := List.all_eq_true.mp h m hm
    simpa using this
theorem needed_no {F : OTab α} {hs : List α} {a b : α} {c : Int} (e : F a b = some c) (h : needed F hs a b ≠ true) : ∃ m ∈ hs, blocked F c a b m = true := by
  unfold needed at h
  rw [e] at h
  refine Classical.byContradiction fun z => h ?_
  show (hs.all fun m => !blocked F c a b m) = true
  rw [List.all_eq_true]
  intro m hm
  cases k : blocked F c a b m with
  | false => rfl
  | true => exact absurd ⟨m, hm, k⟩ z
end Df

/-! ### the fewest differences have the same solutions; none can be left out -/
namespace Df
variable {α : Type} [DecidableEq α]
section
variable {ns : List α} {F : OTab α} {gs : List (Grp α)}
theorem Part.hd_mem (h : Part F ns gs) {g : Grp α} (hg : g ∈ gs) : g.1 ∈ ns := (h.mem _).mpr ⟨g, hg, List.mem_cons_self⟩
theorem Part.in_ (h : Part F ns gs) {g : Grp α} (hg : g ∈ gs) {x : α} (hx : x ∈ mem_ g) : x ∈ ns := (h.mem _).mpr ⟨g, hg, hx⟩
theorem Part.eqh (h : Part F ns gs) (cl : Cl ns F) {g : Grp α} (hg : g ∈ gs) {x : α} (hx : x ∈ mem_ g) : eqc F g.1 x = true := by
  rcases List.mem_cons.mp hx with e | hx
  · rw [e]; exact cl.eqc_refl (h.hd_mem hg)
  · exact h.eq g hg x hx
theorem Part.same (h : Part F ns gs) (cl : Cl ns F) {g : Grp α} (hg : g ∈ gs) {x y : α} (hx : x ∈ mem_ g) (hy : y ∈ mem_ g) : eqc F x y = true :=
  cl.eqc_trans (h.in_ hg hx) (h.hd_mem hg) (h.in_ hg hy) (by rw [eqc_comm]; exact h.eqh cl hg hx) (h.eqh cl hg hy)
theorem mem_hds {x : α} : x ∈ hds gs ↔ ∃ g ∈ gs, g.1 = x := by
  unfold hds
  rw [List.mem_map]
/-- different heads are of different classes -/
theorem Part.apart (h : Part F ns gs) {a b : α} (ha : a ∈ hds gs) (hb : b ∈ hds gs) (hab : a ≠ b) : eqc F a b = false := by
  obtain ⟨g, hg, rfl⟩ := mem_hds.mp ha
  obtain ⟨k, hk, rfl⟩ := mem_hds.mp hb
  obtain ⟨i, hi, ei⟩ := List.mem_iff_getElem.mp hg
  obtain ⟨j, hj, ej⟩ := List.mem_iff_getElem.mp hk
  have s := List.pairwise_iff_getElem.mp h.sep
  rcases Nat.lt_trichotomy i j with l | l | l
  · have := s i j hi hj l
    rwa [ei, ej] at this
  · subst l
    rw [ei] at ej
    exact absurd (by rw [ej]) hab
  · have := s j i hj hi l
    rw [ei, ej] at this
    rw [eqc_comm]
    exact this
theorem val_of {u v : α} {c : Int} (e : F u v = some c) : val F u v = c := by unfold val; rw [e]; rfl
/-- round a class -/
theorem round_le {F' : OTab α} (cl : Cl ns F') (φ : α → Int) (z : α) (hz : z ∈ ns) : ∀ (t : List α) (h : α), (∀ x ∈ h :: t, x ∈ ns) → (∀ p ∈ (h :: t).zip (t ++ [z]), Le F' p.1 p.2 (φ p.1 - φ p.2)) → ∀ u ∈ h :: t, Le F' h u (φ h - φ u) ∧ Le F' u z (φ u - φ z)
  | [], h, hin, hp, u, hu => by
    rw [List.mem_singleton.mp hu]
    exact ⟨(Le.of (cl.diag _ (hin h List.mem_cons_self))).up (by omega), hp (h, z) (by simp)⟩
  | a :: t, h, hin, hp, u, hu => by
    have h1 : Le F' h a (φ h - φ a) := hp (h, a) (by simp)
    have ih := round_le cl φ z hz t a (fun x hx => hin x (List.mem_cons_of_mem _ hx)) fun p hq => hp p (by rw [List.cons_append, List.zip_cons_cons]; exact List.mem_cons_of_mem _ hq)
    have hh := hin h List.mem_cons_self
    have haz := hin a (List.mem_cons_of_mem _ List.mem_cons_self)
    rcases List.mem_cons.mp hu with rfl | hu
    · exact ⟨(Le.of (cl.diag _ hh)).up (by omega), (cl.le hh haz hz h1 (ih a List.mem_cons_self).2).up (by omega)⟩
    · obtain ⟨i1, i2⟩ := ih u hu
      exact ⟨(cl.le hh haz (hin u (List.mem_cons_of_mem _ hu)) h1 i1).up (by omega), i2⟩
theorem mem_ring {g : Grp α} {p : α × α} (h : p ∈ ringP g) : p ∈ ringE g ∧ g.2 ≠ [] := by
  unfold ringP at h
  split at h
  · cases h
  · exact ⟨h, by assumption⟩
theorem ring_in {g : Grp α} {p : α × α} (h : p ∈ ringE g) : p.1 ∈ mem_ g ∧ p.2 ∈ mem_ g := by
  obtain ⟨x, y⟩ := p
  have h1 := List.of_mem_zip h
  refine ⟨h1.1, ?_⟩
  rcases List.mem_append.mp h1.2 with k | k
  · exact List.mem_cons_of_mem _ k
  · rw [List.mem_singleton.mp k]; exact List.mem_cons_self
theorem exists_row {p : α × α} (h : p ∈ fewP F gs) : row F p ∈ few F gs := List.mem_map.mpr ⟨p, h, rfl⟩
/-- within a class -/
theorem Part.class_le (h : Part F ns gs) (cl : Cl ns F) {F' : OTab α} (cl' : Cl ns F') (hc : Comp (few F gs) F') {g : Grp α} (hg : g ∈ gs) {u v : α} (hu : u ∈ mem_ g) (hv : v ∈ mem_ g) : Le F' u v (val F u v) := by
  have hgn := h.hd_mem hg
  -- the potential: the limit to the head
  have ex : ∀ {x y : α}, x ∈ mem_ g → y ∈ mem_ g → val F x y = val F x g.1 - val F y g.1 := fun {x y} hx hy => by
    obtain ⟨a, a', e1, e1', s1⟩ := eqc_iff.mp (h.same cl hg hx hy)
    obtain ⟨b, b', e2, e2', s2⟩ := eqc_iff.mp (h.same cl hg hy (List.mem_cons_self : g.1 ∈ mem_ g))
    have := cl.exact (h.in_ hg hx) (h.in_ hg hy) hgn e1 (h.same cl hg hx hy) e2
    rw [val_of e1, val_of e2, val_of this]
    omega
  by_cases hr : g.2 = []
  · have e1 : u = g.1 := by
      have hu : u ∈ g.1 :: g.2 := hu
      rw [hr] at hu
      exact List.mem_singleton.mp hu
    have e2 : v = g.1 := by
      have hv : v ∈ g.1 :: g.2 := hv
      rw [hr] at hv
      exact List.mem_singleton.mp hv
    subst e1
    subst e2
    rw [val_of (cl.diag _ hgn)]
    exact .of (cl'.diag _ hgn)
  · have hrd := round_le cl' (fun x => val F x g.1) g.1 hgn g.2 g.1 (fun x hx => h.in_ hg hx) fun p hp => by
      have hin := ring_in (g := g) hp
      have : row F p ∈ few F gs := exists_row (List.mem_append_left _ (List.mem_flatMap.mpr ⟨g, hg, by unfold ringP; rw [if_neg hr]; exact hp⟩))
      have := hc _ this
      exact this.up (by
        show val F p.1 p.2 ≤ _
        rw [ex hin.1 hin.2]
        exact Int.le_refl _)
    have r1 := (hrd u hu).2
    have r2 := (hrd v hv).1
    refine (cl'.le (h.in_ hg hu) hgn (h.in_ hg hv) r1 r2).up ?_
    rw [ex hu hv]
    omega
theorem filter_lt {l : List α} {p q : α → Bool} (h : ∀ x ∈ l, p x = true → q x = true) {y : α} (hy : y ∈ l) (h1 : q y = true) (h2 : p y = false) : (l.filter p).length < (l.filter q).length := by
  induction l with
  | nil => cases hy
  | cons a l ih =>
    have mono : (l.filter p).length ≤ (l.filter q).length := by
      have h' : ∀ x ∈ l, p x = true → q x = true := fun x hx => h x (List.mem_cons_of_mem _ hx)
      clear ih hy h
      induction l with
      | nil => exact Nat.le_refl _
      | cons b l ih =>
        have ih := ih fun x hx => h' x (List.mem_cons_of_mem _ hx)
        have hb := h' b List.mem_cons_self
        rw [List.filter_cons, List.filter_cons]
        by_cases hp : p b = true
        · rw [if_pos hp, if_pos (hb hp)]
          simp only [List.length_cons]
          omega
        · rw [if_neg hp]
          split
          · simp only [List.length_cons]; omega
          · exact ih
    rw [List.filter_cons, List.filter_cons]
    rcases List.mem_cons.mp hy with rfl | hy
    · rw [if_neg (by rw [h2]; simp), if_pos h1]
      simp only [List.length_cons]
      omega
    · have ih := ih (fun x hx => h x (List.mem_cons_of_mem _ hx)) hy
      have ha := h a List.mem_cons_self
      by_cases hp : p a = true
      · rw [if_pos hp, if_pos (ha hp)]
        simp only [List.length_cons]
        omega
      · rw [if_neg hp]
        split
        · simp only [List.length_cons]; omega
        · exact ih
/-- between heads -/
theorem Part.heads_le (h : Part F ns gs) (cl : Cl ns F) {F' : OTab α} (cl' : Cl ns F') (hc : Comp (few F gs) F') : ∀ (n : Nat) (a b : α) (c : Int), a ∈ hds gs → b ∈ hds gs → F a b = some c → ((hds gs).filter fun m => blocked F c a b m).length ≤ n → Le F' a b c := by
  have hin : ∀ {a}, a ∈ hds gs → a ∈ ns := fun {a} ha => by
    obtain ⟨g, hg, rfl⟩ := mem_hds.mp ha
    exact h.hd_mem hg
  intro n
  induction n with
  | zero =>
    intro a b c ha hb e hn
    by_cases hab : a = b
    · subst hab
      rw [cl.diag _ (hin ha)] at e
      cases e
      exact .of (cl'.diag _ (hin ha))
    · have hnd : needed F (hds gs) a b = true := by
        refine Classical.byContradiction fun z => ?_
        obtain ⟨m, hm, k⟩ := needed_no e z
        have : m ∈ (hds gs).filter fun m => blocked F c a b m := List.mem_filter.mpr ⟨hm, k⟩
        have := List.length_pos_of_mem this
        omega
      have := hc _ (exists_row (F := F) (gs := gs) (List.mem_append_right _ (mem_pairs.mpr ⟨ha, hb, hab, hnd⟩)))
      exact this.up (by show val F a b ≤ c; rw [val_of e]; exact Int.le_refl _)
  | succ n ih =>
    intro a b c ha hb e hn
    by_cases hab : a = b
    · subst hab
      rw [cl.diag _ (hin ha)] at e
      cases e
      exact .of (cl'.diag _ (hin ha))
    · by_cases hnd : needed F (hds gs) a b = true
      · have := hc _ (exists_row (F := F) (gs := gs) (List.mem_append_right _ (mem_pairs.mpr ⟨ha, hb, hab, hnd⟩)))
        exact this.up (by show val F a b ≤ c; rw [val_of e]; exact Int.le_refl _)
      · obtain ⟨m, hm, k⟩ := needed_no e hnd
        obtain ⟨ma, mb, x, y, e1, e2, exy⟩ := blocked_iff.mp k
        have hA := hin ha
        have hB := hin hb
        have hM := hin hm
        have l1 : ((hds gs).filter fun j => blocked F x a m j).length < ((hds gs).filter fun j => blocked F c a b j).length := by
          refine filter_lt (fun j hj q => ?_) hm k (by unfold blocked; simp)
          obtain ⟨ja, jm, p, q', f1, f2, f3⟩ := blocked_iff.mp q
          have hJ := hin hj
          refine blocked_iff.mpr ⟨ja, fun z => ?_, ?_⟩
          · subst z
            -- j = b: m and b would be of one class
            rw [e] at f1
            cases f1
            have : eqc F j m = true := eqc_iff.mpr ⟨q', y, f2, e2, by omega⟩
            rw [h.apart hj hm (fun z => jm z)] at this
            cases this
          · obtain ⟨d, e3, l3⟩ := cl.tri j hJ m hM b hB _ _ f2 e2
            obtain ⟨d', e4, l4⟩ := cl.tri a hA j hJ b hB _ _ f1 e3
            rw [e] at e4
            cases e4
            exact ⟨p, d, f1, e3, by omega⟩
        have l2 : ((hds gs).filter fun j => blocked F y m b j).length < ((hds gs).filter fun j => blocked F c a b j).length := by
          refine filter_lt (fun j hj q => ?_) hm k (by unfold blocked; simp)
          obtain ⟨jm, jb, p, q', f1, f2, f3⟩ := blocked_iff.mp q
          have hJ := hin hj
          refine blocked_iff.mpr ⟨fun z => ?_, jb, ?_⟩
          · subst z
            rw [e] at f2
            cases f2
            have : eqc F m j = true := eqc_iff.mpr ⟨p, x, f1, e1, by omega⟩
            rw [h.apart hm hj (fun z => jm z.symm)] at this
            cases this
          · obtain ⟨d, e3, l3⟩ := cl.tri a hA m hM j hJ _ _ e1 f1
            obtain ⟨d', e4, l4⟩ := cl.tri a hA j hJ b hB _ _ e3 f2
            rw [e] at e4
            cases e4
            exact ⟨d, q', e3, f2, by omega⟩
        have r1 := ih a m x ha hm e1 (by omega)
        have r2 := ih m b y hm hb e2 (by omega)
        exact (cl'.le hA hM hB r1 r2).up (by omega)
/-- the fewest differences have the closed table's limits -/
theorem Part.few_le (h : Part F ns gs) (cl : Cl ns F) {F' : OTab α} (cl' : Cl ns F') (hc : Comp (few F gs) F') {u v : α} (hu : u ∈ ns) (hv : v ∈ ns) {c : Int} (e : F u v = some c) : Le F' u v c := by
  obtain ⟨g, hg, hug⟩ := (h.mem u).mp hu
  obtain ⟨k, hk, hvk⟩ := (h.mem v).mp hv
  have hgn := h.hd_mem hg
  have hkn := h.hd_mem hk
  have q1 := h.same cl hg hug (List.mem_cons_self : g.1 ∈ mem_ g)
  have q2 := h.same cl hk (List.mem_cons_self : k.1 ∈ mem_ k) hvk
  obtain ⟨x, x', e1, e1', s1⟩ := eqc_iff.mp q1
  obtain ⟨y, y', e2, e2', s2⟩ := eqc_iff.mp q2
  -- from head to head
  have e3 : F g.1 v = some (x' + c) := cl.exact hgn hu hv e1' (by rw [eqc_comm]; exact q1) e
  have e4 : F g.1 k.1 = some (x' + c + y') := cl.exact2 hgn hv hkn e3 (by rw [eqc_comm]; exact q2) e2'
  have r1 := h.class_le cl cl' hc hg hug (List.mem_cons_self : g.1 ∈ mem_ g)
  have r2 := h.class_le cl cl' hc hk (List.mem_cons_self : k.1 ∈ mem_ k) hvk
  rw [val_of e1] at r1
  rw [val_of e2] at r2
  have r3 := h.heads_le cl cl' hc _ g.1 k.1 _ (mem_hds.mpr ⟨g, hg, rfl⟩) (mem_hds.mpr ⟨k, hk, rfl⟩) e4 (Nat.le_refl _)
  exact (cl'.le hu hkn hv (cl'.le hu hgn hkn r1 r3) r2).up (by omega)
/-! what each told difference is -/
theorem Part.kinds (h : Part F ns gs) {p : α × α} (hp : p ∈ fewP F gs) : (∃ g ∈ gs, g.2 ≠ [] ∧ p ∈ ringE g) ∨ (p.1 ∈ hds gs ∧ p.2 ∈ hds gs ∧ p.1 ≠ p.2 ∧ needed F (hds gs) p.1 p.2 = true) := by
  rcases List.mem_append.mp hp with k | k
  · obtain ⟨g, hg, q⟩ := List.mem_flatMap.mp k
    have := mem_ring q
    exact .inl ⟨g, hg, this.2, this.1⟩
  · exact .inr (mem_pairs.mp k)
theorem Part.fin (h : Part F ns gs) (cl : Cl ns F) {p : α × α} (hp : p ∈ fewP F gs) : p.1 ∈ ns ∧ p.2 ∈ ns ∧ F p.1 p.2 = some (val F p.1 p.2) := by
  rcases h.kinds hp with ⟨g, hg, hr, q⟩ | ⟨h1, h2, h3, h4⟩
  · obtain ⟨i1, i2⟩ := ring_in q
    obtain ⟨a, b, e1, e2, _⟩ := eqc_iff.mp (h.same cl hg i1 i2)
    exact ⟨h.in_ hg i1, h.in_ hg i2, by rw [val_of e1]; exact e1⟩
  · obtain ⟨g, hg, e1⟩ := mem_hds.mp h1
    obtain ⟨k, hk, e2⟩ := mem_hds.mp h2
    obtain ⟨c, e, _⟩ := needed_some h4
    exact ⟨e1 ▸ h.hd_mem hg, e2 ▸ h.hd_mem hk, by rw [val_of e]; exact e⟩
theorem zip_ne {x y : α} : ∀ (t : List α) (h z : α), (h :: t).Nodup → (∀ u ∈ t, u ≠ z) → (h ≠ z ∨ t ≠ []) → (x, y) ∈ (h :: t).zip (t ++ [z]) → x ≠ y
  | [], h, z, _, _, h3, hm => by
    have : x = h ∧ y = z := by simpa using hm
    rw [this.1, this.2]
    exact h3.resolve_right fun k => k rfl
  | a :: t, h, z, hnd, hz, h3, hm => by
    rw [List.cons_append, List.zip_cons_cons] at hm
    have n := List.nodup_cons.mp hnd
    rcases List.mem_cons.mp hm with e | hm
    · cases e
      exact fun e => n.1 (by rw [e]; exact List.mem_cons_self)
    · exact zip_ne t a z n.2 (fun u hu => hz u (List.mem_cons_of_mem _ hu)) (.inl (hz a List.mem_cons_self)) hm
theorem Part.gnd (h : Part F ns gs) {g : Grp α} (hg : g ∈ gs) : (mem_ g).Nodup := by
  have := h.nd
  obtain ⟨A, B, rfl⟩ := List.append_of_mem hg
  rw [List.flatMap_append, List.flatMap_cons] at this
  exact (List.nodup_append.mp (List.nodup_append.mp this).2.1).1
theorem Part.ne (h : Part F ns gs) {p : α × α} (hp : p ∈ fewP F gs) : p.1 ≠ p.2 := by
  rcases h.kinds hp with ⟨g, hg, hr, q⟩ | ⟨h1, h2, h3, h4⟩
  · have n := h.gnd hg
    have n2 := List.nodup_cons.mp n
    obtain ⟨x, y⟩ := p
    exact zip_ne g.2 g.1 g.1 n (fun u hu e => n2.1 (e ▸ hu)) (.inr hr) q
  · exact h3
/-- two classes with a name in common are one -/
theorem Part.one (h : Part F ns gs) (cl : Cl ns F) {g k : Grp α} (hg : g ∈ gs) (hk : k ∈ gs) {x : α} (h1 : x ∈ mem_ g) (h2 : x ∈ mem_ k) : g.1 = k.1 := by
  refine Classical.byContradiction fun z => ?_
  have := h.apart (mem_hds.mpr ⟨g, hg, rfl⟩) (mem_hds.mpr ⟨k, hk, rfl⟩) z
  rw [cl.eqc_trans (h.hd_mem hg) (h.in_ hg h1) (h.hd_mem hk) (h.eqh cl hg h1) (by rw [eqc_comm]; exact h.eqh cl hk h2)] at this
  cases this
theorem Part.cross (h : Part F ns gs) (cl : Cl ns F) {g k : Grp α} (hg : g ∈ gs) (hk : k ∈ gs) {x y : α} (h1 : x ∈ mem_ g) (h2 : y ∈ mem_ k) (hgk : g.1 ≠ k.1) : eqc F x y = false := by
  cases q : eqc F x y with
  | false => rfl
  | true =>
    have := h.apart (mem_hds.mpr ⟨g, hg, rfl⟩) (mem_hds.mpr ⟨k, hk, rfl⟩) hgk
    rw [cl.eqc_trans (h.hd_mem hg) (h.in_ hg h1) (h.hd_mem hk) (h.eqh cl hg h1) (cl.eqc_trans (h.in_ hg h1) (h.in_ hk h2) (h.hd_mem hk) q (by rw [eqc_comm]; exact h.eqh cl hk h2))] at this
    cases this
theorem zip_left {y y' x : α} : ∀ (l m : List α), l.Nodup → (x, y) ∈ l.zip m → (x, y') ∈ l.zip m → y = y'
  | [], _, _, h, _ => by simp at h
  | _ :: _, [], _, h, _ => by simp at h
  | a :: l, b :: m, hnd, h, h' => by
    have n := List.nodup_cons.mp hnd
    rw [List.zip_cons_cons] at h h'
    rcases List.mem_cons.mp h with e | k <;> rcases List.mem_cons.mp h' with e' | k'
    · cases e; cases e'; rfl
    · cases e
      exact absurd (List.of_mem_zip k').1 n.1
    · cases e'
      exact absurd (List.of_mem_zip k).1 n.1
    · exact zip_left l m n.2 k k'
/-- no chain of other told differences is as short as a told one -/
theorem Part.irred (h : Part F ns gs) (cl : Cl ns F) {T : List (α × α)} {p0 : α × α} (hp : p0 ∈ fewP F gs) (hT : ∀ p ∈ T, p ∈ fewP F gs ∧ p ≠ p0) {W : Int} (hw : Wk (T.map (row F)) ns p0.1 p0.2 W) : val F p0.1 p0.2 < W := by
  refine Classical.byContradiction fun hlt => ?_
  have hW : W ≤ val F p0.1 p0.2 := by omega
  clear hlt
  obtain ⟨n1, n2, f0⟩ := h.fin cl hp
  have ne0 := h.ne hp
  have edge : ∀ {x y : α} {c : Int}, (x, y, c) ∈ T.map (row F) → (x, y) ∈ fewP F gs ∧ (x, y) ≠ p0 ∧ F x y = some c ∧ x ∈ ns ∧ y ∈ ns := fun {x y c} he => by
    obtain ⟨⟨a, b⟩, hq, e⟩ := List.mem_map.mp he
    cases e
    obtain ⟨k1, k2⟩ := hT _ hq
    obtain ⟨k3, k4, k5⟩ := h.fin cl k1
    exact ⟨k1, k2, k5, k3, k4⟩
  have low : ∀ {u v : α} {W : Int}, Wk (T.map (row F)) ns u v W → v ∈ ns → Le F u v W := fun w hv => cl.walk (fun e he => by
    obtain ⟨x, y, c⟩ := e
    exact .of (edge he).2.2.1) (fun e he => by
    obtain ⟨x, y, c⟩ := e
    exact ⟨(edge he).2.2.2.1, (edge he).2.2.2.2⟩) w hv
  rcases h.kinds hp with ⟨g, hg, hr, q⟩ | ⟨ha, hb, hab, hn⟩
  · -- a difference of a ring: the first step
    obtain ⟨i1, i2⟩ := ring_in q
    obtain ⟨l, r⟩ := p0
    have i1 : l ∈ mem_ g := i1
    have i2 : r ∈ mem_ g := i2
    cases hw with
    | refl _ => exact ne0 rfl
    | @step _ y _ c W he hu t =>
      obtain ⟨k1, k2, k3, k4, k5⟩ := edge he
      obtain ⟨d, e1, l1⟩ := low t n2
      have n2 : r ∈ ns := n2
      have f0 : F l r = some (val F l r) := f0
      have hW : c + W ≤ val F l r := hW
      rcases h.kinds k1 with ⟨g', hg', hr', q'⟩ | ⟨ha', hb', hab', hn'⟩
      · have i3 := (ring_in q').1
        have i3 : l ∈ mem_ g' := i3
        have eg : g = g' := by
          have e1 := h.one cl hg hg' i1 i3
          refine Classical.byContradiction fun z => ?_
          obtain ⟨i, hi, ei⟩ := List.mem_iff_getElem.mp hg
          obtain ⟨j, hj, ej⟩ := List.mem_iff_getElem.mp hg'
          have s := List.pairwise_iff_getElem.mp h.sep
          have refl := cl.eqc_refl (h.hd_mem hg)
          rcases Nat.lt_trichotomy i j with o | o | o
          · have := s i j hi hj o
            rw [ei, ej, ← e1, refl] at this
            cases this
          · subst o
            rw [ei] at ej
            exact z ej
          · have := s j i hj hi o
            rw [ei, ej, ← e1, refl] at this
            cases this
        subst eg
        have := zip_left _ _ (h.gnd hg) q q'
        exact k2 (by rw [this])
      · -- to another class and back
        have hb' : y ∈ hds gs := hb'
        obtain ⟨k, hk, ek⟩ := mem_hds.mp hb'
        have hgk : g.1 ≠ k.1 := fun z => by
          have ha' : l ∈ hds gs := ha'
          have hab' : l ≠ y := hab'
          have := h.apart ha' hb' hab'
          rw [← ek, ← z, eqc_comm, h.eqh cl hg i1] at this
          cases this
        have hyk : y ∈ mem_ k := ek ▸ List.mem_cons_self
        have nq := h.cross cl hg hk i1 hyk hgk
        obtain ⟨a, b, s1, s2, s3⟩ := eqc_iff.mp (h.same cl hg i1 i2)
        rw [f0] at s1
        obtain ⟨x, s4, s5⟩ := cl.tri y k5 r n2 l n1 _ _ e1 s2
        have := cl.nn n1 k5 k3 s4
        have s1 := Option.some.inj s1
        have : eqc F l y = true := eqc_iff.mpr ⟨c, x, k3, s4, by omega⟩
        rw [nq] at this
        cases this
  · -- a difference of two heads: the step out of the class
    obtain ⟨a, b⟩ := p0
    have ha : a ∈ hds gs := ha
    have hb : b ∈ hds gs := hb
    have hab : a ≠ b := hab
    have f0 : F a b = some (val F a b) := f0
    have hn : needed F (hds gs) a b = true := hn
    obtain ⟨c0, ec0, nob⟩ := needed_some hn
    rw [f0] at ec0
    cases ec0
    obtain ⟨g, hg, eg⟩ := mem_hds.mp ha
    have n1 : a ∈ ns := n1
    have n2 : b ∈ ns := n2
    have key : ∀ {u v : α} {W : Int}, Wk (T.map (row F)) ns u v W → v = b → u ∈ mem_ g → ∀ d, F u b = some d → W ≤ d → False := by
      intro u v W w
      induction w with
      | refl _ =>
        intro e1 hu d _ _
        subst e1
        have := h.apart ha hb hab
        rw [← eg, h.eqh cl hg hu] at this
        cases this
      | @step u y v c W he hu' t ih =>
        intro e1 hu d ed hW
        subst e1
        obtain ⟨k1, k2, k3, k4, k5⟩ := edge he
        obtain ⟨d2, e2, l2⟩ := low t n2
        rcases h.kinds k1 with ⟨g', hg', hr', q'⟩ | ⟨ha', hb', hab', hn'⟩
        · obtain ⟨j1, j2⟩ := ring_in q'
          have j1 : u ∈ mem_ g' := j1
          have j2 : y ∈ mem_ g' := j2
          have eqg := h.one cl hg hg' hu j1
          have hy : y ∈ mem_ g := by
            obtain ⟨k, hk, hyk⟩ := (h.mem y).mp k5
            -- the groups are one
            have : g = g' := by
              refine Classical.byContradiction fun z => ?_
              obtain ⟨i, hi, ei⟩ := List.mem_iff_getElem.mp hg
              obtain ⟨j, hj, ej⟩ := List.mem_iff_getElem.mp hg'
              have s := List.pairwise_iff_getElem.mp h.sep
              have refl := cl.eqc_refl (h.hd_mem hg)
              rcases Nat.lt_trichotomy i j with o | o | o
              · have := s i j hi hj o
                rw [ei, ej, ← eqg, refl] at this
                cases this
              · subst o
                rw [ei] at ej
                exact z ej
              · have := s j i hj hi o
                rw [ei, ej, ← eqg, refl] at this
                cases this
            rw [this]
            exact j2
          have e3 := cl.tri u k4 y k5 v n2 _ _ k3 e2
          obtain ⟨x, e4, l4⟩ := e3
          rw [ed] at e4
          cases e4
          exact ih rfl hy _ e2 (by
            obtain ⟨p, q, z1, z2, z3⟩ := eqc_iff.mp (h.same cl hg' j2 j1)
            have ex := cl.exact k5 k4 n2 z1 (h.same cl hg' j2 j1) ed
            rw [k3] at z2
            have z2 := Option.some.inj z2
            rw [e2] at ex
            have ex := Option.some.inj ex
            omega)
        · have ha' : u ∈ hds gs := ha'
          have hb' : y ∈ hds gs := hb'
          have hab' : u ≠ y := hab'
          have eua : u = a := by
            refine Classical.byContradiction fun z => ?_
            have := h.apart ha' ha z
            rw [eqc_comm, ← eg, h.eqh cl hg hu] at this
            cases this
          subst eua
          rw [f0] at ed
          cases ed
          by_cases hyb : y = v
          · subst hyb
            exact k2 rfl
          · have := nob y hb'
            obtain ⟨x, e4, l4⟩ := cl.tri u k4 y k5 v n2 _ _ k3 e2
            rw [f0] at e4
            have e4 := Option.some.inj e4
            have : blocked F (val F u v) u v y = true := blocked_iff.mpr ⟨fun z => hab' z.symm, hyb, c, d2, k3, e2, by omega⟩
            rw [nob y hb'] at this
            cases this
    exact key hw rfl (eg ▸ List.mem_cons_self) _ f0 hW
end
end Df

/-! ### how many there are; the tables of the told differences -/
namespace Df
variable {α : Type} [DecidableEq α]
def rowP (F : OTab α) (hs : List α) (a : α) : List (α × α) := (hs.filter fun b => decide (a ≠ b) && needed F hs a b).map fun b => (a, b)
theorem pairsP_eq (F : OTab α) (hs : List α) : pairsP F hs = hs.flatMap (rowP F hs) := rfl
def manyOf (F : OTab α) (ns : List α) (h : α) : Nat := (ns.filter fun x => eqc F h x).length
/-- what the law counts for the heads -/
def manyH (F : OTab α) (ns hs : List α) : Nat := (hs.map fun h => if 1 < manyOf F ns h then manyOf F ns h else 0).sum
section
variable {ns : List α} {F : OTab α} {gs : List (Grp α)}
theorem Part.many (h : Part F ns gs) (cl : Cl ns F) (hnd : ns.Nodup) {g : Grp α} (hg : g ∈ gs) : manyOf F ns g.1 = (mem_ g).length := by
  have n1 : (ns.filter fun x => eqc F g.1 x).Nodup := hnd.sublist List.filter_sublist
  refine Nat.le_antisymm (nodup_le n1 fun x hx => ?_) (nodup_le (h.gnd hg) fun x hx => ?_)
  · obtain ⟨h1, h2⟩ := List.mem_filter.mp hx
    obtain ⟨k, hk, hxk⟩ := (h.mem x).mp h1
    by_cases e : g.1 = k.1
    · -- one group
      have : g = k := by
        refine Classical.byContradiction fun z => ?_
        obtain ⟨i, hi, ei⟩ := List.mem_iff_getElem.mp hg
        obtain ⟨j, hj, ej⟩ := List.mem_iff_getElem.mp hk
        have s := List.pairwise_iff_getElem.mp h.sep
        have refl := cl.eqc_refl (h.hd_mem hg)
        rcases Nat.lt_trichotomy i j with o | o | o
        · have := s i j hi hj o
          rw [ei, ej, ← e, refl] at this
          cases this
        · subst o
          rw [ei] at ej
          exact z ej
        · have := s j i hj hi o
          rw [ei, ej, ← e, refl] at this
          cases this
      rw [this]
      exact hxk
    · rw [h.cross cl hg hk List.mem_cons_self hxk e] at h2
      cases h2
  · exact List.mem_filter.mpr ⟨h.in_ hg hx, h.eqh cl hg hx⟩
theorem ringP_len (g : Grp α) : (ringP g).length = if 1 < (mem_ g).length then (mem_ g).length else 0 := by
  unfold ringP mem_
  by_cases hr : g.2 = []
  · rw [if_pos hr, hr]
    rfl
  · rw [if_neg hr]
    have := List.length_pos_iff.mpr hr
    rw [if_pos (by rw [List.length_cons]; omega)]
    unfold ringE
    rw [List.length_zip]
    simp
theorem Part.ring_many (h : Part F ns gs) (cl : Cl ns F) (hnd : ns.Nodup) : (gs.flatMap ringP).length = manyH F ns (hds gs) := by
  unfold manyH hds
  rw [List.length_flatMap, List.map_map]
  congr 1
  refine List.map_congr_left fun g hg => ?_
  rw [ringP_len]
  show _ = if 1 < manyOf F ns g.1 then manyOf F ns g.1 else 0
  rw [h.many cl hnd hg]
theorem Part.few_len (h : Part F ns gs) (cl : Cl ns F) (hnd : ns.Nodup) : (few F gs).length = manyH F ns (hds gs) + (pairsP F (hds gs)).length := by
  unfold few fewP
  rw [List.length_map, List.length_append, h.ring_many cl hnd]
theorem Part.hds_nd (h : Part F ns gs) (cl : Cl ns F) : (hds gs).Nodup := by
  unfold hds
  rw [List.nodup_iff_pairwise_ne, List.pairwise_map]
  refine List.Pairwise.imp_of_mem ?_ h.sep
  intro a b ha hb e z
  rw [← z, cl.eqc_refl (h.hd_mem ha)] at e
  cases e
theorem rowP_len (F : OTab α) {hs : List α} {a : α} (ha : a ∈ hs) : (rowP F hs a).length + 1 ≤ hs.length := by
  unfold rowP
  rw [List.length_map]
  have h1 : (hs.filter fun b => decide (a ≠ b) && needed F hs a b).length ≤ (hs.filter (· ≠ a)).length := by
    rw [← List.countP_eq_length_filter, ← List.countP_eq_length_filter]
    refine List.countP_mono_left fun b _ hb => ?_
    rw [Bool.and_eq_true] at hb
    have := of_decide_eq_true hb.1
    exact decide_eq_true fun z => this z.symm
  have := filter_len ha
  omega
theorem pairs_len (F : OTab α) (hs : List α) : ∀ l : List α, (∀ a ∈ l, a ∈ hs) → (l.flatMap (rowP F hs)).length + l.length ≤ l.length * hs.length
  | [], _ => by simp
  | a :: l, h => by
    have h1 := rowP_len F (h a List.mem_cons_self)
    have ih := pairs_len F hs l fun x hx => h x (List.mem_cons_of_mem _ hx)
    rw [List.flatMap_cons, List.length_append, List.length_cons, Nat.succ_mul]
    omega
theorem Part.sum_len (h : Part F ns gs) (hnd : ns.Nodup) : (gs.flatMap mem_).length = ns.length :=
  Nat.le_antisymm (nodup_le h.nd fun x hx => by
    obtain ⟨g, hg, hx⟩ := List.mem_flatMap.mp hx
    exact h.in_ hg hx) (nodup_le hnd fun x hx => by
    obtain ⟨g, hg, hx⟩ := (h.mem x).mp hx
    exact List.mem_flatMap.mpr ⟨g, hg, hx⟩)
theorem ring_len (gs : List (Grp α)) : (gs.flatMap ringP).length + 2 * gs.length ≤ 2 * (gs.flatMap mem_).length := by
  induction gs with
  | nil => simp
  | cons g gs ih =>
    rw [List.flatMap_cons, List.flatMap_cons, List.length_append, List.length_append, List.length_cons, ringP_len]
    unfold mem_ at *
    rw [List.length_cons] at *
    split <;> omega
theorem Part.len20 (h : Part F ns gs) (cl : Cl ns F) (hnd : ns.Nodup) (h5 : ns.length ≤ 5) : (few F gs).length ≤ 20 := by
  have h1 := ring_len gs
  have h2 := pairs_len F (hds gs) (hds gs) fun _ z => z
  have h3 := h.sum_len hnd
  have h4 : (hds gs).length = gs.length := List.length_map _
  have e : (few F gs).length = (gs.flatMap ringP).length + ((hds gs).flatMap (rowP F (hds gs))).length := by
    unfold few fewP
    rw [List.length_map, List.length_append, pairsP_eq]
  rw [h4] at h2
  rw [e]
  have h6 : gs.length ≤ 5 := by omega
  generalize gs.length = k at *
  rcases (show k = 0 ∨ k = 1 ∨ k = 2 ∨ k = 3 ∨ k = 4 ∨ k = 5 by omega) with rfl | rfl | rfl | rfl | rfl | rfl <;> omega
theorem zip_nd : ∀ (l : List α) (m : List α), l.Nodup → (l.zip m).Nodup
  | [], _, _ => by simp
  | _ :: _, [], _ => by simp
  | a :: l, b :: m, h => by
    have n := List.nodup_cons.mp h
    rw [List.zip_cons_cons]
    exact List.nodup_cons.mpr ⟨fun z => n.1 (List.of_mem_zip z).1, zip_nd l m n.2⟩
theorem Part.few_nd (h : Part F ns gs) (cl : Cl ns F) : (fewP F gs).Nodup := by
  unfold fewP
  rw [List.nodup_append]
  refine ⟨?_, ?_, fun p hp q hq e => ?_⟩
  · rw [List.nodup_iff_pairwise_ne, List.pairwise_flatMap]
    refine ⟨fun g hg => ?_, List.Pairwise.imp_of_mem ?_ h.sep⟩
    · rw [← List.nodup_iff_pairwise_ne]
      unfold ringP
      split
      · exact List.nodup_nil
      · exact zip_nd _ _ (h.gnd hg)
    · intro g k hg hk e p hp q hq z
      subst z
      have i1 := (ring_in (mem_ring hp).1).1
      have i2 := (ring_in (mem_ring hq).1).1
      have := h.one cl hg hk i1 i2
      rw [← this, cl.eqc_refl (h.hd_mem hg)] at e
      cases e
  · rw [pairsP_eq, List.nodup_iff_pairwise_ne, List.pairwise_flatMap]
    have n := h.hds_nd cl
    refine ⟨fun a ha => ?_, ?_⟩
    · unfold rowP
      rw [List.pairwise_map]
      refine List.Pairwise.imp ?_ (List.nodup_iff_pairwise_ne.mp (n.sublist List.filter_sublist))
      intro x y hxy z
      cases z
      exact hxy rfl
    · refine List.Pairwise.imp ?_ (List.nodup_iff_pairwise_ne.mp n)
      intro a b hab p hp q hq z
      obtain ⟨x, _, rfl⟩ := List.mem_map.mp hp
      obtain ⟨y, _, rfl⟩ := List.mem_map.mp hq
      cases z
      exact hab rfl
  · subst e
    obtain ⟨g, hg, hp⟩ := List.mem_flatMap.mp hp
    obtain ⟨x, y⟩ := p
    have i := ring_in (mem_ring hp).1
    obtain ⟨h1, h2, h3, _⟩ := mem_pairs.mp hq
    have := h.apart h1 h2 h3
    rw [h.same cl hg i.1 i.2] at this
    cases this
end
/-! the tables of the told differences -/
section
variable {ns : List α} {S : List (Row α)} {L : Int} {R : Tab α} {p : α → Int}
/-- what the law wants of the told differences -/
structure FewOk (ns : List α) (S fl : List (Row α)) (F : OTab α) (b : Int) : Prop where
  part : Part F ns (classes F ns)
  cl : Cl ns F
  few : fl = few F (classes F ns)
  rows : ∀ e ∈ fl, e.1 ∈ ns ∧ e.2.1 ∈ ns ∧ e.1 ≠ e.2.1 ∧ -b ≤ e.2.2 ∧ e.2.2 ≤ b
  one : ∀ e ∈ fl, implB S e.1 e.2.1 e.2.2 = true
  none : ∀ (i : Nat) (h : i < fl.length), implB (fl.take i ++ fl.drop (i + 1)) fl[i].1 fl[i].2.1 fl[i].2.2 = false
  all : ∀ e ∈ S, implB fl e.1 e.2.1 e.2.2 = true
  len : fl.length ≤ 20
theorem Fit.fewOk (h : Fit ns S L) (e : addedR blankR S = Option.some R) (hp : Solves S p) (hnd : ns.Nodup) (h5 : ns.length ≤ 5) (hL : L ≤ 5000000000000000) : FewOk ns S (few (opt ns R) (classes (opt ns R) ns)) (opt ns R) 25000000000000000 := by
  obtain ⟨ok, wk⟩ := h.some e
  have l3 := h.le3
  have h0 := h.nn
  have hnL : (ns.length : Int) * L ≤ 25000000000000000 := by
    have h1 := Int.mul_le_mul_of_nonneg_right (show (ns.length : Int) ≤ 5 by omega) h0
    omega
  have cl := ok.cl l3.1
  have part := part (opt ns R) hnd
  have hlen := part.len20 cl hnd h5
  have fin : ∀ e ∈ few (opt ns R) (classes (opt ns R) ns), e.1 ∈ ns ∧ e.2.1 ∈ ns ∧ opt ns R e.1 e.2.1 = Option.some e.2.2 ∧ e.1 ≠ e.2.1 := fun e he => by
    obtain ⟨q, hq, rfl⟩ := List.mem_map.mp he
    obtain ⟨k1, k2, k3⟩ := part.fin cl hq
    exact ⟨k1, k2, k3, part.ne hq⟩
  have rows : ∀ e ∈ few (opt ns R) (classes (opt ns R) ns), e.1 ∈ ns ∧ e.2.1 ∈ ns ∧ e.1 ≠ e.2.1 ∧ -25000000000000000 ≤ e.2.2 ∧ e.2.2 ≤ 25000000000000000 := fun d hd => by
    obtain ⟨k1, k2, k3, k4⟩ := fin d hd
    obtain ⟨_, _, f, ev⟩ := opt_some k3
    have := h.bound e hp k1 k2 f (by omega)
    exact ⟨k1, k2, k4, by omega, by omega⟩
  have pow20 : ∀ n : Nat, n ≤ 20 → (3 : Int) ^ n * 25000000000000000 ≤ 10 ^ 28 := fun n hn => by
    have h1 : (3 : Int) ^ n ≤ 3 ^ 20 := by
      obtain ⟨d, hd⟩ := Nat.le.dest hn
      rw [← hd, Int.pow_add]
      have h1 : (1 : Int) ≤ 3 ^ d := pow3 d
      have h2 : (0 : Int) ≤ 3 ^ n := by have := pow3 n; omega
      have h3 := Int.mul_le_mul_of_nonneg_left h1 h2
      omega
    have h2 := Int.mul_le_mul_of_nonneg_right h1 (show (0 : Int) ≤ 25000000000000000 by decide)
    have h3 : (3 : Int) ^ 20 * 25000000000000000 ≤ 10 ^ 28 := by decide
    omega
  -- a part of the told differences has a table
  have tab : ∀ T : List (Row α), (∀ d ∈ T, d ∈ few (opt ns R) (classes (opt ns R) ns)) → T.length ≤ 20 → ∃ R', addedR blankR T = Option.some R' ∧ Ok ns (3 ^ T.length * 25000000000000000) T R' ∧ Walks ns T R' := fun T hT hl => by
    have hr : ∀ d ∈ T, d.1 ∈ ns ∧ d.2.1 ∈ ns ∧ -25000000000000000 ≤ d.2.2 ∧ d.2.2 ≤ 25000000000000000 := fun d hd => ⟨(rows d (hT d hd)).1, (rows d (hT d hd)).2.1, (rows d (hT d hd)).2.2.2.1, (rows d (hT d hd)).2.2.2.2⟩
    have ok0 := Ok.blank (α := α) ns (B := 25000000000000000) (by decide) (by decide)
    have w0 := Walks.blank (α := α) ns
    cases eT : addedR blankR T with
    | none =>
      have := (Ok.added T ok0 hr (by decide) (pow20 _ hl)).2 eT p
      refine absurd (fun d hd => ?_) this
      obtain ⟨k1, k2, k3, _⟩ := fin d (hT d hd)
      obtain ⟨_, _, f, ev⟩ := opt_some k3
      have := ok.sound p hp _ k1 _ k2 f
      omega
    | some R' => exact ⟨R', rfl, by simpa using (Ok.added T ok0 hr (by decide) (pow20 _ hl)).1 R' eT, by simpa using Walks.added T w0 ok0 hr (by decide) (pow20 _ hl) R' eT⟩
  refine ⟨part, cl, rfl, rows, fun d hd => ?_, fun i hi => ?_, fun d hd => ?_, hlen⟩
  · obtain ⟨k1, k2, k3, _⟩ := fin d hd
    obtain ⟨_, _, f, ev⟩ := opt_some k3
    unfold implB
    rw [e]
    exact decide_eq_true (by omega)
  · have hsub : ∀ d ∈ (few (opt ns R) (classes (opt ns R) ns)).take i ++ (few (opt ns R) (classes (opt ns R) ns)).drop (i + 1), d ∈ few (opt ns R) (classes (opt ns R) ns) := fun d hd => (List.mem_append.mp hd).elim List.mem_of_mem_take List.mem_of_mem_drop
    obtain ⟨R', eR, ok', wk'⟩ := tab _ hsub (by rw [List.length_append, List.length_take, List.length_drop]; omega)
    obtain ⟨r1, r2, r3, r4, r5⟩ := rows _ (List.getElem_mem hi)
    unfold implB
    rw [eR]
    refine decide_eq_false fun hle => ?_
    have w := wk' _ r1 _ r2 (by simp only [HALFI_eq]; omega)
    have hiP : i < (fewP (opt ns R) (classes (opt ns R) ns)).length := by
      have := hi
      unfold few at this
      rwa [List.length_map] at this
    have eT : (few (opt ns R) (classes (opt ns R) ns)).take i ++ (few (opt ns R) (classes (opt ns R) ns)).drop (i + 1) = ((fewP (opt ns R) (classes (opt ns R) ns)).take i ++ (fewP (opt ns R) (classes (opt ns R) ns)).drop (i + 1)).map (row (opt ns R)) := by
      unfold few
      rw [List.map_append, List.map_take, List.map_drop]
    have e0 : (few (opt ns R) (classes (opt ns R) ns))[i] = row (opt ns R) (fewP (opt ns R) (classes (opt ns R) ns))[i] := List.getElem_map (row (opt ns R))
    rw [eT] at w
    rw [e0] at w hle
    have nd := part.few_nd cl
    have := part.irred cl (p0 := (fewP (opt ns R) (classes (opt ns R) ns))[i]) (T := (fewP (opt ns R) (classes (opt ns R) ns)).take i ++ (fewP (opt ns R) (classes (opt ns R) ns)).drop (i + 1)) (List.getElem_mem hiP) (fun q hq => by
      refine ⟨(List.mem_append.mp hq).elim List.mem_of_mem_take List.mem_of_mem_drop, fun z => ?_⟩
      subst z
      rcases List.mem_append.mp hq with k | k
      · obtain ⟨j, hj, ej⟩ := List.mem_iff_getElem.mp k
        rw [List.length_take] at hj
        rw [List.getElem_take] at ej
        have := (List.getElem_inj nd).mp ej
        omega
      · obtain ⟨j, hj, ej⟩ := List.mem_iff_getElem.mp k
        rw [List.getElem_drop] at ej
        have := (List.getElem_inj nd).mp ej
        omega) w
    have hle : R' (fewP (opt ns R) (classes (opt ns R) ns))[i].1 (fewP (opt ns R) (classes (opt ns R) ns))[i].2 ≤ val (opt ns R) (fewP (opt ns R) (classes (opt ns R) ns))[i].1 (fewP (opt ns R) (classes (opt ns R) ns))[i].2 := hle
    exact absurd this (by
      show ¬ val (opt ns R) _ _ < R' (fewP (opt ns R) (classes (opt ns R) ns))[i].1 (fewP (opt ns R) (classes (opt ns R) ns))[i].2
      omega)
  · obtain ⟨R', eR, ok', wk'⟩ := tab _ (fun d hd => hd) hlen
    have cl' := ok'.cl (pow20 _ hlen)
    have hc : Comp (few (opt ns R) (classes (opt ns R) ns)) (opt ns R') := fun x hx => by
      obtain ⟨k1, k2, _, k4, k5⟩ := rows x hx
      have := ok'.compl x hx
      exact ⟨_, opt_fin k1 k2 (by simp only [HALFI_eq]; omega), this⟩
    obtain ⟨i1, i2, i3, i4⟩ := h.ins d hd
    have hd1 := ok.compl d hd
    have f1 := opt_fin i1 i2 (R := R) (by simp only [HALFI_eq]; omega)
    obtain ⟨c', e', l'⟩ := part.few_le cl cl' hc i1 i2 f1
    obtain ⟨_, _, f, ev⟩ := opt_some e'
    unfold implB
    rw [eR]
    exact decide_eq_true (by omega)
end
end Df

/-! ### texts in order; data of lists -/
namespace Ls
open PySem PySem.Spec PyProof.Rows L2
def leS (a b : Str) : Prop := ¬ b.cps.toList < a.cps.toList
theorem leS_trans {a b c : Str} (h : leS a b) (k : leS b c) : leS a c := fun z => by
  have h1 : a.cps.toList ≤ b.cps.toList := List.not_lt.mp h
  have h2 : b.cps.toList ≤ c.cps.toList := List.not_lt.mp k
  exact List.not_lt.mpr (List.le_trans h1 h2) z
theorem leS_anti {a b : Str} (h : leS a b) (k : leS b a) : a = b := by
  have h1 : a.cps.toList ≤ b.cps.toList := List.not_lt.mp h
  have h2 : b.cps.toList ≤ a.cps.toList := List.not_lt.mp k
  have e : a.cps.toList = b.cps.toList := List.le_antisymm h1 h2
  have e2 : a.cps = b.cps := Array.toList_inj.mp e
  cases a; cases b
  exact congrArg Str.mk e2
theorem rising_pw : ∀ (r : List Str) (p : Str), risingS p r = true → (p :: r).Pairwise leS
  | [], p, _ => by simp
  | x :: r, p, h => by
    have h : (!ltCps x.cps.toList p.cps.toList && risingS x r) = true := h
    rw [Bool.and_eq_true] at h
    have h1 : leS p x := fun z => by
      have := h.1
      rw [ltCps_eq, decide_eq_true z] at this
      cases this
    have ih := rising_pw r x h.2
    refine List.pairwise_cons.mpr ⟨fun y hy => ?_, ih⟩
    rcases List.mem_cons.mp hy with rfl | hy
    · exact h1
    · exact leS_trans h1 ((List.pairwise_cons.mp ih).1 y hy)
theorem sorted_pw : ∀ (l : List Str), sortedS l = true → l.Pairwise leS
  | [], _ => List.Pairwise.nil
  | x :: r, h => rising_pw r x h
theorem pw_uniq : ∀ (l m : List Str), l.Perm m → l.Pairwise leS → m.Pairwise leS → l = m
  | [], m, p, _, _ => (List.nil_perm.mp p).symm
  | a :: l, [], p, _, _ => absurd p.length_eq (by simp)
  | a :: l, b :: m, p, h, k => by
    have h1 := List.pairwise_cons.mp h
    have k1 := List.pairwise_cons.mp k
    have e : a = b := by
      rcases List.mem_cons.mp (p.mem_iff.mp List.mem_cons_self) with e | hb
      · exact e
      · rcases List.mem_cons.mp (p.mem_iff.mpr List.mem_cons_self) with e | ha
        · exact e.symm
        · exact leS_anti (h1.1 b ha) (k1.1 a hb)
    subst e
    rw [pw_uniq l m (List.perm_cons a |>.mp p) h1.2 k1.2]
theorem sorted_uniq {l m n : List Str} (p : l.Perm n) (q : m.Perm n) (h : sortedS l = true) (k : sortedS m = true) : l = m := pw_uniq l m (p.trans q.symm) (sorted_pw l h) (sorted_pw m k)
/-! texts in lists -/
theorem eqV_str (a b : Str) : eqV (.str a) (.str b) = decide (a = b) := by
  unfold eqV
  rw [Bool.eq_iff_iff]
  simp
theorem inV_str (n : Str) : ∀ ns : List Str, inV (.str n) (ns.map V.str) = decide (n ∈ ns)
  | [] => by simp [inV]
  | a :: ns => by
    have ih := inV_str n ns
    unfold inV at ih ⊢
    rw [List.map_cons, List.any_cons, ih, eqV_str, Bool.eq_iff_iff]
    simp only [Bool.or_eq_true, decide_eq_true_eq, List.mem_cons]
    exact or_congr eq_comm Iff.rfl
theorem flat_str (ns : List Str) : (ns.map V.str).all flatV = true := by
  induction ns with
  | nil => rfl
  | cons a ns ih => rw [List.map_cons, List.all_cons, ih]; rfl
/-! data -/
theorem canAll {α : Type} (f : α → PyData) (h : ∀ x, PyData.canLay0 (f x) = true) : ∀ l : List α, PyData.canLayAll0 (l.map f) = true
  | [] => rfl
  | x :: l => by
    rw [List.map_cons, PyData.canLayAll0, h x, canAll f h l]
    rfl
theorem canAllm {α : Type} (f : α → PyData) : ∀ l : List α, (∀ x ∈ l, PyData.canLay0 (f x) = true) → PyData.canLayAll0 (l.map f) = true
  | [], _ => rfl
  | x :: l, h => by
    rw [List.map_cons, PyData.canLayAll0, h x List.mem_cons_self, canAllm f l fun y hy => h y (List.mem_cons_of_mem _ hy)]
    rfl
theorem depAll {α : Type} (f : α → PyData) (n : Nat) (h : ∀ x, PyData.depth (f x) ≤ n) : ∀ l : List α, PyData.depthAll (l.map f) ≤ n
  | [] => by simp [PyData.depthAll]
  | x :: l => by
    have h1 := h x
    have h2 := depAll f n h l
    simp only [List.map_cons, PyData.depthAll]
    omega
theorem shaped_list {α : Type} (f : α → PyData) (n : Nat) (hn : n < 60) (hd : ∀ x, PyData.depth (f x) ≤ n) (l : List α) (h : ∀ x ∈ l, PyData.canLay0 (f x) = true) : SeqAt.shaped (.list (l.map f)) = true := by
  have h1 := depAll f n hd l
  have h2 : PyData.depth (.list (l.map f)) ≤ 64 := by simp only [PyData.depth]; omega
  unfold SeqAt.shaped
  rw [Bool.and_eq_true]
  exact ⟨by simp only [PyData.canLay0]; exact canAllm f l h, decide_eq_true h2⟩
theorem eqv_list {α : Type} (f : α → PyData) (l : List α) (h : ∀ x ∈ l, PyData.canLay0 (f x) = true) : PyData.eqv (.list (l.map f)) (.list (l.map f)) = true := PySem.SeqAt.eqv_refl _ (by simp only [PyData.canLay0]; exact canAllm f l h)
theorem shaped_strs (l : List Str) (h : ∀ x ∈ l, PySem.PyData.strOk x = true) : SeqAt.shaped (.list (l.map PyData.str)) = true := shaped_list PyData.str 1 (by decide) (fun x => by simp [PyData.depth]) l fun x hx => by simp only [PyData.canLay0]; exact h x hx
theorem eqv_strs (l : List Str) (h : ∀ x ∈ l, PySem.PyData.strOk x = true) : PyData.eqv (.list (l.map PyData.str)) (.list (l.map PyData.str)) = true := eqv_list PyData.str l fun x hx => by simp only [PyData.canLay0]; exact h x hx
theorem dpStrs (K : PySem.W.Frag) (H : Hp) : ∀ ns : List Str, DpAll K H (ns.map V.str) (ns.map PyData.str)
  | [] => .nil
  | n :: ns => .cons (.str n) (dpStrs K H ns)
end Ls

/-! ### defs that may raise, as callers need them; an own error without a text -/
namespace Ls
open PySem PySem.Spec PyProof.Rows L2
structure CalX (P : Program) (w : World) (K : PySem.W.Frag) (mg : Str → Option Value) (base : Heap) (k : Nat) (x : Str) (sp : Sp) (dvs : List V) : Prop where
  ex : ∃ (f : Addr) (fd : FuncData) (ps : List Str) (ds : List Value), FnOk P w K mg base (L2.CX P w) k f fd ps sp ∧ mg x = some (.ref f) ∧ PySem.W.keepIn K (.ref f) = true ∧ Binds K fd ps ds ∧ Vals dvs ds
section
variable {X : Cx} {W : WX} {E : XK} {e : Expr} {es : List Expr} {t : TA} {p pos : Pos} {x : Str} {k j : Nat} {sp : Sp} {dvs : List V} {C : Addr}
theorem pe_cx (c : CalX X.prog X.w X.K X.mg X.base k x sp dvs) (tk : Takes X W) (hE : ∀ cls d σ H, E cls d H → W cls d σ H) (hr : Room j X.A) (hk : k ≤ j) (hg : Gl X x) (ha : PA X (e :: es) t) (hdb : (x == ("__debug__" : Str)) = false := by decide)
    (he : starEach (e :: es) X.env = (false, eval e X.env) :: starEach es X.env := by rfl) (hpl : (backTo pos (starEach es X.env)).any (·.1) = false := by rfl) : PE X (.Call (.Name x p) (e :: es) [] pos) (tCall sp dvs E t) := by
  have ⟨f, fd, ps, ds, F, hm, kp, b, d⟩ := c.ex
  exact pe_call F (hr.mono hk) hg hm kp b d (passes_call tk hE) ha hdb he hpl
variable {bmB : List Value} {B newId initId : String}
theorem pmk_own0 (F : ExcBaseFacts B newId initId bmB) (q : PySem.W.excIn X.K C bmB newId = true) (gC : X.mg x = some (.ref C)) (kC : PySem.W.keepIn X.K (.ref C) = true) (r : Raises X (.ref C)) (hg : Gl X x) (hdb : (x == ("__debug__" : Str)) = false := by decide) :
    PMk X (.Call (.Name x p) [] [] pos) (fun _ H Q => Q (.ref C) none H) := by
  intro pins s σ H Q I h
  refine wpAny_Call_Name_kw (ld_glob I hg gC ?_ hdb)
  refine PySem.W.callWith_K0 I.kIn kC ?_
  have ⟨bm, N, nm, qn, bs, hdct, sn, sub, ab, col, dd, k0, k1, k2, k3, k5, mN, hC, hN, hni, T⟩ := exc_obj I.kIn q
  refine wpAny_call_exc_subT F T hC hN hni (fun h' e hm => ?_) (Nat.zero_le _)
  exact mk_of I hm r h (I.hok.gone hm.new)
end
/-! a local name that holds one of two defs that may raise, called within a try -/
structure CalAX (P : Program) (w : World) (K : PySem.W.Frag) (mg : Str → Option Value) (base : Heap) (k : Nat) (f : Addr) (sp : Sp) : Prop where
  ex : ∃ (fd : FuncData) (ps : List Str), FnOk P w K mg base (L2.CX P w) k f fd ps sp ∧ PySem.W.keepIn K (.ref f) = true ∧ Binds K fd ps []
def tCallW (i : Nat) (f1 f2 : Addr) (sp1 sp2 : Sp) (W : WX) (t : TA) : TE := fun σ H Q => (σ[i]? = some (some (.ref f1)) ∧ t σ H fun vs H1 => sp1 vs H1 Q (WE W σ)) ∨ (σ[i]? = some (some (.ref f2)) ∧ t σ H fun vs H1 => sp2 vs H1 Q (WE W σ))
section
variable {X : Cx} {W : WX} {e : Expr} {es : List Expr} {t : TA} {p pos : Pos} {x : Str} {j : Nat}
theorem pe_cxv {i k1 k2 : Nat} {f1 f2 : Addr} {sp1 sp2 : Sp} (c1 : CalAX X.prog X.w X.K X.mg X.base k1 f1 sp1) (c2 : CalAX X.prog X.w X.K X.mg X.base k2 f2 sp2) (tk : Takes X W) (hr : Room j X.A) (l1 : k1 ≤ j) (l2 : k2 ≤ j) (hN : X.N[i]? = some x) (hv : Vis X.env.scope x) (ha : PA X (e :: es) t)
    (hd : (x == ("__debug__" : Str)) = false := by decide) (hcd : (x == ("__classdict__" : Str)) = false := by decide) (he : starEach (e :: es) X.env = (false, eval e X.env) :: starEach es X.env := by rfl) (hpl : (backTo pos (starEach es X.env)).any (·.1) = false := by rfl) :
    PE X (.Call (.Name x p) (e :: es) [] pos) (tCallW i f1 f2 sp1 sp2 W t) := by
  refine ⟨fun pins s σ H Q I h => ?_⟩
  have run : ∀ {k : Nat} {f : Addr} {sp : Sp}, CalAX X.prog X.w X.K X.mg X.base k f sp → k ≤ j → σ[i]? = some (some (.ref f)) → (t σ H fun vs H1 => sp vs H1 Q (WE W σ)) → wpAny (model X.prog X.w) X.A (eval (.Call (.Name x p) (e :: es) [] pos) X.env) (EP X pins σ Q) X.xe s := fun {k f sp} c hk hs ht => by
    have ⟨fd, ps, F, kp, b⟩ := c.ex
    refine wpAny_Call_Name_kw (thn ((pe_var (pos := p) hN hv hd hcd).run pins s σ H (fun v H1 => v = .ref f ∧ H1 = H) I ⟨.ref f, hs, rfl, rfl⟩) fun u s1 ⟨v, H1, I1, r1, ev, eH⟩ => ?_)
    subst ev eH
    cases r1
    exact PySem.W.callWith_K (h₀ := X.base) I.ok.mod.kin kp (thn (ha.run pos pins s1 σ _ _ I1 ht) fun us s2 ⟨vs, H2, I2, r, q⟩ => ⟨I2.kIn, run_fnS (E := WE W) F (hr.mono hk) b (passAt tk σ) I2 r q⟩) he hpl
  rcases h with ⟨h1, h2⟩ | ⟨h1, h2⟩
  · exact run c1 l1 h1 h2
  · exact run c2 l2 h1 h2
end
end Ls

/-! ### list(zip(a, b)) of two lists -/
namespace Ls
open PySem PySem.Spec PyProof.Rows L2
theorem zip_no_len : typeLookup (.type "zip") "__len__" = pure none := by rw [typeLookup_type, builtinLookup_eq_fast]; kernel_rfl
theorem zip_no_hint : typeLookup (.type "zip") "__length_hint__" = pure none := by rw [typeLookup_type, builtinLookup_eq_fast]; kernel_rfl
/-- the zip object, i turns on: nothing given out yet, or a pair that is still there -/
def ZSt (z TI TO i1 i2 a b : Addr) (i : Nat) (h : Heap) : Prop :=
  ((IsZip h z TI TO .none ∧ ∃ x y, IsPair h TO x y) ∨ ∃ T f o, IsZipHeld h z TI TO T f ∧ h.get? T = some o ∧ T ∉ [z, TI, TO, i1, i2]) ∧ IsPair h TI (.ref i1) (.ref i2) ∧ h.IsListIter i1 a i ∧ h.IsListIter i2 b i ∧ ∃ o, h.get? TO = some o
theorem ZSt.keep {z TI TO i1 i2 a b q : Addr} {i : Nat} {h : Heap} {f : Obj → Obj} {ob : Obj} (s : ZSt z TI TO i1 i2 a b i h) (D : ∀ c ∈ [z, TI, TO, i1, i2], c ≠ q) (hq : h.get? q = some ob) (hfr : (f ob).isFreed = false) : ZSt z TI TO i1 i2 a b i (h.update q f) := by
  have oth : ∀ {c o}, c ≠ q → h.get? c = some o → (h.update q f).get? c = some o := fun hc e => (Heap.get?_update_other _ _ (Ne.symm hc)).trans e
  have ⟨s1, s2, s3, s4, o5, s5⟩ := s
  refine ⟨?_, oth (D TI (by simp)) s2, s3.at fun o e => oth (D i1 (by simp)) e, s4.at fun o e => oth (D i2 (by simp)) e, o5, oth (D TO (by simp)) s5⟩
  rcases s1 with ⟨k1, x, y, k2⟩ | ⟨T, g, o, k1, k2, k3⟩
  · exact .inl ⟨oth (D z (by simp)) k1, x, y, oth (D TO (by simp)) k2⟩
  · right
    by_cases hT : T = q
    · subst hT
      exact ⟨T, g, _, oth (D z (by simp)) k1, Heap.get?_update_self f k2 (by rw [hq] at k2; cases k2; exact hfr), k3⟩
    · exact ⟨T, g, o, oth (D z (by simp)) k1, oth hT k2, k3⟩
section
variable {X : Cx} {pins : List (Addr × Obj)} {σ : L2.St}
def ZFp (z TI TO i1 i2 : Addr) (H : Hp) : Prop := ∀ c ∈ [z, TI, TO, i1, i2], H c = none
theorem zip_loop {A1 : Around} {Rs : Result → Shared → Prop} {z TI TO i1 i2 a b q : Addr} {xs ys : List V} {H1 : Hp} (hh : A1.handled = none) (D : ZipApart z TI TO i1 i2 a b) (ha : H1 a = some (.lst xs)) (hb : H1 b = some (.lst ys)) (hl : xs.length = ys.length) (hz : xs.length < sizeLine) (hq0 : H1 q = none)
    (hdone : ∀ ts H' s, Inv X pins σ H' s → Same H1 H' → Paired (fun t (p : V × V) => H' t = some (.tup [p.1, p.2])) ts (xs.zip ys) → H' q = some (.lst (ts.map V.ref)) → Rs (.ok (.ret .none)) s) :
    ∀ (k i : Nat) (ts : List Addr) (H : Hp) (s : Shared), xs.length - i = k → i ≤ xs.length → Inv X pins σ H s → (∀ c ∈ [z, TI, TO, i1, i2], FpOk X pins H c) → Same H1 H → Paired (fun t (p : V × V) => H t = some (.tup [p.1, p.2])) ts ((xs.zip ys).take i) → H q = some (.lst (ts.map V.ref)) → ZSt z TI TO i1 i2 a b i s.heap →
      codeAny (model X.prog X.w) A1 (.builtin "list.extend.loop" ⟨[.ref q, .ref z, .none], []⟩) Rs s := by
  have hzl : (xs.zip ys).length = xs.length := by rw [List.length_zip]; omega
  intro k
  induction k with
  | zero =>
    intro i ts H s hk hi I hf sm hp hq st
    have hin : i = xs.length := by omega
    subst hin
    obtain ⟨its, rv, p, _⟩ := I.list (sq (sm _ _ ha))
    obtain ⟨its2, rv2, p2, _⟩ := I.list (sq (sm _ _ hb))
    have l1 := rv.length
    have l2 := rv2.length
    refine codeAny_builtin PySem.F.entry_extend_loop ?_
    rw [Around.under_plainId PySem.F.plain_extend_loop _]
    show wpAny _ A1.in1 (pyNext (.ref z) >>= _) _ _ s
    have he : its.toArray[xs.length]? = none ∨ its2.toArray[xs.length]? = none := .inl (by simp; omega)
    have fin : ∀ h', (∀ c o, c ≠ z → c ≠ i1 → c ≠ i2 → c ≠ TO → s.heap.get? c = some o → h'.get? c = some o) → Rs (.ok (.ret .none)) { s with heap := h' } := fun h' hk => by
      have I' : Inv X pins σ H { s with heap := h' } := I.turnedL (t' := s.toks) (ch := [z, TI, TO, i1, i2]) (fun c o hb q => hk c o (fun q' => hb (by simp [q'])) (fun q' => hb (by simp [q'])) (fun q' => hb (by simp [q'])) (fun q' => hb (by simp [q'])) q) hf
      rw [← hzl, List.take_length] at hp
      exact hdone ts H _ I' sm hp hq
    obtain ⟨s1, s2, s3, s4, _⟩ := st
    refine wpAny_bind ?_
    rcases s1 with ⟨k1, x, y, k2⟩ | ⟨T, g, o, k1, k2, _⟩
    · exact wpAny_pyNext_zip_end (show A1.in1.handled = none from hh) D k1 s2 k2 s3 s4 p.isList p2.isList he fun h' hk => wpAny_pure (fin h' fun c o c1 c2 c3 c4 e => hk c o c1 c4 c2 c3 e)
    · exact wpAny_pyNext_zip_end_held (show A1.in1.handled = none from hh) D k1 k2 s2 s3 s4 p.isList p2.isList he fun h' hk => wpAny_pure (fin h' fun c o c1 c2 c3 _ e => hk c o c1 c2 c3 e)
  | succ k ih =>
    intro i ts H s hk hi I hf sm hp hq st
    have hlt : i < xs.length := by omega
    have hlt2 : i < ys.length := by omega
    obtain ⟨its, rv, p, _⟩ := I.list (sq (sm _ _ ha))
    obtain ⟨its2, rv2, p2, _⟩ := I.list (sq (sm _ _ hb))
    obtain ⟨u, hu, ru⟩ := rv.get (List.getElem?_eq_getElem hlt)
    obtain ⟨u2, hu2, ru2⟩ := rv2.get (List.getElem?_eq_getElem hlt2)
    refine codeAny_builtin PySem.F.entry_extend_loop ?_
    rw [Around.under_plainId PySem.F.plain_extend_loop _]
    show wpAny _ A1.in1 (pyNext (.ref z) >>= _) _ _ s
    obtain ⟨s1, s2, s3, s4, o5, s5⟩ := st
    have lt' : ∀ c ∈ [z, TI, TO, i1, i2], c < s.heap.objs.size := fun c hcm => by
      have hzc : z < s.heap.objs.size := by
        rcases s1 with ⟨k1, _⟩ | ⟨T, g, o, k1, k2, _⟩
        · exact Heap.lt_size k1
        · exact Heap.lt_size k1
      have e' : c = z ∨ c = TI ∨ c = TO ∨ c = i1 ∨ c = i2 := by simpa using hcm
      rcases e' with q | q | q | q | q
      · rw [q]; exact hzc
      · rw [q]; exact Heap.lt_size s2
      · rw [q]; exact Heap.lt_size s5
      · rw [q]; obtain ⟨_, e1, _⟩ := s3; exact Heap.lt_size e1
      · rw [q]; obtain ⟨_, e2, _⟩ := s4; exact Heap.lt_size e2
    have fin : ∀ h', (∃ T f o, IsZipHeld h' z TI TO T f ∧ h'.get? T = some o ∧ T ∉ [z, TI, TO, i1, i2]) → (∃ o, h'.get? TO = some o) → h'.IsListIter i1 a (i + 1) → h'.IsListIter i2 b (i + 1) → IsPair h' s.heap.objs.size u u2 → (∀ c o, c ≠ z → c ≠ TO → c ≠ i1 → c ≠ i2 → s.heap.get? c = some o → h'.get? c = some o) →
        wpAny (model X.prog X.w) A1.in1 (updateSeq q (·.push (.ref s.heap.objs.size)) >>= fun _ => again (.builtin "list.extend.loop" ⟨[.ref q, .ref z, .none], []⟩)) (fun fin s' => match fin with | .done f => Rs (.ok f) s' | .again c' => c'.quiet = true ∧ codeAny (model X.prog X.w) A1 c' Rs s') (fun e s' => Rs (.error e) s') { s with heap := h' } := fun h' g1 g2 g3 g4 g5 hk => by
      have new : ObjOk X.prog X.w (upd H s.heap.objs.size (.tup [xs[i], ys[i]])) h' s.heap.objs.size (.tup [xs[i], ys[i]]) :=
        ⟨by show 2 ≤ sizeLine; decide, [u, u2], .cons ru (.cons ru2 .nil), ⟨_, g5, rfl, _, rfl⟩⟩
      have hT0 : H s.heap.objs.size = none := I.hok.fresh (Nat.le_refl _)
      have I1 : Inv X pins σ (upd H s.heap.objs.size (.tup [xs[i], ys[i]])) { s with heap := h' } :=
        I.turnedNew (t' := s.toks) (ch := [z, TI, TO, i1, i2]) (fun c o hb q => hk c o (fun q' => hb (by simp [q'])) (fun q' => hb (by simp [q'])) (fun q' => hb (by simp [q'])) (fun q' => hb (by simp [q'])) q) hf (Nat.le_refl _) new
      have sT : Same H (upd H s.heap.objs.size (.tup [xs[i], ys[i]])) := same_upd hT0
      have hq1 := sT _ _ hq
      obtain ⟨zz, itl, kk, r2, hl3, e⟩ := I1.lstM hq1
      have htl : ts.length = i := by rw [plen hp, List.length_take, hzl]; omega
      have hml : (ts.map V.ref).length = i := by rw [List.length_map]; exact htl
      refine wpAny_bind (wpAny_updateSeq e rfl (wpAny_pure ⟨plainId_quiet PySem.F.plain_extend_loop _, ?_⟩) (by rw [List.size_toArray]; omega) (by show (itl.toArray.push (Value.ref s.heap.objs.size)).size ≤ sizeLine + 1; rw [Array.size_push, List.size_toArray]; omega))
      have I2 := I1.lset (f := (·.push (Value.ref s.heap.objs.size))) (its' := itl ++ [Value.ref s.heap.objs.size]) (ys := ts.map V.ref ++ [V.ref s.heap.objs.size]) (t' := s.toks) hq1 e (by simp) (r2.append (.cons rfl .nil)) (by rw [List.length_append, List.length_singleton]; omega)
      have sm2 : Same H1 (upd (upd H s.heap.objs.size (.tup [xs[i], ys[i]])) q (.lst (ts.map V.ref ++ [V.ref s.heap.objs.size]))) := same_mut (sm.trans sT) hq0
      have hne : ∀ c ∈ [z, TI, TO, i1, i2], c ≠ q := fun c hc z0 => by
        have := (hf c hc).1
        rw [z0, hq] at this
        cases this
      refine ih (i + 1) (ts ++ [s.heap.objs.size]) _ _ (by omega) hlt I2 (fun c hc => ⟨?_, (hf c hc).2⟩) sm2 ?_ (by rw [upd_same, List.map_append]; rfl) ?_
      · rw [upd_ne (hne c hc), upd_ne (Nat.ne_of_lt (lt' c hc))]
        exact (hf c hc).1
      · have hTq : s.heap.objs.size ≠ q := fun z0 => by rw [z0, hq] at hT0; cases hT0
        have hi2 : i < (xs.zip ys).length := by omega
        rw [show (xs.zip ys).take (i + 1) = (xs.zip ys).take i ++ [(xs[i], ys[i])] by rw [List.take_add_one, List.getElem?_eq_getElem hi2, List.getElem_zip]; rfl]
        have keep : ∀ t (pp : V × V), H t = some (.tup [pp.1, pp.2]) → (upd (upd H s.heap.objs.size (.tup [xs[i], ys[i]])) q (.lst (ts.map V.ref ++ [V.ref s.heap.objs.size]))) t = some (.tup [pp.1, pp.2]) := fun t pp e => by
          have : t ≠ q := fun z0 => by rw [z0, hq] at e; cases e
          rw [upd_ne this]
          exact sT _ _ e
        exact (pmono keep hp).snoc (by rw [upd_ne hTq]; exact upd_same)
      · exact ZSt.keep ⟨.inr g1, hk _ _ D.TIz D.TITO D.TIi1 D.TIi2 s2, g3, g4, g2⟩ hne e rfl
    refine wpAny_bind ?_
    rcases s1 with ⟨k1, x, y, k2⟩ | ⟨T, g, o, k1, k2, k3⟩
    · refine wpAny_pyNext_zip_item D k1 s2 k2 s3 s4 p.isList p2.isList (x := u) (y := u2) (by simpa using hu) (by simpa using hu2) fun h' a1 a2 a3 a4 a5 a6 hk => ?_
      exact fin h' ⟨_, false, _, a1, a5, fun hm => absurd (lt' _ hm) (Nat.lt_irrefl _)⟩ ⟨_, a2⟩ a3 a4 a5 hk
    · refine wpAny_pyNext_zip_item_held D k1 k2 s2 s3 s4 p.isList p2.isList (x := u) (y := u2) (by simpa using hu) (by simpa using hu2) fun h' a1 a3 a4 a5 a6 hk => ?_
      exact fin h' ⟨T, true, o, a1, hk T o (fun q' => k3 (by simp [q'])) (fun q' => k3 (by simp [q'])) (fun q' => k3 (by simp [q'])) k2, k3⟩ ⟨_, hk TO o5 D.TOz D.TOi1 D.TOi2 s5⟩ a3 a4 a5 fun c o c1 _ c3 c4 e => hk c o c1 c3 c4 e
end
/-- list(zip(a, b)): a new list of new pairs -/
def tListZip (ta : TA) : TE := fun σ H Q => ta σ H fun vs H1 => ∃ a b xs ys, vs = [.ref a, .ref b] ∧ H1 a = some (.lst xs) ∧ H1 b = some (.lst ys) ∧ xs.length = ys.length ∧ xs.length < sizeLine ∧
  ∀ H' q ts, Same H1 H' → H1 q = none → Paired (fun t (p : V × V) => H' t = some (.tup [p.1, p.2])) ts (xs.zip ys) → H' q = some (.lst (ts.map V.ref)) → Q (.ref q) H'
theorem pe_listZip {X : Cx} {e e2 : Expr} {ta : TA} {p p2 q pos : Pos} (hc : X.calm = true) (hg : Gl X "list") (hm : X.mg "list" = none) (hv : bootBuiltins "list" = some (.type "list")) (hg2 : Gl X "zip") (hm2 : X.mg "zip" = none) (ha : PA X [e, e2] ta)
    (hs : starEach [e, e2] X.env = (false, eval e X.env) :: starEach [e2] X.env := by rfl) (hpl : (backTo q (starEach [e2] X.env)).any (·.1) = false := by rfl)
    (na : starEach [.Call (.Name "zip" p2) [e, e2] [] q] X.env = (false, eval (.Call (.Name "zip" p2) [e, e2] [] q) X.env) :: starEach [] X.env := by rfl) : PE X (.Call (.Name "list" p) [.Call (.Name "zip" p2) [e, e2] [] q] [] pos) (tListZip ta) := by
  refine ⟨fun pins s σ H Q I h => ?_⟩
  refine wpAny_Call_Name_kw (ld_blt I hg hm hv ?_)
  refine PyProof.Rows.callWith_type1 (PyProof.Rows.args_cons ?_ na) na rfl
  refine Call_ (ld_blt I hg2 hm2 PyProof.Rows.boot_zip (PyProof.Rows.callWith_type1 (thn (ha.run q pins s σ H _ I h) fun us s1 ⟨vs, H1, I1, r1, q1⟩ => ?_) hs hpl))
  obtain ⟨a, b, xs, ys, ex, hqx, hqy, hl, hz, qq⟩ := q1
  subst ex
  cases r1 with
  | cons r rr =>
    cases rr with
    | cons r' rr =>
      cases rr
      cases r
      cases r'
      obtain ⟨its, rv, p1, _⟩ := I1.list (sq hqx)
      obtain ⟨its2, rv2, p2', _⟩ := I1.list (sq hqy)
      have la : a < s1.heap.objs.size := p1.lt
      have lb : b < s1.heap.objs.size := p2'.lt
      refine call_zip_2 p1.isList p2'.isList fun h' hz' hTI hTO h1 h2 hsz hk => ?_
      refine PyProof.Rows.args_nil ?_
      have I2 : Inv X pins σ H1 { s1 with heap := h' } := I1.kept (t' := s1.toks) hk
      have hf : ∀ c ∈ [s1.heap.objs.size + 4, s1.heap.objs.size + 2, s1.heap.objs.size + 3, s1.heap.objs.size, s1.heap.objs.size + 1], FpOk X pins H1 c := fun c hcm => by
        have e' : c = s1.heap.objs.size + 4 ∨ c = s1.heap.objs.size + 2 ∨ c = s1.heap.objs.size + 3 ∨ c = s1.heap.objs.size ∨ c = s1.heap.objs.size + 1 := by simpa using hcm
        have hle : s1.heap.objs.size ≤ c := by
          rcases e' with z | z | z | z | z
          · rw [z]; exact Nat.le_add_right _ _
          · rw [z]; exact Nat.le_add_right _ _
          · rw [z]; exact Nat.le_add_right _ _
          · rw [z]; exact Nat.le_refl _
          · rw [z]; exact Nat.le_add_right _ _
        exact I1.fpOk hle (I1.hok.fresh hle)
      have D := PySem.W.ktu_apart s1.heap.objs.size a b la lb
      have st : ZSt (s1.heap.objs.size + 4) (s1.heap.objs.size + 2) (s1.heap.objs.size + 3) s1.heap.objs.size (s1.heap.objs.size + 1) a b 0 h' := ⟨.inl ⟨hz', _, _, hTO⟩, hTI, h1, h2, _, hTO⟩
      generalize hZ : s1.heap.objs.size + 4 = z at hz' hf D st ⊢
      generalize s1.heap.objs.size + 2 = TI at hTI hf D st hz'
      generalize s1.heap.objs.size + 3 = TO at hTO hf D st hz'
      generalize s1.heap.objs.size + 1 = i2 at h2 hf D st hTI
      generalize s1.heap.objs.size = i1 at h1 hf D st hTI
      generalize hs2 : ({ s1 with heap := h' } : Shared) = s2 at I2
      have st : ZSt z TI TO i1 i2 a b 0 s2.heap := by rw [← hs2]; exact st
      have hzz : IsZip s2.heap z TI TO .none := by rw [← hs2]; exact hz'
      clear hs2
      -- list(..)
      refine callType_codes (Q₁ := fun obj s₁ => obj = .ref s2.heap.objs.size ∧ s₁ = { s2 with heap := s2.heap.push { cls := .type "list", data := .seq #[] } }) PySem.F.called_list (PySem.F.typeCall_list_1 _) PySem.F.entry_list_init
        (code_list_new _ ⟨rfl, rfl⟩) fun obj s₁ h₁ => ?_
      obtain ⟨rfl, rfl⟩ := h₁
      have hS : (s2.heap.push { cls := .type "list", data := .seq #[] }).get? s2.heap.objs.size = some { cls := .type "list", data := .seq #[] } := Heap.get?_push_size _ rfl
      refine ⟨⟨_, hS, rfl⟩, PySem.F.args_list_init_2 _ _, ?_⟩
      have fr : H1 s2.heap.objs.size = none := I2.hok.fresh (Nat.le_refl _)
      have I3 : Inv X pins σ (upd H1 s2.heap.objs.size (.lst [])) { s2 with heap := s2.heap.push { cls := .type "list", data := .seq #[] } } := I2.lnew (its := []) (t' := s2.toks) .nil (Nat.zero_le _)
      have lt2 : ∀ c ∈ [z, TI, TO, i1, i2], c ≠ s2.heap.objs.size := fun c hcm => by
        obtain ⟨_, t2, t3, t4, o5, t5⟩ := st
        have e' : c = z ∨ c = TI ∨ c = TO ∨ c = i1 ∨ c = i2 := by simpa using hcm
        refine Nat.ne_of_lt ?_
        rcases e' with q | q | q | q | q
        · rw [q]; exact Heap.lt_size hzz
        · rw [q]; exact Heap.lt_size t2
        · rw [q]; exact Heap.lt_size t5
        · rw [q]; obtain ⟨_, e1, _⟩ := t3; exact Heap.lt_size e1
        · rw [q]; obtain ⟨_, e2, _⟩ := t4; exact Heap.lt_size e2
      have st1 : ZSt z TI TO i1 i2 a b 0 (s2.heap.push { cls := .type "list", data := .seq #[] }) := by
        obtain ⟨t1, t2, t3, t4, o5, t5⟩ := st
        have psh : ∀ {c o}, s2.heap.get? c = some o → (s2.heap.push { cls := .type "list", data := .seq #[] }).get? c = some o := fun e => Heap.get?_push_of_some _ e
        refine ⟨?_, psh t2, t3.at fun o e => psh e, t4.at fun o e => psh e, o5, psh t5⟩
        rcases t1 with ⟨k1, x, y, k2⟩ | ⟨T, g, o, k1, k2, k3⟩
        · exact .inl ⟨psh k1, x, y, psh k2⟩
        · exact .inr ⟨T, g, o, psh k1, psh k2, k3⟩
      have hzz1 : IsZip (s2.heap.push { cls := .type "list", data := .seq #[] }) z TI TO .none := Heap.get?_push_of_some _ hzz
      generalize hSS : s2.heap.objs.size = S at *
      show wpAny _ _ (do let old ← Builtin.List.listItems (.ref S); Builtin.List.listUpdate (.ref S) (fun _ => #[]); letGo old.toList.reverse; Builtin.List.listExtendWith (.ref S) (.ref z) .none) _ _ _
      refine wpAny_bind ?_
      unfold Builtin.List.listItems
      refine wpAny_bind (wpAny_seqItems hS rfl (wpAny_pure ?_))
      show wpAny _ _ (updateSeq S (fun _ => #[]) >>= fun _ => letGo (#[] : Array Value).toList.reverse >>= fun _ => Builtin.List.listExtendWith (.ref S) (.ref z) .none) _ _ _
      refine wpAny_bind (wpAny_updateSeq hS rfl ?_)
      have I4 := I3.lset (f := fun _ => #[]) (its := []) (its' := []) (ys := []) (t' := s2.toks) upd_same hS rfl .nil (Nat.zero_le _)
      rw [upd_upd] at I4
      have st2 := ZSt.keep (q := S) (f := Obj.mapSeq fun _ => #[]) st1 lt2 hS rfl
      have hzz2 : IsZip ((s2.heap.push { cls := .type "list", data := .seq #[] }).update S (Obj.mapSeq fun _ => #[])) z TI TO .none := (Heap.get?_update_other _ _ (Ne.symm (lt2 z (by simp)))).trans hzz1
      refine wpAny_bind (wpAny_letGo ?_)
      have hSz : S ≠ z := Ne.symm (lt2 z (by simp))
      have hT : ∀ {s : Shared}, IsZip s.heap z TI TO .none → s.TypeIs (.ref z) "zip" := fun e => ⟨_, e, rfl⟩
      unfold Builtin.List.listExtendWith
      refine wpAny_bind (wpAny_typeOf (hT hzz2) ?_)
      have g1 : Builtin.List.listSameRef (.ref S) (.ref z) = false := by simp [Builtin.List.listSameRef, hSz]
      have g2 : (Value.type "zip" == Value.type "list") = false := by decide
      have g3 : (Value.type "zip" == Value.type "tuple") = false := by decide
      simp only [g1, g2, g3, Bool.or_false, Bool.false_eq_true, if_false]
      refine wpAny_bind (wpAny_pyIter_zip hzz2 ?_)
      refine wpAny_bind (wpAny_holding ?_)
      unfold Builtin.List.listLengthHint
      refine wpAny_bind (wpAny_specialOf (hT hzz2) zip_no_len ?_)
      show wpAny _ _ (specialOf (Value.ref z) (Str.ofString "__length_hint__") >>= _) _ _ _
      refine wpAny_bind (wpAny_specialOf (hT hzz2) zip_no_hint ?_)
      refine wpAny_pure ?_
      show wpAny _ _ (rule "list.extend.makes-room" >>= fun _ => Builtin.List.listTouch (.ref S) >>= fun _ => again (.builtin "list.extend.loop" ⟨[.ref S, .ref z, .none], []⟩)) _ _ _
      refine wpAny_bind (wpAny_rule ?_)
      refine wpAny_bind ?_
      show wpAny _ _ (updateSeq S (·.push .none) >>= fun _ => updateSeq S (·.pop)) _ _ _
      obtain ⟨z3, its3, k3, r3, hl3, e3⟩ := I4.lstM upd_same
      cases r3
      refine wpAny_bind (wpAny_updateSeq e3 rfl ?_)
      have I5 := I4.lset (f := (·.push Value.none)) (its' := [Value.none]) (ys := [.non]) (t' := s2.toks) upd_same e3 (by simp) (.cons rfl .nil) (by rw [List.length_singleton, sizeLine_eq]; decide)
      have st3 := ZSt.keep (q := S) (f := Obj.mapSeq (·.push Value.none)) st2 lt2 e3 rfl
      obtain ⟨z4, its4, k4, r4, hl4, e4⟩ := I5.lstM upd_same
      obtain ⟨u4, rfl, ru4⟩ := r4.one
      refine wpAny_updateSeq e4 rfl ?_ (by show 1 ≤ sizeLine; rw [sizeLine_eq]; decide) (by show 0 ≤ sizeLine + 1; exact Nat.zero_le _)
      have I6 := I5.lset (f := (·.pop)) (its := [u4]) (its' := []) (ys := []) (t' := s2.toks) upd_same e4 (by rfl) .nil (Nat.zero_le _)
      have st4 := ZSt.keep (q := S) (f := Obj.mapSeq (·.pop)) st3 lt2 e4 rfl
      rw [upd_upd, upd_upd] at I6
      refine wpAny_pure ⟨plainId_quiet PySem.F.plain_extend_loop _, zip_loop (A1 := X.A.in1) (Rs := wants (fun r s₂ => r = .none ∧ EP X pins σ Q (.ref S) s₂) X.xe) (H1 := H1) (xs := xs) (ys := ys) (i1 := i1) (i2 := i2) (TI := TI) (TO := TO) (show X.A.in1.handled = none from I1.ok.hd hc) D hqx hqy hl hz fr (fun ts H' s' I' sm hp hq => ⟨rfl, .ref S, H', I', rfl, qq H' S ts sm fr hp hq⟩) xs.length 0 [] _ _ (Nat.sub_zero _) (Nat.zero_le _) I6 (fun c hcm => ⟨?_, (hf c hcm).2⟩) (same_upd fr) (by rw [List.take_zero]; exact .nil) upd_same st4⟩
      rw [upd_ne (lt2 c hcm)]
      exact (hf c hcm).1
end Ls

/-! ### loops while an exception is handled: the iterators' ends -/
namespace Ls
open PySem PySem.Spec PyProof.Rows L2 HotX
section
variable {prog : Program} {w : World} {A : Around} {E : Value → Shared → Prop} {s : Shared}
theorem HotAt.keeps {A : Around} {x1 : Addr} {h h' : Heap} (hot : HotAt A x1 h) (k : ∀ o, h.get? x1 = some o → h'.get? x1 = some o) : HotAt A x1 h' :=
  have ⟨h1, o, vs, h2, h3, h4⟩ := hot; ⟨h1, o, vs, k o h2, h3, h4⟩
/-- StopIteration, made and raised while x1 is handled -/
theorem stop_hot {α : Type} {x1 : Addr} {Q : α → Shared → Prop} (hot : HotAt A x1 s.heap) (hE : ∀ h' e, (∀ b o, s.heap.get? b = some o → h'.get? b = some o) → (∃ o, h'.get? e = some o ∧ o.cls = .type "StopIteration") → E (.ref e) { s with heap := h' }) :
    wpAny (model prog w) A (newExc (.type "StopIteration") [] >>= fun v => (raiseNew v : Sem α)) Q E s := by
  obtain ⟨hh, o1, vs1, h1, d1, c1⟩ := hot
  refine wpAny_bind ?_; simp only [newExc, newTuple]
  refine wpAny_bind (wpAny_newObj_type ?_ (by size_fits)); refine wpAny_bind (m := firstArgMember _ _) (wpAny_of_eq (a := Value.none) (by first | rfl | (simp only [firstArgMember]; rfl)) ?_)
  refine wpAny_newObj_type (raiseNew_hot ⟨hh, o1, vs1, Heap.get?_push_of_some _ (Heap.get?_push_of_some _ h1), d1, c1⟩ (Nat.ne_of_lt (Heap.lt_size (Heap.get?_push_of_some _ h1))) (Heap.get?_push_size _ rfl) rfl (by first | (simp; done) | (simp; omega) | (simp only [Array.size_append]; simp; omega)) ?_) (by size_fits)
  refine hE _ _ (fun b o e => ?_) ⟨_, Heap.get?_update_self _ (Heap.get?_push_size _ rfl) rfl, rfl⟩
  rw [Heap.get?_update_other _ _ (Nat.ne_of_gt (Heap.lt_size (Heap.get?_push_of_some _ e)))]; exact Heap.get?_push_of_some _ (Heap.get?_push_of_some _ e)
/-- the handled exception's object is no iterator of ours -/
theorem hot_ne {x1 it : Addr} {h : Heap} {o : Obj} {vs : Array Value} (hot : HotAt A x1 h) (e : h.get? it = some o) (hd : o.data = .fields vs) (h2 : vs[2]? = none) : x1 ≠ it := fun z => by
  obtain ⟨_, o1, vs1, e1, d1, c1⟩ := hot
  subst z
  rw [e] at e1; cases e1
  rw [hd] at d1; cases d1
  rw [h2] at c1; cases c1
theorem nextOf_list_end_hot {x1 it l : Addr} {i : Nat} {items : Array Value} {Q : Value → Shared → Prop} (hot : HotAt A.in1 x1 s.heap) (hit : s.heap.IsListIter it l i) (hl : s.heap.IsList l items) (hx : items[i]? = none)
    (hE : ∀ h' e, Heap.ExtBut it s.heap h' → (∃ o, h'.get? e = some o ∧ o.cls = .type "StopIteration") → E (.ref e) { s with heap := h' }) : wpAny (model prog w) A (Builtin.SmallTypes.nextOf (.ref it)) Q E s := by
  obtain ⟨o, ho, hc, hd⟩ := id hit; obtain ⟨ol, hol, _, nl, hdl⟩ := hl
  have hne := hot_ne hot ho hd rfl
  unfold Builtin.SmallTypes.nextOf
  refine wpAny_bind (wpAny_callSpecial?_slot (name := Str.ofString "__next__") hit.typeIs slot_listiter_next (wpAny_call_entry slot_listiter_next hit.typeIs entry_listiter_next ?_ (args_listiter_next _)))
  show wpAny _ _ (field (.ref it) 0 >>= _) _ _ s; refine wpAny_bind (wpAny_field ho hd (x := .ref l) rfl ?_)
  show wpAny _ _ (if (Value.ref l == Value.none) = true then _ else _) _ _ s; rw [if_neg (show ¬ ((Value.ref l == Value.none) = true) from Bool.false_ne_true)]
  show wpAny _ _ (field (.ref it) 1 >>= _) _ _ s; refine wpAny_bind (wpAny_field ho hd (x := .int i 0) rfl ?_)
  show wpAny _ _ (seqItems? (.ref l) >>= _) _ _ s; refine wpAny_bind (wpAny_seqItems hol hdl ?_); simp only [Int.toNat_natCast, hx]
  refine wpAny_bind (wpAny_rule (wpAny_bind (wpAny_setField ho hd (by simp) ?_)))
  refine stop_hot (HotAt.keeps hot fun o e => (Heap.get?_update_other _ _ (Ne.symm hne)).trans e) fun h' e k h => ?_
  exact hE _ _ (fun b o hb eb => k b o ((Heap.SameBut.update ..).extBut b o hb eb)) h
theorem pyNext_list_end_hot {x1 it l : Addr} {i : Nat} {items : Array Value} {Q : Option Value → Shared → Prop} (hot : HotAt A x1 s.heap) (hit : s.heap.IsListIter it l i) (hl : s.heap.IsList l items) (hx : items[i]? = none)
    (hQ : ∀ h', Heap.ExtBut it s.heap h' → Q none { s with heap := h' }) : wpAny (model prog w) A (pyNext (.ref it)) Q E s := by
  obtain ⟨o, ho, hc, hd⟩ := id hit; obtain ⟨ol, hol, _, nl, hdl⟩ := hl
  have hne := hot_ne hot ho hd rfl
  unfold pyNext
  refine wpAny_bind (wpAny_attempt (wpAny_callSpecial?_slot (name := Str.ofString "__next__") hit.typeIs slot_listiter_next (wpAny_call_entry slot_listiter_next hit.typeIs entry_listiter_next ?_ (args_listiter_next _))))
  show wpAny _ _ (field (.ref it) 0 >>= _) _ _ s; refine wpAny_bind (wpAny_field ho hd (x := .ref l) rfl ?_)
  show wpAny _ _ (if (Value.ref l == Value.none) = true then _ else _) _ _ s; rw [if_neg (show ¬ ((Value.ref l == Value.none) = true) from Bool.false_ne_true)]
  show wpAny _ _ (field (.ref it) 1 >>= _) _ _ s; refine wpAny_bind (wpAny_field ho hd (x := .int i 0) rfl ?_)
  show wpAny _ _ (seqItems? (.ref l) >>= _) _ _ s; refine wpAny_bind (wpAny_seqItems hol hdl ?_); simp only [Int.toNat_natCast, hx]
  refine wpAny_bind (wpAny_rule (wpAny_bind (wpAny_setField ho hd (by simp) ?_)))
  refine stop_hot (A := A.in1) (HotAt.keeps hot fun o e => (Heap.get?_update_other _ _ (Ne.symm hne)).trans e) fun h' e k h => ?_
  obtain ⟨oe, e1, e2⟩ := h
  refine wpAny_bind (wpAny_isInstance (T := "StopIteration") (b := true) ⟨oe, e1, e2⟩ isSubtype_stop ?_); exact wpAny_pure (hQ _ fun b o hb eb => k b o ((Heap.SameBut.update ..).extBut b o hb eb))
theorem pyNext_tuple_end_hot {x1 it t : Addr} {i : Nat} {items : Array Value} {Q : Option Value → Shared → Prop} (hot : HotAt A x1 s.heap) (hit : s.heap.IsTupleIter it t i) (ht : s.heap.IsTuple t items) (hx : items[i]? = none)
    (hQ : ∀ h', Heap.ExtBut it s.heap h' → Q none { s with heap := h' }) : wpAny (model prog w) A (pyNext (.ref it)) Q E s := by
  obtain ⟨o, ho, hc, hd⟩ := id hit; obtain ⟨ol, hol, _, nl, hdl⟩ := ht
  have hne := hot_ne hot ho hd rfl
  unfold pyNext
  refine wpAny_bind (wpAny_attempt (wpAny_callSpecial?_slot (name := Str.ofString "__next__") hit.typeIs F.slot_tuple_iterator_next (wpAny_call_entry F.slot_tuple_iterator_next hit.typeIs F.entry_tuple_iterator_next ?_ (F.args_tuple_iterator_next_1 _))))
  show wpAny _ _ (field (.ref it) 0 >>= _) _ _ s; refine wpAny_bind (wpAny_field ho hd (x := .ref t) rfl ?_)
  show wpAny _ _ (if (Value.ref t == Value.none) = true then _ else _) _ _ s; rw [if_neg (show ¬ ((Value.ref t == Value.none) = true) from Bool.false_ne_true)]
  show wpAny _ _ (field (.ref it) 1 >>= _) _ _ s; refine wpAny_bind (wpAny_field ho hd (x := .int i 0) rfl ?_)
  show wpAny _ _ (seqItems? (.ref t) >>= _) _ _ s; refine wpAny_bind (wpAny_seqItems hol hdl ?_); simp only [Int.toNat_natCast, hx]
  refine wpAny_bind (wpAny_rule (wpAny_bind (wpAny_setField ho hd (by simp) ?_)))
  refine stop_hot (A := A.in1) (HotAt.keeps hot fun o e => (Heap.get?_update_other _ _ (Ne.symm hne)).trans e) fun h' e k h => ?_
  obtain ⟨oe, e1, e2⟩ := h
  refine wpAny_bind (wpAny_isInstance (T := "StopIteration") (b := true) ⟨oe, e1, e2⟩ isSubtype_stop ?_); exact wpAny_pure (hQ _ fun b o hb eb => k b o ((Heap.SameBut.update ..).extBut b o hb eb))
theorem pyNext_enum_end_hot {x1 e it l : Addr} {i : Nat} {j : Int} {old : Value} {items : Array Value} {Q : Option Value → Shared → Prop} (hot : HotAt A x1 s.heap) (he : IsEnum s.heap e it j old) (hit : s.heap.IsListIter it l i) (hl : s.heap.IsList l items) (hx : items[i]? = none)
    (hQ : ∀ h', Heap.ExtBut it s.heap h' → Q none { s with heap := h' }) : wpAny (model prog w) A (pyNext (.ref e)) Q E s := by
  have hT : s.TypeIs (.ref e) "enumerate" := ⟨_, he, rfl⟩
  unfold pyNext
  refine wpAny_bind (wpAny_attempt (wpAny_callSpecial?_slot (name := Str.ofString "__next__") hT F.slot_enumerate_next (wpAny_call_entry F.slot_enumerate_next hT F.entry_enumerate_next ?_ (F.args_enumerate_next_1 _))))
  show wpAny _ _ (field (.ref e) 2 >>= _) _ _ _; refine wpAny_bind (wpAny_field he rfl (x := .ref it) rfl ?_)
  refine wpAny_bind (nextOf_list_end_hot (A := A.in1) hot hit hl hx fun h' x k h => ?_)
  obtain ⟨o, ho, hc⟩ := h
  refine wpAny_bind (wpAny_isInstance (T := "StopIteration") (b := true) ⟨o, ho, hc⟩ isSubtype_stop ?_); exact wpAny_pure (hQ _ k)
end
end Ls

/-! ### loops while an exception is handled: walks and targets -/
namespace Ls
open PySem PySem.Spec PyProof.Rows L2 L2H HotX
section
variable {P : Program} {w : World} {K : PySem.W.Frag}
theorem turnH_list {tg : Expr} (a it : Addr) : TurnH P w K tg (Itl K a) [it] it (fun i h => h.IsListIter it a i) where
  mem := (turn_list (P := P) (w := w) (K := K) (tg := tg) a it).mem
  obj := (turn_list (P := P) (w := w) (K := K) (tg := tg) a it).obj
  keep := (turn_list (P := P) (w := w) (K := K) (tg := tg) a it).keep
  self := (turn_list (P := P) (w := w) (K := K) (tg := tg) a it).self
  item := fun X hP hw hK _ i pins s σ H E I hf st hg => by
    subst hP hw hK
    have ⟨xs, x, hq, hx⟩ := hg; have ⟨its, rv, p, _⟩ := I.list hq; have ⟨u, hu, ru⟩ := rv.get hx; have ⟨f0, f1, f2, f3, f4, f5⟩ := hf it (by simp)
    refine wpAny_pyNext_list_item st p.isList (x := u) (by simpa using hu) fun h1 st1 sb => ?_
    have J : Inv X pins σ H { s with heap := h1 } := I.turned (t' := s.toks) (fun b o hb e => (sb.2 b hb).trans e) f0 f1 f3 f4 f5
    have ⟨o, e, c, d⟩ := id st1
    exact ⟨u, rfl, go_of (s := { s with heap := h1 }) e c d (by decide) ⟨x, H, J, ru, ⟨rfl, fun ys hy => by rw [I.list_inj hy hq]; exact hx⟩, st1, fun b hb => (hf b hb).1⟩⟩
  done := fun X hP hw hK hc i pins s σ H E I hf st hg => by
    subst hP hw hK
    have ⟨xs, hq, hx⟩ := hg; have ⟨its, rv, p, _⟩ := I.list hq; have ⟨f0, f1, f2, f3, f4, f5⟩ := hf it (by simp); have hl := rv.length
    have ⟨x1, hot⟩ := hc.at I
    exact pyNext_list_end_hot hot st p.isList (by simp; omega) fun h1 eb => ⟨rfl, I.turned (t' := s.toks) (fun b o hb e => eb b o hb e) f0 f1 f3 f4 f5⟩
theorem turnH_tuple {tg : Expr} (a it : Addr) : TurnH P w K tg (Itt K a) [it] it (fun i h => h.IsTupleIter it a i) where
  mem := (turn_tuple (P := P) (w := w) (K := K) (tg := tg) a it).mem
  obj := (turn_tuple (P := P) (w := w) (K := K) (tg := tg) a it).obj
  keep := (turn_tuple (P := P) (w := w) (K := K) (tg := tg) a it).keep
  self := (turn_tuple (P := P) (w := w) (K := K) (tg := tg) a it).self
  item := fun X hP hw hK _ i pins s σ H E I hf st hg => by
    subst hP hw hK
    have ⟨xs, x, hq, hx⟩ := hg; have ⟨its, rv, p, _⟩ := I.tuple hq; have ⟨u, hu, ru⟩ := rv.get hx; have ⟨f0, f1, f2, f3, f4, f5⟩ := hf it (by simp)
    refine wpAny_pyNext_tuple_item st (show s.heap.IsTuple a its.toArray from p) (x := u) (by simpa using hu) fun h1 st1 sb => ?_
    have J : Inv X pins σ H { s with heap := h1 } := I.turned (t' := s.toks) (fun b o hb e => (sb.2 b hb).trans e) f0 f1 f3 f4 f5
    have ⟨o, e, c, d⟩ := id st1
    exact ⟨u, rfl, go_of (s := { s with heap := h1 }) e c d (by decide) ⟨x, H, J, ru, ⟨rfl, fun ys hy => by rw [I.tuple_inj hy hq]; exact hx⟩, st1, fun b hb => (hf b hb).1⟩⟩
  done := fun X hP hw hK hc i pins s σ H E I hf st hg => by
    subst hP hw hK
    have ⟨xs, hq, hx⟩ := hg; have ⟨its, rv, p, _⟩ := I.tuple hq; have ⟨f0, f1, f2, f3, f4, f5⟩ := hf it (by simp); have hl := rv.length
    have ⟨x1, hot⟩ := hc.at I
    exact pyNext_tuple_end_hot hot st (show s.heap.IsTuple a its.toArray from p) (by simp; omega) fun h1 eb => ⟨rfl, I.turned (t' := s.toks) (fun b o hb e => eb b o hb e) f0 f1 f3 f4 f5⟩
theorem turnH_enum {elts : List Expr} {kk : Nat} {tpos : Pos} (a e it : Addr) : TurnH P w K (.Tuple elts kk tpos) (Ite K a) [e, it] e (fun i h => (∃ old, IsEnum h e it ((i : Nat) : Int) old) ∧ h.IsListIter it a i ∧ e ≠ it) where
  mem := (turn_enum (P := P) (w := w) (K := K) (elts := elts) (kk := kk) (tpos := tpos) a e it).mem
  obj := (turn_enum (P := P) (w := w) (K := K) (elts := elts) (kk := kk) (tpos := tpos) a e it).obj
  keep := (turn_enum (P := P) (w := w) (K := K) (elts := elts) (kk := kk) (tpos := tpos) a e it).keep
  self := (turn_enum (P := P) (w := w) (K := K) (elts := elts) (kk := kk) (tpos := tpos) a e it).self
  item := fun X hP hw hK _ i pins s σ H E I hf st hg => by
    subst hP hw hK
    have ⟨⟨old, he⟩, hit, hne⟩ := st; have ⟨xs, x, hq, hx⟩ := hg; have ⟨its, rv, p, _⟩ := I.list hq; have ⟨u, hu, ru⟩ := rv.get hx
    have hel : e < s.heap.objs.size := Heap.lt_size he
    have hil : it < s.heap.objs.size := hit.elim fun _ q => Heap.lt_size q.1
    refine wpAny_pyNext_enum_item he hit p.isList (x := u) (by simpa using hu) hne fun h1 ho hit1 hT hsz hk => ⟨_, rfl, wpAny_letOwnedTupleGo_enum (s := { s with heap := h1, toks := s.toks + 1 }) ho fun h2 he2 sb => ?_⟩
    have hT2 : h2.get? s.heap.objs.size = some { cls := .type "tuple", data := .seq #[.int i s.toks, u] } := (sb.2 _ (Nat.ne_of_gt hel)).trans hT
    have new : ObjOk X.prog X.w (upd H s.heap.objs.size (.tup [.int (i : Nat), x])) h2 s.heap.objs.size (.tup [.int (i : Nat), x]) := ⟨(by decide : 2 ≤ sizeLine), [.int i s.toks, u], .cons ⟨_, rfl⟩ (.cons ru .nil), ⟨_, hT2, rfl, _, rfl⟩⟩
    have J : Inv X pins σ (upd H s.heap.objs.size (.tup [.int (i : Nat), x])) { s with heap := h2, toks := s.toks + 1 } := I.turnedNew (ch := [e, it]) (fun b ob hb q => (sb.2 b (fun z => hb (by simp [z]))).trans (hk b ob (fun z => hb (by simp [z])) (fun z => hb (by simp [z])) q)) hf (Nat.le_refl _) new
    refine ⟨.ref s.heap.objs.size, _, J, rfl, ⟨_, x, rfl, I.hok.fresh (Nat.le_refl _), rfl, fun ys hy => by rw [I.list_inj hy hq]; exact hx⟩, ⟨⟨u, by rw [show ((i + 1 : Nat) : Int) = (i : Int) + 1 by omega]; exact he2⟩, hit1.at fun o q => (sb.2 it (Ne.symm hne)).trans q, hne⟩, fun b hb => ?_⟩
    have hlt : b < s.heap.objs.size := (show b = e ∨ b = it by simpa using hb).elim (fun z => by rw [z]; exact hel) fun z => by rw [z]; exact hil
    rw [upd_ne (Nat.ne_of_lt hlt)]; exact (hf b hb).1
  done := fun X hP hw hK hc i pins s σ H E I hf st hg => by
    subst hP hw hK
    have ⟨⟨old, he⟩, hit, hne⟩ := st; have ⟨xs, hq, hx⟩ := hg; have ⟨its, rv, p, _⟩ := I.list hq; have ⟨f0, f1, f2, f3, f4, f5⟩ := hf it (by simp); have hl := rv.length
    have ⟨x1, hot⟩ := hc.at I
    exact pyNext_enum_end_hot hot he hit p.isList (by simp; omega) fun h1 eb => ⟨rfl, I.turned (t' := s.toks) (fun b o hb q => eb b o hb q) f0 f1 f3 f4 f5⟩
end
section
variable {X : Cx} (K : PySem.W.Frag)
theorem hpi_list {tg l : Expr} {tl : TE} (hl : PE X l tl) (h : X.K = K := by rfl) : PIH X tg l (iList K tl) := by
  subst h
  refine ⟨fun pins s σ H R I h => thn (hl.run pins s σ H _ I h) fun v s1 ⟨x, H1, I1, r1, a, e, ⟨xs, hq⟩, q⟩ => ?_⟩
  subst e; cases r1
  have ⟨its, rv, p, _⟩ := I1.list hq
  refine wpAny_pyIter_list p.isList ⟨s1.heap.objs.size, [s1.heap.objs.size], _, _, H1, rfl, I1.kept (t' := s1.toks) fun b o e => Heap.get?_push_of_some _ e, turnH_list a _, ⟨_, Heap.get?_push_size _ rfl, rfl, rfl⟩, fun b hb => ?_, q⟩
  rw [show b = s1.heap.objs.size by simpa using hb]; exact I1.fpOk (Nat.le_refl _) (I1.hok.fresh (Nat.le_refl _))
theorem hpi_tup {tg l : Expr} {tl : TE} (hl : PE X l tl) (h : X.K = K := by rfl) : PIH X tg l (iTup K tl) := by
  subst h
  refine ⟨fun pins s σ H R I h => thn (hl.run pins s σ H _ I h) fun v s1 ⟨x, H1, I1, r1, a, e, ⟨xs, hq⟩, q⟩ => ?_⟩
  subst e; cases r1
  have ⟨its, rv, p, _⟩ := I1.tuple hq
  refine wpAny_pyIter_tuple (show s1.heap.IsTuple a its.toArray from p) ⟨s1.heap.objs.size, [s1.heap.objs.size], _, _, H1, rfl, I1.kept (t' := s1.toks) fun b o e => Heap.get?_push_of_some _ e, turnH_tuple a _, ⟨_, Heap.get?_push_size _ rfl, rfl, rfl⟩, fun b hb => ?_, q⟩
  rw [show b = s1.heap.objs.size by simpa using hb]; exact I1.fpOk (Nat.le_refl _) (I1.hok.fresh (Nat.le_refl _))
theorem hpi_enum {e : Expr} {ta : TA} {p pos tpos : Pos} {elts : List Expr} {kk : Nat} (hg : Gl X "enumerate") (hm : X.mg "enumerate" = none) (ha : PA X [e] ta) (h : X.K = K := by rfl) (hs : starEach [e] X.env = [(false, eval e X.env)] := by rfl) :
    PIH X (.Tuple elts kk tpos) (.Call (.Name "enumerate" p) [e] [] pos) (iEnum K ta) := by
  subst h
  refine ⟨fun pins s σ H R I h => Call_ (ld_blt I hg hm boot_enumerate (PyProof.Rows.callWith_type1 (thn (ha.run pos pins s σ H _ I h) fun us s1 ⟨vs, H1, I1, r1, a, xs, ex, hq, q⟩ => ?_) hs rfl))⟩
  subst ex
  cases r1 with
  | cons r rr =>
    cases rr; cases r
    have ⟨its, rv, p', _⟩ := I1.list hq
    refine call_enumerate_list p'.isList fun h1 he hit hsz hk => wpAny_pyIter_enum he ⟨s1.heap.objs.size + 1, [s1.heap.objs.size + 1, s1.heap.objs.size], _, _, H1, rfl, I1.kept (t' := s1.toks) hk, turnH_enum a (s1.heap.objs.size + 1) s1.heap.objs.size, ⟨⟨.none, he⟩, hit, Nat.succ_ne_self _⟩, fun b hb => ?_, q⟩
    have hle : s1.heap.objs.size ≤ b := (show b = s1.heap.objs.size + 1 ∨ b = s1.heap.objs.size by simpa using hb).elim (fun z => by rw [z]; exact Nat.le_add_right _ _) fun z => by rw [z]; exact Nat.le_refl _
    exact I1.fpOk hle (I1.hok.fresh hle)
end
/-! targets that are tuples -/
section
variable {prog : Program} {w : World} {A : Around} {E : Value → Shared → Prop} {s : Shared}
theorem unpack_tuple_hot {x1 t : Addr} {items : Array Value} {targets : List (Bool × (Value → Sem Unit))} {Q : Unit → Shared → Prop} (hot : HotAt A x1 s.heap) (ht : IsTup s.heap t items) (hn : targets.length = items.size) (hstar : targets.findIdx? (·.1) = none)
    (h : ∀ h', Heap.ExtBut s.heap.objs.size s.heap h' → wpAny (model prog w) A (assignInOrder (targets.map (·.2)) items.toList) Q E { s with heap := h' }) : wpAny (model prog w) A (unpack (.ref t) targets) Q E s := by
  have hlt : t ≠ s.heap.objs.size := ht.elim fun _ q => Nat.ne_of_lt (Heap.lt_size q.1)
  unfold unpack; rw [hn, hstar]
  refine wpAny_bind (wpAny_holding ?_); unfold unpackItems
  refine wpAny_bind ?_; unfold notIterableAtAll
  refine wpAny_bind (wpAny_specialOf ht.typeIs slot_tuple_iter.lookup (wpAny_pure ?_)); simp only [Bool.false_eq_true, if_false]
  refine wpAny_bind (wpAny_holding (iter_tuple ht ?_))
  refine wpAny_bind (wpAny_holding (draw_tuple hlt items.size 0 _ _ ⟨_, Heap.get?_push_size _ rfl, rfl, rfl⟩ (ht.push _) (by omega) fun h₁ hit₁ hs₁ => ?_))
  rw [show List.take items.size (List.drop 0 items.toList) = items.toList by rw [List.drop_zero]; exact List.take_of_length_le (by simp), if_neg (by simp)]
  have ht₁ : IsTup h₁ t items := (ht.push _).extBut hs₁.extBut hlt
  have hx : x1 ≠ s.heap.objs.size := by obtain ⟨_, o, vs, e, _⟩ := hot; exact Nat.ne_of_lt (Heap.lt_size e)
  refine wpAny_bind (wpAny_holding (pyNext_tuple_end_hot (s := { s with heap := h₁ }) (HotAt.keeps hot fun o e => hs₁.extBut x1 o hx (Heap.get?_push_of_some _ e)) hit₁ ht₁ (by simp) fun h₂ he₂ => ?_)); simp only [Option.isSome_none, Bool.false_eq_true, if_false]
  exact wpAny_pure (h h₂ fun b o hb e => he₂ b o hb (hs₁.extBut b o hb (Heap.get?_push_of_some _ e)))
end
theorem hpg_tup {X : Cx} (K : PySem.W.Frag) {es : List Expr} {k : Nat} {t : TGs} {n : Nat} {pos : Pos} (hc : HotC X) (h : PGs X es t) (hK : X.K = K := by rfl) (hn : (assignEach es X.env).length = n := by rfl) (hst : (assignEach es X.env).findIdx? (·.1) = none := by rfl) : PG X (.Tuple es k pos) (gTup K n t) := by
  subst hK
  refine ⟨fun pins s σ H v u Q I r ⟨a, xs, e1, hq, hl, hw⟩ => ?_⟩
  subst e1; cases r
  have ⟨its, rv, ht, _⟩ := I.tuple hq; have ⟨x1, hot⟩ := hc.at I
  rw [assign_Tuple]
  refine wpAny_bind (wpAny_standAt (unpack_tuple_hot hot ht (by simp [hn, ← hl, rv.length]) hst fun h1 hx => ?_))
  have J : Inv X pins σ H { s with heap := h1 } := I.kept (t' := s.toks) fun b o e => hx b o (Nat.ne_of_lt (Heap.lt_size e)) e
  exact h.run pins _ σ H xs _ Q J (by simpa using rv) hw
end Ls

/-! ### list(a dict) while an exception is handled -/
namespace Ls
open PySem PySem.Spec PyProof.Rows L2 L2H HotX
section
variable {prog : Program} {w : World} {A : Around} {E : Value → Shared → Prop} {s : Shared} {K : Type} [DecidableEq K] {knd : KeyKind prog w K}
theorem hot_ne2 {x1 it : Addr} {h : Heap} {o : Obj} {vs : Array Value} (hot : HotAt A x1 h) (e : h.get? it = some o) (hd : o.data = .fields vs) (h2 : vs[2]? ≠ some .none) : x1 ≠ it := fun z => by
  obtain ⟨_, o1, vs1, e1, d1, c1⟩ := hot
  subst z; rw [e] at e1; cases e1; rw [hd] at d1; cases d1; exact h2 c1
theorem pyNext_dict_end_hot {x1 it d : Addr} {i ep : Nat} {kvs : List (K × Value)} {Q : Option Value → Shared → Prop} (hot : HotAt A x1 s.heap) (hit : s.heap.IsKeyIter it d i kvs.length ep) (hm : s.heap.DictAt knd d kvs ep) (hx : kvs[i]? = none)
    (hQ : ∀ h', Heap.ExtBut it s.heap h' → Q none { s with heap := h' }) : wpAny (model prog w) A (pyNext (.ref it)) Q E s := by
  obtain ⟨o, ho, hc, hd⟩ := id hit; obtain ⟨od, es, hod, hcd, hdd, hk, hp, hn⟩ := id hm
  have hne := hot_ne2 hot ho hd (by simp)
  unfold pyNext
  refine wpAny_bind (wpAny_attempt (wpAny_callSpecial?_slot (name := Str.ofString "__next__") hit.typeIs F.slot_dict_keyiterator_next (wpAny_call_entry F.slot_dict_keyiterator_next hit.typeIs F.entry_dict_keyiterator_next ?_ (F.args_dict_keyiterator_next_1 _))))
  refine wpAny_bind (wpAny_pure ?_); refine wpAny_bind ?_; refine wpAny_bind ?_
  first | (refine wpAny_bind (wpAny_typeNameOfWhole_keyiter hit.typeIs (wpAny_pure ?_)); skip) | (refine wpAny_bind (wpAny_typeNameOf_keyiter hit.typeIs (wpAny_pure ?_)); skip)
  refine wpAny_bind (wpAny_fieldsOf ho hd ?_); simp only [show Builtin.Dict_items.ownsTuple "dict_keyiterator" = false by decide, Bool.false_eq_true, if_false]
  show wpAny _ _ (if (Value.ref d == Value.none) = true then _ else _) _ _ s; rw [if_neg (show ¬ ((Value.ref d == Value.none) = true) from Bool.false_ne_true)]
  refine wpAny_bind (wpAny_pure ?_); refine wpAny_bind (wpAny_dictEntries hod hdd ?_)
  have hsz : es.size = kvs.length := hp.length ▸ by simp
  rw [if_neg (by rw [hsz]; simp)]; refine wpAny_bind (wpAny_pure ?_); refine wpAny_bind (wpAny_dictEpoch hod hdd ?_); rw [if_neg (by simp)]; refine wpAny_pure ?_
  simp only [show ¬ ((i : Int) < 0) from by omega, if_false, Int.toNat_natCast, Array.getElem?_eq_none (show es.size ≤ i by rw [hsz]; simpa using hx)]
  refine wpAny_bind ?_
  first | (refine wpAny_bind (wpAny_typeNameOfWhole_keyiter hit.typeIs (wpAny_pure ?_)); skip) | (refine wpAny_bind (wpAny_typeNameOf_keyiter hit.typeIs (wpAny_pure ?_)); skip)
  show wpAny _ _ (setField (.ref it) 0 .none >>= _) _ _ s; refine wpAny_bind (wpAny_setField ho hd (by simp) ?_)
  refine stop_hot (A := A.in1) (HotAt.keeps hot fun o e => (Heap.get?_update_other _ _ (Ne.symm hne)).trans e) fun h' e k ⟨oe, e1, e2⟩ => ?_
  refine wpAny_bind (wpAny_isInstance (T := "StopIteration") (b := true) ⟨oe, e1, e2⟩ isSubtype_stop ?_); exact wpAny_pure (hQ _ fun b o hb eb => k b o ((Heap.SameBut.update ..).extBut b o hb eb))
/-- the object of the handled exception stands there -/
def HotObj (x1 : Addr) (o1 : Obj) (h : Heap) : Prop := h.get? x1 = some o1
theorem walksH_keys {x1 : Addr} {o1 : Obj} (hot : ∀ h : Heap, HotObj x1 o1 h → HotAt A x1 h) (I d : Addr) (hne : d ≠ I) (hx : x1 ≠ I) (kvs : List (K × Value)) (ep : Nat) :
    Walks prog w A I [I, d, x1] [I] kvs.length (fun i v => ∃ k x, kvs[i]? = some (k, x) ∧ knd.is k v = true) (fun i h => h.IsKeyIter I d i kvs.length ep ∧ h.DictAt knd d kvs ep ∧ HotObj x1 o1 h) where
  sub := fun b hb => by rw [List.mem_singleton.mp hb]; exact List.mem_cons_self
  frame := fun _ _ _ st hk => ⟨st.1.at fun o e => hk I (by simp) o e, st.2.1.at' fun o e => hk d (by simp) o e, hk x1 (by simp) _ st.2.2⟩
  item := fun i s Q E hi st hQ => by
    have hx2 : kvs[i]? = some (kvs[i].1, kvs[i].2) := by rw [List.getElem?_eq_getElem hi]
    refine wpAny_pyNext_dict_item st.1 st.2.1 hx2 fun key h1 hkey hit1 sb => ?_
    exact hQ key h1 s.toks ⟨_, _, hx2, hkey⟩ ⟨hit1, st.2.1.extBut sb.extBut hne, (sb.2 x1 hx).trans st.2.2⟩ fun b o hb e => sb.extBut b o (fun z => hb (by rw [z]; exact List.mem_cons_self)) e
  done := fun s Q E st hQ => pyNext_dict_end_hot (hot _ st.2.2) st.1 st.2.1 (by simp) fun h1 he => hQ h1 s.toks fun b o hb e => he b o (fun z => hb (by rw [z]; exact List.mem_cons_self)) e
  self := fun _ _ _ _ st hQ => wpAny_pyIter_keyiter st.1 hQ
theorem list_dict_hot {x1 d : Addr} {o1 : Obj} {kvs : List (K × Value)} {ep : Nat} {Q : Value → Shared → Prop} (hot : ∀ (A' : Around) (h : Heap), A'.handled = A.handled → HotObj x1 o1 h → HotAt A' x1 h) (lo : (d == sysModules) = false) (hx : HotObj x1 o1 s.heap) (hm : s.heap.DictAt knd d kvs ep) (hn : kvs.length ≤ sizeLine)
    (hQ : ∀ h' tk acc' c', (∀ b o, s.heap.get? b = some o → h'.get? b = some o) → h'.get? s.heap.objs.size = some { cls := .type "list", dict := none, data := .seq acc' c', slots := #[] } → ItemsOf (fun i v => ∃ k x, kvs[i]? = some (k, x) ∧ knd.is k v = true) acc' kvs.length → Q (.ref s.heap.objs.size) { s with heap := h', toks := tk }) :
    wpAny (model prog w) A (call (.type "list") [.ref d]) Q E s := by
  refine callType_codes (Q₁ := fun obj s₁ => obj = .ref s.heap.objs.size ∧ s₁ = { s with heap := s.heap.push { cls := .type "list", data := .seq #[] } }) PySem.F.called_list (PySem.F.typeCall_list_1 _) PySem.F.entry_list_init (code_list_new _ ⟨rfl, rfl⟩) fun obj s₁ h₁ => ?_
  obtain ⟨rfl, rfl⟩ := h₁
  have hS : (s.heap.push { cls := .type "list", data := .seq #[] }).get? s.heap.objs.size = some { cls := .type "list", data := .seq #[] } := Heap.get?_push_size _ rfl
  have hd : d < s.heap.objs.size := hm.lt_size
  have hx1 : x1 < s.heap.objs.size := Heap.lt_size hx
  refine ⟨⟨_, hS, rfl⟩, PySem.F.args_list_init_2 _ _, ?_⟩
  generalize hSS : s.heap.objs.size = S at *
  have hSd : S ≠ d := Nat.ne_of_gt hd
  show wpAny _ _ (do let old ← Builtin.List.listItems (.ref S); Builtin.List.listUpdate (.ref S) (fun _ => #[]); letGo old.toList.reverse; Builtin.List.listExtendWith (.ref S) (.ref d) .none) _ _ _
  refine wpAny_bind ?_; unfold Builtin.List.listItems; refine wpAny_bind (wpAny_seqItems hS rfl (wpAny_pure ?_))
  show wpAny _ _ (updateSeq S (fun _ => #[]) >>= fun _ => letGo (#[] : Array Value).toList.reverse >>= fun _ => Builtin.List.listExtendWith (.ref S) (.ref d) .none) _ _ _
  refine wpAny_bind (wpAny_updateSeq hS rfl ?_); refine wpAny_bind (wpAny_letGo ?_)
  have hS₂ := Heap.get?_update_self (Obj.mapSeq (fun _ => (#[] : Array Value))) hS rfl
  have k2 : ∀ b o, b ≠ S → s.heap.get? b = some o → ((s.heap.push { cls := .type "list", data := .seq #[] }).update S (Obj.mapSeq (fun _ => (#[] : Array Value)))).get? b = some o := fun b o hb e => (Heap.get?_update_other _ _ (Ne.symm hb)).trans (Heap.get?_push_of_some _ e)
  generalize hh2 : (s.heap.push { cls := .type "list", data := .seq #[] }).update S (Obj.mapSeq (fun _ => (#[] : Array Value))) = h2 at hS₂ k2
  have hm2 : h2.DictAt knd d kvs ep := hm.at' fun o e => k2 d o hSd.symm e
  have hx2 : HotObj x1 o1 h2 := k2 x1 _ (Nat.ne_of_lt hx1) hx
  have hI : S < h2.objs.size := Heap.lt_size hS₂
  have hSf : S ∉ [h2.objs.size, d, x1] := by simp only [List.mem_cons, List.not_mem_nil, or_false, not_or]; exact ⟨Nat.ne_of_lt hI, hSd, Nat.ne_of_gt hx1⟩
  have W := walksH_keys (prog := prog) (w := w) (knd := knd) (A := A.in1.in1) (o1 := o1) (fun h => hot _ h rfl) h2.objs.size d (Nat.ne_of_lt hm2.lt_size) (Nat.ne_of_lt (Heap.lt_size hx2)) kvs ep
  have key : ∀ (h : Heap) (c₁ tk : Nat), (h.IsKeyIter h2.objs.size d 0 kvs.length ep ∧ h.DictAt knd d kvs ep ∧ HotObj x1 o1 h) → (∀ b o, b ≠ S → h2.get? b = some o → h.get? b = some o) → h.get? S = some { cls := .type "list", data := .seq #[] c₁ } →
      codeAny (model prog w) A.in1 (.builtin "list.extend.loop" ⟨[.ref S, .ref h2.objs.size, .none], []⟩) (wants (fun r s₂ => r = .none ∧ Q (.ref S) s₂) E) { s with heap := h, toks := tk } := fun h c₁ tk hst hk hS₁ => by
    refine codeAny_extend_loopS W.toS hn S hSf .none kvs.length 0 _ #[] c₁ rfl (Nat.zero_le _) hst hS₁ (ItemsOf.nil _) fun s' acc' c' hmv hS' hacc => ?_
    rw [Moved.eq_with hmv]
    refine ⟨rfl, hQ s'.heap s'.toks acc' c' (fun b o e => hmv.heap b o (fun hmem => ?_) (hk b o (fun z => ?_) (k2 b o (fun z => ?_) e))) hS' hacc⟩
    · rcases List.mem_cons.mp hmem with z | z
      · exact absurd (Heap.lt_size e) (by rw [z, hSS]; exact Nat.lt_irrefl _)
      · have h3 := Heap.lt_size e
        rw [List.mem_singleton.mp z, hSS] at h3
        exact absurd h3 (Nat.lt_asymm hI)
    · exact absurd (Heap.lt_size e) (by rw [z, hSS]; exact Nat.lt_irrefl _)
    · exact absurd (Heap.lt_size e) (by rw [z, hSS]; exact Nat.lt_irrefl _)
  have hT : ({ s with heap := h2 } : Shared).TypeIs (.ref d) "dict" := hm2.dictOf.typeIs
  unfold Builtin.List.listExtendWith
  refine wpAny_bind (wpAny_typeOf hT ?_)
  simp only [show Builtin.List.listSameRef (.ref S) (.ref d) = false by simp [Builtin.List.listSameRef, hSd], show (Value.type "dict" == Value.type "list") = false by decide, show (Value.type "dict" == Value.type "tuple") = false by decide, Bool.or_false, Bool.false_eq_true, if_false]
  refine wpAny_bind (wpAny_pyIter_dict (s := { s with heap := h2 }) lo hm2 ?_)
  have hS₃ := Heap.get?_push_of_some { cls := .type "dict_keyiterator", data := .fields #[.ref d, .int 0 0, .int kvs.length 0, .int ep 0] } hS₂
  have st3 : (h2.push { cls := .type "dict_keyiterator", data := .fields #[.ref d, .int 0 0, .int kvs.length 0, .int ep 0] }).IsKeyIter h2.objs.size d 0 kvs.length ep ∧ (h2.push { cls := .type "dict_keyiterator", data := .fields #[.ref d, .int 0 0, .int kvs.length 0, .int ep 0] }).DictAt knd d kvs ep ∧ HotObj x1 o1 (h2.push { cls := .type "dict_keyiterator", data := .fields #[.ref d, .int 0 0, .int kvs.length 0, .int ep 0] }) :=
    ⟨⟨_, Heap.get?_push_size _ rfl, rfl, rfl⟩, hm2.push _, Heap.get?_push_of_some _ hx2⟩
  have k3 : ∀ b o, b ≠ S → h2.get? b = some o → (h2.push { cls := .type "dict_keyiterator", data := .fields #[.ref d, .int 0 0, .int kvs.length 0, .int ep 0] }).get? b = some o := fun b o _ e => Heap.get?_push_of_some _ e
  generalize h2.push { cls := .type "dict_keyiterator", data := .fields #[.ref d, .int 0 0, .int kvs.length 0, .int ep 0] } = h3 at hS₃ st3 k3 ⊢
  refine wpAny_bind (wpAny_holding (PySem.W.kdl_hint_dict (s := { s with heap := h3 }) st3.2.1.dictOf.typeIs ?_))
  refine wpAny_ite_split (fun _ => ?_) (fun _ => wpAny_pure ⟨plainId_quiet PySem.F.plain_extend_loop _, key h3 _ _ st3 k3 hS₃⟩)
  refine wpAny_bind (wpAny_rule ?_); refine wpAny_bind ?_
  show wpAny _ _ (updateSeq S (·.push .none) >>= fun _ => updateSeq S (·.pop)) _ _ _; refine wpAny_bind (wpAny_updateSeq hS₃ rfl ?_)
  have hS₄ := Heap.get?_update_self (Obj.mapSeq (·.push Value.none)) hS₃ rfl
  refine wpAny_updateSeq (hz := by seq_fits) hS₄ rfl ?_
  have hS₅ := Heap.get?_update_self (Obj.mapSeq (·.pop)) hS₄ rfl
  have k5 : ∀ b o, b ≠ S → h3.get? b = some o → ((h3.update S (Obj.mapSeq (·.push Value.none))).update S (Obj.mapSeq (·.pop))).get? b = some o := fun b o hb e => (Heap.get?_update_other _ _ (Ne.symm hb)).trans ((Heap.get?_update_other _ _ (Ne.symm hb)).trans e)
  refine wpAny_pure ⟨plainId_quiet PySem.F.plain_extend_loop _, key _ _ _ (W.frame 0 _ _ st3 fun b hb o e => k5 b o (fun z => hSf (z ▸ hb)) e) (fun b o hb e => k5 b o hb (k3 b o hb e)) hS₅⟩
end
theorem hcall_list_dK {X : Cx} (hc : HotC X) : CallR X (.type "list") rListD := fun pins s σ H xs us Q I r ⟨p, kvs, e, hk, q⟩ => by
  subst e
  have ⟨u, eu, rx⟩ := vals1 r
  subst eu
  obtain rfl : u = Value.ref p := rx
  have ⟨z, lo, vs, rk, hd⟩ := (show ObjOk X.prog X.w H s.heap p (.dK kvs) from I.hok p _ hk)
  have ⟨ep, hat⟩ := hd.dictAt
  have hl : kvs.length = vs.length := Paired.length rk
  have ⟨pp, ⟨h1, vs1, d1, c1⟩, hpn⟩ := hc
  have P1 := (I.pin pp (List.mem_append_left _ hpn)).1
  refine list_dict_hot (o1 := pp.2) (fun A' h hA hx => ⟨hA.trans h1, pp.2, vs1, hx, d1, c1⟩) lo P1 hat (by rw [← hl]; exact z) fun h1 tk acc1 c1 hkeep hS hacc => ?_
  refine ⟨.ref s.heap.objs.size, upd H s.heap.objs.size (.lst (kvs.map fun kv => kV kv.1)), I.laid hkeep (Nat.le_refl _) (show ObjOk X.prog X.w _ _ _ (.lst (kvs.map fun kv => kV kv.1)) from ⟨by rw [List.length_map]; exact z, acc1.toList, c1, ?_, by rw [Array.toArray_toList]; exact hS⟩), rfl, q _ (I.hok.fresh (Nat.le_refl _))⟩
  have el : acc1.toList.length = acc1.size := by simp
  refine vals_of_at (by rw [List.length_map, el, hacc.1, hl]) fun j x w g1 g2 => ?_
  have ⟨k, y, hky, hi⟩ := hacc.2 j w (by rw [← Array.getElem?_toList]; exact g2)
  have f1 : (kvs.map (·.1))[j]? = some k := by rw [KV.keys rk, List.getElem?_map, hky] <;> rfl
  have f2 : (kvs.map fun kv => kV kv.1)[j]? = some (kV k) := by rw [show (kvs.map fun kv => kV kv.1) = (kvs.map (·.1)).map kV by rw [List.map_map] <;> rfl, List.getElem?_map, f1] <;> rfl
  rw [f2] at g1; cases g1
  exact keyIs_rel hi
end Ls

/-! ### x = {k: v for ..} while an exception is handled -/
namespace Ls
open PySem PySem.Spec PyProof.Rows L2 L2H HotX
/-- a comprehension's block that keeps what is pinned -/
abbrev blkH (X : Cx) (s : Shared) (H : Hp) (scope : Scope) (cenv : Env) (fp : List Addr) : Cx := { X.blk s H scope cenv fp with pn := X.pn }
theorem blkH_ok {X : Cx} {s : Shared} {H : Hp} {scope : Scope} {cenv : Env} {fp : List Addr} (k : (X.blk s H scope cenv fp).Ok) : (blkH X s H scope cenv fp).Ok :=
  ⟨k.mod, k.kind, k.glob, k.blt, k.above, k.inj, k.has, k.cab, k.hd, k.frames, k.stk, k.exf, k.bs, k.bsz, k.noex, k.exfs, k.funs, k.frf⟩
section
variable {X : Cx}
theorem dcH_core {pins : List (Addr × Obj)} {s : Shared} {σ : L2.St} {H : Hp} {Q : VK} {kx vx tg iter : Expr} {ifs : List Expr} {scope : Scope} {own : List (Str × Nat)} {pos pos' : Pos} {wi : TI} {g : TG} {tt : TT} {tk tv : TE} {use : Option (Value → Sem Unit)} {Qf : Value → Shared → Prop} (hc : HotC X) (hN : X.N.Nodup) (I : Inv X pins σ H s) (hi : PIH X tg iter wi) (ok : BlkOk X.N X.env.scope scope own)
    (hg : ∀ (s : Shared) (H : Hp) (C : Addr) (cl : List (Str × Addr)) (fp : List Addr), PG (blkH X s H scope (compEnvC scope cl C X.env) fp) tg g) (ht : ∀ (s : Shared) (H : Hp) (C : Addr) (cl : List (Str × Addr)) (fp : List Addr), PTs (blkH X s H scope (compEnvC scope cl C X.env) fp) ifs tt)
    (hk : ∀ (s : Shared) (H : Hp) (C : Addr) (cl : List (Str × Addr)) (fp : List Addr), PE (blkH X s H scope (compEnvC scope cl C X.env) fp) kx tk) (he : ∀ (s : Shared) (H : Hp) (C : Addr) (cl : List (Str × Addr)) (fp : List Addr), PE (blkH X s H scope (compEnvC scope cl C X.env) fp) vx tv) (hs : ∀ x, foldedSetIterable iter X.env x = pure x)
    (h : tDc wi g tt tk tv (own.map (·.2)) σ H Q) (hRR : ∀ D C s' m H', Inv X pins σ H' s' → Q (.ref D) H' → s'.heap.Ns C m → FpOk X pins H' C → compPost (model X.prog X.w) X.A X.xe use Qf (.ref D) C (.ok .next) s') :
    wpAny (model X.prog X.w) X.A (comprehension (.DictComp kx vx [⟨tg, iter, ifs, 0⟩] scope pos) scope X.env pos' newDict false (eval iter X.env) use) Qf X.xe s := by
  have hfree : ∀ y ∈ scope.names, y.2 = .free → ∃ c, X.env.cells.lookup y.1 = some c := fun y hy e => (ok.free y hy e).elim (fun k => I.ok.has _ (.inl k)) fun k => I.ok.has _ (.inr k)
  refine wpAny_comprehension_free (use := use) rfl hs (closure_ok hfree) ok.kind (fun y hy e => by rw [ok.uniq y hy, e]) (thn (hi.run pins s σ H _ I h) fun xv s1 hx => thn hx fun itv s2 ⟨it, fp, tn, J, H2, e, I2, T, st2, f2, q⟩ => ?_)
  subst e
  refine wpAny_newObj_type (newEnv_comp ?_); generalize hD : s2.heap.objs.size = D
  have hDn : H2 D = none := I2.hok.fresh (Nat.le_of_eq hD)
  obtain ⟨W, ⟨m0, w0⟩, turn⟩ := q D hDn
  generalize hs3 : ({ s2 with heap := s2.heap.push { cls := .type "dict", data := .dict #[] } } : Shared) = s3
  have I3 : Inv X pins σ (upd H2 D (.dK [])) s3 := hs3 ▸ I2.laid (t' := s2.toks) (fun b o e => Heap.get?_push_of_some _ e) (Nat.le_of_eq hD) (hD ▸ dk_empty s2.heap I2.big)
  have h3 : s3.heap = s2.heap.push { cls := .type "dict", data := .dict #[] } := hs3 ▸ rfl
  have f3 : ∀ b ∈ fp, FpOk X pins (upd H2 D (.dK [])) b ∧ b < s3.heap.objs.size := fun b hb => by
    obtain ⟨o, e, _⟩ := T.obj _ _ st2 b hb
    have hlt := Heap.lt_size e
    exact ⟨⟨by rw [upd_ne (hD ▸ Nat.ne_of_lt hlt)]; exact (f2 b hb).1, (f2 b hb).2⟩, by rw [h3, Heap.size_push]; exact Nat.lt_succ_of_lt hlt⟩
  have st3 : tn 0 s3.heap := T.keep _ _ _ st2 fun b _ o e => by rw [h3]; exact Heap.get?_push_of_some _ e
  have I40 := block_start I3 ok hN f3
  generalize hcl : cellsFrom (s3.heap.objs.size + 1) scope.names (cloFrom X.env.cells scope.names []) = cl at I40 ⊢
  have pg := hg s3 (upd H2 D (.dK [])) s3.heap.objs.size cl fp
  have pt := ht s3 (upd H2 D (.dK [])) s3.heap.objs.size cl fp
  have pk := hk s3 (upd H2 D (.dK [])) s3.heap.objs.size cl fp
  have pe := he s3 (upd H2 D (.dK [])) s3.heap.objs.size cl fp
  show codeAny _ _ (.compStart (.DictComp kx vx [⟨tg, iter, ifs, 0⟩] scope pos) 0 (.ref it) (.ref D) (compEnvC scope cl s3.heap.objs.size X.env)) (compPost (model X.prog X.w) X.A X.xe use Qf (.ref D) s3.heap.objs.size) { s3 with heap := pushCells (s3.heap.push { cls := .type "dict", data := .dict #[] }) scope.names }
  have nfp : ∀ b ∈ fp, (upd H2 D (.dK [])) b = none := fun b hb => (f3 b hb).1.1
  generalize hce : compEnvC scope cl s3.heap.objs.size X.env = ce at I40 pg pt pk pe ⊢
  have cL : ce.locals = s3.heap.objs.size := hce ▸ rfl
  generalize hH3 : upd H2 D (.dK []) = H3 at I3 I40 pg pt pk pe w0 nfp f3
  have kp : ∀ b o, s3.heap.get? b = some o → (pushCells (s3.heap.push { cls := .type "dict", data := .dict #[] }) scope.names).get? b = some o := fun b o e => pushCells_keeps _ _ _ _ (Heap.get?_push_of_some _ e)
  generalize hs4 : ({ s3 with heap := pushCells (s3.heap.push { cls := .type "dict", data := .dict #[] }) scope.names } : Shared) = s4 at I40 ⊢
  have kp4 : ∀ b o, s3.heap.get? b = some o → s4.heap.get? b = some o := fun b o e => hs4 ▸ kp b o e
  have st4 : tn 0 s4.heap := T.keep _ _ _ st3 fun b _ o e => kp4 b o e
  have I4 : Inv (blkH X s3 H3 scope ce fp) [] (wipe σ (own.map (·.2))) H3 s4 := ⟨blkH_ok I40.ok, I40.os, I40.bare, I40.base, I40.loc, I40.cell, I40.free, I40.freeC, fun p hp => by
    have hp2 : p ∈ X.pn := by rw [List.append_nil] at hp; exact hp
    have z := I3.pin p (List.mem_append_left _ hp2)
    exact ⟨kp4 _ _ z.1, z.2.1, fun e => absurd (Heap.lt_size z.1) (by rw [e, cL]; exact Nat.lt_irrefl _), fun hm => (List.mem_cons.mp (I3.stkSub p.1 hm)).elim z.2.2.1 z.2.2.2.1, z.2.2.2.2⟩, I40.hok, I40.len⟩
  have hot : HotC (blkH X s3 H3 scope ce fp) := hc
  have stat : ∀ {σ' : L2.St} {H' : Hp} {s' : Shared}, Inv (blkH X s3 H3 scope ce fp) [] σ' H' s' → (∀ b ∈ fp, H' b = none) → ∀ b ∈ fp, FpOk (blkH X s3 H3 scope ce fp) [] H' b := fun {σ' H' s'} I' hn b hb =>
    ⟨hn b hb, (I'.ok.exf b hb).1, I'.ok.exfs b hb, .inl hb, fun x c e => (I'.ok.exf b hb).2 x c e, fun p hp => (f3 b hb).1.2.2.2.2.2 p (List.mem_append_left _ (show p ∈ X.pn by rw [List.append_nil] at hp; exact hp))⟩
  refine codeAny_compStart_dict ?_ (T.self X.A 0 _ _ _ st4 ?_)
  all_goals
    refine compLoop_anyD (fun n s' => ∃ i H', Inv (blkH X s3 H3 scope ce fp) [] (wipe σ (own.map (·.2))) H' s' ∧ tn i s'.heap ∧ (∀ b ∈ fp, H' b = none) ∧ W i n H') ?_ m0 ⟨0, H3, I4, st4, nfp, w0⟩
    rintro n s5 ⟨i, H5, I5, st5, n5, w5⟩
    rcases turn i n H5 w5 with ⟨stop, qq⟩ | ⟨go, Nx, hNx, step⟩
    · refine thnF (T.done (blkH X s3 H3 scope ce fp) rfl rfl rfl hot i [] s5 _ H5 (fun _ _ => False) I5 (stat I5 n5) st5 stop) fun r s6 ⟨hr, I6⟩ => ?_
      subst hr
      have I7 : Inv X pins σ H5 s6 := I3.call' (ch := fp) I6.os I6.base I6.hok I6.bare fun b hb => ⟨(f3 b hb).1.2.2.2.1, (f3 b hb).1.2.1, (f3 b hb).1.2.2.2.2.1, (f3 b hb).1.2.2.2.2.2⟩
      have nC : H5 s3.heap.objs.size = none := cL ▸ (I6.free : H5 ce.locals = none)
      obtain ⟨m, hn, _⟩ := I6.loc
      exact hRR D s3.heap.objs.size s6 m H5 I7 qq (cL ▸ (show s6.heap.Ns ce.locals m from hn)) (I3.fpOk (Nat.le_refl _) nC)
    · refine thnF (T.item (blkH X s3 H3 scope ce fp) rfl rfl rfl hot i [] s5 _ H5 (fun _ _ => False) I5 (stat I5 n5) st5 go) fun r s6 ⟨u, hr, h6⟩ => ?_
      subst hr
      refine thnF h6 fun _ s7 ⟨x, H7, I7, r7, y7, st7, n7⟩ => thnF (pg.run _ s7 _ H7 x u _ (I7.pinned (stat I7 n7) (T.obj _ _ st7)) r7 (step x H7 y7)) fun _ s8 ⟨σ8, H8, I8, hw8, q8⟩ => thnF (pt.run _ s8 σ8 H8 _ I8 q8) fun b s9 ⟨H9, I9, q9⟩ => ?_
      have fin : ∀ {s' : Shared} {H' : Hp}, Inv (blkH X s3 H3 scope ce fp) ([] ++ pinsAt fp s7.heap) σ8 H' s' → Nx H' → ∃ m, m < n ∧ ∃ i H', Inv (blkH X s3 H3 scope ce fp) [] (wipe σ (own.map (·.2))) H' s' ∧ tn i s'.heap ∧ (∀ b ∈ fp, H' b = none) ∧ W i m H' := fun {s' H'} I' nx => by
        obtain ⟨m', hm, w'⟩ := hNx H' nx
        have pin' : ∀ b ∈ fp, ∀ o, s7.heap.get? b = some o → s'.heap.get? b = some o ∧ H' b = none := fun b hb o e => ⟨(I'.pin (b, o) (List.mem_append_right _ (List.mem_append_right _ (mem_pinsAt hb e)))).1, (I'.pin (b, o) (List.mem_append_right _ (List.mem_append_right _ (mem_pinsAt hb e)))).2.1⟩
        refine ⟨m', hm, i + 1, H', (I'.unpinned (pins := [])).weak (by rw [← hw8, wipe_length]) (fun j v e => (wipe_some (by rw [← hw8] at e; exact e)).1), T.keep _ _ _ st7 fun b hb o e => (pin' b hb o e).1, fun b hb => ?_, w'⟩
        obtain ⟨o, e, _⟩ := T.obj _ _ st7 b hb
        exact (pin' b hb o e).2
      cases b with
      | false => simp only [Bool.false_eq_true, if_false] at q9 ⊢; exact fin I9 q9
      | true =>
        simp only [if_true] at q9 ⊢
        refine thnF (pk.run _ s9 σ8 H9 _ I9 q9) fun z s10 ⟨yk, H10, I10, r10, q10⟩ => thnF (pe.run _ s10 σ8 H10 _ I10 q10) fun z2 s11 ⟨yv, H11, I11, r11, kvs, k, ek, hD11, hz11, nx⟩ => ?_
        subst ek
        exact d_dictSet (X := blkH X s3 H3 scope ce fp) I11 hD11 hz11 r10 r11 fun s12 I12 => fin I12 nx
theorem ps_setDcH {i : Nat} {y : Str} {py : Pos} {kx vx tg iter : Expr} {ifs : List Expr} {scope : Scope} {own : List (Str × Nat)} {pos spos : Pos} {wi : TI} {g : TG} {tt : TT} {tk tv : TE} (hc : HotC X) (hN : X.N.Nodup) (hy : X.N[i]? = some y) (hyl : X.env.scope.names.lookup y = some .local)
    (hsw : swapsWith (.DictComp kx vx [⟨tg, iter, ifs, 0⟩] scope pos) (some (.Name y py)) spos.line X.env = pure true) (hi : PIH X tg iter wi) (ok : BlkOk X.N X.env.scope scope own)
    (hg : ∀ (s : Shared) (H : Hp) (C : Addr) (cl : List (Str × Addr)) (fp : List Addr), PG (blkH X s H scope (compEnvC scope cl C X.env) fp) tg g) (ht : ∀ (s : Shared) (H : Hp) (C : Addr) (cl : List (Str × Addr)) (fp : List Addr), PTs (blkH X s H scope (compEnvC scope cl C X.env) fp) ifs tt)
    (hk : ∀ (s : Shared) (H : Hp) (C : Addr) (cl : List (Str × Addr)) (fp : List Addr), PE (blkH X s H scope (compEnvC scope cl C X.env) fp) kx tk) (he : ∀ (s : Shared) (H : Hp) (C : Addr) (cl : List (Str × Addr)) (fp : List Addr), PE (blkH X s H scope (compEnvC scope cl C X.env) fp) vx tv) (hs : ∀ x, foldedSetIterable iter X.env x = pure x := by intro _; rfl) :
    PS X (.Assign [.Name y py] (.DictComp kx vx [⟨tg, iter, ifs, 0⟩] scope pos) spos) (tAsg (tDc wi g tt tk tv (own.map (·.2))) (gName i)) := by
  refine ⟨fun pins s0 σ0 H0 D I0 h0 => ?_⟩
  rw [exec_Assign_Name_used _ _ _ _ hsw]
  refine wpAny_bind (wpAny_standAt (wpAny_bind ?_))
  show wpAny _ X.A (do let _ ← comprehension (.DictComp kx vx [⟨tg, iter, ifs, 0⟩] scope pos) scope X.env (firstIterPos [⟨tg, iter, ifs, 0⟩] pos) newDict false (eval iter X.env) (some (assign (.Name y py) X.env))) _ _ s0
  have h1 : tDc wi g tt tk tv (own.map (·.2)) σ0 H0 (fun x H1 => gName i x σ0 H1 D.nx) := h0
  refine wpAny_bind (thn (dcH_core (Qf := fun _ s' => SP X pins D .next s') hc hN I0 hi ok hg ht hk he hs h1 fun L C s1 m H1 I1 q1 n1 f1 => ?_) fun _ _ hq => wpAny_pure (wpAny_pure hq))
  show wpAny _ _ (assign (.Name y py) X.env (.ref L)) _ _ _
  refine wpAny_assign_Name (store_ok2 (v := V.ref L) I1 hN hy (.inl hyl) rfl (fun s2 I2 ⟨a, sb, ha⟩ => ?_) (.inr hyl))
  have ⟨g0, g1, g2, g3, g4, g5⟩ := f1
  have hCa : C ≠ a := ha.elim (fun z => by rw [z]; exact g1) fun z e => g4 y a z e.symm
  exact ⟨m, n1.sameBut sb hCa, fun h3 sb3 => ⟨_, H1, I2.turned (t' := s2.toks) (fun b o hb e => (sb3.2 b hb).trans e) g0 g1 g3 g4 g5, q1⟩⟩
end
/-- a def's body while an exception is handled -/
theorem FunD.okH {P : Program} {w : World} {K : PySem.W.Frag} {mg : Str → Option Value} {base : Heap} {x qual : Str} {params : Arguments} {body : List Stmt} {scope : Scope} {dvs : List V} {kws : List (Str × V)} {f : Addr} {fd : FuncData} {N ps : List Str} {k : Nat} {sp : Sp} (F : FunD K x qual params body scope dvs kws f fd) (S : FnScope N ps scope) (len : ∀ vs H Q E, sp vs H Q E → vs.length = ps.length)
    (hbody : ∀ (cdv : Value) (A : Around) (outer : List Env) (s : Shared) (H : Hp) (vs : List V) (Q : VK) (E : XK) (p : Addr × Obj), Hot1 A p → RoomH k (A.deeper (envOfC qual scope s.heap.objs.size f cdv)) → sp vs H Q E →
      ∃ t, PSs (cxH CX0 P w K mg base N qual scope f cdv A outer s H E p) body t ∧ t { nx := fun _ H' => Q .non H', rt := Q } (L2.start N vs) H) : FnH P w K mg base CX0 (k + 1) f fd ps sp := by
  obtain ⟨oc, od, dV, kV, doc, pm, an, cdv, ct, osl, rfl, lk, hcd, _, _⟩ := F.ex
  exact fn_ofH lk hcd S len fun A outer s H vs Q E p hot hr hsp => hbody cdv A outer s H vs Q E p hot hr hsp
theorem huH_of {A : Around} {k : Nat} (hr : RoomH k A) : A.units + 1 < cLine := by have := hr.un; omega
theorem unH {A : Around} {k : Nat} (hr : RoomH k A) : A.units + 64 < cLine := by have := hr.un; omega
/-- a def, as a caller needs it while an exception is handled -/
structure CalH (P : Program) (w : World) (K : PySem.W.Frag) (mg : Str → Option Value) (base : Heap) (k : Nat) (x : Str) (sp : Sp) (dvs : List V) : Prop where
  ex : ∃ (f : Addr) (fd : FuncData) (ps : List Str) (ds : List Value), FnH P w K mg base CX0 k f fd ps sp ∧ mg x = some (.ref f) ∧ PySem.W.keepIn K (.ref f) = true ∧ Binds K fd ps ds ∧ Vals dvs ds
end Ls
namespace Ls
open PySem PySem.Spec PyProof.Rows L2 L2H HotX
theorem hotX {X : Cx} {p : Addr × Obj} (h : Hot1 X.A p) (hp : X.pn = [p]) : HotC X := ⟨p, h, by rw [hp]; exact List.mem_singleton.mpr rfl⟩
section
variable {X : Cx} {e : Expr} {es : List Expr} {t : TA} {p pos : Pos} {x : Str} {k j : Nat} {sp : Sp} {dvs : List V}
theorem pe_ch (c : CalH X.prog X.w X.K X.mg X.base k x sp dvs) (hr : RoomH j X.A) (hot : HotC X) (hk : k ≤ j) (hg : Gl X x) (ha : PA X (e :: es) t) (hdb : (x == ("__debug__" : Str)) = false := by decide)
    (he : starEach (e :: es) X.env = (false, eval e X.env) :: starEach es X.env := by rfl) (hpl : (backTo pos (starEach es X.env)).any (·.1) = false := by rfl) : PE X (.Call (.Name x p) (e :: es) [] pos) (tCall sp dvs E0 t) := by
  have ⟨f, fd, ps, ds, F, hm, kp, b, d⟩ := c.ex
  refine ⟨fun pins s σ H Q I h => wpAny_Call_Name_kw (ld_glob I hg hm ?_ hdb)⟩
  refine PySem.W.callWith_K (h₀ := X.base) I.ok.mod.kin kp (thn (ha.run pos pins s σ H _ I h) fun us s1 ⟨vs, H1, I1, r, q⟩ => ⟨I1.kIn, ?_⟩) he hpl
  obtain ⟨pp, hot1, hp⟩ := hot
  have q : sp (vs ++ dvs) H1 Q E0 := q
  have r2 : Vals (vs ++ dvs) (us ++ ds) := r.append d
  have hl : (us ++ ds).length = ps.length := by rw [← r2.length]; exact F.len _ _ _ _ q
  have P1 := I1.pin pp (List.mem_append_left _ hp)
  refine wpAny_call (codeAny_mono (F.run X.A X.stack s1 H1 ⟨us, []⟩ (us ++ ds) (vs ++ dvs) Q E0 pp (hr.mono hk) hot1 ⟨P1.1, P1.2.1, fun hm => (List.mem_cons.mp (I1.stkSub pp.1 hm)).elim P1.2.2.1 P1.2.2.2.1, P1.2.2.2.2⟩ I1.env0 (b s1 us I1.kIn hl) r2 q) fun r s' hq => ?_)
  cases r with
  | error e => exact hq.elim
  | ok fl =>
    cases fl with
    | ret u => exact I1.after hq
    | next => exact False.elim hq
    | brk => exact False.elim hq
    | cont => exact False.elim hq
end
end Ls

/-! ### defs that may raise, their errors without a context; suites from which one calls -/
namespace Ls
open PySem PySem.Spec PyProof.Rows L2 L2H HotX
structure CalXN (P : Program) (w : World) (K : PySem.W.Frag) (mg : Str → Option Value) (base : Heap) (k : Nat) (x : Str) (sp : Sp) (dvs : List V) : Prop where
  ex : ∃ (f : Addr) (fd : FuncData) (ps : List Str) (ds : List Value), FnOk P w K mg base (L2N.CX P w) k f fd ps sp ∧ mg x = some (.ref f) ∧ PySem.W.keepIn K (.ref f) = true ∧ Binds K fd ps ds ∧ Vals dvs ds
section
variable {X : Cx} {W : WX} {E : XK} {e : Expr} {es : List Expr} {t : TA} {p pos : Pos} {x : Str} {k j : Nat} {sp : Sp} {dvs : List V} {C : Addr}
theorem takes0N {X : Cx} : L2N.Takes X (fun _ _ _ _ => False) := fun _ _ x => by
  obtain ⟨_, _, _, _, _, _, _, _, _, _, _, _, _, _, _, _, w⟩ := x
  exact w.elim
theorem pe_cxN (c : CalXN X.prog X.w X.K X.mg X.base k x sp dvs) (tk : L2N.Takes X W) (hE : ∀ cls d σ H, E cls d H → W cls d σ H) (hr : Room j X.A) (hk : k ≤ j) (hg : Gl X x) (ha : PA X (e :: es) t) (hdb : (x == ("__debug__" : Str)) = false := by decide)
    (he : starEach (e :: es) X.env = (false, eval e X.env) :: starEach es X.env := by rfl) (hpl : (backTo pos (starEach es X.env)).any (·.1) = false := by rfl) : PE X (.Call (.Name x p) (e :: es) [] pos) (tCall sp dvs E t) := by
  have ⟨f, fd, ps, ds, F, hm, kp, b, d⟩ := c.ex
  exact pe_call F (hr.mono hk) hg hm kp b d (L2N.passes_call tk hE) ha hdb he hpl
/-- within a try: what the suites take stands at the caller's slots -/
theorem pe_cxNS (c : CalXN X.prog X.w X.K X.mg X.base k x sp dvs) (tk : L2N.Takes X W) (hr : Room j X.A) (hk : k ≤ j) (hg : Gl X x) (ha : PA X (e :: es) t) (hdb : (x == ("__debug__" : Str)) = false := by decide)
    (he : starEach (e :: es) X.env = (false, eval e X.env) :: starEach es X.env := by rfl) (hpl : (backTo pos (starEach es X.env)).any (·.1) = false := by rfl) : PE X (.Call (.Name x p) (e :: es) [] pos) (tCallSD sp dvs (WE W) t) := by
  have ⟨f, fd, ps, ds, F, hm, kp, b, d⟩ := c.ex
  exact pe_callSD F (hr.mono hk) hg hm kp b d (fun σ => L2N.passAt tk σ) ha hdb he hpl
variable {bmB : List Value} {B newId initId : String}
theorem pmk_own0N (F : ExcBaseFacts B newId initId bmB) (q : PySem.W.excIn X.K C bmB newId = true) (gC : X.mg x = some (.ref C)) (kC : PySem.W.keepIn X.K (.ref C) = true) (r : Raises X (.ref C)) (hg : Gl X x) (hdb : (x == ("__debug__" : Str)) = false := by decide) :
    L2N.PMk X (.Call (.Name x p) [] [] pos) (fun _ H Q => Q (.ref C) none H) := by
  intro pins s σ H Q I h
  refine wpAny_Call_Name_kw (ld_glob I hg gC ?_ hdb)
  refine PySem.W.callWith_K0 I.kIn kC ?_
  have ⟨bm, N, nm, qn, bs, hdct, sn, sub, ab, col, dd, k0, k1, k2, k3, k5, mN, hC, hN, hni, T⟩ := exc_obj I.kIn q
  refine wpAny_call_exc_subT F T hC hN hni (fun h' e hm => ?_) (Nat.zero_le _)
  exact L2N.mk_of I hm r h (I.hok.gone hm.new)
/-- within an except suite -/
theorem hotZ {a : Addr} {oe : Obj} {cls : Value} {d : Option Addr} {pn : List (Addr × Obj)} (hz : L2N.Zn cls d oe) (hd : ∃ vs, oe.data = .fields vs) : HotC (X.suite a ((a, oe) :: pn)) :=
  hd.elim fun vs e => ⟨(a, oe), ⟨rfl, vs, e, hz.2.2 vs e⟩, List.mem_cons_self⟩
theorem roomS {A : Around} {k : Nat} {v : Option Value} (r : Room k A) : RoomH k (A.mark v) := ⟨r.dp, r.un⟩
end
end Ls

/-! ### comprehensions with two clauses, by walks -/
namespace Ls
open PySem PySem.Spec PyProof.Rows L2
section
variable {J J1 : It} {n n1 : Nat} {G G1 : Hp → Prop} {Y Y1 : Nat → Hp → V → Hp → Prop}
theorem lc_in (w : Walk J1 n1 G1 Y1) {g1 : TG} {tt1 : TT} {te : TE} {vs1 : List Nat} {σ2 : L2.St} {H4 : Hp} {D : Addr} {Nx : Hp → Prop} (Pv : Nat → Hp → Prop) (h0 : Pv 0 H4) (hG : ∀ i H, i ≤ n1 → Pv i H → G1 H)
    (hs : ∀ j x H H', j < n1 → Pv j H → Y1 j H x H' → g1 x (wipe σ2 vs1) H' fun σ3 H5 => wipe σ3 vs1 = wipe σ2 vs1 ∧ tt1 σ3 H5 fun b H6 =>
        if b = true then te σ3 H6 fun y H7 => ∃ acc, H7 D = some (.lst acc) ∧ acc.length < sizeLine ∧ Pv (j + 1) (upd H7 D (.lst (acc ++ [y]))) else Pv (j + 1) H6) (hd : ∀ H, Pv n1 H → Nx H) :
    ∃ W1 : Nat → Nat → Hp → Prop, (∃ m, W1 0 m H4) ∧ ∀ j k H, W1 j k H →
      (J1.stop j H ∧ Nx H) ∨ (J1.go j H ∧ ∃ Nx1 : Hp → Prop, (∀ H', Nx1 H' → ∃ k', k' < k ∧ W1 (j + 1) k' H') ∧ ∀ x H', J1.yld j H x H' → g1 x (wipe σ2 vs1) H' fun σ3 H5 => wipe σ3 vs1 = wipe σ2 vs1 ∧ tt1 σ3 H5 fun b H6 =>
        if b = true then te σ3 H6 fun y H7 => ∃ acc, H7 D = some (.lst acc) ∧ acc.length < sizeLine ∧ Nx1 (upd H7 D (.lst (acc ++ [y]))) else Nx1 H6) :=
  ⟨fun i m H => m = n1 - i ∧ i ≤ n1 ∧ Pv i H, ⟨n1, (Nat.sub_zero n1).symm, Nat.zero_le _, h0⟩, fun i m H ⟨e, hi, p⟩ => by
    have q := hG i H hi p
    rcases Nat.lt_or_ge i n1 with hlt | hge
    · exact .inr ⟨w.goes i H hlt q, Pv (i + 1), fun H' p' => ⟨n1 - (i + 1), by omega, rfl, hlt, p'⟩, fun x H' y => hs i x H H' hlt p (w.yields i H x H' hlt q y)⟩
    · have e : i = n1 := Nat.le_antisymm hi hge
      subst e
      exact .inl ⟨w.stops H q, hd H p⟩⟩
theorem lc2_it (w : Walk J n G Y) {g : TG} {tt : TT} {wi1 : TI} {g1 : TG} {tt1 : TT} {te : TE} {vs vs1 : List Nat} {σ : L2.St} {H1 : Hp} {D : Addr} {Qd : Hp → Prop} (Pv : Nat → Hp → Prop) (h0 : Pv 0 (upd H1 D (.lst []))) (hG : ∀ i H, i ≤ n → Pv i H → G H)
    (hs : ∀ i x H H', i < n → Pv i H → Y i H x H' → g x (wipe σ vs) H' fun σ2 H2 => wipe σ2 vs = wipe σ vs ∧ tt σ2 H2 fun b H3 =>
      if b = true then wi1 σ2 H3 fun J1 H4 => ∃ W1 : Nat → Nat → Hp → Prop, (∃ m, W1 0 m H4) ∧ ∀ j k H, W1 j k H →
        (J1.stop j H ∧ Pv (i + 1) H) ∨ (J1.go j H ∧ ∃ Nx1 : Hp → Prop, (∀ H', Nx1 H' → ∃ k', k' < k ∧ W1 (j + 1) k' H') ∧ ∀ x H', J1.yld j H x H' → g1 x (wipe σ2 vs1) H' fun σ3 H5 => wipe σ3 vs1 = wipe σ2 vs1 ∧ tt1 σ3 H5 fun b H6 =>
          if b = true then te σ3 H6 fun y H7 => ∃ acc, H7 D = some (.lst acc) ∧ acc.length < sizeLine ∧ Nx1 (upd H7 D (.lst (acc ++ [y]))) else Nx1 H6)
      else Pv (i + 1) H3) (hd : ∀ H, Pv n H → Qd H) :
    ∃ W : Nat → Nat → Hp → Prop, (∃ m, W 0 m (upd H1 D (.lst []))) ∧ ∀ i m H, W i m H →
      (J.stop i H ∧ Qd H) ∨ (J.go i H ∧ ∃ Nx : Hp → Prop, (∀ H', Nx H' → ∃ m', m' < m ∧ W (i + 1) m' H') ∧ ∀ x H', J.yld i H x H' → g x (wipe σ vs) H' fun σ2 H2 => wipe σ2 vs = wipe σ vs ∧ tt σ2 H2 fun b H3 =>
        if b = true then wi1 σ2 H3 fun J1 H4 => ∃ W1 : Nat → Nat → Hp → Prop, (∃ m, W1 0 m H4) ∧ ∀ j k H, W1 j k H →
          (J1.stop j H ∧ Nx H) ∨ (J1.go j H ∧ ∃ Nx1 : Hp → Prop, (∀ H', Nx1 H' → ∃ k', k' < k ∧ W1 (j + 1) k' H') ∧ ∀ x H', J1.yld j H x H' → g1 x (wipe σ2 vs1) H' fun σ3 H5 => wipe σ3 vs1 = wipe σ2 vs1 ∧ tt1 σ3 H5 fun b H6 =>
            if b = true then te σ3 H6 fun y H7 => ∃ acc, H7 D = some (.lst acc) ∧ acc.length < sizeLine ∧ Nx1 (upd H7 D (.lst (acc ++ [y]))) else Nx1 H6)
        else Nx H3) :=
  ⟨fun i m H => m = n - i ∧ i ≤ n ∧ Pv i H, ⟨n, (Nat.sub_zero n).symm, Nat.zero_le _, h0⟩, fun i m H ⟨e, hi, p⟩ => by
    have q := hG i H hi p
    rcases Nat.lt_or_ge i n with hlt | hge
    · exact .inr ⟨w.goes i H hlt q, Pv (i + 1), fun H' p' => ⟨n - (i + 1), by omega, rfl, hlt, p'⟩, fun x H' y => hs i x H H' hlt p (w.yields i H x H' hlt q y)⟩
    · have e : i = n := Nat.le_antisymm hi hge
      subst e
      exact .inl ⟨w.stops H q, hd H p⟩⟩
end
end Ls

namespace K1
open PySem PySem.Spec PyProof.Rows L2 Ls
/-! ### the text by places -/
def top (i : Nat) : Stmt := PySem.Challenge.pw_loopsheds_k05_fewest.main.body.getD i (.Pass ⟨0, 0, 0, 0⟩)
abbrev s_Table___init__ : Stmt := inClass (top 3) 0
abbrev s_blank : Stmt := top 4
abbrev s_more : Stmt := top 5
abbrev s_added : Stmt := top 6
abbrev s_table_of : Stmt := top 7
abbrev s_BadDifference___init__ : Stmt := inClass (top 10) 0
abbrev s_is_limit : Stmt := top 14
abbrev s_u_is_end : Stmt := top 15
abbrev s_checked_system : Stmt := top 16
abbrev s_names_of : Stmt := top 17
abbrev s_u_cycle : Stmt := top 18
abbrev s_ring : Stmt := top 19
abbrev s_implied : Stmt := top 20
abbrev s_classes_of : Stmt := top 22
abbrev s_u_limit : Stmt := top 23
abbrev s_u_ring_of : Stmt := top 24
abbrev s_u_needed : Stmt := top 25
abbrev s_fewest : Stmt := top 26
abbrev s_u_law_draw : Stmt := top 28
abbrev s_u_law_names_of : Stmt := top 29
abbrev s_u_law_pool : Stmt := top 30
abbrev s_u_law_system : Stmt := top 31
abbrev s_u_law_table : Stmt := top 32
abbrev s_u_law_heads : Stmt := top 33
abbrev s_u_law_needed : Stmt := top 34
abbrev s_u_law_due : Stmt := top 35
abbrev s_u_law_right : Stmt := top 36
abbrev s_law : Stmt := top 37
/-- what the module holds: built-in names free, constants -/
structure Facts (mg : Str → Option Value) : Prop where
  len_ : mg "len" = none
  range_ : mg "range" = none
  zip_ : mg "zip" = none
  enumerate_ : mg "enumerate" = none
  isinstance_ : mg "isinstance" = none
  tuple_ : mg "tuple" = none
  list_ : mg "list" = none
  int_ : mg "int" = none
  bool_ : mg "bool" = none
  str_ : mg "str" = none
  all_ : mg "all" = none
  FAR : ∃ t, mg "FAR" = some (.int 1000000000000000000000000000000 t)
  HALF : ∃ t, mg "HALF" = some (.int 100000000000000000000000000000 t)
  MOST : ∃ t, mg "MOST" = some (.int 1000000000000000000 t)
abbrev FnP (K : PySem.W.Frag) (x : Str) (st : Stmt) (dvs : List V) (f : Addr) (fd : FuncData) : Prop := FunD K x x (defArgs st) (defBody st) (defScope st) dvs [] f fd
/-! ### the class Table -/
theorem nr : (("names" : Str) == "rows") = false := by decide +kernel
theorem rn : (("rows" : Str) == "names") = false := by decide +kernel
theorem ns_ : (("names" : Str) == "spots") = false := by decide +kernel
theorem sn : (("spots" : Str) == "names") = false := by decide +kernel
theorem rs_ : (("rows" : Str) == "spots") = false := by decide +kernel
theorem sr : (("spots" : Str) == "rows") = false := by decide +kernel
def flds (an ar asp : Addr) : List (Str × V) := [(("names" : Str), V.ref an), (("rows" : Str), V.ref ar), (("spots" : Str), V.ref asp)]
theorem flds_names (an ar asp : Addr) : (flds an ar asp).lookup ("names" : Str) = some (V.ref an) := by simp [flds, List.lookup_cons]
theorem flds_rows (an ar asp : Addr) : (flds an ar asp).lookup ("rows" : Str) = some (V.ref ar) := by simp [flds, List.lookup_cons, rn]
theorem flds_spots (an ar asp : Addr) : (flds an ar asp).lookup ("spots" : Str) = some (V.ref asp) := by simp [flds, List.lookup_cons, sn, sr]
theorem flds_put (an ar asp : Addr) : putF "spots" (.ref asp) (putF "rows" (.ref ar) (putF "names" (.ref an) [])) = flds an ar asp := by
  have h1 : ¬ (("names" : Str) = "rows") := by decide +kernel
  have h2 : ¬ (("names" : Str) = "spots") := by decide +kernel
  have h3 : ¬ (("rows" : Str) = "spots") := by decide +kernel
  simp [putF, flds, h1, h2, h3]
/-- what the walk asks of the class -/
structure TCls (K : PySem.W.Frag) (C : Addr) : Prop where
  cl : Cls K C
  nN : NoAttr K C "names"
  nR : NoAttr K C "rows"
  nS : NoAttr K C "spots"
/-- names to places -/
def spD (ns : List Str) : List (Key × V) := ns.zipIdx.foldl (fun kv p => putK kv (Sum.inr p.1 : Key) (V.int (p.2 : Int))) []
def spTable (C : Addr) : Sp := fun vs H Q _ => ∃ (p dx an ar : Addr) (ns : List Str) (sv : V), vs = [.ref p, .ref an, .ref ar, sv] ∧ H p = some (.ins C dx []) ∧ H an = some (.tup (ns.map V.str)) ∧ ns.length ≤ 1000 ∧
  ((sv = .non ∧ ∀ d H', H d = none → H' d = some (.dK (spD ns)) → H' p = some (.ins C dx (flds an ar d)) → (∀ b o, H b = some o → b ≠ p → H' b = some o) → Q .non H') ∨
   ∃ d, sv = .ref d ∧ ∀ H', H' p = some (.ins C dx (flds an ar d)) → (∀ b o, H b = some o → b ≠ p → H' b = some o) → Q .non H')
theorem zipIdx_take {α : Type} (xs : List α) (i : Nat) (x : α) (h : xs[i]? = some x) : (xs.take (i + 1)).zipIdx = (xs.take i).zipIdx ++ [(x, i)] := by
  have hi := (List.getElem?_eq_some_iff.mp h).1
  rw [List.take_add_one, h, List.zipIdx_append]
  simp [Nat.min_eq_left (Nat.le_of_lt hi)]
theorem spD_snoc (ns : List Str) (x : Str) : spD (ns ++ [x]) = putK (spD ns) (Sum.inr x : Key) (V.int ((ns.length : Nat) : Int)) := by
  unfold spD
  rw [List.zipIdx_append, List.foldl_append]
  simp
theorem spD_take (ns : List Str) (i : Nat) (h : i < ns.length) : spD (ns.take (i + 1)) = putK (spD (ns.take i)) (Sum.inr ns[i] : Key) (V.int (i : Int)) := by
  have e : ns.take (i + 1) = ns.take i ++ [ns[i]] := by rw [List.take_add_one, List.getElem?_eq_getElem h]; rfl
  rw [e, spD_snoc, List.length_take, Nat.min_eq_left (Nat.le_of_lt h)]
theorem spD_len (ns : List Str) : ∀ i, i ≤ ns.length → (spD (ns.take i)).length ≤ i
  | 0, _ => by simp [spD]
  | i + 1, h => by
    rw [spD_take ns i h]
    have h1 := spD_len ns i (by omega)
    have h2 := length_putK (spD (ns.take i)) (Sum.inr ns[i] : Key) (V.int (i : Int))
    omega
/-- the last place of a name is what the dict tells -/
theorem spD_at (ns : List Str) : ∀ k, k ≤ ns.length → ∀ (i : Nat) (u : Str), i < k → ns[i]? = some u → (∀ j, i < j → j < k → ns[j]? ≠ some u) → valV (spD (ns.take k)) (Sum.inr u : Key) = some (V.int (i : Int))
  | 0, _, i, u, h, _, _ => by omega
  | k + 1, hk, i, u, h, hi, hl => by
    rw [spD_take ns k hk, valV_put]
    by_cases e : i = k
    · subst e
      have eu : ns[i] = u := by rw [List.getElem?_eq_getElem hk] at hi; exact Option.some.inj hi
      rw [eu, if_pos rfl]
    · have hne : ¬ (Sum.inr u : Key) = Sum.inr ns[k] := fun z => hl k (by omega) (by omega) (by rw [List.getElem?_eq_getElem hk]; exact congrArg some (Sum.inr.inj z).symm)
      rw [if_neg hne]
      exact spD_at ns k (by omega) i u (by omega) hi fun j h1 h2 => hl j h1 (by omega)
section
variable {P : Program} {w : World} {K : PySem.W.Frag} {mg : Str → Option Value} {base : Heap} {f C : Addr} {fd : FuncData} {k : Nat}
theorem sc_Table___init__ : FnScope ["self", "names", "rows", "spots", "spot", "name"] ["self", "names", "rows", "spots"] (defScope s_Table___init__) := ⟨rfl, rfl, rfl, by decide +kernel, rfl, by decide +kernel, by decide +kernel⟩
theorem ok_init (F : FunD K "__init__" "Table.__init__" (defArgs s_Table___init__) (defBody s_Table___init__) (defScope s_Table___init__) [.non] [] f fd) (G : Facts mg) (T : TCls K C) : FnOk P w K mg base CX0 1 f fd ["self", "names", "rows", "spots"] (spTable C) := by
  refine F.ok sc_Table___init__ (fun vs H Q E h => ?_) (fun cdv A outer s H vs Q E hr h => ?_)
  · obtain ⟨p, dx, an, ar, ns, sv, rfl, _⟩ := h
    rfl
  · obtain ⟨p, dx, an, ar, ns, sv, rfl, hp, han, hlen, hk⟩ := h
    have hu := hu_of hr
    refine ⟨_, PSs.nox (pss_cons (ps_fld (pv 0) (pv 1) rfl)
      (pss_cons (ps_fld (pv 0) (pv 2) rfl)
      (pss_one (ps_fld (pv 0) (pe_ifExp (pt_cmpR op_isN (pv 3) pe_non (nomark _)) (pe_dc (own := [("spot", 4), ("name", 5)]) (g := gTup K 2 (gCons (gName 4) (gCons (gName 5) (gNil)))) (tt := tYes) rfl sc_Table___init__.nd  (kpi_enumT K (by rfl) G.enumerate_ (pa_cons (pv 1) pa_nil)) (blkOk_by (by kernel_rfl)) (fun _ _ _ _ _ => (kpg_tup K rfl (pgs_cons (pg_name (i := 4) sc_Table___init__.nd rfl (by first | exact .inl rfl | exact .inr rfl)) (pgs_cons (pg_name (i := 5) sc_Table___init__.nd rfl (by first | exact .inl rfl | exact .inr rfl)) pgs_nil)))) (fun _ _ _ _ _ => pts_nil) (fun _ _ _ _ _ => (pv 5)) (fun _ _ _ _ _ => (pv 4))) (pv 3)) rfl)))), ?_⟩
    have pan : an ≠ p := ne_of han hp (by intro z; cases z)
    -- self.names = names; self.rows = rows
    refine ⟨_, rfl, _, rfl, p, C, dx, [], rfl, hp, T.cl, T.nN, (by show 0 < 1000; decide), ?_⟩
    refine ⟨_, rfl, _, rfl, p, C, dx, _, rfl, upd_same, T.cl, T.nR, (by show 1 < 1000; decide), ?_⟩
    -- spots is None
    refine ⟨_, rfl, rfl, _, rfl, ?_⟩
    rcases hk with ⟨rfl, hk⟩ | ⟨d, rfl, hk⟩
    · refine iteT ?_
      -- {name: spot for spot, name in enumerate(names)}
      have pH : ∀ o, (upd (upd H p (.ins C dx (putF "names" (.ref an) []))) p o) an = some (.tup (ns.map V.str)) := fun o => by rw [upd_ne pan, upd_ne pan]; exact han
      refine ⟨_, rfl, an, ns.map V.str, rfl, sqt (pH _), fun D hD => ?_⟩
      have hDp : p ≠ D := ne_of_none upd_same hD
      have hD0 : H D = none := by
        rw [upd_ne hDp.symm, upd_ne hDp.symm] at hD
        exact hD
      generalize hB : upd (upd H p (.ins C dx (putF "names" (.ref an) []))) p (.ins C dx (putF "rows" (.ref ar) (putF "names" (.ref an) []))) = B at hD pH ⊢
      have hBp : B p = some (.ins C dx (putF "rows" (.ref ar) (putF "names" (.ref an) []))) := by rw [← hB]; exact upd_same
      have hBo : ∀ b o, H b = some o → b ≠ p → B b = some o := fun b o e hb => by rw [← hB, upd_ne hb, upd_ne hb]; exact e
      have hBan := hBo an _ han pan
      refine dc_it (walk_enumT (K := K) (a := an) (xs := ns.map V.str)) (fun i H' => Same B H' ∧ H' D = some (.dK (spD (ns.take i)))) ⟨same_upd hD, upd_same⟩ (fun i H' _ ⟨s1, _⟩ => sqt (s1 _ _ hBan)) ?_ ?_
      · rintro i x H1 H' hi ⟨s1, d1⟩ ⟨T', x1, x2, rfl, nT, rfl, e1, e2⟩
        cases e1
        have hil : i < ns.length := by simpa using hi
        have e2 : x2 = V.str ns[i] := by
          have e2 : (ns.map V.str)[i]? = some x2 := e2
          rw [List.getElem?_map, List.getElem?_eq_getElem hil] at e2
          exact (Option.some.inj e2).symm
        subst e2
        have nTD : D ≠ T' := ne_of_none d1 nT
        refine ⟨T', _, rfl, sqt upd_same, rfl, _, _, rfl, _, _, rfl, rfl, rfl, _, rfl, _, rfl, spD (ns.take i), Sum.inr ns[i], rfl, by rw [upd_ne nTD]; exact d1, ?_, same_mut (s1.trans (same_upd nT)) hD, ?_⟩
        · have := spD_len ns i (by omega)
          exact szlt (by omega)
        · rw [upd_same, spD_take ns i hil]
      · rintro H' ⟨s1, d1⟩
        rw [List.length_map, List.take_length] at d1
        have h1p := s1 _ _ hBp
        have nDp : D ≠ p := hDp.symm
        refine ⟨_, rfl, p, C, dx, _, rfl, h1p, T.cl, T.nS, (by show 2 < 1000; decide), ?_⟩
        refine hk D _ hD0 (by rw [upd_ne nDp]; exact d1) (by rw [upd_same, flds_put]) fun b o e hb => ?_
        rw [upd_ne hb]
        exact s1 _ _ (hBo b o e hb)
    · refine iteF ?_
      refine ⟨_, rfl, _, rfl, p, C, dx, _, rfl, upd_same, T.cl, T.nS, (by show 2 < 1000; decide), ?_⟩
      refine hk _ (by rw [upd_same, flds_put]) fun b o e hb => ?_
      rw [upd_ne hb, upd_ne hb, upd_ne hb]
      exact e
end
end K1

namespace K1
open PySem PySem.Spec PyProof.Rows L2 Ls
/-! ### tables -/
def rowV (ns : List Str) (R : Df.Tab Str) (u : Str) : List V := ns.map fun v => V.int (R u v)
/-- N: the addresses that a table may use -/
def RowIs (N : Addr → Prop) (H : Hp) (ns : List Str) (R : Df.Tab Str) : V → Str → Prop := fun v u => ∃ r, v = V.ref r ∧ N r ∧ H r = some (.lst (rowV ns R u))
theorem RowIs.keep {N : Addr → Prop} {H H' : Hp} (s : ∀ a o, N a → H a = some o → H' a = some o) {ns : List Str} {R : Df.Tab Str} {v : V} {u : Str} (h : RowIs N H ns R v u) : RowIs N H' ns R v u := h.imp fun _ q => ⟨q.1, q.2.1, s _ _ q.2.1 q.2.2⟩
theorem RowIs.mono {N : Addr → Prop} {H H' : Hp} (s : Same H H') {ns : List Str} {R : Df.Tab Str} {v : V} {u : Str} (h : RowIs N H ns R v u) : RowIs N H' ns R v u := h.keep fun a o _ => s a o
/-- the names as they are shown, beside the labels ns: alike, but that a name told twice has the empty label at its first place -/
structure Lab (ns shown : List Str) : Prop where
  nd : ns.Nodup
  len : shown.length = ns.length
  at_ : ∀ (i : Nat) u, ns[i]? = some u → u ≠ "" → shown[i]? = some u ∧ ∀ j, i < j → shown[j]? ≠ some u
  same : ("" : Str) ∉ ns → shown = ns
theorem Lab.of {ns : List Str} (h : ns.Nodup) : Lab ns ns := ⟨h, rfl, fun i u hi _ => ⟨hi, fun j hj e => by
  obtain ⟨h1, e1⟩ := List.getElem?_eq_some_iff.mp hi
  obtain ⟨h2, e2⟩ := List.getElem?_eq_some_iff.mp e
  have := (List.getElem_inj h).mp (e1.trans e2.symm)
  omega⟩, fun _ => rfl⟩
def Spots (ns : List Str) (sp : List (Key × V)) : Prop := ∀ (i : Nat) u, ns[i]? = some u → u ≠ "" → valV sp (Sum.inr u : Key) = some (V.int (i : Int))
theorem Lab.spots {ns shown : List Str} (h : Lab ns shown) : Spots ns (spD shown) := fun i u hi hu => by
  obtain ⟨h1, h2⟩ := h.at_ i u hi hu
  have := spD_at shown shown.length (Nat.le_refl _) i u (List.getElem?_eq_some_iff.mp h1).1 h1 fun j h3 _ => h2 j h3
  rwa [List.take_length] at this
structure TabAt (N : Addr → Prop) (C : Addr) (H : Hp) (t : Addr) (ns : List Str) (R : Df.Tab Str) : Prop where
  ex : ∃ (dx an ar asp : Addr) (rs : List V) (shown : List Str) (sp : List (Key × V)), (N t ∧ N an ∧ N ar ∧ N asp) ∧ H t = some (.ins C dx (flds an ar asp)) ∧ H an = some (.tup (shown.map V.str)) ∧ H ar = some (.lst rs) ∧ Paired (RowIs N H ns R) rs ns ∧ H asp = some (.dK sp) ∧ Spots ns sp ∧ shown.length = ns.length ∧ (("" : Str) ∉ ns → shown = ns)
theorem TabAt.keep {N : Addr → Prop} {C : Addr} {H H' : Hp} {t : Addr} {ns : List Str} {R : Df.Tab Str} (s : ∀ a o, N a → H a = some o → H' a = some o) (h : TabAt N C H t ns R) : TabAt N C H' t ns R := by
  have ⟨dx, an, ar, asp, rs, shown, sp, hN, h1, h2, h3, h4, h5, h6⟩ := h.ex
  exact ⟨dx, an, ar, asp, rs, shown, sp, hN, s _ _ hN.1 h1, s _ _ hN.2.1 h2, s _ _ hN.2.2.1 h3, pmono (fun _ _ q => q.keep s) h4, s _ _ hN.2.2.2 h5, h6⟩
theorem TabAt.mono {N : Addr → Prop} {C : Addr} {H H' : Hp} {t : Addr} {ns : List Str} {R : Df.Tab Str} (s : Same H H') (h : TabAt N C H t ns R) : TabAt N C H' t ns R := h.keep fun a o _ => s a o
theorem ix_of {ns : List Str} {u : Str} (h : u ∈ ns) : ∃ i, ns[i]? = some u ∧ i < ns.length := by
  obtain ⟨i, hi, e⟩ := List.mem_iff_getElem.mp h
  exact ⟨i, by rw [List.getElem?_eq_getElem hi, e], hi⟩
def spBlank (C : Addr) : Sp := fun vs H Q _ => ∃ (N : Addr → Prop) (a : Addr) (nms ns : List Str), vs = [.ref a] ∧ (∀ p, H p = none → N p) ∧ H a = some (.lst (nms.map V.str)) ∧ Lab ns (("0" : Str) :: nms) ∧ nms.length ≤ 900 ∧
  ∀ H' t, Same H H' → TabAt N C H' t ns Df.blankR → Q (.ref t) H'
section
variable {P : Program} {w : World} {K : PySem.W.Frag} {mg : Str → Option Value} {base : Heap} {f C : Addr} {fd : FuncData} {k : Nat}
theorem sc_blank : FnScope ["names", "told", "many", "v", "u"] ["names"] (defScope s_blank) := ⟨rfl, rfl, rfl, by decide +kernel, rfl, by decide +kernel, by decide +kernel⟩
theorem ok_blank (F : FnP K "blank" s_blank [] f fd) (G : Facts mg) (M_Table : Mak P w K mg base 1 "Table" C (spTable C) [.non]) : FnOk P w K mg base CX0 3 f fd ["names"] (spBlank C) := by
  refine F.ok sc_blank (fun vs H Q E h => ?_) (fun cdv A outer s H vs Q E hr h => ?_)
  · obtain ⟨N, a, nms, ns, rfl, _⟩ := h
    rfl
  · obtain ⟨N, a, nms, ns, rfl, hN, ha, lab, hlen, hk⟩ := h
    have hnd := lab.nd
    have hu := hu_of hr
    refine ⟨_, PSs.nox (pss_cons (ps_set (i := 1) sc_blank.nd rfl (.inl rfl) (pe_op kCatT (pe_tup (pa_cons pe_str pa_nil)) (pe_callTy kTuple (by rfl) G.tuple_ (by decide +kernel) (pa_cons (pv 0) pa_nil))))
      (pss_cons (ps_set (i := 2) sc_blank.nd rfl (.inr rfl) (pe_callB (kLen K) (by rfl) G.len_ PySem.boot_len (pa_cons (pv 1) pa_nil)))
      (pss_one (ps_ret (pe_mk M_Table hr (by decide) (by rfl) (pa_cons (pv 1) (pa_cons (pe_lc (own := [("u", 4)]) (g := gName 4) (tt := tYes) rfl sc_blank.nd  (pi_range1 (by rfl) G.range_ (pa_cons (pv 2) pa_nil)) (blkOk_by (by kernel_rfl)) (fun _ _ _ _ _ => (pg_name (i := 4) sc_blank.nd rfl (by first | exact .inl rfl | exact .inr rfl))) (fun _ _ _ _ _ => pts_nil) (fun _ _ _ _ _ => (pe_lc (own := [("v", 3)]) (g := gName 3) (tt := tYes) rfl sc_blank.nd  (pi_range1 (by rfl) G.range_ (pa_cons (pv 2) pa_nil)) (blkOk_by (by kernel_rfl)) (fun _ _ _ _ _ => (pg_name (i := 3) sc_blank.nd rfl (by first | exact .inl rfl | exact .inr rfl))) (fun _ _ _ _ _ => pts_nil) (fun _ _ _ _ _ => (pe_ifExp (pt_cmpR op_eq (pv 4) (pv 3) (nomark _)) pe_int (pe_gi (by rfl) G.FAR)))))) pa_nil))))))), ?_⟩
    -- told = ("0",) + tuple(names)
    refine ⟨by show 1 ≤ sizeLine; decide, fun p np => ?_⟩
    have s1 := same_upd (o := .tup [.str "0"]) np
    refine ⟨_, rfl, a, nms.map V.str, rfl, .inl (s1 _ _ ha), fun H2 q s2 nq hq => ?_⟩
    refine ⟨p, q, [.str "0"], nms.map V.str, rfl, rfl, s2 _ _ upd_same, hq, szl (by simp; omega), fun H3 an s3 nan han => ?_⟩
    have s13 : Same H H3 := s1.trans (s2.trans s3)
    have Nan : N an := by
      have nap : ∀ b o, H b = some o → (upd H p (.tup [.str "0"])) b = some o := s1
      have Nq : q ≠ a → N q := fun z => (nq.elim (fun e => hN _ (s1.free e)) fun e => absurd e z)
      have qa : q ≠ a := fun z => by
        have := s2 _ _ (s1 _ _ ha)
        rw [← z, hq] at this
        cases this
      rcases nan with e | e | e
      · exact hN _ ((s1.trans s2).free e)
      · rw [e]; exact hN _ np
      · rw [e]; exact Nq qa
    have han : H3 an = some (.tup ((("0" : Str) :: nms).map V.str)) := han
    have hl : ns.length ≤ 901 := by rw [← lab.len]; simp; omega
    -- many = len(told)
    refine ⟨_, rfl, an, _, rfl, .inr (sqt han), ?_⟩
    rw [List.length_map, lab.len]
    -- the rows
    refine ⟨_, rfl, _, rfl, (ns.length : Int), rfl, by omega, by omega, fun D hD => ?_⟩
    refine lc_it (walk_range (lo := 0) (n := ((ns.length : Int)).toNat)) (fun i H' => ∃ rs, Same H3 H' ∧ H' D = some (.lst rs) ∧ Paired (fun v u => v ≠ V.ref D ∧ RowIs N H' ns Df.blankR v u) rs (ns.take i)) ⟨[], same_upd hD, upd_same, .nil⟩ (fun _ _ _ _ => True.intro) ?_ ?_
    · rintro i x H4 H' hi ⟨rs, s4, hd, hp⟩ ⟨rfl, rfl⟩
      have hil : i < ns.length := by omega
      refine ⟨rfl, ?_⟩
      refine ⟨_, rfl, (ns.length : Int), rfl, by omega, by omega, fun D2 hD2 => ?_⟩
      have nDD : D ≠ D2 := ne_of_none hd hD2
      refine lc_it (walk_range (lo := 0) (n := ((ns.length : Int)).toNat)) (fun k H'' => Same H' H'' ∧ H'' D2 = some (.lst ((ns.take k).map fun v => V.int (Df.blankR ns[i] v)))) ⟨same_upd hD2, upd_same⟩ (fun _ _ _ _ => True.intro) ?_ ?_
      · rintro k x H5 H'' hk2 ⟨s5, hd2⟩ ⟨rfl, rfl⟩
        have hkl : k < ns.length := by omega
        have hlen2 : ((ns.take k).map fun v => V.int (Df.blankR ns[i] v)).length < sizeLine := by
          rw [List.length_map, List.length_take]
          exact szlt (by omega)
        have htk : (ns.take (k + 1)).map (fun v => V.int (Df.blankR ns[i] v)) = (ns.take k).map (fun v => V.int (Df.blankR ns[i] v)) ++ [V.int (Df.blankR ns[i] ns[k])] := by
          rw [List.take_add_one, List.getElem?_eq_getElem hkl, List.map_append]
          rfl
        refine ⟨rfl, _, rfl, _, rfl, rfl, _, rfl, ?_⟩
        by_cases hik : i = k
        · subst hik
          rw [decide_eq_true rfl]
          refine iteT ⟨_, hd2, hlen2, same_mut s5 hD2, ?_⟩
          rw [upd_same, htk]
          have e : Df.blankR ns[i] ns[i] = 0 := if_pos rfl
          rw [e]
        · have hne : ¬ V.int ((0 : Int) + (i : Int)) = V.int ((0 : Int) + (k : Int)) := fun z => hik (by injection z with z; omega)
          rw [decide_eq_false hne]
          refine iteF ⟨_, hd2, hlen2, same_mut s5 hD2, ?_⟩
          rw [upd_same, htk]
          have e : Df.blankR ns[i] ns[k] = Df.FARI := if_neg fun z => hik ((List.getElem_inj hnd).mp z)
          rw [e]
          rfl
      · rintro H5 ⟨s5, hd2⟩
        refine ⟨rs, s5 _ _ hd, ?_, rs ++ [.ref D2], same_mut (s4.trans s5) hD, upd_same, ?_⟩
        · rw [plen hp, List.length_take]
          exact szlt (by omega)
        · rw [List.take_add_one, List.getElem?_eq_getElem hil]
          have sm : ∀ v u, (v ≠ V.ref D ∧ RowIs N H' ns Df.blankR v u) → v ≠ V.ref D ∧ RowIs N (upd H5 D (.lst (rs ++ [.ref D2]))) ns Df.blankR v u := fun v u ⟨e0, r, e1, eN, e2⟩ =>
            ⟨e0, r, e1, eN, by rw [upd_ne (fun z => e0 (by rw [e1, z]))]; exact s5 _ _ e2⟩
          refine (pmono sm hp).snoc ⟨fun z => nDD (by injection z with z; exact z.symm), D2, rfl, hN _ ((s13.trans s4).free hD2), ?_⟩
          rw [upd_ne nDD.symm, hd2]
          rw [Int.toNat_natCast, List.take_length]
          rfl
    · rintro H4 ⟨rs, s4, hd, hp⟩
      rw [Int.toNat_natCast, List.take_length] at hp
      intro x dx nx ndx nex
      have s5 : Same H4 (upd (upd H4 dx (.own x)) x (.ins C dx [])) := fun b o e => by rw [upd_ne (ne_of_none e nx), upd_ne (ne_of_none e ndx)]; exact e
      refine ⟨x, dx, an, D, ("0" : Str) :: nms, .non, rfl, upd_same, s5 _ _ (s4 _ _ han), by rw [lab.len]; omega, .inl ⟨rfl, fun d H' nd hd' hx ho => ⟨rfl, ?_⟩⟩⟩
      have s6 : Same H4 H' := fun b o e => ho b o (s5 b o e) (ne_of_none e nx)
      exact hk H' x (s13.trans (s4.trans s6)) ⟨dx, an, D, d, rs, ("0" : Str) :: nms, _, ⟨hN _ ((s13.trans s4).free nx), Nan, hN _ (s13.free hD), hN _ (((s13.trans s4).trans s5).free nd)⟩, hx, s6 _ _ (s4 _ _ han), s6 _ _ hd, pmono (fun _ _ q => RowIs.mono s6 q.2) hp, hd', lab.spots, lab.len, lab.same⟩
end
end K1

namespace K1
open PySem PySem.Spec PyProof.Rows L2 Ls
theorem dget {H : Hp} {a : Addr} {kvs : List (Key × V)} {n : Str} {v : V} (h : H a = some (.dK kvs)) (e : valV kvs (Sum.inr n : Key) = some v) : DGet H a (.str n) (some v) := by
  have := DGet.k (k := Sum.inr n) h
  rw [e] at this
  exact this
theorem row_at {ns : List Str} {R : Df.Tab Str} {u v : Str} {j : Nat} (h : ns[j]? = some v) : (rowV ns R u)[j]? = some (V.int (R u v)) := by
  unfold rowV
  rw [List.getElem?_map, h]
  rfl
theorem rowV_len (ns : List Str) (R : Df.Tab Str) (u : Str) : (rowV ns R u).length = ns.length := List.length_map _
def spMore (C : Addr) : Sp := fun vs H Q _ => ∃ (N : Addr → Prop) (t : Addr) (l r : Str) (c : Int) (ns : List Str) (R : Df.Tab Str), vs = [.ref t, .str l, .str r, .int c] ∧ (∀ p, H p = none → N p) ∧ TabAt N C H t ns R ∧ l ∈ ns ∧ r ∈ ns ∧ l ≠ "" ∧ r ≠ "" ∧ ns.Nodup ∧ ns.length ≤ 1000 ∧
  (∀ R', Df.moreR R l r c = some R' → ∀ H' t', Same H H' → TabAt N C H' t' ns R' → Q (.ref t') H') ∧ (Df.moreR R l r c = none → Q .non H)
section
variable {P : Program} {w : World} {K : PySem.W.Frag} {mg : Str → Option Value} {base : Heap} {f C : Addr} {fd : FuncData} {k : Nat}
theorem sc_more : FnScope ["table", "left", "right", "limit", "i", "j", "rows", "ending", "c", "b", "row"] ["table", "left", "right", "limit"] (defScope s_more) := ⟨rfl, rfl, rfl, by decide +kernel, rfl, by decide +kernel, by decide +kernel⟩
theorem ok_more (F : FnP K "more" s_more [] f fd) (G : Facts mg) (T : TCls K C) (M_Table : Mak P w K mg base 1 "Table" C (spTable C) []) : FnOk P w K mg base CX0 3 f fd ["table", "left", "right", "limit"] (spMore C) := by
  refine F.ok sc_more (fun vs H Q E h => ?_) (fun cdv A outer s H vs Q E hr h => ?_)
  · obtain ⟨N, t, l, r, c, ns, R, rfl, _⟩ := h
    rfl
  · obtain ⟨N, t, l, r, c, ns, R, rfl, hN, ⟨dx, an, ar, asp, rs, shown, sp, hNs, ht, han, har, hrs, hsp, hspo, hsl, hss⟩, hl, hr', hl0, hr0, hnd, hlen, hk, hkn⟩ := h
    have hu := hu_of hr
    obtain ⟨i, hi, hil⟩ := ix_of hl
    obtain ⟨j, hj, hjl⟩ := ix_of hr'
    obtain ⟨vi, hvi, ri, rfl, _, hri⟩ := pget hrs hi
    obtain ⟨vj, hvj, rj, rfl, _, hrj⟩ := pget hrs hj
    refine ⟨_, PSs.nox (pss_cons (ps_set (i := 4) sc_more.nd rfl (.inr rfl) (pe_dget hu (kfld K (pv 0)) (pv 1) (fun _ _ => rfl)))
      (pss_cons (ps_set (i := 5) sc_more.nd rfl (.inl rfl) (pe_dget hu (kfld K (pv 0)) (pv 2) (fun _ _ => rfl)))
      (pss_cons (ps_set (i := 6) sc_more.nd rfl (.inl rfl) (kfld K (pv 0)))
      (pss_cons (ps_if (pt_cmpR op_le (pe_ix (kIxL K) (pe_ix (kIxL K) (pv 6) (pv 4) (fun _ _ => rfl)) (pv 5) (fun _ _ => rfl)) (pv 3) (nomark _)) (pss_one (ps_ret (pv 0))) pss_nil)
      (pss_cons (ps_if (pt_cmpR op_lt (pe_op op_add (pe_ix (kIxL K) (pe_ix (kIxL K) (pv 6) (pv 5) (fun _ _ => rfl)) (pv 4) (fun _ _ => rfl)) (pv 3)) pe_int (nomark _)) (pss_one (ps_ret pe_non)) pss_nil)
      (pss_cons (ps_set (i := 7) sc_more.nd rfl (.inr rfl) (pe_lc (own := [("c", 8)]) (g := gName 8) (tt := tYes) rfl sc_more.nd  (kpi_list K (pe_ix (kIxL K) (pv 6) (pv 5) (fun _ _ => rfl))) (blkOk_by (by kernel_rfl)) (fun _ _ _ _ _ => (pg_name (i := 8) sc_more.nd rfl (by first | exact .inl rfl | exact .inr rfl))) (fun _ _ _ _ _ => pts_nil) (fun _ _ _ _ _ => (pe_op op_add (pv 3) (pv 8)))))
      (pss_one (ps_ret (pe_mk M_Table hr (by decide) (by rfl) (pa_cons (kfld K (pv 0)) (pa_cons (pe_lc (own := [("row", 10)]) (g := gName 10) (tt := tYes) rfl sc_more.nd  (kpi_list K (pv 6)) (blkOk_by (by kernel_rfl)) (fun _ _ _ _ _ => (pg_name (i := 10) sc_more.nd rfl (by first | exact .inl rfl | exact .inr rfl))) (fun _ _ _ _ _ => pts_nil) (fun _ _ _ _ _ => (pe_ifExp (pt_cmpR op_gt (pe_ix (kIxL K) (pv 10) (pv 4) (fun _ _ => rfl)) (pe_gi (by rfl) G.HALF) (nomark _)) (pv 10) (pe_lc (own := [("b", 9), ("c", 8)]) (g := gTup K 2 (gCons (gName 9) (gCons (gName 8) (gNil)))) (tt := tYes) rfl sc_more.nd  (kpi_zip K (by rfl) G.zip_ (pa_cons (pv 10) (pa_cons (pv 7) pa_nil))) (blkOk_by (by kernel_rfl)) (fun _ _ _ _ _ => (kpg_tup K rfl (pgs_cons (pg_name (i := 9) sc_more.nd rfl (by first | exact .inl rfl | exact .inr rfl)) (pgs_cons (pg_name (i := 8) sc_more.nd rfl (by first | exact .inl rfl | exact .inr rfl)) pgs_nil)))) (fun _ _ _ _ _ => pts_nil) (fun _ _ _ _ _ => (pe_ifExp (pt_cmpR op_le (pv 9) (pe_op op_add (pe_ix (kIxL K) (pv 10) (pv 4) (fun _ _ => rfl)) (pv 8)) (nomark _)) (pv 9) (pe_op op_add (pe_ix (kIxL K) (pv 10) (pv 4) (fun _ _ => rfl)) (pv 8)))))))) (pa_cons (kfld K (pv 0)) pa_nil)))))))))))), ?_⟩
    -- i, j, rows
    refine ⟨_, rfl, t, C, dx, _, _, rfl, ht, T.cl, T.nS, flds_spots _ _ _, _, rfl, asp, _, rfl, dget hsp (hspo _ _ hi hl0), ?_⟩
    refine ⟨_, rfl, t, C, dx, _, _, rfl, ht, T.cl, T.nS, flds_spots _ _ _, _, rfl, asp, _, rfl, dget hsp (hspo _ _ hj hr0), ?_⟩
    refine ⟨_, rfl, t, C, dx, _, _, rfl, ht, T.cl, T.nR, flds_rows _ _ _, ?_⟩
    -- rows[i][j] <= limit
    refine ⟨_, rfl, _, rfl, ar, rs, _, _, rfl, rfl, sq har, atI_nat hvi, _, rfl, ri, _, _, _, rfl, rfl, sq hri, atI_nat (row_at hj), _, rfl, _, _, rfl, rfl, _, rfl, ?_⟩
    by_cases h1 : R l r ≤ c
    · rw [decide_eq_true h1]
      refine iteT ⟨_, rfl, ?_⟩
      exact hk R (by unfold Df.moreR; rw [if_pos h1]) H t (Same.refl H) ⟨dx, an, ar, asp, rs, shown, sp, hNs, ht, han, har, hrs, hsp, hspo, hsl, hss⟩
    rw [decide_eq_false h1]
    refine iteF ?_
    -- rows[j][i] + limit < 0
    refine ⟨_, rfl, _, rfl, ar, rs, _, _, rfl, rfl, sq har, atI_nat hvj, _, rfl, rj, _, _, _, rfl, rfl, sq hrj, atI_nat (row_at hi), _, rfl, _, _, rfl, rfl, _, _, rfl, rfl, _, rfl, ?_⟩
    by_cases h2 : R r l + c < 0
    · rw [decide_eq_true h2]
      refine iteT ?_
      exact hkn (by unfold Df.moreR; rw [if_neg h1, if_pos h2])
    rw [decide_eq_false h2]
    refine iteF ?_
    have hm : Df.moreR R l r c = some (Df.thru R l r c) := by unfold Df.moreR; rw [if_neg h1, if_neg h2]
    -- ending
    refine ⟨_, rfl, _, rfl, ar, rs, _, _, rfl, rfl, sq har, atI_nat hvj, rj, rfl, ⟨_, sq hrj⟩, fun D0 hD0 => ?_⟩
    refine lc_it (walk_list (K := K) (a := rj) (xs := rowV ns R r)) (fun m H' => Same H H' ∧ H' D0 = some (.lst ((ns.take m).map fun v => V.int (c + R r v)))) ⟨same_upd hD0, upd_same⟩ (fun m H' _ ⟨s1, _⟩ => sq (s1 _ _ hrj)) ?_ ?_
    · rintro m x H1 H' hmi ⟨s1, d1⟩ ⟨rfl, ex⟩
      rw [rowV_len] at hmi
      rw [row_at (List.getElem?_eq_getElem hmi)] at ex
      cases ex
      refine ⟨rfl, _, rfl, _, rfl, _, _, rfl, rfl, _, d1, ?_, same_mut s1 hD0, ?_⟩
      · rw [List.length_map, List.length_take]
        exact szlt (by omega)
      · rw [upd_same, List.take_add_one, List.getElem?_eq_getElem hmi, List.map_append]
        rfl
    rintro H1 ⟨s1, d1⟩
    rw [rowV_len, List.take_length] at d1
    have hend : ∀ (m : Nat) v, ns[m]? = some v → (ns.map fun v => V.int (c + R r v))[m]? = some (V.int (c + R r v)) := fun m v e => by rw [List.getElem?_map, e]; rfl
    -- the new rows
    refine ⟨_, rfl, t, C, dx, _, _, rfl, s1 _ _ ht, T.cl, T.nN, flds_names _ _ _, ?_⟩
    refine ⟨_, rfl, ar, rfl, ⟨_, sq (s1 _ _ har)⟩, fun D hD => ?_⟩
    refine lc_it (walk_list (K := K) (a := ar) (xs := rs)) (fun m H' => ∃ out, Same H1 H' ∧ H' D = some (.lst out) ∧ Paired (fun v u => v ≠ V.ref D ∧ RowIs N H' ns (Df.thru R l r c) v u) out (ns.take m)) ⟨[], same_upd hD, upd_same, .nil⟩ (fun m H' _ ⟨_, s2, _⟩ => sq (s2 _ _ (s1 _ _ har))) ?_ ?_
    · rintro m x H2 H' hmi ⟨out, s2, d2, hp⟩ ⟨rfl, ex⟩
      rw [plen hrs] at hmi
      obtain ⟨vm, hvm, rm, rfl, hNrm, hrm⟩ := pget hrs (List.getElem?_eq_getElem hmi)
      rw [hvm] at ex
      cases ex
      have hrm2 := s2 _ _ (s1 _ _ hrm)
      have rmD : rm ≠ D := ne_of_none (s1 _ _ hrm) hD
      have hout : out.length < sizeLine := by
        rw [plen hp, List.length_take]
        exact szlt (by omega)
      have fin : ∀ H3 q, Same H' H3 → q ≠ D → N q → H3 q = some (.lst (rowV ns (Df.thru R l r c) ns[m])) → ∃ acc, H3 D = some (.lst acc) ∧ acc.length < sizeLine ∧ ∃ out, Same H1 (upd H3 D (.lst (acc ++ [V.ref q]))) ∧ (upd H3 D (.lst (acc ++ [V.ref q]))) D = some (.lst out) ∧
          Paired (fun v u => v ≠ V.ref D ∧ RowIs N (upd H3 D (.lst (acc ++ [V.ref q]))) ns (Df.thru R l r c) v u) out (ns.take (m + 1)) := fun H3 q s3 nq Nq hq => by
        refine ⟨out, s3 _ _ d2, hout, out ++ [.ref q], same_mut (s2.trans s3) hD, upd_same, ?_⟩
        rw [List.take_add_one, List.getElem?_eq_getElem hmi]
        have sm : ∀ v u, (v ≠ V.ref D ∧ RowIs N H' ns (Df.thru R l r c) v u) → v ≠ V.ref D ∧ RowIs N (upd H3 D (.lst (out ++ [.ref q]))) ns (Df.thru R l r c) v u := fun v u ⟨e0, r', e1, eN, e2⟩ =>
          ⟨e0, r', e1, eN, by rw [upd_ne (fun z => e0 (by rw [e1, z]))]; exact s3 _ _ e2⟩
        exact (pmono sm hp).snoc ⟨fun z => nq (by injection z), q, rfl, Nq, by rw [upd_ne nq]; exact hq⟩
      refine ⟨rfl, _, rfl, _, rfl, rm, _, _, _, rfl, rfl, sq hrm2, atI_nat (row_at hi), _, _, rfl, rfl, _, rfl, ?_⟩
      by_cases hinf : Df.HALFI < R ns[m] l
      · rw [show decide ((100000000000000000000000000000 : Int) < R ns[m] l) = true from decide_eq_true hinf]
        refine iteT ⟨_, rfl, ?_⟩
        refine fin _ rm (Same.refl _) rmD hNrm ?_
        rw [hrm2]
        congr 2
        exact List.map_congr_left fun v _ => by unfold Df.thru; rw [if_pos hinf]
      · rw [show decide ((100000000000000000000000000000 : Int) < R ns[m] l) = false from decide_eq_false hinf]
        refine iteF ?_
        -- the inner row
        have hd1 := s2 _ _ d1
        refine ⟨_, rfl, _, rfl, rm, D0, _, _, rfl, sq hrm2, sq hd1, fun D2 hD2 => ?_⟩
        have nDD : D ≠ D2 := ne_of_none d2 hD2
        refine lc_it (walk_zip (K := K) (a := rm) (b := D0) (xs := rowV ns R ns[m]) (ys := ns.map fun v => V.int (c + R r v)) (n := ns.length) (by rw [rowV_len, List.length_map, Nat.min_self]))
          (fun n H4 => Same H' H4 ∧ H4 D2 = some (.lst ((ns.take n).map fun v => V.int (Df.thru R l r c ns[m] v)))) ⟨same_upd hD2, upd_same⟩ (fun n H4 _ ⟨s4, _⟩ => ⟨sq (s4 _ _ hrm2), sq (s4 _ _ hd1)⟩) ?_ ?_
        · rintro n x H4 H'' hni ⟨s4, d4⟩ ⟨T', x1, x2, rfl, nT, rfl, e1, e2⟩
          have hn := List.getElem?_eq_getElem hni
          have e1 : (rowV ns R ns[m])[n]? = some x1 := e1
          have e2 : (ns.map fun v => V.int (c + R r v))[n]? = some x2 := e2
          rw [row_at hn] at e1
          rw [hend n _ hn] at e2
          cases e1; cases e2
          have nTD : D2 ≠ T' := ne_of_none d4 nT
          have s5 : Same H' (upd H4 T' (.tup [V.int (R ns[m] ns[n]), V.int (c + R r ns[n])])) := s4.trans (same_upd nT)
          have hlen2 : ((ns.take n).map fun v => V.int (Df.thru R l r c ns[m] v)).length < sizeLine := by
            rw [List.length_map, List.length_take]
            exact szlt (by omega)
          have htk : (ns.take (n + 1)).map (fun v => V.int (Df.thru R l r c ns[m] v)) = (ns.take n).map (fun v => V.int (Df.thru R l r c ns[m] v)) ++ [V.int (Df.thru R l r c ns[m] ns[n])] := by
            rw [List.take_add_one, hn, List.map_append]
            rfl
          refine ⟨T', _, rfl, sqt upd_same, rfl, _, _, rfl, _, _, rfl, rfl, rfl, ?_⟩
          refine ⟨_, rfl, _, rfl, _, rfl, rm, _, _, _, rfl, rfl, sq (s5 _ _ hrm2), atI_nat (row_at hi), _, rfl, _, _, rfl, rfl, _, _, rfl, rfl, _, rfl, ?_⟩
          by_cases hle : R ns[m] ns[n] ≤ R ns[m] l + (c + R r ns[n])
          · rw [decide_eq_true hle]
            refine iteT ⟨_, rfl, _, by rw [upd_ne nTD]; exact d4, hlen2, same_mut s5 hD2, ?_⟩
            rw [upd_same, htk]
            have e : Df.thru R l r c ns[m] ns[n] = R ns[m] ns[n] := by unfold Df.thru; rw [if_neg hinf, if_pos hle]
            rw [e]
          · rw [decide_eq_false hle]
            refine iteF ⟨_, rfl, _, rfl, rm, _, _, _, rfl, rfl, sq (s5 _ _ hrm2), atI_nat (row_at hi), _, rfl, _, _, rfl, rfl, _, by rw [upd_ne nTD]; exact d4, hlen2, same_mut s5 hD2, ?_⟩
            rw [upd_same, htk]
            have e : Df.thru R l r c ns[m] ns[n] = R ns[m] l + (c + R r ns[n]) := by unfold Df.thru; rw [if_neg hinf, if_neg hle]
            rw [e]
        · rintro H4 ⟨s4, d4⟩
          rw [List.take_length] at d4
          exact fin H4 D2 s4 nDD.symm (hN _ ((s1.trans s2).free hD2)) d4
    · rintro H2 ⟨out, s2, d2, hp⟩
      rw [plen hrs, List.take_length] at hp
      have s12 := s1.trans s2
      refine ⟨_, rfl, t, C, dx, _, _, rfl, s12 _ _ ht, T.cl, T.nS, flds_spots _ _ _, ?_⟩
      intro x dx' nx ndx nex
      have s5 : Same H2 (upd (upd H2 dx' (.own x)) x (.ins C dx' [])) := fun b o e => by rw [upd_ne (ne_of_none e nx), upd_ne (ne_of_none e ndx)]; exact e
      refine ⟨x, dx', an, D, shown, .ref asp, rfl, upd_same, s5 _ _ (s12 _ _ han), by omega, .inr ⟨asp, rfl, fun H' hx ho => ⟨rfl, ?_⟩⟩⟩
      have s6 : Same H2 H' := fun b o e => ho b o (s5 b o e) (ne_of_none e nx)
      exact hk _ hm H' x (s12.trans s6) ⟨dx', an, D, asp, out, shown, sp, ⟨hN _ (s12.free nx), hNs.2.1, hN _ (s1.free hD), hNs.2.2.2⟩, hx, s6 _ _ (s12 _ _ han), s6 _ _ d2, pmono (fun _ _ q => RowIs.mono s6 q.2) hp, s6 _ _ (s12 _ _ hsp), hspo, hsl, hss⟩
end
end K1

namespace K1
open PySem PySem.Spec PyProof.Rows L2 Ls
/-! ### systems on the heap -/
abbrev Df3 := Df.Row Str
def rowT (e : Df3) : List V := [.str e.1, .str e.2.1, .int e.2.2]
def RowT (H : Hp) : V → Df3 → Prop := fun v e => ∃ r, v = V.ref r ∧ H r = some (.tup (rowT e))
def SysAt (H : Hp) (a : Addr) (S : List Df3) : Prop := ∃ vs, H a = some (.lst vs) ∧ Paired (RowT H) vs S
theorem SysAt.mono {H H' : Hp} (s : Same H H') {a : Addr} {S : List Df3} (h : SysAt H a S) : SysAt H' a S :=
  have ⟨vs, h1, h2⟩ := h; ⟨vs, s _ _ h1, pmono (fun _ _ q => q.imp fun _ q => ⟨q.1, s _ _ q.2⟩) h2⟩
theorem addedR_stop {A B : List Df3} {R : Df.Tab Str} (h : Df.addedR R A = none) : Df.addedR R (A ++ B) = none := by rw [Df.addedR_append, h]; rfl
theorem take_snoc {α : Type} {S : List α} {i : Nat} (h : i < S.length) : S.take (i + 1) = S.take i ++ [S[i]] := by
  rw [List.take_add_one, List.getElem?_eq_getElem h]; rfl
def spAdded (C : Addr) : Sp := fun vs H Q _ => ∃ (N : Addr → Prop) (t a : Addr) (ns : List Str) (R : Df.Tab Str) (S : List Df3), vs = [.ref t, .ref a] ∧ (∀ p, H p = none → N p) ∧ TabAt N C H t ns R ∧ SysAt H a S ∧ (∀ e ∈ S, e.1 ∈ ns ∧ e.2.1 ∈ ns) ∧ (∀ e ∈ S, e.1 ≠ "" ∧ e.2.1 ≠ "") ∧ ns.Nodup ∧ ns.length ≤ 1000 ∧
  (∀ R', Df.addedR R S = some R' → ∀ H' t', Same H H' → TabAt N C H' t' ns R' → Q (.ref t') H') ∧ (Df.addedR R S = none → ∀ H', Same H H' → Q .non H')
def spTableOf (C : Addr) : Sp := fun vs H Q _ => ∃ (N : Addr → Prop) (b a : Addr) (nms ns : List Str) (S : List Df3), vs = [.ref b, .ref a] ∧ (∀ p, H p = none → N p) ∧ H b = some (.lst (nms.map V.str)) ∧ Lab ns (("0" : Str) :: nms) ∧ nms.length ≤ 900 ∧ SysAt H a S ∧ (∀ e ∈ S, e.1 ∈ ns ∧ e.2.1 ∈ ns) ∧ (∀ e ∈ S, e.1 ≠ "" ∧ e.2.1 ≠ "") ∧
  (∀ R', Df.addedR Df.blankR S = some R' → ∀ H' t', Same H H' → TabAt N C H' t' ns R' → Q (.ref t') H') ∧ (Df.addedR Df.blankR S = none → ∀ H', Same H H' → Q .non H')
def spUpper (C : Addr) : Sp := fun vs H Q _ => ∃ (N : Addr → Prop) (t : Addr) (l r : Str) (ns : List Str) (R : Df.Tab Str), vs = [.ref t, .str l, .str r] ∧ TabAt N C H t ns R ∧ l ∈ ns ∧ r ∈ ns ∧ l ≠ "" ∧ r ≠ "" ∧ ns.Nodup ∧ Q (if Df.HALFI < R l r then .non else .int (R l r)) H
def spSetTo (C : Addr) : Sp := fun vs H Q _ => ∃ (N : Addr → Prop) (t : Addr) (n : Str) (x : Int) (ns : List Str) (R : Df.Tab Str), vs = [.ref t, .str n, .int x] ∧ (∀ p, H p = none → N p) ∧ TabAt N C H t ns R ∧ n ∈ ns ∧ ("0" : Str) ∈ ns ∧ n ≠ "" ∧ ns.Nodup ∧ ns.length ≤ 1000 ∧
  (∀ R', Df.setR R "0" n x = some R' → ∀ H' t', Same H H' → TabAt N C H' t' ns R' → Q (.ref t') H') ∧ (Df.setR R "0" n x = none → ∀ H', Same H H' → Q .non H')
section
variable {P : Program} {w : World} {K : PySem.W.Frag} {mg : Str → Option Value} {base : Heap} {f C : Addr} {fd : FuncData} {k : Nat}
theorem sc_added : FnScope ["table", "system", "left", "right", "limit"] ["table", "system"] (defScope s_added) := ⟨rfl, rfl, rfl, by decide +kernel, rfl, by decide +kernel, by decide +kernel⟩
theorem ok_added (F : FnP K "added" s_added [] f fd) (G : Facts mg) (C_more : Cal P w K mg base 3 "more" (spMore C) []) : FnOk P w K mg base CX0 4 f fd ["table", "system"] (spAdded C) := by
  refine F.ok sc_added (fun vs H Q E h => ?_) (fun cdv A outer s H vs Q E hr h => ?_)
  · obtain ⟨N, t, a, ns, R, S, rfl, _⟩ := h
    rfl
  · obtain ⟨N, t, a, ns, R, S, rfl, hN, ht, ⟨vs, ha, hvs⟩, hin, hne, hnd, hlen, hk, hkn⟩ := h
    have hu := hu_of hr
    refine ⟨_, PSs.nox (pss_cons (ps_for PassesOwn.never rfl (kpi_list K (pv 1)) (kpg_tup K rfl (pgs_cons (pg_name (i := 2) sc_added.nd rfl (by first | exact .inl rfl | exact .inr rfl)) (pgs_cons (pg_name (i := 3) sc_added.nd rfl (by first | exact .inl rfl | exact .inr rfl)) (pgs_cons (pg_name (i := 4) sc_added.nd rfl (by first | exact .inl rfl | exact .inr rfl)) pgs_nil))))
        (pss_cons (ps_if (pt_cmpR op_isN (pv 0) pe_non (nomark _)) (pss_one (ps_ret pe_non)) pss_nil)
        (pss_one (ps_set (i := 0) sc_added.nd rfl (.inl rfl) (pe_c C_more hr (by decide) (by rfl) (pa_cons (pv 0) (pa_cons (pv 2) (pa_cons (pv 3) (pa_cons (pv 4) pa_nil)))))))))
      (pss_one (ps_ret (pv 0)))), ?_⟩
    refine ⟨_, rfl, a, rfl, ⟨_, sq ha⟩, ?_⟩
    refine for_it (walk_list (K := K) (a := a) (xs := vs)) (fun i σ H' => ∃ v0 x2 x3 x4, σ = [some v0, some (.ref a), x2, x3, x4] ∧ Same H H' ∧ ((∃ Ri t', Df.addedR R (S.take i) = some Ri ∧ v0 = .ref t' ∧ TabAt N C H' t' ns Ri) ∨ (Df.addedR R (S.take i) = none ∧ v0 = .non)))
      ⟨.ref t, none, none, none, rfl, Same.refl H, .inl ⟨R, t, rfl, rfl, ht⟩⟩ (fun i σ H' _ ⟨_, _, _, _, _, s1, _⟩ => sq (s1 _ _ ha)) ?_ ?_
    · rintro i x σ H1 H' hi ⟨v0, x2, x3, x4, rfl, s1, hv⟩ ⟨rfl, ex⟩
      rw [plen hvs] at hi
      obtain ⟨v, hv', r, rfl, hrow⟩ := pget hvs (List.getElem?_eq_getElem hi)
      rw [hv'] at ex
      cases ex
      have hS : S.take (i + 1) = S.take i ++ [S[i]] := take_snoc hi
      refine ⟨r, _, rfl, sqt (s1 _ _ hrow), rfl, _, _, rfl, _, _, rfl, _, _, rfl, rfl, ?_⟩
      rcases hv with ⟨Ri, t', e1, rfl, ht'⟩ | ⟨e1, rfl⟩
      · refine ⟨_, rfl, rfl, _, rfl, ?_⟩
        rw [decide_eq_false (show ¬ V.ref t' = V.non from fun z => by cases z)]
        refine iteF ?_
        have hm := hin _ (List.getElem_mem hi)
        have hm0 := hne _ (List.getElem_mem hi)
        refine ⟨_, rfl, _, rfl, _, rfl, _, rfl, N, t', _, _, _, ns, Ri, rfl, fun p hp => hN p (s1.free hp), ht', hm.1, hm.2, hm0.1, hm0.2, hnd, hlen, fun R' e2 H2 t2 s2 ht2 => ?_, fun e2 => ?_⟩
        · refine ⟨.ref t2, _, _, _, rfl, s1.trans s2, .inl ⟨R', t2, ?_, rfl, ht2⟩⟩
          rw [hS, Df.addedR_append, e1, ← e2]
          exact Df.addedR_one Ri S[i]
        · refine ⟨.non, _, _, _, rfl, s1, .inr ⟨?_, rfl⟩⟩
          rw [hS, Df.addedR_append, e1, ← e2]
          exact Df.addedR_one Ri S[i]
      · refine ⟨_, rfl, rfl, _, rfl, iteT ?_⟩
        refine hkn ?_ _ s1
        have := addedR_stop (B := S.drop i) e1
        rwa [List.take_append_drop] at this
    · rintro σ H1 ⟨v0, x2, x3, x4, rfl, s1, hv⟩
      rw [plen hvs, List.take_length] at hv
      refine ⟨_, rfl, ?_⟩
      rcases hv with ⟨Ri, t', e1, rfl, ht'⟩ | ⟨e1, rfl⟩
      · exact hk Ri e1 H1 t' s1 ht'
      · exact hkn e1 H1 s1
theorem sc_table_of : FnScope ["names", "system"] ["names", "system"] (defScope s_table_of) := ⟨rfl, rfl, rfl, by decide +kernel, rfl, by decide +kernel, by decide +kernel⟩
theorem ok_table_of (F : FnP K "table_of" s_table_of [] f fd) (G : Facts mg) (C_added : Cal P w K mg base 4 "added" (spAdded C) []) (C_blank : Cal P w K mg base 3 "blank" (spBlank C) []) : FnOk P w K mg base CX0 5 f fd ["names", "system"] (spTableOf C) := by
  refine F.ok sc_table_of (fun vs H Q E h => ?_) (fun cdv A outer s H vs Q E hr h => ?_)
  · obtain ⟨N, b, a, nms, ns, S, rfl, _⟩ := h
    rfl
  · obtain ⟨N, b, a, nms, ns, S, rfl, hN, hb, lab, hlen, ha, hin, hne, hk, hkn⟩ := h
    have hnl : ns.length ≤ 901 := by rw [← lab.len]; simp; omega
    have hu := hu_of hr
    refine ⟨_, PSs.nox (pss_one (ps_ret (pe_c C_added hr (by decide) (by rfl) (pa_cons (pe_c C_blank hr (by decide) (by rfl) (pa_cons (pv 0) pa_nil)) (pa_cons (pv 1) pa_nil))))), ?_⟩
    refine ⟨_, rfl, N, b, nms, ns, rfl, hN, hb, lab, hlen, fun H1 t1 s1 ht1 => ?_⟩
    refine ⟨_, rfl, N, t1, a, _, Df.blankR, S, rfl, fun p hp => hN p (s1.free hp), ht1, ha.mono s1, hin, hne, lab.nd, by omega, fun R' e H2 t2 s2 ht2 => ?_, fun e H2 s2 => ?_⟩
    · exact hk R' e H2 t2 (s1.trans s2) ht2
    · exact hkn e H2 (s1.trans s2)
end
end K1

namespace K1
open PySem PySem.Spec PyProof.Rows L2 Ls
/-! ### a point of a table -/
theorem TabAt.apart {N : Addr → Prop} {C : Addr} {H : Hp} {t : Addr} {ns : List Str} {R : Df.Tab Str} {d : Addr} (hd : H d = none) (h : TabAt N C H t ns R) : TabAt (· ≠ d) C H t ns R := by
  have ⟨dx, an, ar, asp, rs, shown, sp, hN, h1, h2, h3, h4, h5, h6⟩ := h.ex
  exact ⟨dx, an, ar, asp, rs, shown, sp, ⟨ne_of_none h1 hd, ne_of_none h2 hd, ne_of_none h3 hd, ne_of_none h5 hd⟩, h1, h2, h3, pmono (fun _ _ ⟨r, q1, q2, q3⟩ => ⟨r, q1, ne_of_none q3 hd, q3⟩) h4, h5, h6⟩
def x0 : Str → Int := fun _ => 0
def ptV (ks : List Str) (x : Str → Int) : List (Key × V) := tabV ks fun n => V.int (x n)
theorem ptV_put {ks : List Str} {x : Str → Int} {n : Str} {v : Int} (h : n ∉ ks) : putK (ptV ks x) (Sum.inr n : Key) (V.int v) = ptV (ks ++ [n]) (Df.put x n v) := by
  unfold ptV
  rw [putK_tab, show Df.ins ks n = ks ++ [n] from if_neg h]
  refine tabV_congr fun m _ => ?_
  unfold Df.put
  split <;> rfl
def spPoint (C : Addr) : Sp := fun vs H Q _ => ∃ (N : Addr → Prop) (t : Addr) (nms : List Str) (R R' : Df.Tab Str) (x' : Str → Int), vs = [.ref t] ∧ TabAt N C H t (("0" : Str) :: nms) R ∧ (("0" : Str) :: nms).Nodup ∧ ("" : Str) ∉ nms ∧ nms.length ≤ 900 ∧
  Df.pts ("0" : Str) R x0 nms = some (R', x') ∧ ∀ H' d, Same H H' → H d = none → H' d = some (.dK (ptV nms x')) → Q (.ref d) H'
theorem cut_tail (a : V) (xs : List V) : cutV (a :: xs) (some 1) none = xs := by
  unfold cutV
  have h1 : HT.sIx (a :: xs).length 0 (some 1) = 1 := by
    have := HT.sIx_nat (a :: xs).length 0 1
    rw [List.length_cons] at this ⊢
    rw [show (some (1 : Int)) = some ((1 : Nat) : Int) from rfl, this]
    omega
  rw [h1, HT.sIx_none]
  simp
section
variable {P : Program} {w : World} {K : PySem.W.Frag} {mg : Str → Option Value} {base : Heap} {f C : Addr} {fd : FuncData} {k : Nat}
end
end K1

namespace K1
open PySem PySem.Spec PyProof.Rows L2 Ls
/-! ### systems as they are handed in -/
def GoodS (S : List Df3) : Prop := ∀ e ∈ S, e.1 ≠ "" ∧ e.2.1 ≠ "" ∧ e.1 ≠ e.2.1 ∧ -1000000000000000000 < e.2.2 ∧ e.2.2 < 1000000000000000000
theorem GoodS.ends {S : List Df3} (h : GoodS S) : ∀ e ∈ S, e.1 ≠ "" ∧ e.2.1 ≠ "" := fun e he => ⟨(h e he).1, (h e he).2.1⟩
def spIsLimit : Sp := fun vs H Q _ => ∃ c : Int, vs = [.int c] ∧ -1000000000000000000 < c ∧ c < 1000000000000000000 ∧ Q (.bl true) H
def spIsEnd : Sp := fun vs H Q _ => ∃ n : Str, vs = [.str n, .non] ∧ n ≠ "" ∧ Q (.bl true) H
/-- a row as it is handed in: a tuple or a list -/
def RowQ (H : Hp) : V → Df3 → Prop := fun v e => ∃ r, v = V.ref r ∧ (H r = some (.tup (rowT e)) ∨ H r = some (.lst (rowT e)))
def SysQ (H : Hp) (a : Addr) (S : List Df3) : Prop := ∃ vs, H a = some (.lst vs) ∧ Paired (RowQ H) vs S
theorem SysAt.q {H : Hp} {a : Addr} {S : List Df3} (h : SysAt H a S) : SysQ H a S := h.imp fun _ q => ⟨q.1, pmono (fun _ _ z => z.imp fun _ z => ⟨z.1, .inl z.2⟩) q.2⟩
theorem SysQ.mono {H H' : Hp} (s : Same H H') {a : Addr} {S : List Df3} (h : SysQ H a S) : SysQ H' a S :=
  have ⟨vs, h1, h2⟩ := h; ⟨vs, s _ _ h1, pmono (fun _ _ q => q.imp fun _ q => ⟨q.1, q.2.imp (s _ _) (s _ _)⟩) h2⟩
theorem ixq {K : PySem.W.Frag} {H : Hp} {r : Addr} {xs : List V} {i : Int} {v : V} {Q : VK} (h : H r = some (.tup xs) ∨ H r = some (.lst xs)) (ha : atI xs i = some v) (q : Q v H) : rIx K (.ref r) (.int i) H Q :=
  h.elim (fun h => .inr (.inl ⟨r, xs, i, v, rfl, rfl, sqt h, ha, q⟩)) fun h => .inl ⟨r, xs, i, v, rfl, rfl, sq h, ha, q⟩
def spChecked : Sp := fun vs H Q _ => ∃ (a : Addr) (S : List Df3), vs = [.ref a, .non] ∧ SysQ H a S ∧ GoodS S ∧ S.length ≤ 900000 ∧ ∀ H' b, Same H H' → SysAt H' b S → Q (.ref b) H'
def nm1 (ks : List Str) (n : Str) : List Str := if n = "0" then ks else Df.ins ks n
def namesOf (S : List Df3) : List Str := S.foldl (fun ks e => nm1 (nm1 ks e.1) e.2.1) []
theorem mem_nm1 {ks : List Str} {n x : Str} : x ∈ nm1 ks n ↔ x ∈ ks ∨ (x = n ∧ n ≠ "0") := by
  unfold nm1
  split
  · rename_i h; simp [h]
  · rename_i h
    rw [Df.mem_ins]
    simp [h]
theorem nd_nm1 {ks : List Str} {n : Str} (h : ks.Nodup) : (nm1 ks n).Nodup := by
  unfold nm1
  split
  · exact h
  · exact Df.nd_ins h
theorem len_nm1 (ks : List Str) (n : Str) : (nm1 ks n).length ≤ ks.length + 1 := by
  unfold nm1
  split
  · omega
  · exact ins_len _ _
theorem namesOf_snoc (S : List Df3) (e : Df3) : namesOf (S ++ [e]) = nm1 (nm1 (namesOf S) e.1) e.2.1 := by
  unfold namesOf
  rw [List.foldl_append]
  rfl
theorem fold_mem (S : List Df3) : ∀ ks : List Str, ∀ x, x ∈ S.foldl (fun ks e => nm1 (nm1 ks e.1) e.2.1) ks ↔ x ∈ ks ∨ ∃ e ∈ S, (x = e.1 ∨ x = e.2.1) ∧ x ≠ "0" := by
  induction S with
  | nil => intro ks x; simp
  | cons e S ih =>
    intro ks x
    rw [List.foldl_cons, ih, mem_nm1, mem_nm1]
    constructor
    · rintro (((h | ⟨h, h0⟩) | ⟨h, h0⟩) | ⟨e', he, h⟩)
      · exact .inl h
      · exact .inr ⟨e, List.mem_cons_self, .inl h, h ▸ h0⟩
      · exact .inr ⟨e, List.mem_cons_self, .inr h, h ▸ h0⟩
      · exact .inr ⟨e', List.mem_cons_of_mem _ he, h⟩
    · rintro (h | ⟨e', he, h, h0⟩)
      · exact .inl (.inl (.inl h))
      · rcases List.mem_cons.mp he with rfl | he
        · rcases h with h | h
          · exact .inl (.inl (.inr ⟨h, h ▸ h0⟩))
          · exact .inl (.inr ⟨h, h ▸ h0⟩)
        · exact .inr ⟨e', he, h, h0⟩
theorem mem_namesOf {S : List Df3} {x : Str} : x ∈ namesOf S ↔ ∃ e ∈ S, (x = e.1 ∨ x = e.2.1) ∧ x ≠ "0" := by
  unfold namesOf
  rw [fold_mem]
  simp
theorem nd_fold (S : List Df3) : ∀ ks : List Str, ks.Nodup → (S.foldl (fun ks e => nm1 (nm1 ks e.1) e.2.1) ks).Nodup := by
  induction S with
  | nil => intro ks h; exact h
  | cons e S ih => intro ks h; exact ih _ (nd_nm1 (nd_nm1 h))
theorem nd_namesOf (S : List Df3) : (("0" : Str) :: namesOf S).Nodup := List.nodup_cons.mpr ⟨fun h => by obtain ⟨_, _, _, h0⟩ := mem_namesOf.mp h; exact h0 rfl, nd_fold S [] List.nodup_nil⟩
theorem in_names {S : List Df3} {x : Str} (h : ∃ e ∈ S, x = e.1 ∨ x = e.2.1) : x ∈ ("0" : Str) :: namesOf S := by
  by_cases h0 : x = "0"
  · rw [h0]; exact List.mem_cons_self
  · exact List.mem_cons_of_mem _ (mem_namesOf.mpr (h.imp fun e q => ⟨q.1, q.2, h0⟩))
theorem GoodS.names {S : List Df3} (h : GoodS S) : ("" : Str) ∉ namesOf S := fun z => by
  obtain ⟨e, he, h1, _⟩ := mem_namesOf.mp z
  rcases h1 with h1 | h1
  · exact (h e he).1 h1.symm
  · exact (h e he).2.1 h1.symm
theorem len_fold (S : List Df3) : ∀ ks : List Str, (S.foldl (fun ks e => nm1 (nm1 ks e.1) e.2.1) ks).length ≤ ks.length + 2 * S.length := by
  induction S with
  | nil => intro ks; simp
  | cons e S ih =>
    intro ks
    have h1 := ih (nm1 (nm1 ks e.1) e.2.1)
    have h2 := len_nm1 (nm1 ks e.1) e.2.1
    have h3 := len_nm1 ks e.1
    rw [List.foldl_cons, List.length_cons]
    omega
theorem len_namesOf (S : List Df3) : (namesOf S).length ≤ 2 * S.length := by
  have := len_fold S []
  simpa [namesOf] using this
def spNamesOf : Sp := fun vs H Q _ => ∃ (a : Addr) (S : List Df3), vs = [.ref a] ∧ SysAt H a S ∧ S.length ≤ 400000 ∧ ∀ H' b, Same H H' → H b = none → H' b = some (.lst ((namesOf S).map V.str)) → Q (.ref b) H'
section
variable {P : Program} {w : World} {K : PySem.W.Frag} {mg : Str → Option Value} {base : Heap} {f C : Addr} {fd : FuncData} {k : Nat}
theorem sc_is_limit : FnScope ["thing"] ["thing"] (defScope s_is_limit) := ⟨rfl, rfl, rfl, by decide +kernel, rfl, by decide +kernel, by decide +kernel⟩
theorem ok_is_limit (F : FnP K "is_limit" s_is_limit [] f fd) (G : Facts mg) : FnOk P w K mg base CX0 1 f fd ["thing"] spIsLimit := by
  refine F.ok sc_is_limit (fun vs H Q E h => ?_) (fun cdv A outer s H vs Q E hr h => ?_)
  · obtain ⟨c, rfl, _⟩ := h
    rfl
  · obtain ⟨c, rfl, h1, h2, hk⟩ := h
    have hu := hu_of hr
    refine ⟨_, PSs.nox (pss_one (ps_ret (pe_and (pe_callB (kIsi K) (by rfl) G.isinstance_ (by decide +kernel) (pa_cons (pv 0) (pa_cons (pe_ty "int" (by rfl) G.int_ (by decide +kernel)) pa_nil))) (pe_and (pe_not (pe_callB (kIsi K) (by rfl) G.isinstance_ (by decide +kernel) (pa_cons (pv 0) (pa_cons (pe_ty "bool" (by rfl) G.bool_ (by decide +kernel)) pa_nil)))) (pe_one (pe_chain op_lt op_lt (pe_op op_sub pe_int (pe_gi (by rfl) G.MOST)) (pv 0) (pe_gi (by rfl) G.MOST))))))), ?_⟩
    refine ⟨_, rfl, _, _, _, _, true, rfl, .ty "int", .base (.int c), kit_ty (by decide +kernel), _, rfl, iteT ?_⟩
    refine ⟨_, rfl, _, _, _, _, false, rfl, .ty "bool", .base (.int c), kit_ty (by decide +kernel), _, rfl, _, rfl, iteT ?_⟩
    refine ⟨_, _, rfl, rfl, _, rfl, _, _, rfl, rfl, _, rfl, ?_⟩
    rw [show decide ((0 : Int) - 1000000000000000000 < c) = true from decide_eq_true (by omega)]
    refine iteT ⟨_, _, rfl, rfl, ?_⟩
    show Q (.bl (decide (c < (1000000000000000000 : Int)))) H
    rw [show decide (c < (1000000000000000000 : Int)) = true from decide_eq_true h2]
    exact hk
theorem sc_u_is_end : FnScope ["thing", "known"] ["thing", "known"] (defScope s_u_is_end) := ⟨rfl, rfl, rfl, by decide +kernel, rfl, by decide +kernel, by decide +kernel⟩
theorem ok_is_end (F : FnP K "_is_end" s_u_is_end [] f fd) (G : Facts mg) : FnOk P w K mg base CX0 1 f fd ["thing", "known"] spIsEnd := by
  refine F.ok sc_u_is_end (fun vs H Q E h => ?_) (fun cdv A outer s H vs Q E hr h => ?_)
  · obtain ⟨c, rfl, _⟩ := h
    rfl
  · obtain ⟨c, rfl, h1, hk⟩ := h
    have hu := hu_of hr
    refine ⟨_, PSs.nox (pss_cons (ps_if (PW.pt (pw_or (pt_not (pt_val (pe_callB (kIsi K) (by rfl) G.isinstance_ (by decide +kernel) (pa_cons (pv 0) (pa_cons (pe_ty "str" (by rfl) G.str_ (by decide +kernel)) pa_nil))))) (pw_or1 (pt_cmpR op_eq (pv 0) pe_str (nomark _))))) (pss_one (ps_ret pe_bl)) pss_nil)
      (pss_one (ps_ret (pe_or (pe_cmpR op_isN (pv 1) pe_non (nomark _)) (pe_or (pe_cmpR op_eq (pv 0) pe_str (nomark _)) (pe_one (pe_cmpR (kIn K) (pv 0) (pv 1) (by rfl)))))))), ?_⟩
    refine ⟨_, rfl, _, _, _, _, true, rfl, .ty "str", .base (.str c), kit_ty (by decide +kernel), _, rfl, ?_⟩
    refine iteF ⟨_, rfl, rfl, _, rfl, ?_⟩
    rw [show decide (V.str c = V.str "") = false from decide_eq_false fun e => h1 (by injection e)]
    refine iteF ?_
    exact ⟨_, rfl, rfl, _, rfl, iteT hk⟩
theorem sc_names_of : FnScope ["system", "found", "left", "right", "_", "name"] ["system"] (defScope s_names_of) := ⟨rfl, rfl, rfl, by decide +kernel, rfl, by decide +kernel, by decide +kernel⟩
theorem ok_names_of (F : FnP K "names_of" s_names_of [] f fd) (G : Facts mg) : FnOk P w K mg base CX0 1 f fd ["system"] spNamesOf := by
  refine F.ok sc_names_of (fun vs H Q E h => ?_) (fun cdv A outer s H vs Q E hr h => ?_)
  · obtain ⟨a, S, rfl, _⟩ := h
    rfl
  · obtain ⟨a, S, rfl, ⟨vs, ha, hvs⟩, hlen, hk⟩ := h
    have hu := hu_of hr
    refine ⟨_, PSs.nox (pss_cons (ps_set (i := 1) sc_names_of.nd rfl (.inl rfl) pe_dnewK)
      (pss_cons (ps_for PassesOwn.never rfl (kpi_list K (pv 0)) (kpg_tup K rfl (pgs_cons (pg_name (i := 2) sc_names_of.nd rfl (by first | exact .inl rfl | exact .inr rfl)) (pgs_cons (pg_name (i := 3) sc_names_of.nd rfl (by first | exact .inl rfl | exact .inr rfl)) (pgs_cons (pg_name (i := 4) sc_names_of.nd rfl (by first | exact .inl rfl | exact .inr rfl)) pgs_nil))))
        (pss_one (ps_for PassesOwn.never rfl (kpi_tup K (pe_tup (pa_cons (pv 2) (pa_cons (pv 3) pa_nil)))) (pg_name (i := 5) sc_names_of.nd rfl (by first | exact .inl rfl | exact .inr rfl))
          (pss_one (ps_if (pt_cmpR op_ne (pv 5) pe_str (nomark _)) (pss_one (ps_dput hu (pv 1) (pv 5) pe_bl rfl)) pss_nil)))))
      (pss_one (ps_ret (pe_callTy (call_list_dK rfl) (by rfl) G.list_ (by decide +kernel) (pa_cons (pv 1) pa_nil)))))), ?_⟩
    intro d hd
    refine ⟨_, rfl, a, rfl, ⟨_, sq (same_upd hd _ _ ha)⟩, ?_⟩
    have tt : ∀ ks : List Str, ks.length ≤ 900000 → (tabV ks fun _ => V.bl true).length < sizeLine := fun ks h => by
      rw [tabV_len]
      exact szlt (by omega)
    have put1 : ∀ (ks : List Str) (n : Str), n ≠ "0" → putK (tabV ks fun _ => V.bl true) (Sum.inr n : Key) (V.bl true) = tabV (nm1 ks n) fun _ => V.bl true := fun ks n h => by
      rw [putK_tab, show nm1 ks n = Df.ins ks n from if_neg h]
      refine tabV_congr fun m _ => ?_
      unfold Df.put
      split <;> rfl
    refine for_it (walk_list (K := K) (a := a) (xs := vs)) (fun i σ H' => ∃ x2 x3 x4 x5, σ = [some (.ref a), some (.ref d), x2, x3, x4, x5] ∧ Same H H' ∧ H' d = some (.dK (tabV (namesOf (S.take i)) fun _ => V.bl true)))
      ⟨none, none, none, none, rfl, same_upd hd, upd_same⟩ (fun i σ H' _ ⟨_, _, _, _, _, s1, _⟩ => sq (s1 _ _ ha)) ?_ ?_
    · rintro i x σ H9 H1 hi ⟨x2, x3, x4, x5, rfl, s1, hd1⟩ ⟨rfl, ex⟩
      rw [plen hvs] at hi
      obtain ⟨v, hv', r, rfl, hrow⟩ := pget hvs (List.getElem?_eq_getElem hi)
      rw [hv'] at ex
      cases ex
      refine ⟨r, _, rfl, sqt (s1 _ _ hrow), rfl, _, _, rfl, _, _, rfl, _, _, rfl, rfl, ?_⟩
      refine ⟨_, rfl, _, rfl, by show 2 ≤ sizeLine; decide, fun p np => ?_⟩
      refine ⟨p, rfl, ⟨_, sqt upd_same⟩, ?_⟩
      have hdp : d ≠ p := ne_of_none hd1 np
      have hk2 : ∀ j, j ≤ 2 → (([S[i].1, S[i].2.1].take j).foldl nm1 (namesOf (S.take i))).length ≤ 900000 := fun j hj => by
        have h1 := len_namesOf (S.take i)
        rw [List.length_take] at h1
        have h2 : ∀ (l : List Str) (ks : List Str), (l.foldl nm1 ks).length ≤ ks.length + l.length := by
          intro l
          induction l with
          | nil => intro ks; simp
          | cons n l ih =>
            intro ks
            have := ih (nm1 ks n)
            have := len_nm1 ks n
            rw [List.foldl_cons, List.length_cons]
            omega
        have h3 := h2 ([S[i].1, S[i].2.1].take j) (namesOf (S.take i))
        have h4 : ([S[i].1, S[i].2.1].take j).length ≤ 2 := by rw [List.length_take]; simp; omega
        omega
      refine for_it (walk_tup (K := K) (a := p) (xs := [V.str S[i].1, V.str S[i].2.1])) (fun j σ H' => ∃ x5, σ = [some (.ref a), some (.ref d), some (.str S[i].1), some (.str S[i].2.1), some (.int S[i].2.2), x5] ∧ Same H H' ∧ H' p = some (.tup [V.str S[i].1, V.str S[i].2.1]) ∧
          H' d = some (.dK (tabV (([S[i].1, S[i].2.1].take j).foldl nm1 (namesOf (S.take i))) fun _ => V.bl true)))
        ⟨_, rfl, s1.trans (same_upd np), upd_same, by rw [upd_ne hdp]; exact hd1⟩ (fun j σ H' _ ⟨_, _, _, hp, _⟩ => sqt hp) ?_ ?_
      · rintro j x σ H9 H2 hj ⟨x5, rfl, s2, hp2, hd2⟩ ⟨rfl, ex⟩
        have hj2 : j < [S[i].1, S[i].2.1].length := hj
        have ex : x = V.str ([S[i].1, S[i].2.1][j]) := by
          have e1 : [V.str S[i].1, V.str S[i].2.1] = [S[i].1, S[i].2.1].map V.str := rfl
          rw [e1, List.getElem?_map, List.getElem?_eq_getElem hj2] at ex
          exact (Option.some.inj ex).symm
        subst ex
        have hf : ([S[i].1, S[i].2.1].take (j + 1)).foldl nm1 (namesOf (S.take i)) = nm1 (([S[i].1, S[i].2.1].take j).foldl nm1 (namesOf (S.take i))) [S[i].1, S[i].2.1][j] := by
          rw [take_snoc hj2, List.foldl_append]
          rfl
        refine ⟨_, rfl, rfl, _, rfl, ?_⟩
        by_cases h0 : [S[i].1, S[i].2.1][j] = "0"
        · rw [show (!decide (V.str [S[i].1, S[i].2.1][j] = V.str "0")) = false by rw [h0]; rfl]
          refine iteF ⟨_, rfl, s2, hp2, ?_⟩
          rw [hf, show nm1 _ [S[i].1, S[i].2.1][j] = _ from if_pos h0]
          exact hd2
        · rw [show (!decide (V.str [S[i].1, S[i].2.1][j] = V.str "0")) = true by rw [decide_eq_false fun e => h0 (by injection e)]; rfl]
          refine iteT ⟨_, rfl, _, rfl, d, _, rfl, DPut.k (k := (Sum.inr [S[i].1, S[i].2.1][j] : Key)) hd2 (tt _ (hk2 j (Nat.le_of_lt hj2))), _, rfl, same_mut s2 hd, by rw [upd_ne hdp.symm]; exact hp2, ?_⟩
          rw [upd_same, put1 _ _ h0, hf]
      · rintro σ H2 ⟨x5, rfl, s2, hp2, hd2⟩
        refine ⟨_, _, _, _, rfl, s2, ?_⟩
        rw [take_snoc hi, namesOf_snoc]
        exact hd2
    · rintro σ H1 ⟨x2, x3, x4, x5, rfl, s1, hd1⟩
      rw [plen hvs, List.take_length] at hd1
      refine ⟨_, rfl, d, _, rfl, hd1, fun q nq => ?_⟩
      refine hk _ q (s1.trans (same_upd nq)) (s1.free nq) ?_
      rw [upd_same, tabV_keys]
end
end K1

namespace K1
open PySem PySem.Spec PyProof.Rows L2 Ls
section
variable {P : Program} {w : World} {K : PySem.W.Frag} {mg : Str → Option Value} {base : Heap} {f C : Addr} {fd : FuncData} {k : Nat}
theorem sc_checked_system : FnScope ["system", "names", "found", "place", "row", "good"] ["system", "names"] (defScope s_checked_system) := ⟨rfl, rfl, rfl, by decide +kernel, rfl, by decide +kernel, by decide +kernel⟩
theorem ok_checked (F : FnP K "checked_system" s_checked_system [.non] f fd) (G : Facts mg) (C_is_limit : Cal P w K mg base 1 "is_limit" spIsLimit []) (C_u_is_end : Cal P w K mg base 1 "_is_end" spIsEnd []) :
    FnOk P w K mg base CX0 2 f fd ["system", "names"] spChecked := by
  refine F.ok sc_checked_system (fun vs H Q E h => ?_) (fun cdv A outer s H vs Q E hr h => ?_)
  · obtain ⟨c, S, rfl, _⟩ := h
    rfl
  · obtain ⟨a, S, rfl, ⟨vs, ha, hvs⟩, hgood, hlen, hk⟩ := h
    have hu := hu_of hr
    refine ⟨_, PSs.nox (pss_cons (ps_set (i := 2) sc_checked_system.nd rfl (.inl rfl) (pe_lst pa_nil))
      (pss_cons (ps_for PassesOwn.never rfl (kpi_enum K (by rfl) G.enumerate_ (pa_cons (pv 0) pa_nil)) (kpg_tup K rfl (pgs_cons (pg_name (i := 3) sc_checked_system.nd rfl (by first | exact .inl rfl | exact .inr rfl)) (pgs_cons (pg_name (i := 4) sc_checked_system.nd rfl (by first | exact .inl rfl | exact .inr rfl)) pgs_nil)))
        (pss_cons (ps_set (i := 5) sc_checked_system.nd rfl (.inl rfl) (pe_and (pe_callB (kIsiT K) (by rfl) G.isinstance_ (by decide +kernel) (pa_cons (pv 4) (pa_cons (pe_tup (pa_cons (pe_ty "tuple" (by rfl) G.tuple_ (by decide +kernel)) (pa_cons (pe_ty "list" (by rfl) G.list_ (by decide +kernel)) pa_nil))) pa_nil))) (pe_one (pe_cmpR op_eq (pe_callB (kLen K) (by rfl) G.len_ PySem.boot_len (pa_cons (pv 4) pa_nil)) pe_int (nomark _)))))
        (pss_cons (ps_set (i := 5) sc_checked_system.nd rfl (.inl rfl) (pe_and (pv 5) (pe_and (pe_c C_u_is_end hr (by decide) (by rfl) (pa_cons (pe_ix (kIxQ K) (pv 4) pe_int (fun _ _ => rfl)) (pa_cons (pv 1) pa_nil))) (pe_one (pe_c C_u_is_end hr (by decide) (by rfl) (pa_cons (pe_ix (kIxQ K) (pv 4) pe_int (fun _ _ => rfl)) (pa_cons (pv 1) pa_nil)))))))
        (pss_cons (ps_if (PW.pt (pw_or (pt_not (pt_val (pv 5))) (pw_or (pt_cmpR op_eq (pe_ix (kIxQ K) (pv 4) pe_int (fun _ _ => rfl)) (pe_ix (kIxQ K) (pv 4) pe_int (fun _ _ => rfl)) (nomark _)) (pw_or1 (pt_not (pt_val (pe_c C_is_limit hr (by decide) (by rfl) (pa_cons (pe_ix (kIxQ K) (pv 4) pe_int (fun _ _ => rfl)) pa_nil)))))))) (pss_one ps_never) pss_nil)
        (pss_one (ps_expr (pe_bm PySem.F.plainAttrs_list PySem.F.slot_list_append PySem.F.type_list_append mt_append (pv 2) (pa_cons (pe_tup (pa_cons (pe_ix (kIxQ K) (pv 4) pe_int (fun _ _ => rfl)) (pa_cons (pe_ix (kIxQ K) (pv 4) pe_int (fun _ _ => rfl)) (pa_cons (pe_ix (kIxQ K) (pv 4) pe_int (fun _ _ => rfl)) pa_nil)))) pa_nil))))))))
      (pss_one (ps_ret (pv 2))))), ?_⟩
    refine ⟨by show 0 ≤ sizeLine; decide, fun d hd => ?_⟩
    refine ⟨_, rfl, a, vs, rfl, sq (same_upd hd _ _ ha), ?_⟩
    refine for_it (walk_enum (K := K) (a := a) (xs := vs)) (fun i σ H' => ∃ x3 x4 x5 out, σ = [some (.ref a), some .non, some (.ref d), x3, x4, x5] ∧ Same H H' ∧ H' d = some (.lst out) ∧ Paired (RowT H') out (S.take i))
      ⟨none, none, none, [], rfl, same_upd hd, upd_same, .nil⟩ (fun i σ H' _ ⟨_, _, _, _, _, s1, _⟩ => sq (s1 _ _ ha)) ?_ ?_
    · rintro i x σ H0 H' hi ⟨x3, x4, x5, out, rfl, s1, hd1, hp⟩ ⟨T', y1, y2, rfl, nT, rfl, e1, e2⟩
      cases e1
      rw [plen hvs] at hi
      obtain ⟨v, hv', r, rfl, hrow⟩ := pget hvs (List.getElem?_eq_getElem hi)
      have e2 : vs[i]? = some y2 := e2
      rw [hv'] at e2
      cases e2
      obtain ⟨g1, g2, g3, g4, g5⟩ := hgood _ (List.getElem_mem hi)
      have s2 : Same H0 (upd H0 T' (.tup [V.int (i : Int), V.ref r])) := same_upd nT
      have hrow2 := (hrow.imp (s1 _ _) (s1 _ _)).imp (s2 _ _) (s2 _ _)
      have hd2 := s2 _ _ hd1
      refine ⟨T', _, rfl, sqt upd_same, rfl, _, _, rfl, _, _, rfl, rfl, ?_⟩
      generalize upd H0 T' (.tup [V.int (i : Int), V.ref r]) = H2 at s2 hrow2 hd2 ⊢
      -- good = isinstance(row, (tuple, list)) and len(row) == 3
      refine ⟨_, rfl, by show 2 ≤ sizeLine; decide, fun p np => ?_⟩
      have hrow3 := hrow2.imp (same_upd np (o := .tup [.ty "tuple", .ty "list"]) _ _) (same_upd np (o := .tup [.ty "tuple", .ty "list"]) _ _)
      have hty : ∃ t, TyX K (upd H2 p (.tup [.ty "tuple", .ty "list"])) (.ref r) t ∧ PySem.W.kitAny K t [.type "tuple", .type "list"] = some true := hrow3.elim
        (fun h => ⟨_, .base (.tup h), kitAny_cons (b := true) (kit_ty (by decide +kernel)) (fun z => by cases z) fun _ => rfl⟩)
        (fun h => ⟨_, .base (.lst h), kitAny_cons (b := false) (kit_ty (by decide +kernel)) (fun _ => kitAny_cons (b := true) (kit_ty (by decide +kernel)) (fun z => by cases z) fun _ => rfl) fun z => by cases z⟩)
      obtain ⟨ty, ty1, ty2⟩ := hty
      refine ⟨_, p, _, ty, _, true, rfl, upd_same, .cons (.ty "tuple") (.cons (.ty "list") .nil), ty1, ty2, _, rfl, iteT ?_⟩
      refine ⟨_, rfl, r, rowT S[i], rfl, hrow3.symm.imp sq sqt, rfl, ?_⟩
      have s3 : Same H2 (upd H2 p (.tup [.ty "tuple", .ty "list"])) := same_upd np
      have hd3 := s3 _ _ hd2
      generalize upd H2 p (.tup [.ty "tuple", .ty "list"]) = H3 at s3 hrow3 hd3 ⊢
      -- good and both ends
      refine ⟨_, rfl, _, rfl, iteT ?_⟩
      refine ⟨_, rfl, ixq hrow3 (i := 0) (v := .str S[i].1) rfl ⟨_, rfl, ?_⟩⟩
      refine ⟨S[i].1, rfl, g1, _, rfl, iteT ?_⟩
      refine ⟨_, rfl, ixq hrow3 (i := 1) (v := .str S[i].2.1) rfl ⟨_, rfl, ?_⟩⟩
      refine ⟨S[i].2.1, rfl, g2, ?_⟩
      -- not good or equal ends or no limit
      refine ⟨_, rfl, _, rfl, iteF ?_⟩
      refine ⟨_, rfl, ixq hrow3 (i := 0) (v := .str S[i].1) rfl ?_⟩
      refine ⟨_, rfl, ixq hrow3 (i := 1) (v := .str S[i].2.1) rfl ?_⟩
      refine ⟨rfl, _, rfl, ?_⟩
      rw [show decide (V.str S[i].1 = V.str S[i].2.1) = false from decide_eq_false fun e => g3 (by injection e)]
      refine iteF ?_
      refine ⟨_, rfl, ixq hrow3 (i := 2) (v := .int S[i].2.2) rfl ?_⟩
      refine ⟨S[i].2.2, rfl, g4, g5, _, rfl, iteF ?_⟩
      -- found.append
      refine ⟨_, rfl, .inl ⟨rfl, _, sq hd3⟩, ?_⟩
      refine ⟨_, rfl, ixq hrow3 (i := 0) (v := .str S[i].1) rfl ?_⟩
      refine ⟨_, rfl, ixq hrow3 (i := 1) (v := .str S[i].2.1) rfl ?_⟩
      refine ⟨_, rfl, ixq hrow3 (i := 2) (v := .int S[i].2.2) rfl ?_⟩
      refine ⟨by show 3 ≤ sizeLine; decide, fun q nq => ?_⟩
      have s4 := same_upd nq (o := .tup [.str S[i].1, .str S[i].2.1, .int S[i].2.2])
      have sT : Same H0 H3 := s2.trans s3
      have sA : Same H0 (upd H3 q (.tup [.str S[i].1, .str S[i].2.1, .int S[i].2.2])) := sT.trans s4
      refine ⟨d, out, .ref q, rfl, rfl, s4 _ _ hd3, ?_, _, _, _, _, rfl, same_mut (s1.trans sA) hd, upd_same, ?_⟩
      · rw [plen hp, List.length_take]
        exact szlt (by omega)
      · rw [take_snoc hi]
        have hdq : q ≠ d := (ne_of_none hd3 nq).symm
        have keep : ∀ v e, RowT H0 v e → RowT (upd (upd H3 q (.tup [.str S[i].1, .str S[i].2.1, .int S[i].2.2])) d (.lst (out ++ [.ref q]))) v e := fun v e ⟨r', e1, e2⟩ =>
          ⟨r', e1, by
            have h1 := sA _ _ e2
            have : r' ≠ d := fun z => by rw [z, hd1] at e2; cases e2
            rw [upd_ne this]; exact h1⟩
        exact (pmono keep hp).snoc ⟨q, rfl, by rw [upd_ne hdq]; exact upd_same⟩
    · rintro σ H1 ⟨x3, x4, x5, out, rfl, s1, hd1, hp⟩
      rw [plen hvs, List.take_length] at hp
      exact ⟨_, rfl, hk H1 d s1 ⟨out, hd1, hp⟩⟩
end
end K1

namespace K1
open PySem PySem.Spec PyProof.Rows L2 Ls
/-! ### rings -/
def nV (ks : List Str) (b : Str → Nat) : List (Key × V) := tabV ks fun n => V.int ((b n : Nat) : Int)
theorem nV_put {ks : List Str} {b : Str → Nat} {n : Str} {v : Nat} : putK (nV ks b) (Sum.inr n : Key) (V.int (v : Int)) = nV (Df.ins ks n) (Df.put b n v) := by
  unfold nV
  rw [putK_tab]
  refine tabV_congr fun m _ => ?_
  unfold Df.put
  split <;> rfl
def ringV (f : List Nat) : List V := f.map fun (q : Nat) => V.int (q : Int)
def spCycle : Sp := fun vs H Q _ => ∃ (a bf : Addr) (x y : Str) (S : List Df3) (ks : List Str) (b : Str → Nat) (d : Nat), vs = [.ref a, .ref bf, .str x] ∧ SysAt H a S ∧ H bf = some (.dK (nV ks b)) ∧ ks.length ≤ 900000 ∧
  (∀ n ∈ ks, ∃ c, S[b n]? = some (n, Df.nx S b n, c)) ∧ (∀ i, i ≤ ks.length → Df.it S b i x ∈ ks) ∧ y = Df.it S b (ks.length + 1) x ∧ 0 < d ∧ d ≤ 900000 ∧ Df.it S b d y = y ∧ (∀ i, Df.it S b i y ∈ ks) ∧ (∀ j, 0 < j → j < d → Df.it S b j y ≠ y) ∧
  ∀ H' q, Same H H' → H' q = some (.lst (ringV ((List.range d).map fun i => b (Df.it S b i y)))) → Q (.ref q) H'
def spRing : Sp := fun vs H Q _ => ∃ (a : Addr) (S : List Df3), vs = [.ref a] ∧ SysQ H a S ∧ GoodS S ∧ S.length ≤ 100000 ∧ ((∃ p, Df.Solves S p) → ∀ H', Same H H' → Q .non H') ∧ (∀ f, Df.IsRing S f → ∀ H' b, Same H H' → H' b = some (.lst (ringV f)) → Q (.ref b) H')
section
variable {P : Program} {w : World} {K : PySem.W.Frag} {mg : Str → Option Value} {base : Heap} {f C : Addr} {fd : FuncData} {k : Nat}
theorem sc_u_cycle : FnScope ["system", "before", "name", "_", "start", "found"] ["system", "before", "name"] (defScope s_u_cycle) := ⟨rfl, rfl, rfl, by decide +kernel, rfl, by decide +kernel, by decide +kernel⟩
theorem ok_cycle (F : FnP K "_cycle" s_u_cycle [] f fd) (G : Facts mg) : FnOk P w K mg base CX0 1 f fd ["system", "before", "name"] spCycle := by
  refine F.ok sc_u_cycle (fun vs H Q E h => ?_) (fun cdv A outer s H vs Q E hr h => ?_)
  · obtain ⟨a, bf, x, y, S, ks, b, d, rfl, _⟩ := h
    rfl
  · obtain ⟨a, bf, x, y, S, ks, b, d, rfl, ⟨vs, ha, hvs⟩, hbf, hkl, hpre, hback, hy, hd0, hd9, hdy, hin, hmin, hk⟩ := h
    have hu := hu_of hr
    refine ⟨_, PSs.nox (pss_cons (ps_for PassesOwn.never rfl (pi_range1 (by rfl) G.range_ (pa_cons (pe_op op_add (pe_callB call_lenD (by rfl) G.len_ PySem.boot_len (pa_cons (pv 1) pa_nil)) pe_int) pa_nil)) (pg_name (i := 3) sc_u_cycle.nd rfl (by first | exact .inl rfl | exact .inr rfl))
        (pss_one (ps_set (i := 2) sc_u_cycle.nd rfl (.inl rfl) (pe_ix (kIxT K) (pe_ix (kIxL K) (pv 0) (pe_dget hu (pv 1) (pv 2) (fun _ _ => rfl)) (fun _ _ => rfl)) pe_int (fun _ _ => rfl)))))
      (pss_cons (ps_set (i := 4) sc_u_cycle.nd rfl (.inl rfl) (pv 2))
      (pss_cons (ps_set (i := 5) sc_u_cycle.nd rfl (.inl rfl) (pe_lst pa_nil))
      (pss_one (ps_while PassesOwn.never (pt_val pe_bl) (pss_cons (ps_expr (pe_bm PySem.F.plainAttrs_list PySem.F.slot_list_append PySem.F.type_list_append mt_append (pv 5) (pa_cons (pe_dget hu (pv 1) (pv 2) (fun _ _ => rfl)) pa_nil)))
        (pss_cons (ps_set (i := 2) sc_u_cycle.nd rfl (.inl rfl) (pe_ix (kIxT K) (pe_ix (kIxL K) (pv 0) (pe_dget hu (pv 1) (pv 2) (fun _ _ => rfl)) (fun _ _ => rfl)) pe_int (fun _ _ => rfl)))
        (pss_one (ps_if (pt_cmpR op_eq (pv 2) (pv 4) (nomark _)) (pss_one (ps_ret (pv 5))) pss_nil))))))))), ?_⟩
    have step : ∀ n, n ∈ ks → ∀ H', Same H H' → ∃ r v c, valV (nV ks b) (Sum.inr n : Key) = some (V.int (b n : Int)) ∧ vs[b n]? = some (V.ref r) ∧ v = Df.nx S b n ∧ H' r = some (.tup (rowT (n, v, c))) := fun n hn H' s => by
      obtain ⟨c, e⟩ := hpre n hn
      obtain ⟨v, hv, r, rfl, hr'⟩ := pget hvs e
      exact ⟨r, _, c, valV_tab_in hn, hv, rfl, s _ _ hr'⟩
    refine ⟨_, rfl, bf, _, rfl, hbf, ?_⟩
    rw [show (nV ks b).length = ks.length from tabV_len _ _]
    refine ⟨_, _, rfl, rfl, (ks.length : Int) + 1, rfl, by omega, by omega, ?_⟩
    refine for_it (walk_range (lo := 0) (n := ((ks.length : Int) + 1).toNat)) (fun i σ H' => ∃ x3 x4 x5, H' = H ∧ σ = [some (.ref a), some (.ref bf), some (.str (Df.it S b i x)), x3, x4, x5])
      ⟨none, none, none, rfl, rfl⟩ (fun _ _ _ _ _ => True.intro) ?_ ?_
    · rintro i x' σ H9 H1 hi ⟨x3, x4, x5, rfl, rfl⟩ ⟨rfl, rfl⟩
      obtain ⟨r, v, c, e1, e2, rfl, e3⟩ := step _ (hback i (by omega)) H1 (Same.refl H1)
      refine ⟨_, rfl, _, rfl, _, rfl, bf, _, rfl, dget hbf e1, a, vs, _, _, rfl, rfl, sq ha, atI_nat e2, r, _, _, _, rfl, rfl, sqt e3, rfl, ?_⟩
      exact ⟨_, _, _, rfl, rfl⟩
    · rintro σ H1 ⟨x3, x4, x5, rfl, rfl⟩
      rw [show ((ks.length : Int) + 1).toNat = ks.length + 1 by omega, ← hy]
      refine ⟨_, rfl, ?_⟩
      refine ⟨by show 0 ≤ sizeLine; decide, fun F hF => ?_⟩
      refine ⟨fun m σ H' => ∃ i x3, i < d ∧ m = d - i ∧ σ = [some (.ref a), some (.ref bf), some (.str (Df.it S b i y)), x3, some (.str y), some (.ref F)] ∧ Same H1 H' ∧ H' F = some (.lst (ringV ((List.range i).map fun i => b (Df.it S b i y)))),
        ⟨d, 0, x3, hd0, rfl, rfl, same_upd hF, upd_same⟩, ?_⟩
      rintro m σ H2 ⟨i, x3, hi, rfl, rfl, s2, hF2⟩
      obtain ⟨r, v, c, e1, e2, rfl, e3⟩ := step _ (hin i) H2 s2
      refine ⟨_, rfl, iteT ⟨fun σ' H' => ∃ m', m' < d - i ∧ _, fun _ _ h => h, ?_⟩⟩
      have hb2 := s2 _ _ hbf
      have hFb : F ≠ bf := (ne_of_none hbf hF).symm
      refine ⟨_, rfl, .inl ⟨rfl, _, sq hF2⟩, _, rfl, _, rfl, bf, _, rfl, dget hb2 e1, F, _, _, rfl, rfl, hF2, ?_, ?_⟩
      · unfold ringV
        rw [List.length_map, List.length_map, List.length_range]
        exact szlt (by omega)
      have s3 : Same H1 (upd H2 F (.lst (ringV ((List.range i).map fun i => b (Df.it S b i y)) ++ [V.int (b (Df.it S b i y) : Int)]))) := same_mut s2 hF
      have hF3 : (upd H2 F (.lst (ringV ((List.range i).map fun i => b (Df.it S b i y)) ++ [V.int (b (Df.it S b i y) : Int)]))) F = some (.lst (ringV ((List.range (i + 1)).map fun i => b (Df.it S b i y)))) := by
        rw [upd_same, List.range_succ]
        simp [ringV]
      obtain ⟨r, v, c, e1, e2, e4, e3⟩ := step _ (hin i) _ s3
      refine ⟨_, rfl, _, rfl, _, rfl, bf, _, rfl, dget (s3 _ _ hbf) e1, a, vs, _, _, rfl, rfl, sq (s3 _ _ ha), atI_nat e2, r, _, _, _, rfl, rfl, sqt e3, rfl, ?_⟩
      have e5 : v = Df.it S b (i + 1) y := e4
      subst e5
      refine ⟨_, rfl, _, rfl, rfl, _, rfl, ?_⟩
      by_cases he : Df.it S b (i + 1) y = y
      · rw [show decide (V.str (Df.it S b (i + 1) y) = V.str y) = true by rw [he]; exact decide_eq_true rfl]
        have hd1 : i + 1 = d := Nat.le_antisymm hi (Nat.le_of_not_lt fun z => hmin (i + 1) (Nat.succ_pos i) z he)
        rw [hd1] at hF3
        exact iteT ⟨_, rfl, hk _ F s3 hF3⟩
      · rw [show decide (V.str (Df.it S b (i + 1) y) = V.str y) = false from decide_eq_false fun e => he (by injection e)]
        have hd1 : i + 1 < d := Nat.lt_of_le_of_ne hi fun z => he (z ▸ hdy)
        exact iteF ⟨d - (i + 1), by omega, i + 1, _, hd1, rfl, rfl, s3, hF3⟩
end
end K1

namespace K1
open PySem PySem.Spec PyProof.Rows L2 Ls
section
variable {P : Program} {w : World} {K : PySem.W.Frag} {mg : Str → Option Value} {base : Heap} {f C : Addr} {fd : FuncData} {k : Nat}
theorem sc_ring : FnScope ["system", "names", "worth", "name", "before", "turn", "last", "place", "left", "right", "limit"] ["system"] (defScope s_ring) := ⟨rfl, rfl, rfl, by decide +kernel, rfl, by decide +kernel, by decide +kernel⟩
theorem ok_ring (F : FnP K "ring" s_ring [] f fd) (G : Facts mg) (C_checked_system : Cal P w K mg base 2 "checked_system" spChecked [.non]) (C_names_of : Cal P w K mg base 1 "names_of" spNamesOf []) (C_u_cycle : Cal P w K mg base 1 "_cycle" spCycle []) :
    FnOk P w K mg base CX0 3 f fd ["system"] spRing := by
  refine F.ok sc_ring (fun vs H Q E h => ?_) (fun cdv A outer s H vs Q E hr h => ?_)
  · obtain ⟨a, S, rfl, _⟩ := h
    rfl
  · obtain ⟨a, S, rfl, hS, hgood, hlen, hkN, hkR⟩ := h
    have hu := hu_of hr
    refine ⟨_, PSs.nox (pss_cons (ps_set (i := 0) sc_ring.nd rfl (.inl rfl) (pe_c C_checked_system hr (by decide) (by rfl) (pa_cons (pv 0) pa_nil)))
      (pss_cons (ps_set (i := 1) sc_ring.nd rfl (.inl rfl) (pe_op op_cat (pe_lst (pa_cons pe_str pa_nil)) (pe_c C_names_of hr (by decide) (by rfl) (pa_cons (pv 0) pa_nil))))
      (pss_cons (ps_setDc (i := 2) (own := [("name", 3)]) (g := gName 3) (tt := tYes) rfl sc_ring.nd rfl rfl (sw_trueD rfl rfl rfl (by decide +kernel)) (kpi_list K (pv 1)) (blkOk_by (by kernel_rfl)) (fun _ _ _ _ _ => (pg_name (i := 3) sc_ring.nd rfl (by first | exact .inl rfl | exact .inr rfl))) (fun _ _ _ _ _ => pts_nil) (fun _ _ _ _ _ => (pv 3)) (fun _ _ _ _ _ => pe_int))
      (pss_cons (ps_set (i := 4) sc_ring.nd rfl (.inl rfl) pe_dnewK)
      (pss_cons (ps_for PassesOwn.never rfl (pi_range1 (by rfl) G.range_ (pa_cons (pe_op op_add (pe_callB (kLen K) (by rfl) G.len_ PySem.boot_len (pa_cons (pv 1) pa_nil)) pe_int) pa_nil)) (pg_name (i := 5) sc_ring.nd rfl (by first | exact .inl rfl | exact .inr rfl))
        (pss_cons (ps_set (i := 6) sc_ring.nd rfl (.inl rfl) pe_non)
        (pss_cons (ps_for PassesOwn.never rfl (kpi_enum K (by rfl) G.enumerate_ (pa_cons (pv 0) pa_nil)) (kpg_tup K rfl (pgs_cons (pg_name (i := 7) sc_ring.nd rfl (by first | exact .inl rfl | exact .inr rfl)) (pgs_cons (kpg_tup K rfl (pgs_cons (pg_name (i := 8) sc_ring.nd rfl (by first | exact .inl rfl | exact .inr rfl)) (pgs_cons (pg_name (i := 9) sc_ring.nd rfl (by first | exact .inl rfl | exact .inr rfl)) (pgs_cons (pg_name (i := 10) sc_ring.nd rfl (by first | exact .inl rfl | exact .inr rfl)) pgs_nil)))) pgs_nil)))
          (pss_one (ps_if (pt_cmpR op_lt (pe_op op_add (pe_dget hu (pv 2) (pv 9) (fun _ _ => rfl)) (pv 10)) (pe_dget hu (pv 2) (pv 8) (fun _ _ => rfl)) (nomark _)) (pss_cons (ps_dput hu (pv 2) (pv 8) (pe_op op_add (pe_dget hu (pv 2) (pv 9) (fun _ _ => rfl)) (pv 10)) rfl)
            (pss_cons (ps_dput hu (pv 4) (pv 8) (pv 7) rfl)
            (pss_one (ps_set (i := 6) sc_ring.nd rfl (.inl rfl) (pv 8))))) pss_nil)))
        (pss_cons (ps_if (pt_cmpR op_isN (pv 6) pe_non (nomark _)) (pss_one (ps_ret pe_non)) pss_nil)
        (pss_one (ps_if (pt_cmpR op_eq (pv 5) (pe_callB (kLen K) (by rfl) G.len_ PySem.boot_len (pa_cons (pv 1) pa_nil)) (nomark _)) (pss_one (ps_ret (pe_c C_u_cycle hr (by decide) (by rfl) (pa_cons (pv 0) (pa_cons (pv 4) (pa_cons (pv 6) pa_nil)))))) pss_nil))))))
      (pss_one (ps_ret pe_non))))))), ?_⟩
    refine ⟨_, rfl, a, S, rfl, hS, hgood, by omega, fun H1 b s1 hS1 => ?_⟩
    -- names
    refine ⟨by show 1 ≤ sizeLine; decide, fun p np => ?_⟩
    have s2 := same_upd np (o := .lst [.str "0"])
    refine ⟨_, rfl, b, S, rfl, hS1.mono s2, by omega, fun H3 q s3 nq hq => ?_⟩
    have hl1 := len_namesOf S
    have hnd := nd_namesOf S
    have hpq : H3 p = some (.lst [.str "0"]) := s3 _ _ upd_same
    refine ⟨p, q, [.str "0"], (namesOf S).map V.str, rfl, rfl, hpq, hq, szl (by simp; omega), fun nl hnl => ?_⟩
    generalize hns : ("0" : Str) :: namesOf S = ns at hnd
    have hcat : [V.str "0"] ++ (namesOf S).map V.str = ns.map V.str := by rw [← hns]; rfl
    rw [hcat]
    have hnl1 : ns.length ≤ 1 + 2 * S.length := by rw [← hns, List.length_cons]; omega
    have hinS : ∀ e ∈ S, e.1 ∈ ns ∧ e.2.1 ∈ ns := fun e he => by
      rw [← hns]
      exact ⟨in_names ⟨e, he, .inl rfl⟩, in_names ⟨e, he, .inr rfl⟩⟩
    have s4 := same_upd hnl (o := .lst (ns.map V.str))
    have sA : Same H (upd H3 nl (.lst (ns.map V.str))) := s1.trans (s2.trans (s3.trans s4))
    have hS4 : SysAt (upd H3 nl (.lst (ns.map V.str))) b S := hS1.mono (s2.trans (s3.trans s4))
    have hn4 : (upd H3 nl (.lst (ns.map V.str))) nl = some (.lst (ns.map V.str)) := upd_same
    generalize upd H3 nl (.lst (ns.map V.str)) = H4 at sA hS4 hn4 ⊢
    obtain ⟨vs, hb4, hvs⟩ := hS4
    -- worth
    refine ⟨_, rfl, nl, rfl, ⟨_, sq hn4⟩, fun dw hdw => ?_⟩
    refine dc_it (walk_list (K := K) (a := nl) (xs := ns.map V.str)) (fun i H' => Same H4 H' ∧ H' dw = some (.dK (ptV (ns.take i) x0))) ⟨same_upd hdw, upd_same⟩ (fun i H' _ ⟨s5, _⟩ => sq (s5 _ _ hn4)) ?_ ?_
    · rintro i x H9 H' hi ⟨s5, hd⟩ ⟨rfl, ex⟩
      rw [List.length_map] at hi
      have ex : x = V.str ns[i] := by
        rw [List.getElem?_map, List.getElem?_eq_getElem hi] at ex
        exact (Option.some.inj ex).symm
      subst ex
      have hno : ns[i] ∉ ns.take i := fun hm => by
        obtain ⟨j, hj, ej⟩ := List.mem_take_iff_getElem.mp hm
        have := (List.getElem_inj hnd).mp ej
        omega
      refine ⟨rfl, _, rfl, ptV (ns.take i) x0, Sum.inr ns[i], rfl, hd, ?_, same_mut s5 hdw, ?_⟩
      · rw [show (ptV (ns.take i) x0).length = (ns.take i).length from tabV_len _ _, List.length_take]
        exact szlt (by omega)
      · rw [upd_same, ptV_put hno, take_snoc hi]
        have : Df.put x0 ns[i] 0 = x0 := by
          funext m
          unfold Df.put x0
          split <;> rfl
        rw [this]
    rintro H5 ⟨s5, hw5⟩
    rw [List.length_map, List.take_length] at hw5
    -- before
    intro db hdb
    have hwb : dw ≠ db := ne_of_none hw5 hdb
    have hdb4 : H4 db = none := s5.free hdb
    -- the turns
    refine ⟨_, rfl, nl, _, rfl, .inl (sq (same_upd hdb _ _ (s5 _ _ hn4))), ?_⟩
    rw [List.length_map]
    refine ⟨_, _, rfl, rfl, (ns.length : Int) + 1, rfl, by omega, by omega, ?_⟩
    refine for_it (walk_range (lo := 0) (n := ((ns.length : Int) + 1).toNat)) (fun t σ H' => ∃ x3 x5 x6 x7 x8 x9 x10 w ks bb τ, t ≤ ns.length ∧ σ = [some (.ref b), some (.ref nl), some (.ref dw), x3, some (.ref db), x5, x6, x7, x8, x9, x10] ∧ Same H4 H' ∧
        H' dw = some (.dK (ptV ns w)) ∧ H' db = some (.dK (nV ks bb)) ∧ Df.BF S w ks bb τ t 0)
      ⟨_, _, _, _, _, _, _, x0, [], fun _ => 0, fun _ => 0, Nat.zero_le _, rfl, s5.trans (same_upd hdb), by rw [upd_ne hwb]; exact hw5, upd_same, Df.BF.start S x0 _⟩ (fun _ _ _ _ _ => True.intro) ?_ ?_
    · rintro t x σ H9 H6 ht ⟨x3, x5, x6, x7, x8, x9, x10, w, ks, bb, τ, htn, rfl, s6, hw6, hb6, bf⟩ ⟨rfl, rfl⟩
      -- last = None; the edges
      refine ⟨_, rfl, b, vs, rfl, sq (s6 _ _ hb4), ?_⟩
      refine for_it (walk_enum (K := K) (a := b) (xs := vs)) (fun i σ H' => ∃ x3 x6 x7 x8 x9 x10 w ks bb τ, σ = [some (.ref b), some (.ref nl), some (.ref dw), x3, some (.ref db), some (.int ((0 : Int) + (t : Int))), some x6, x7, x8, x9, x10] ∧ Same H4 H' ∧
          H' dw = some (.dK (ptV ns w)) ∧ H' db = some (.dK (nV ks bb)) ∧ Df.BF S w ks bb τ t i ∧
          ((x6 = .non ∧ ∀ q e, q < i → S[q]? = some e → w e.1 ≤ w e.2.1 + e.2.2) ∨ ∃ l, x6 = .str l ∧ t * S.length < τ l))
        ⟨_, .non, _, _, _, _, w, ks, bb, τ, rfl, s6, hw6, hb6, bf, .inl ⟨rfl, fun q e h => absurd h (Nat.not_lt_zero _)⟩⟩ (fun i σ H' _ ⟨_, _, _, _, _, _, _, _, _, _, _, s7, _⟩ => sq (s7 _ _ hb4)) ?_ ?_
      · rintro i x σ H0 H' hi ⟨x3, x6, x7, x8, x9, x10, w, ks, bb, τ, rfl, s7, hw7, hb7, bf, hlast⟩ ⟨T', y1, y2, rfl, nT, rfl, e1, e2⟩
        cases e1
        rw [plen hvs] at hi
        obtain ⟨v, hv', r, rfl, hrow⟩ := pget hvs (List.getElem?_eq_getElem hi)
        have e2 : vs[i]? = some y2 := e2
        rw [hv'] at e2
        cases e2
        have he : S[i]? = some (S[i].1, S[i].2.1, S[i].2.2) := List.getElem?_eq_getElem hi
        have hSi := hinS _ (List.getElem_mem hi)
        have s8 : Same H0 (upd H0 T' (.tup [V.int (i : Int), V.ref r])) := same_upd nT
        have hrow2 := s8 _ _ (s7 _ _ hrow)
        have hw8 := s8 _ _ hw7
        have hb8 := s8 _ _ hb7
        have s78 := s7.trans s8
        refine ⟨T', _, rfl, sqt upd_same, rfl, _, _, rfl, _, _, rfl, r, _, rfl, sqt hrow2, rfl, _, _, rfl, _, _, rfl, _, _, rfl, rfl, rfl, ?_⟩
        generalize upd H0 T' (.tup [V.int (i : Int), V.ref r]) = H8 at s78 hw8 hb8 ⊢
        have gl : ∀ H'', H'' dw = some (.dK (ptV ns w)) → DGet H'' dw (.str S[i].1) (some (.int (w S[i].1))) := fun H'' h => dget h (valV_tab_in hSi.1)
        have gr : ∀ H'', H'' dw = some (.dK (ptV ns w)) → DGet H'' dw (.str S[i].2.1) (some (.int (w S[i].2.1))) := fun H'' h => dget h (valV_tab_in hSi.2)
        refine ⟨_, rfl, _, rfl, dw, _, rfl, gr _ hw8, _, rfl, _, _, rfl, rfl, _, rfl, _, rfl, dw, _, rfl, gl _ hw8, _, _, rfl, rfl, _, rfl, ?_⟩
        by_cases hlt : w S[i].2.1 + S[i].2.2 < w S[i].1
        · rw [decide_eq_true hlt]
          refine iteT ?_
          have hnl : (ptV ns w).length < sizeLine := by
            rw [show (ptV ns w).length = ns.length from tabV_len _ _]
            exact szlt (by omega)
          have hkl : (nV ks bb).length < sizeLine := by
            rw [show (nV ks bb).length = ks.length from tabV_len _ _]
            have : ks.length ≤ ns.length := Df.nodup_le bf.nd fun x hx => by
              obtain ⟨e, e1, e2, _⟩ := bf.pre x hx
              exact e2 ▸ (hinS e (List.mem_of_getElem? e1)).1
            exact szlt (by omega)
          have bf' := bf.step he (fun e he => (hgood e he).2.2.1) hlt
          refine ⟨_, rfl, _, rfl, dw, _, rfl, gr _ hw8, _, rfl, _, _, rfl, rfl, _, rfl, _, rfl, dw, _, rfl, DPut.k (k := (Sum.inr S[i].1 : Key)) hw8 hnl, ?_⟩
          refine ⟨_, rfl, _, rfl, _, rfl, db, _, rfl, DPut.k (k := (Sum.inr S[i].1 : Key)) (by rw [upd_ne hwb.symm]; exact hb8) hkl, ?_⟩
          refine ⟨_, rfl, _, _, _, _, _, _, _, _, _, _, rfl, same_mut (same_mut s78 hdw) hdb4, ?_, ?_, bf', .inr ⟨_, rfl, ?_⟩⟩
          · rw [upd_ne hwb, upd_same]
            congr 2
            unfold ptV
            rw [putK_tab, show Df.ins ns S[i].1 = ns from if_pos hSi.1]
            refine tabV_congr fun m _ => ?_
            unfold Df.put
            split <;> rfl
          · rw [upd_same]
            congr 2
            exact nV_put
          · rw [Df.put_same]
            omega
        · rw [decide_eq_false hlt]
          refine iteF ⟨_, _, _, _, _, _, w, ks, bb, τ, rfl, s78, hw8, hb8, bf.keep he (by omega), ?_⟩
          rcases hlast with ⟨e6, hq⟩ | hl
          · refine .inl ⟨e6, fun q e hq2 heq => ?_⟩
            by_cases hqi : q = i
            · subst hqi
              rw [he] at heq
              cases heq
              show w S[q].1 ≤ w S[q].2.1 + S[q].2.2
              omega
            · exact hq q e (by omega) heq
          · exact .inr hl
      · rintro σ H7 ⟨x3, x6, x7, x8, x9, x10, w, ks, bb, τ, rfl, s7, hw7, hb7, bf, hlast⟩
        rw [plen hvs] at bf hlast
        rcases hlast with ⟨rfl, hq⟩ | ⟨l, rfl, hl⟩
        · refine ⟨_, rfl, rfl, _, rfl, iteT ?_⟩
          refine hkN ⟨w, fun e he => ?_⟩ H7 (sA.trans s7)
          obtain ⟨q, hq1, hq2⟩ := List.mem_iff_getElem.mp he
          have := hq q e hq1 (by rw [List.getElem?_eq_getElem hq1, hq2])
          omega
        · refine ⟨_, rfl, rfl, _, rfl, ?_⟩
          refine iteF ?_
          refine ⟨_, rfl, _, rfl, nl, _, rfl, .inl (sq (s7 _ _ hn4)), rfl, _, rfl, ?_⟩
          rw [List.length_map]
          have hks : ∀ x ∈ ks, x ∈ ns := fun x hx => by
            obtain ⟨e, e1, e2, _⟩ := bf.pre x hx
            exact e2 ▸ (hinS e (List.mem_of_getElem? e1)).1
          have hkl : ks.length ≤ ns.length := Df.nodup_le bf.nd hks
          by_cases htl : t = ns.length
          · rw [show decide (V.int ((0 : Int) + (t : Int)) = V.int (ns.length : Int)) = true from decide_eq_true (by rw [htl]; congr 1; omega)]
            refine iteT ?_
            obtain ⟨d, hd0, hd1, hd2, hd3⟩ := bf.ringed (by omega) hl
            have hring := bf.isRing (fun e he => (hgood e he).2.2.1) hd0 hd1 hd2 hd3
            have hdl : d ≤ ns.length := by
              have h1 := Df.nodup_le hring.nd (ks := ns) fun x hx => by
                obtain ⟨q, hq1, rfl⟩ := List.mem_map.mp hx
                have hq2 := hring.small q hq1
                rw [Df.at_of (List.getElem?_eq_getElem hq2)]
                exact (hinS _ (List.getElem_mem hq2)).1
              simpa [Df.lefts] using h1
            refine ⟨_, rfl, _, rfl, _, rfl, b, db, l, _, S, ks, bb, d, rfl, ⟨vs, s7 _ _ hb4, pmono (fun _ _ q => q.imp fun _ q => ⟨q.1, s7 _ _ q.2⟩) hvs⟩, hb7, by omega, fun n hn => ?_, bf.back (by omega) hl, rfl, hd0, by omega, hd1, hd2, hd3, fun H8 q s8 hq => ?_⟩
            · obtain ⟨c, e, _⟩ := bf.nx_of hn
              exact ⟨c, e⟩
            · exact hkR _ hring H8 q (sA.trans (s7.trans s8)) hq
          · rw [show decide (V.int ((0 : Int) + (t : Int)) = V.int (ns.length : Int)) = false from decide_eq_false fun e => htl (by injection e with e; omega)]
            refine iteF ⟨_, _, _, _, _, _, _, w, ks, bb, τ, by omega, rfl, s7, hw7, hb7, bf.turn⟩
    · rintro σ H7 ⟨x3, x5, x6, x7, x8, x9, x10, w, ks, bb, τ, htn, _⟩
      exact absurd htn (by omega)
end
end K1

namespace K1
open PySem PySem.Spec PyProof.Rows L2 Ls
/-! ### solution -/
def sysNs (S : List Df3) : List Str := ("0" : Str) :: namesOf S
theorem sys_in (S : List Df3) : ∀ e ∈ S, e.1 ∈ ("0" : Str) :: namesOf S ∧ e.2.1 ∈ ("0" : Str) :: namesOf S := fun e he => ⟨in_names ⟨e, he, .inl rfl⟩, in_names ⟨e, he, .inr rfl⟩⟩
def spSolution : Sp := fun vs H Q _ => ∃ (a : Addr) (S : List Df3) (L : Int), vs = [.ref a] ∧ SysAt H a S ∧ GoodS S ∧ S.length ≤ 400 ∧ Df.Fit (("0" : Str) :: namesOf S) S L ∧
  ((∀ p, ¬ Df.Solves S p) → ∀ H', Same H H' → Q .non H') ∧ (∀ x, Df.Solves S (Df.pt0 "0" x) → ∀ H' d, Same H H' → H' d = some (.dK (ptV (namesOf S) x)) → Q (.ref d) H')
section
variable {P : Program} {w : World} {K : PySem.W.Frag} {mg : Str → Option Value} {base : Heap} {f C : Addr} {fd : FuncData} {k : Nat}
end
end K1

namespace K1
open PySem PySem.Spec PyProof.Rows L2 Ls
/-! ### implied -/
def spImplied : Sp := fun vs H Q _ => ∃ (a r : Addr) (S : List Df3) (e : Df3), vs = [.ref a, .ref r] ∧ SysAt H a S ∧ H r = some (.tup (rowT e)) ∧ GoodS S ∧ GoodS [e] ∧ S.length ≤ 400 ∧ ∀ H', Same H H' → Q (.bl (Df.implB S e.1 e.2.1 e.2.2)) H'
section
variable {P : Program} {w : World} {K : PySem.W.Frag} {mg : Str → Option Value} {base : Heap} {f C : Addr} {fd : FuncData} {k : Nat}
theorem sc_implied : FnScope ["system", "difference", "left", "right", "limit", "table"] ["system", "difference"] (defScope s_implied) := ⟨rfl, rfl, rfl, by decide +kernel, rfl, by decide +kernel, by decide +kernel⟩
theorem ok_implied (F : FnP K "implied" s_implied [] f fd) (G : Facts mg) (T : TCls K C) (C_checked_system : Cal P w K mg base 2 "checked_system" spChecked [.non]) (C_names_of : Cal P w K mg base 1 "names_of" spNamesOf [])
    (C_table_of : Cal P w K mg base 5 "table_of" (spTableOf C) []) : FnOk P w K mg base CX0 6 f fd ["system", "difference"] spImplied := by
  refine F.ok sc_implied (fun vs H Q E h => ?_) (fun cdv A outer s H vs Q E hr h => ?_)
  · obtain ⟨a, r, S, e, rfl, _⟩ := h
    rfl
  · obtain ⟨a, r, S, e, rfl, hS, hrow, hgood, hge, hlen, hk⟩ := h
    have hu := hu_of hr
    refine ⟨_, PSs.nox (pss_cons (ps_set (i := 0) sc_implied.nd rfl (.inl rfl) (pe_c C_checked_system hr (by decide) (by rfl) (pa_cons (pv 0) pa_nil)))
      (pss_cons (ps_asg (pe_c C_checked_system hr (by decide) (by rfl) (pa_cons (pe_lst (pa_cons (pv 1) pa_nil)) pa_nil)) (pg_lst rfl (pgs_cons (kpg_tup K rfl (pgs_cons (pg_name (i := 2) sc_implied.nd rfl (by first | exact .inl rfl | exact .inr rfl)) (pgs_cons (pg_name (i := 3) sc_implied.nd rfl (by first | exact .inl rfl | exact .inr rfl)) (pgs_cons (pg_name (i := 4) sc_implied.nd rfl (by first | exact .inl rfl | exact .inr rfl)) pgs_nil)))) pgs_nil)))
      (pss_cons (ps_set (i := 5) sc_implied.nd rfl (.inl rfl) (pe_c C_table_of hr (by decide) (by rfl) (pa_cons (pe_c C_names_of hr (by decide) (by rfl) (pa_cons (pe_op op_cat (pv 0) (pe_lst (pa_cons (pe_tup (pa_cons (pv 2) (pa_cons (pv 3) (pa_cons (pv 4) pa_nil)))) pa_nil))) pa_nil)) (pa_cons (pv 0) pa_nil))))
      (pss_one (ps_ret (pe_or (pe_cmpR op_isN (pv 5) pe_non (nomark _)) (pe_one (pe_cmpR op_le (pe_ix (kIxL K) (pe_ix (kIxL K) (kfld K (pv 5)) (pe_dget hu (kfld K (pv 5)) (pv 2) (fun _ _ => rfl)) (fun _ _ => rfl)) (pe_dget hu (kfld K (pv 5)) (pv 3) (fun _ _ => rfl)) (fun _ _ => rfl)) (pv 4) (nomark _))))))))), ?_⟩
    refine ⟨_, rfl, a, S, rfl, hS.q, hgood, by omega, fun H1 b s1 hS1 => ?_⟩
    -- (left, right, limit), = checked_system([difference])
    refine ⟨_, rfl, by show 1 ≤ sizeLine; decide, fun p np => ?_⟩
    have s2 := same_upd np (o := .lst [.ref r])
    refine ⟨p, [e], rfl, ⟨[.ref r], upd_same, .cons ⟨r, rfl, .inl (s2 _ _ (s1 _ _ hrow))⟩ .nil⟩, hge, by simp, fun H3 q s3 hq3 => ?_⟩
    obtain ⟨vq, hq, hpq⟩ := hq3
    cases hpq with
    | cons hx hn =>
      cases hn
      obtain ⟨r2, rfl, hr2⟩ := hx
      refine ⟨q, _, rfl, sq hq, rfl, _, _, rfl, r2, _, rfl, sqt hr2, rfl, _, _, rfl, _, _, rfl, _, _, rfl, rfl, rfl, ?_⟩
      have hS3 : SysAt H3 b S := hS1.mono (s2.trans s3)
      -- names_of(system + [(left, right, limit)])
      refine ⟨_, rfl, _, rfl, _, rfl, _, rfl, by show 3 ≤ sizeLine; decide, fun T1 nT1 => ?_⟩
      have s4 := same_upd nT1 (o := .tup [.str e.1, .str e.2.1, .int e.2.2])
      refine ⟨by show 1 ≤ sizeLine; decide, fun T2 nT2 => ?_⟩
      have s5 := same_upd nT2 (o := .lst [.ref T1])
      obtain ⟨vb, hb, hvb⟩ := hS3.mono (s4.trans s5)
      refine ⟨b, T2, vb, [.ref T1], rfl, rfl, hb, upd_same, szl (by rw [plen hvb]; simp; omega), fun T3 nT3 => ?_⟩
      have s6 := same_upd nT3 (o := .lst (vb ++ [.ref T1]))
      have hS6 : SysAt (upd (upd (upd H3 T1 (.tup [.str e.1, .str e.2.1, .int e.2.2])) T2 (.lst [.ref T1])) T3 (.lst (vb ++ [.ref T1]))) T3 (S ++ [e]) :=
        ⟨_, upd_same, (pmono (fun _ _ q => q.imp fun _ q => ⟨q.1, s6 _ _ q.2⟩) hvb).snoc ⟨T1, rfl, s6 _ _ (s5 _ _ upd_same)⟩⟩
      have hSb : SysAt (upd (upd (upd H3 T1 (.tup [.str e.1, .str e.2.1, .int e.2.2])) T2 (.lst [.ref T1])) T3 (.lst (vb ++ [.ref T1]))) b S := hS3.mono (s4.trans (s5.trans s6))
      have sA : Same H (upd (upd (upd H3 T1 (.tup [.str e.1, .str e.2.1, .int e.2.2])) T2 (.lst [.ref T1])) T3 (.lst (vb ++ [.ref T1]))) := s1.trans (s2.trans (s3.trans (s4.trans (s5.trans s6))))
      generalize upd (upd (upd H3 T1 (.tup [.str e.1, .str e.2.1, .int e.2.2])) T2 (.lst [.ref T1])) T3 (.lst (vb ++ [.ref T1])) = H6 at hS6 hSb sA ⊢
      refine ⟨T3, S ++ [e], rfl, hS6, by simp; omega, fun H7 n s7 nn hn => ?_⟩
      have hl := len_namesOf (S ++ [e])
      rw [List.length_append, List.length_singleton] at hl
      have hin : ∀ d ∈ S ++ [e], d.1 ∈ ("0" : Str) :: namesOf (S ++ [e]) ∧ d.2.1 ∈ ("0" : Str) :: namesOf (S ++ [e]) := sys_in _
      have hie := hin e (by simp)
      have hnd := nd_namesOf (S ++ [e])
      have he0 := hge e (by simp)
      refine ⟨_, rfl, fun _ => True, n, b, namesOf (S ++ [e]), _, S, rfl, fun _ _ => trivial, hn, Lab.of hnd, by omega, hSb.mono s7, fun d hd => hin d (List.mem_append_left _ hd), hgood.ends, fun R eR H8 t s8 ht => ?_, fun eR H8 s8 => ?_⟩
      · refine ⟨_, rfl, rfl, _, rfl, ?_⟩
        rw [decide_eq_false (show ¬ V.ref t = V.non from fun z => by cases z)]
        refine iteF ?_
        obtain ⟨dx, an, ar, asp, rs, shown, sp, hNs, h1, h2, h3, h4, h5, h6, _⟩ := ht.ex
        obtain ⟨i, hi, hil⟩ := ix_of hie.1
        obtain ⟨j, hj, hjl⟩ := ix_of hie.2
        obtain ⟨vi, hvi, ri, rfl, _, hri⟩ := pget h4 hi
        refine ⟨_, rfl, t, C, dx, _, _, rfl, h1, T.cl, T.nR, flds_rows _ _ _, _, rfl, t, C, dx, _, _, rfl, h1, T.cl, T.nS, flds_spots _ _ _, _, rfl, asp, _, rfl, dget h5 (h6 _ _ hi he0.1), ar, rs, _, _, rfl, rfl, sq h3, atI_nat hvi,
          _, rfl, t, C, dx, _, _, rfl, h1, T.cl, T.nS, flds_spots _ _ _, _, rfl, asp, _, rfl, dget h5 (h6 _ _ hj he0.2.1), ri, _, _, _, rfl, rfl, sq hri, atI_nat (row_at hj), ?_⟩
        refine ⟨_, rfl, _, _, rfl, rfl, ?_⟩
        have := hk H8 (sA.trans (s7.trans s8))
        unfold Df.implB at this
        rw [eR] at this
        exact this
      · refine ⟨_, rfl, rfl, _, rfl, iteT ?_⟩
        have := hk H8 (sA.trans (s7.trans s8))
        unfold Df.implB at this
        rw [eR] at this
        exact this
end
end K1

namespace K1
open PySem PySem.Spec PyProof.Rows L2 Ls
/-! ### _table, tight: a system without solutions is refused -/
/-- what the walk asks of an own error without a text -/
structure ExcF (K : PySem.W.Frag) (mg : Str → Option Value) (x : Str) (C : Addr) : Prop where
  gP : mg x = some (.ref C)
  xP : PySem.W.excIn K C [.type "ValueError", .type "Exception", .type "BaseException", .type "object"] "ValueError.__new__" = true
  kP : PySem.W.keepIn K (.ref C) = true
  bP : PySem.W.subIn K (.ref C) (.type "BaseException") = some true
  tP : PySem.W.typeIn K (.ref C) = some (.type "type")
  eP : PySem.W.exmOne K (.ref C) (.ref C) = some true
def moreN (told two : List Str) : List Str := two.filter fun n => decide (n ≠ "0") && !decide (n ∈ told)
theorem Lab.dup {A : List Str} {l : Str} (hA : (A ++ [l]).Nodup) (h0 : ("" : Str) ∉ A) (hl : l ≠ "") : Lab (A ++ [("" : Str), l]) (A ++ [l, l]) := by
  have n1 := List.nodup_append.mp hA
  have hlA : l ∉ A := fun z => n1.2.2 l z l List.mem_cons_self rfl
  refine ⟨?_, by simp, fun i u hi hu => ?_, fun h => absurd (by simp) h⟩
  · rw [List.nodup_append]
    refine ⟨n1.1, by simp [hl.symm], fun x hx y hy e => ?_⟩
    subst e
    rcases List.mem_cons.mp hy with z | z
    · exact h0 (z ▸ hx)
    · exact hlA ((List.mem_singleton.mp z) ▸ hx)
  · rcases Nat.lt_or_ge i A.length with h | h
    · rw [List.getElem?_append_left h] at hi
      refine ⟨by rw [List.getElem?_append_left h]; exact hi, fun j hj e => ?_⟩
      rcases Nat.lt_or_ge j A.length with h2 | h2
      · rw [List.getElem?_append_left h2] at e
        obtain ⟨h3, e3⟩ := List.getElem?_eq_some_iff.mp hi
        obtain ⟨h4, e4⟩ := List.getElem?_eq_some_iff.mp e
        have := (List.getElem_inj n1.1).mp (e3.trans e4.symm)
        omega
      · rw [List.getElem?_append_right h2] at e
        have hm := List.mem_of_getElem? e
        have : u = l := by simpa using hm
        exact hlA (this ▸ List.mem_of_getElem? hi)
    · rw [List.getElem?_append_right h] at hi ⊢
      cases hk : i - A.length with
      | zero =>
        rw [hk] at hi
        exact absurd (Option.some.inj hi).symm hu
      | succ k =>
        rw [hk] at hi
        cases k with
        | zero =>
          have : l = u := Option.some.inj hi
          subst this
          refine ⟨rfl, fun j hj e => ?_⟩
          rw [List.getElem?_append_right (by omega)] at e
          have : j - A.length = (j - A.length - 2) + 2 := by omega
          rw [this] at e
          simp at e
        | succ k => simp at hi
theorem tab_lab {S : List Df3} (hS : GoodS S) {l r : Str} (hl : l ≠ "") (hr : r ≠ "") : ∃ ns, Lab ns (("0" : Str) :: (namesOf S ++ moreN (namesOf S) [l, r])) ∧ l ∈ ns ∧ r ∈ ns ∧ ∀ x, x ∈ ("0" : Str) :: namesOf S → x ∈ ns := by
  have nd0 := nd_namesOf S
  have n1 := List.nodup_cons.mp nd0
  have h00 : ("0" : Str) ≠ "" := by decide +kernel
  have hz : ("" : Str) ∉ ("0" : Str) :: namesOf S := fun z => (List.mem_cons.mp z).elim (fun z => h00 z.symm) hS.names
  by_cases hd : l = r ∧ l ∉ ("0" : Str) :: namesOf S
  · obtain ⟨rfl, hln⟩ := hd
    have hm : moreN (namesOf S) [l, l] = [l, l] := by
      have h1 : l ≠ "0" := fun z => hln (z ▸ List.mem_cons_self)
      have h2 : l ∉ namesOf S := fun z => hln (List.mem_cons_of_mem _ z)
      simp [moreN, h1, h2]
    refine ⟨(("0" : Str) :: namesOf S) ++ [("" : Str), l], ?_, by simp, by simp, fun x hx => List.mem_append_left _ hx⟩
    rw [hm]
    refine Lab.dup (A := ("0" : Str) :: namesOf S) ?_ hz hl
    rw [List.nodup_append]
    refine ⟨nd0, by simp, fun x hx y hy e => ?_⟩
    rw [List.mem_singleton.mp hy] at e
    exact hln (e ▸ hx)
  · have hmem : ∀ x, x = l ∨ x = r → x ∈ (("0" : Str) :: (namesOf S ++ moreN (namesOf S) [l, r])) := fun x hx => by
      by_cases h0 : x = "0"
      · rw [h0]; exact List.mem_cons_self
      · refine List.mem_cons_of_mem _ (List.mem_append.mpr ?_)
        by_cases h1 : x ∈ namesOf S
        · exact .inl h1
        · exact .inr (List.mem_filter.mpr ⟨by rcases hx with rfl | rfl <;> simp, by simp [h0, h1]⟩)
    refine ⟨_, Lab.of ?_, hmem l (.inl rfl), hmem r (.inr rfl), fun x hx => ?_⟩
    · refine List.nodup_cons.mpr ⟨fun h => ?_, List.nodup_append.mpr ⟨n1.2, ?_, fun x hx y hy e => ?_⟩⟩
      · rcases List.mem_append.mp h with h | h
        · exact n1.1 h
        · have := (List.mem_filter.mp h).2
          simp at this
      · by_cases hlr : l = r
        · subst hlr
          have hin : l ∈ ("0" : Str) :: namesOf S := Classical.byContradiction fun z => hd ⟨rfl, z⟩
          have : moreN (namesOf S) [l, l] = [] := by
            rcases List.mem_cons.mp hin with z | z
            · simp [moreN, z]
            · simp [moreN, z]
          rw [this]
          exact List.nodup_nil
        · exact List.Nodup.sublist List.filter_sublist (by simp [hlr])
      · subst e
        have := (List.mem_filter.mp hy).2
        simp at this
        exact this.2 hx
    · rcases List.mem_cons.mp hx with rfl | hx
      · exact List.mem_cons_self
      · exact List.mem_cons_of_mem _ (List.mem_append_left _ hx)
def spTabX (CN C : Addr) : Sp := fun vs H Q E => ∃ (a t : Addr) (S : List Df3) (l r : Str), vs = [.ref a, .ref t] ∧ SysAt H a S ∧ GoodS S ∧ H t = some (.tup [.str l, .str r]) ∧ l ≠ "" ∧ r ≠ "" ∧ S.length ≤ 400 ∧ (Df.addedR Df.blankR S = none → ∀ H', Same H H' → E (.ref CN) none H') ∧
  (∀ R, Df.addedR Df.blankR S = some R → ∀ H' t' ns, Same H H' → l ∈ ns → r ∈ ns → ns.Nodup → ns.length ≤ (namesOf S).length + 3 → (∀ x, x ∈ ("0" : Str) :: namesOf S → x ∈ ns) → TabAt (fun _ => True) C H' t' ns R → Q (.ref t') H')
def spTightX (CN C : Addr) : Sp := fun vs H Q E => ∃ (a : Addr) (S : List Df3) (l r : Str), vs = [.ref a, .str l, .str r] ∧ SysAt H a S ∧ GoodS S ∧ l ≠ "" ∧ r ≠ "" ∧ S.length ≤ 400 ∧ (Df.addedR Df.blankR S = none → ∀ H', Same H H' → E (.ref CN) none H') ∧
  (∀ R, Df.addedR Df.blankR S = some R → ∀ H', Same H H' → Q (if l = r then .int 0 else if Df.HALFI < R l r then .non else .int (R l r)) H')
section
variable {P : Program} {w : World} {K : PySem.W.Frag} {mg : Str → Option Value} {base : Heap} {f C CN : Addr} {fd : FuncData} {k : Nat}
end
end K1

namespace K1
open PySem PySem.Spec PyProof.Rows L2 L2H HotX Ls
section
variable {P : Program} {w : World} {K : PySem.W.Frag} {mg : Str → Option Value} {base : Heap} {f C : Addr} {fd : FuncData} {k : Nat}
--«if:is_limit»
theorem okH_is_limit (F : FnP K "is_limit" s_is_limit [] f fd) (G : Facts mg) : FnH P w K mg base CX0 1 f fd ["thing"] spIsLimit := by
  refine FunD.okH F sc_is_limit (fun vs H Q E h => ?_) (fun cdv A outer s H vs Q E p0 hot0 hr h => ?_)
  · obtain ⟨c, rfl, _⟩ := h
    rfl
  · obtain ⟨c, rfl, h1, h2, hk⟩ := h
    have hu := huH_of hr
    refine ⟨_, PSs.nox (pss_one (ps_ret (pe_and (pe_callB (kIsi K) (by rfl) G.isinstance_ (by decide +kernel) (pa_cons (pv 0) (pa_cons (pe_ty "int" (by rfl) G.int_ (by decide +kernel)) pa_nil))) (pe_and (pe_not (pe_callB (kIsi K) (by rfl) G.isinstance_ (by decide +kernel) (pa_cons (pv 0) (pa_cons (pe_ty "bool" (by rfl) G.bool_ (by decide +kernel)) pa_nil)))) (pe_one (pe_chain op_lt op_lt (pe_op op_sub pe_int (pe_gi (by rfl) G.MOST)) (pv 0) (pe_gi (by rfl) G.MOST))))))), ?_⟩
    refine ⟨_, rfl, _, _, _, _, true, rfl, .ty "int", .base (.int c), kit_ty (by decide +kernel), _, rfl, iteT ?_⟩
    refine ⟨_, rfl, _, _, _, _, false, rfl, .ty "bool", .base (.int c), kit_ty (by decide +kernel), _, rfl, _, rfl, iteT ?_⟩
    refine ⟨_, _, rfl, rfl, _, rfl, _, _, rfl, rfl, _, rfl, ?_⟩
    rw [show decide ((0 : Int) - 1000000000000000000 < c) = true from decide_eq_true (by omega)]
    refine iteT ⟨_, _, rfl, rfl, ?_⟩
    show Q (.bl (decide (c < (1000000000000000000 : Int)))) H
    rw [show decide (c < (1000000000000000000 : Int)) = true from decide_eq_true h2]
    exact hk
--«if:_is_end»
theorem okH_is_end (F : FnP K "_is_end" s_u_is_end [] f fd) (G : Facts mg) : FnH P w K mg base CX0 1 f fd ["thing", "known"] spIsEnd := by
  refine FunD.okH F sc_u_is_end (fun vs H Q E h => ?_) (fun cdv A outer s H vs Q E p0 hot0 hr h => ?_)
  · obtain ⟨c, rfl, _⟩ := h
    rfl
  · obtain ⟨c, rfl, h1, hk⟩ := h
    have hu := huH_of hr
    refine ⟨_, PSs.nox (pss_cons (ps_if (PW.pt (pw_or (pt_not (pt_val (pe_callB (kIsi K) (by rfl) G.isinstance_ (by decide +kernel) (pa_cons (pv 0) (pa_cons (pe_ty "str" (by rfl) G.str_ (by decide +kernel)) pa_nil))))) (pw_or1 (pt_cmpR op_eq (pv 0) pe_str (nomark _))))) (pss_one (ps_ret pe_bl)) pss_nil)
      (pss_one (ps_ret (pe_or (pe_cmpR op_isN (pv 1) pe_non (nomark _)) (pe_or (pe_cmpR op_eq (pv 0) pe_str (nomark _)) (pe_one (pe_cmpR (kIn K) (pv 0) (pv 1) (by rfl)))))))), ?_⟩
    refine ⟨_, rfl, _, _, _, _, true, rfl, .ty "str", .base (.str c), kit_ty (by decide +kernel), _, rfl, ?_⟩
    refine iteF ⟨_, rfl, rfl, _, rfl, ?_⟩
    rw [show decide (V.str c = V.str "") = false from decide_eq_false fun e => h1 (by injection e)]
    refine iteF ?_
    exact ⟨_, rfl, rfl, _, rfl, iteT hk⟩
--«if:names_of»
theorem okH_names_of (F : FnP K "names_of" s_names_of [] f fd) (G : Facts mg) : FnH P w K mg base CX0 1 f fd ["system"] spNamesOf := by
  refine FunD.okH F sc_names_of (fun vs H Q E h => ?_) (fun cdv A outer s H vs Q E p0 hot0 hr h => ?_)
  · obtain ⟨a, S, rfl, _⟩ := h
    rfl
  · obtain ⟨a, S, rfl, ⟨vs, ha, hvs⟩, hlen, hk⟩ := h
    have hu := huH_of hr
    refine ⟨_, PSs.nox (pss_cons (ps_set (i := 1) sc_names_of.nd rfl (.inl rfl) pe_dnewK)
      (pss_cons (L2H.ps_forH PassesOwn.never (hotX hot0 rfl) (hpi_list K (pv 0)) (hpg_tup K (hotX hot0 rfl) (pgs_cons (pg_name (i := 2) sc_names_of.nd rfl (by first | exact .inl rfl | exact .inr rfl)) (pgs_cons (pg_name (i := 3) sc_names_of.nd rfl (by first | exact .inl rfl | exact .inr rfl)) (pgs_cons (pg_name (i := 4) sc_names_of.nd rfl (by first | exact .inl rfl | exact .inr rfl)) pgs_nil))))
        (pss_one (L2H.ps_forH PassesOwn.never (hotX hot0 rfl) (hpi_tup K (pe_tup (pa_cons (pv 2) (pa_cons (pv 3) pa_nil)))) (pg_name (i := 5) sc_names_of.nd rfl (by first | exact .inl rfl | exact .inr rfl))
          (pss_one (ps_if (pt_cmpR op_ne (pv 5) pe_str (nomark _)) (pss_one (ps_dput hu (pv 1) (pv 5) pe_bl rfl)) pss_nil)))))
      (pss_one (ps_ret (pe_callTy (hcall_list_dK (hotX hot0 rfl)) (by rfl) G.list_ (by decide +kernel) (pa_cons (pv 1) pa_nil)))))), ?_⟩
    intro d hd
    refine ⟨_, rfl, a, rfl, ⟨_, sq (same_upd hd _ _ ha)⟩, ?_⟩
    have tt : ∀ ks : List Str, ks.length ≤ 900000 → (tabV ks fun _ => V.bl true).length < sizeLine := fun ks h => by
      rw [tabV_len]
      exact szlt (by omega)
    have put1 : ∀ (ks : List Str) (n : Str), n ≠ "0" → putK (tabV ks fun _ => V.bl true) (Sum.inr n : Key) (V.bl true) = tabV (nm1 ks n) fun _ => V.bl true := fun ks n h => by
      rw [putK_tab, show nm1 ks n = Df.ins ks n from if_neg h]
      refine tabV_congr fun m _ => ?_
      unfold Df.put
      split <;> rfl
    refine for_it (walk_list (K := K) (a := a) (xs := vs)) (fun i σ H' => ∃ x2 x3 x4 x5, σ = [some (.ref a), some (.ref d), x2, x3, x4, x5] ∧ Same H H' ∧ H' d = some (.dK (tabV (namesOf (S.take i)) fun _ => V.bl true)))
      ⟨none, none, none, none, rfl, same_upd hd, upd_same⟩ (fun i σ H' _ ⟨_, _, _, _, _, s1, _⟩ => sq (s1 _ _ ha)) ?_ ?_
    · rintro i x σ H9 H1 hi ⟨x2, x3, x4, x5, rfl, s1, hd1⟩ ⟨rfl, ex⟩
      rw [plen hvs] at hi
      obtain ⟨v, hv', r, rfl, hrow⟩ := pget hvs (List.getElem?_eq_getElem hi)
      rw [hv'] at ex
      cases ex
      refine ⟨r, _, rfl, sqt (s1 _ _ hrow), rfl, _, _, rfl, _, _, rfl, _, _, rfl, rfl, ?_⟩
      refine ⟨_, rfl, _, rfl, by show 2 ≤ sizeLine; decide, fun p np => ?_⟩
      refine ⟨p, rfl, ⟨_, sqt upd_same⟩, ?_⟩
      have hdp : d ≠ p := ne_of_none hd1 np
      have hk2 : ∀ j, j ≤ 2 → (([S[i].1, S[i].2.1].take j).foldl nm1 (namesOf (S.take i))).length ≤ 900000 := fun j hj => by
        have h1 := len_namesOf (S.take i)
        rw [List.length_take] at h1
        have h2 : ∀ (l : List Str) (ks : List Str), (l.foldl nm1 ks).length ≤ ks.length + l.length := by
          intro l
          induction l with
          | nil => intro ks; simp
          | cons n l ih =>
            intro ks
            have := ih (nm1 ks n)
            have := len_nm1 ks n
            rw [List.foldl_cons, List.length_cons]
            omega
        have h3 := h2 ([S[i].1, S[i].2.1].take j) (namesOf (S.take i))
        have h4 : ([S[i].1, S[i].2.1].take j).length ≤ 2 := by rw [List.length_take]; simp; omega
        omega
      refine for_it (walk_tup (K := K) (a := p) (xs := [V.str S[i].1, V.str S[i].2.1])) (fun j σ H' => ∃ x5, σ = [some (.ref a), some (.ref d), some (.str S[i].1), some (.str S[i].2.1), some (.int S[i].2.2), x5] ∧ Same H H' ∧ H' p = some (.tup [V.str S[i].1, V.str S[i].2.1]) ∧
          H' d = some (.dK (tabV (([S[i].1, S[i].2.1].take j).foldl nm1 (namesOf (S.take i))) fun _ => V.bl true)))
        ⟨_, rfl, s1.trans (same_upd np), upd_same, by rw [upd_ne hdp]; exact hd1⟩ (fun j σ H' _ ⟨_, _, _, hp, _⟩ => sqt hp) ?_ ?_
      · rintro j x σ H9 H2 hj ⟨x5, rfl, s2, hp2, hd2⟩ ⟨rfl, ex⟩
        have hj2 : j < [S[i].1, S[i].2.1].length := hj
        have ex : x = V.str ([S[i].1, S[i].2.1][j]) := by
          have e1 : [V.str S[i].1, V.str S[i].2.1] = [S[i].1, S[i].2.1].map V.str := rfl
          rw [e1, List.getElem?_map, List.getElem?_eq_getElem hj2] at ex
          exact (Option.some.inj ex).symm
        subst ex
        have hf : ([S[i].1, S[i].2.1].take (j + 1)).foldl nm1 (namesOf (S.take i)) = nm1 (([S[i].1, S[i].2.1].take j).foldl nm1 (namesOf (S.take i))) [S[i].1, S[i].2.1][j] := by
          rw [take_snoc hj2, List.foldl_append]
          rfl
        refine ⟨_, rfl, rfl, _, rfl, ?_⟩
        by_cases h0 : [S[i].1, S[i].2.1][j] = "0"
        · rw [show (!decide (V.str [S[i].1, S[i].2.1][j] = V.str "0")) = false by rw [h0]; rfl]
          refine iteF ⟨_, rfl, s2, hp2, ?_⟩
          rw [hf, show nm1 _ [S[i].1, S[i].2.1][j] = _ from if_pos h0]
          exact hd2
        · rw [show (!decide (V.str [S[i].1, S[i].2.1][j] = V.str "0")) = true by rw [decide_eq_false fun e => h0 (by injection e)]; rfl]
          refine iteT ⟨_, rfl, _, rfl, d, _, rfl, DPut.k (k := (Sum.inr [S[i].1, S[i].2.1][j] : Key)) hd2 (tt _ (hk2 j (Nat.le_of_lt hj2))), _, rfl, same_mut s2 hd, by rw [upd_ne hdp.symm]; exact hp2, ?_⟩
          rw [upd_same, put1 _ _ h0, hf]
      · rintro σ H2 ⟨x5, rfl, s2, hp2, hd2⟩
        refine ⟨_, _, _, _, rfl, s2, ?_⟩
        rw [take_snoc hi, namesOf_snoc]
        exact hd2
    · rintro σ H1 ⟨x2, x3, x4, x5, rfl, s1, hd1⟩
      rw [plen hvs, List.take_length] at hd1
      refine ⟨_, rfl, d, _, rfl, hd1, fun q nq => ?_⟩
      refine hk _ q (s1.trans (same_upd nq)) (s1.free nq) ?_
      rw [upd_same, tabV_keys]
--«if:checked_system»
theorem okH_checked (F : FnP K "checked_system" s_checked_system [.non] f fd) (G : Facts mg) (H_is_limit : CalH P w K mg base 1 "is_limit" spIsLimit []) (H_u_is_end : CalH P w K mg base 1 "_is_end" spIsEnd []) :
    FnH P w K mg base CX0 2 f fd ["system", "names"] spChecked := by
  refine FunD.okH F sc_checked_system (fun vs H Q E h => ?_) (fun cdv A outer s H vs Q E p0 hot0 hr h => ?_)
  · obtain ⟨c, S, rfl, _⟩ := h
    rfl
  · obtain ⟨a, S, rfl, ⟨vs, ha, hvs⟩, hgood, hlen, hk⟩ := h
    have hu := huH_of hr
    refine ⟨_, PSs.nox (pss_cons (ps_set (i := 2) sc_checked_system.nd rfl (.inl rfl) (pe_lst pa_nil))
      (pss_cons (L2H.ps_forH PassesOwn.never (hotX hot0 rfl) (hpi_enum K (by rfl) G.enumerate_ (pa_cons (pv 0) pa_nil)) (hpg_tup K (hotX hot0 rfl) (pgs_cons (pg_name (i := 3) sc_checked_system.nd rfl (by first | exact .inl rfl | exact .inr rfl)) (pgs_cons (pg_name (i := 4) sc_checked_system.nd rfl (by first | exact .inl rfl | exact .inr rfl)) pgs_nil)))
        (pss_cons (ps_set (i := 5) sc_checked_system.nd rfl (.inl rfl) (pe_and (pe_callB (kIsiT K) (by rfl) G.isinstance_ (by decide +kernel) (pa_cons (pv 4) (pa_cons (pe_tup (pa_cons (pe_ty "tuple" (by rfl) G.tuple_ (by decide +kernel)) (pa_cons (pe_ty "list" (by rfl) G.list_ (by decide +kernel)) pa_nil))) pa_nil))) (pe_one (pe_cmpR op_eq (pe_callB (kLen K) (by rfl) G.len_ PySem.boot_len (pa_cons (pv 4) pa_nil)) pe_int (nomark _)))))
        (pss_cons (ps_set (i := 5) sc_checked_system.nd rfl (.inl rfl) (pe_and (pv 5) (pe_and (pe_ch H_u_is_end hr (hotX hot0 rfl) (by decide) (by rfl) (pa_cons (pe_ix (kIxQ K) (pv 4) pe_int (fun _ _ => rfl)) (pa_cons (pv 1) pa_nil))) (pe_one (pe_ch H_u_is_end hr (hotX hot0 rfl) (by decide) (by rfl) (pa_cons (pe_ix (kIxQ K) (pv 4) pe_int (fun _ _ => rfl)) (pa_cons (pv 1) pa_nil)))))))
        (pss_cons (ps_if (PW.pt (pw_or (pt_not (pt_val (pv 5))) (pw_or (pt_cmpR op_eq (pe_ix (kIxQ K) (pv 4) pe_int (fun _ _ => rfl)) (pe_ix (kIxQ K) (pv 4) pe_int (fun _ _ => rfl)) (nomark _)) (pw_or1 (pt_not (pt_val (pe_ch H_is_limit hr (hotX hot0 rfl) (by decide) (by rfl) (pa_cons (pe_ix (kIxQ K) (pv 4) pe_int (fun _ _ => rfl)) pa_nil)))))))) (pss_one ps_never) pss_nil)
        (pss_one (ps_expr (pe_bm PySem.F.plainAttrs_list PySem.F.slot_list_append PySem.F.type_list_append mt_append (pv 2) (pa_cons (pe_tup (pa_cons (pe_ix (kIxQ K) (pv 4) pe_int (fun _ _ => rfl)) (pa_cons (pe_ix (kIxQ K) (pv 4) pe_int (fun _ _ => rfl)) (pa_cons (pe_ix (kIxQ K) (pv 4) pe_int (fun _ _ => rfl)) pa_nil)))) pa_nil))))))))
      (pss_one (ps_ret (pv 2))))), ?_⟩
    refine ⟨by show 0 ≤ sizeLine; decide, fun d hd => ?_⟩
    refine ⟨_, rfl, a, vs, rfl, sq (same_upd hd _ _ ha), ?_⟩
    refine for_it (walk_enum (K := K) (a := a) (xs := vs)) (fun i σ H' => ∃ x3 x4 x5 out, σ = [some (.ref a), some .non, some (.ref d), x3, x4, x5] ∧ Same H H' ∧ H' d = some (.lst out) ∧ Paired (RowT H') out (S.take i))
      ⟨none, none, none, [], rfl, same_upd hd, upd_same, .nil⟩ (fun i σ H' _ ⟨_, _, _, _, _, s1, _⟩ => sq (s1 _ _ ha)) ?_ ?_
    · rintro i x σ H0 H' hi ⟨x3, x4, x5, out, rfl, s1, hd1, hp⟩ ⟨T', y1, y2, rfl, nT, rfl, e1, e2⟩
      cases e1
      rw [plen hvs] at hi
      obtain ⟨v, hv', r, rfl, hrow⟩ := pget hvs (List.getElem?_eq_getElem hi)
      have e2 : vs[i]? = some y2 := e2
      rw [hv'] at e2
      cases e2
      obtain ⟨g1, g2, g3, g4, g5⟩ := hgood _ (List.getElem_mem hi)
      have s2 : Same H0 (upd H0 T' (.tup [V.int (i : Int), V.ref r])) := same_upd nT
      have hrow2 := (hrow.imp (s1 _ _) (s1 _ _)).imp (s2 _ _) (s2 _ _)
      have hd2 := s2 _ _ hd1
      refine ⟨T', _, rfl, sqt upd_same, rfl, _, _, rfl, _, _, rfl, rfl, ?_⟩
      generalize upd H0 T' (.tup [V.int (i : Int), V.ref r]) = H2 at s2 hrow2 hd2 ⊢
      -- good = isinstance(row, (tuple, list)) and len(row) == 3
      refine ⟨_, rfl, by show 2 ≤ sizeLine; decide, fun p np => ?_⟩
      have hrow3 := hrow2.imp (same_upd np (o := .tup [.ty "tuple", .ty "list"]) _ _) (same_upd np (o := .tup [.ty "tuple", .ty "list"]) _ _)
      have hty : ∃ t, TyX K (upd H2 p (.tup [.ty "tuple", .ty "list"])) (.ref r) t ∧ PySem.W.kitAny K t [.type "tuple", .type "list"] = some true := hrow3.elim
        (fun h => ⟨_, .base (.tup h), kitAny_cons (b := true) (kit_ty (by decide +kernel)) (fun z => by cases z) fun _ => rfl⟩)
        (fun h => ⟨_, .base (.lst h), kitAny_cons (b := false) (kit_ty (by decide +kernel)) (fun _ => kitAny_cons (b := true) (kit_ty (by decide +kernel)) (fun z => by cases z) fun _ => rfl) fun z => by cases z⟩)
      obtain ⟨ty, ty1, ty2⟩ := hty
      refine ⟨_, p, _, ty, _, true, rfl, upd_same, .cons (.ty "tuple") (.cons (.ty "list") .nil), ty1, ty2, _, rfl, iteT ?_⟩
      refine ⟨_, rfl, r, rowT S[i], rfl, hrow3.symm.imp sq sqt, rfl, ?_⟩
      have s3 : Same H2 (upd H2 p (.tup [.ty "tuple", .ty "list"])) := same_upd np
      have hd3 := s3 _ _ hd2
      generalize upd H2 p (.tup [.ty "tuple", .ty "list"]) = H3 at s3 hrow3 hd3 ⊢
      -- good and both ends
      refine ⟨_, rfl, _, rfl, iteT ?_⟩
      refine ⟨_, rfl, ixq hrow3 (i := 0) (v := .str S[i].1) rfl ⟨_, rfl, ?_⟩⟩
      refine ⟨S[i].1, rfl, g1, _, rfl, iteT ?_⟩
      refine ⟨_, rfl, ixq hrow3 (i := 1) (v := .str S[i].2.1) rfl ⟨_, rfl, ?_⟩⟩
      refine ⟨S[i].2.1, rfl, g2, ?_⟩
      -- not good or equal ends or no limit
      refine ⟨_, rfl, _, rfl, iteF ?_⟩
      refine ⟨_, rfl, ixq hrow3 (i := 0) (v := .str S[i].1) rfl ?_⟩
      refine ⟨_, rfl, ixq hrow3 (i := 1) (v := .str S[i].2.1) rfl ?_⟩
      refine ⟨rfl, _, rfl, ?_⟩
      rw [show decide (V.str S[i].1 = V.str S[i].2.1) = false from decide_eq_false fun e => g3 (by injection e)]
      refine iteF ?_
      refine ⟨_, rfl, ixq hrow3 (i := 2) (v := .int S[i].2.2) rfl ?_⟩
      refine ⟨S[i].2.2, rfl, g4, g5, _, rfl, iteF ?_⟩
      -- found.append
      refine ⟨_, rfl, .inl ⟨rfl, _, sq hd3⟩, ?_⟩
      refine ⟨_, rfl, ixq hrow3 (i := 0) (v := .str S[i].1) rfl ?_⟩
      refine ⟨_, rfl, ixq hrow3 (i := 1) (v := .str S[i].2.1) rfl ?_⟩
      refine ⟨_, rfl, ixq hrow3 (i := 2) (v := .int S[i].2.2) rfl ?_⟩
      refine ⟨by show 3 ≤ sizeLine; decide, fun q nq => ?_⟩
      have s4 := same_upd nq (o := .tup [.str S[i].1, .str S[i].2.1, .int S[i].2.2])
      have sT : Same H0 H3 := s2.trans s3
      have sA : Same H0 (upd H3 q (.tup [.str S[i].1, .str S[i].2.1, .int S[i].2.2])) := sT.trans s4
      refine ⟨d, out, .ref q, rfl, rfl, s4 _ _ hd3, ?_, _, _, _, _, rfl, same_mut (s1.trans sA) hd, upd_same, ?_⟩
      · rw [plen hp, List.length_take]
        exact szlt (by omega)
      · rw [take_snoc hi]
        have hdq : q ≠ d := (ne_of_none hd3 nq).symm
        have keep : ∀ v e, RowT H0 v e → RowT (upd (upd H3 q (.tup [.str S[i].1, .str S[i].2.1, .int S[i].2.2])) d (.lst (out ++ [.ref q]))) v e := fun v e ⟨r', e1, e2⟩ =>
          ⟨r', e1, by
            have h1 := sA _ _ e2
            have : r' ≠ d := fun z => by rw [z, hd1] at e2; cases e2
            rw [upd_ne this]; exact h1⟩
        exact (pmono keep hp).snoc ⟨q, rfl, by rw [upd_ne hdq]; exact upd_same⟩
    · rintro σ H1 ⟨x3, x4, x5, out, rfl, s1, hd1, hp⟩
      rw [plen hvs, List.take_length] at hp
      exact ⟨_, rfl, hk H1 d s1 ⟨out, hd1, hp⟩⟩
--«if:_cycle»
theorem okH_cycle (F : FnP K "_cycle" s_u_cycle [] f fd) (G : Facts mg) : FnH P w K mg base CX0 1 f fd ["system", "before", "name"] spCycle := by
  refine FunD.okH F sc_u_cycle (fun vs H Q E h => ?_) (fun cdv A outer s H vs Q E p0 hot0 hr h => ?_)
  · obtain ⟨a, bf, x, y, S, ks, b, d, rfl, _⟩ := h
    rfl
  · obtain ⟨a, bf, x, y, S, ks, b, d, rfl, ⟨vs, ha, hvs⟩, hbf, hkl, hpre, hback, hy, hd0, hd9, hdy, hin, hmin, hk⟩ := h
    have hu := huH_of hr
    refine ⟨_, PSs.nox (pss_cons (L2H.ps_forH PassesOwn.never (hotX hot0 rfl) (L2H.pi_range1H (by rfl) G.range_ (pa_cons (pe_op op_add (pe_callB call_lenD (by rfl) G.len_ PySem.boot_len (pa_cons (pv 1) pa_nil)) pe_int) pa_nil)) (pg_name (i := 3) sc_u_cycle.nd rfl (by first | exact .inl rfl | exact .inr rfl))
        (pss_one (ps_set (i := 2) sc_u_cycle.nd rfl (.inl rfl) (pe_ix (kIxT K) (pe_ix (kIxL K) (pv 0) (pe_dget hu (pv 1) (pv 2) (fun _ _ => rfl)) (fun _ _ => rfl)) pe_int (fun _ _ => rfl)))))
      (pss_cons (ps_set (i := 4) sc_u_cycle.nd rfl (.inl rfl) (pv 2))
      (pss_cons (ps_set (i := 5) sc_u_cycle.nd rfl (.inl rfl) (pe_lst pa_nil))
      (pss_one (ps_while PassesOwn.never (pt_val pe_bl) (pss_cons (ps_expr (pe_bm PySem.F.plainAttrs_list PySem.F.slot_list_append PySem.F.type_list_append mt_append (pv 5) (pa_cons (pe_dget hu (pv 1) (pv 2) (fun _ _ => rfl)) pa_nil)))
        (pss_cons (ps_set (i := 2) sc_u_cycle.nd rfl (.inl rfl) (pe_ix (kIxT K) (pe_ix (kIxL K) (pv 0) (pe_dget hu (pv 1) (pv 2) (fun _ _ => rfl)) (fun _ _ => rfl)) pe_int (fun _ _ => rfl)))
        (pss_one (ps_if (pt_cmpR op_eq (pv 2) (pv 4) (nomark _)) (pss_one (ps_ret (pv 5))) pss_nil))))))))), ?_⟩
    have step : ∀ n, n ∈ ks → ∀ H', Same H H' → ∃ r v c, valV (nV ks b) (Sum.inr n : Key) = some (V.int (b n : Int)) ∧ vs[b n]? = some (V.ref r) ∧ v = Df.nx S b n ∧ H' r = some (.tup (rowT (n, v, c))) := fun n hn H' s => by
      obtain ⟨c, e⟩ := hpre n hn
      obtain ⟨v, hv, r, rfl, hr'⟩ := pget hvs e
      exact ⟨r, _, c, valV_tab_in hn, hv, rfl, s _ _ hr'⟩
    refine ⟨_, rfl, bf, _, rfl, hbf, ?_⟩
    rw [show (nV ks b).length = ks.length from tabV_len _ _]
    refine ⟨_, _, rfl, rfl, (ks.length : Int) + 1, rfl, by omega, by omega, ?_⟩
    refine for_it (walk_range (lo := 0) (n := ((ks.length : Int) + 1).toNat)) (fun i σ H' => ∃ x3 x4 x5, H' = H ∧ σ = [some (.ref a), some (.ref bf), some (.str (Df.it S b i x)), x3, x4, x5])
      ⟨none, none, none, rfl, rfl⟩ (fun _ _ _ _ _ => True.intro) ?_ ?_
    · rintro i x' σ H9 H1 hi ⟨x3, x4, x5, rfl, rfl⟩ ⟨rfl, rfl⟩
      obtain ⟨r, v, c, e1, e2, rfl, e3⟩ := step _ (hback i (by omega)) H1 (Same.refl H1)
      refine ⟨_, rfl, _, rfl, _, rfl, bf, _, rfl, dget hbf e1, a, vs, _, _, rfl, rfl, sq ha, atI_nat e2, r, _, _, _, rfl, rfl, sqt e3, rfl, ?_⟩
      exact ⟨_, _, _, rfl, rfl⟩
    · rintro σ H1 ⟨x3, x4, x5, rfl, rfl⟩
      rw [show ((ks.length : Int) + 1).toNat = ks.length + 1 by omega, ← hy]
      refine ⟨_, rfl, ?_⟩
      refine ⟨by show 0 ≤ sizeLine; decide, fun F hF => ?_⟩
      refine ⟨fun m σ H' => ∃ i x3, i < d ∧ m = d - i ∧ σ = [some (.ref a), some (.ref bf), some (.str (Df.it S b i y)), x3, some (.str y), some (.ref F)] ∧ Same H1 H' ∧ H' F = some (.lst (ringV ((List.range i).map fun i => b (Df.it S b i y)))),
        ⟨d, 0, x3, hd0, rfl, rfl, same_upd hF, upd_same⟩, ?_⟩
      rintro m σ H2 ⟨i, x3, hi, rfl, rfl, s2, hF2⟩
      obtain ⟨r, v, c, e1, e2, rfl, e3⟩ := step _ (hin i) H2 s2
      refine ⟨_, rfl, iteT ⟨fun σ' H' => ∃ m', m' < d - i ∧ _, fun _ _ h => h, ?_⟩⟩
      have hb2 := s2 _ _ hbf
      have hFb : F ≠ bf := (ne_of_none hbf hF).symm
      refine ⟨_, rfl, .inl ⟨rfl, _, sq hF2⟩, _, rfl, _, rfl, bf, _, rfl, dget hb2 e1, F, _, _, rfl, rfl, hF2, ?_, ?_⟩
      · unfold ringV
        rw [List.length_map, List.length_map, List.length_range]
        exact szlt (by omega)
      have s3 : Same H1 (upd H2 F (.lst (ringV ((List.range i).map fun i => b (Df.it S b i y)) ++ [V.int (b (Df.it S b i y) : Int)]))) := same_mut s2 hF
      have hF3 : (upd H2 F (.lst (ringV ((List.range i).map fun i => b (Df.it S b i y)) ++ [V.int (b (Df.it S b i y) : Int)]))) F = some (.lst (ringV ((List.range (i + 1)).map fun i => b (Df.it S b i y)))) := by
        rw [upd_same, List.range_succ]
        simp [ringV]
      obtain ⟨r, v, c, e1, e2, e4, e3⟩ := step _ (hin i) _ s3
      refine ⟨_, rfl, _, rfl, _, rfl, bf, _, rfl, dget (s3 _ _ hbf) e1, a, vs, _, _, rfl, rfl, sq (s3 _ _ ha), atI_nat e2, r, _, _, _, rfl, rfl, sqt e3, rfl, ?_⟩
      have e5 : v = Df.it S b (i + 1) y := e4
      subst e5
      refine ⟨_, rfl, _, rfl, rfl, _, rfl, ?_⟩
      by_cases he : Df.it S b (i + 1) y = y
      · rw [show decide (V.str (Df.it S b (i + 1) y) = V.str y) = true by rw [he]; exact decide_eq_true rfl]
        have hd1 : i + 1 = d := Nat.le_antisymm hi (Nat.le_of_not_lt fun z => hmin (i + 1) (Nat.succ_pos i) z he)
        rw [hd1] at hF3
        exact iteT ⟨_, rfl, hk _ F s3 hF3⟩
      · rw [show decide (V.str (Df.it S b (i + 1) y) = V.str y) = false from decide_eq_false fun e => he (by injection e)]
        have hd1 : i + 1 < d := Nat.lt_of_le_of_ne hi fun z => he (z ▸ hdy)
        exact iteF ⟨d - (i + 1), by omega, i + 1, _, hd1, rfl, rfl, s3, hF3⟩
--«if:ring»
theorem okH_ring (F : FnP K "ring" s_ring [] f fd) (G : Facts mg) (H_checked_system : CalH P w K mg base 2 "checked_system" spChecked [.non]) (H_names_of : CalH P w K mg base 1 "names_of" spNamesOf []) (H_u_cycle : CalH P w K mg base 1 "_cycle" spCycle []) :
    FnH P w K mg base CX0 3 f fd ["system"] spRing := by
  refine FunD.okH F sc_ring (fun vs H Q E h => ?_) (fun cdv A outer s H vs Q E p0 hot0 hr h => ?_)
  · obtain ⟨a, S, rfl, _⟩ := h
    rfl
  · obtain ⟨a, S, rfl, hS, hgood, hlen, hkN, hkR⟩ := h
    have hu := huH_of hr
    refine ⟨_, PSs.nox (pss_cons (ps_set (i := 0) sc_ring.nd rfl (.inl rfl) (pe_ch H_checked_system hr (hotX hot0 rfl) (by decide) (by rfl) (pa_cons (pv 0) pa_nil)))
      (pss_cons (ps_set (i := 1) sc_ring.nd rfl (.inl rfl) (pe_op op_cat (pe_lst (pa_cons pe_str pa_nil)) (pe_ch H_names_of hr (hotX hot0 rfl) (by decide) (by rfl) (pa_cons (pv 0) pa_nil))))
      (pss_cons (ps_setDcH (i := 2) (own := [("name", 3)]) (g := gName 3) (tt := tYes) (hotX hot0 rfl) sc_ring.nd rfl rfl (sw_trueD rfl rfl rfl (by decide +kernel)) (hpi_list K (pv 1)) (blkOk_by (by kernel_rfl)) (fun _ _ _ _ _ => (pg_name (i := 3) sc_ring.nd rfl (by first | exact .inl rfl | exact .inr rfl))) (fun _ _ _ _ _ => pts_nil) (fun _ _ _ _ _ => (pv 3)) (fun _ _ _ _ _ => pe_int))
      (pss_cons (ps_set (i := 4) sc_ring.nd rfl (.inl rfl) pe_dnewK)
      (pss_cons (L2H.ps_forH PassesOwn.never (hotX hot0 rfl) (L2H.pi_range1H (by rfl) G.range_ (pa_cons (pe_op op_add (pe_callB (kLen K) (by rfl) G.len_ PySem.boot_len (pa_cons (pv 1) pa_nil)) pe_int) pa_nil)) (pg_name (i := 5) sc_ring.nd rfl (by first | exact .inl rfl | exact .inr rfl))
        (pss_cons (ps_set (i := 6) sc_ring.nd rfl (.inl rfl) pe_non)
        (pss_cons (L2H.ps_forH PassesOwn.never (hotX hot0 rfl) (hpi_enum K (by rfl) G.enumerate_ (pa_cons (pv 0) pa_nil)) (hpg_tup K (hotX hot0 rfl) (pgs_cons (pg_name (i := 7) sc_ring.nd rfl (by first | exact .inl rfl | exact .inr rfl)) (pgs_cons (hpg_tup K (hotX hot0 rfl) (pgs_cons (pg_name (i := 8) sc_ring.nd rfl (by first | exact .inl rfl | exact .inr rfl)) (pgs_cons (pg_name (i := 9) sc_ring.nd rfl (by first | exact .inl rfl | exact .inr rfl)) (pgs_cons (pg_name (i := 10) sc_ring.nd rfl (by first | exact .inl rfl | exact .inr rfl)) pgs_nil)))) pgs_nil)))
          (pss_one (ps_if (pt_cmpR op_lt (pe_op op_add (pe_dget hu (pv 2) (pv 9) (fun _ _ => rfl)) (pv 10)) (pe_dget hu (pv 2) (pv 8) (fun _ _ => rfl)) (nomark _)) (pss_cons (ps_dput hu (pv 2) (pv 8) (pe_op op_add (pe_dget hu (pv 2) (pv 9) (fun _ _ => rfl)) (pv 10)) rfl)
            (pss_cons (ps_dput hu (pv 4) (pv 8) (pv 7) rfl)
            (pss_one (ps_set (i := 6) sc_ring.nd rfl (.inl rfl) (pv 8))))) pss_nil)))
        (pss_cons (ps_if (pt_cmpR op_isN (pv 6) pe_non (nomark _)) (pss_one (ps_ret pe_non)) pss_nil)
        (pss_one (ps_if (pt_cmpR op_eq (pv 5) (pe_callB (kLen K) (by rfl) G.len_ PySem.boot_len (pa_cons (pv 1) pa_nil)) (nomark _)) (pss_one (ps_ret (pe_ch H_u_cycle hr (hotX hot0 rfl) (by decide) (by rfl) (pa_cons (pv 0) (pa_cons (pv 4) (pa_cons (pv 6) pa_nil)))))) pss_nil))))))
      (pss_one (ps_ret pe_non))))))), ?_⟩
    refine ⟨_, rfl, a, S, rfl, hS, hgood, by omega, fun H1 b s1 hS1 => ?_⟩
    -- names
    refine ⟨by show 1 ≤ sizeLine; decide, fun p np => ?_⟩
    have s2 := same_upd np (o := .lst [.str "0"])
    refine ⟨_, rfl, b, S, rfl, hS1.mono s2, by omega, fun H3 q s3 nq hq => ?_⟩
    have hl1 := len_namesOf S
    have hnd := nd_namesOf S
    have hpq : H3 p = some (.lst [.str "0"]) := s3 _ _ upd_same
    refine ⟨p, q, [.str "0"], (namesOf S).map V.str, rfl, rfl, hpq, hq, szl (by simp; omega), fun nl hnl => ?_⟩
    generalize hns : ("0" : Str) :: namesOf S = ns at hnd
    have hcat : [V.str "0"] ++ (namesOf S).map V.str = ns.map V.str := by rw [← hns]; rfl
    rw [hcat]
    have hnl1 : ns.length ≤ 1 + 2 * S.length := by rw [← hns, List.length_cons]; omega
    have hinS : ∀ e ∈ S, e.1 ∈ ns ∧ e.2.1 ∈ ns := fun e he => by
      rw [← hns]
      exact ⟨in_names ⟨e, he, .inl rfl⟩, in_names ⟨e, he, .inr rfl⟩⟩
    have s4 := same_upd hnl (o := .lst (ns.map V.str))
    have sA : Same H (upd H3 nl (.lst (ns.map V.str))) := s1.trans (s2.trans (s3.trans s4))
    have hS4 : SysAt (upd H3 nl (.lst (ns.map V.str))) b S := hS1.mono (s2.trans (s3.trans s4))
    have hn4 : (upd H3 nl (.lst (ns.map V.str))) nl = some (.lst (ns.map V.str)) := upd_same
    generalize upd H3 nl (.lst (ns.map V.str)) = H4 at sA hS4 hn4 ⊢
    obtain ⟨vs, hb4, hvs⟩ := hS4
    -- worth
    refine ⟨_, rfl, nl, rfl, ⟨_, sq hn4⟩, fun dw hdw => ?_⟩
    refine dc_it (walk_list (K := K) (a := nl) (xs := ns.map V.str)) (fun i H' => Same H4 H' ∧ H' dw = some (.dK (ptV (ns.take i) x0))) ⟨same_upd hdw, upd_same⟩ (fun i H' _ ⟨s5, _⟩ => sq (s5 _ _ hn4)) ?_ ?_
    · rintro i x H9 H' hi ⟨s5, hd⟩ ⟨rfl, ex⟩
      rw [List.length_map] at hi
      have ex : x = V.str ns[i] := by
        rw [List.getElem?_map, List.getElem?_eq_getElem hi] at ex
        exact (Option.some.inj ex).symm
      subst ex
      have hno : ns[i] ∉ ns.take i := fun hm => by
        obtain ⟨j, hj, ej⟩ := List.mem_take_iff_getElem.mp hm
        have := (List.getElem_inj hnd).mp ej
        omega
      refine ⟨rfl, _, rfl, ptV (ns.take i) x0, Sum.inr ns[i], rfl, hd, ?_, same_mut s5 hdw, ?_⟩
      · rw [show (ptV (ns.take i) x0).length = (ns.take i).length from tabV_len _ _, List.length_take]
        exact szlt (by omega)
      · rw [upd_same, ptV_put hno, take_snoc hi]
        have : Df.put x0 ns[i] 0 = x0 := by
          funext m
          unfold Df.put x0
          split <;> rfl
        rw [this]
    rintro H5 ⟨s5, hw5⟩
    rw [List.length_map, List.take_length] at hw5
    -- before
    intro db hdb
    have hwb : dw ≠ db := ne_of_none hw5 hdb
    have hdb4 : H4 db = none := s5.free hdb
    -- the turns
    refine ⟨_, rfl, nl, _, rfl, .inl (sq (same_upd hdb _ _ (s5 _ _ hn4))), ?_⟩
    rw [List.length_map]
    refine ⟨_, _, rfl, rfl, (ns.length : Int) + 1, rfl, by omega, by omega, ?_⟩
    refine for_it (walk_range (lo := 0) (n := ((ns.length : Int) + 1).toNat)) (fun t σ H' => ∃ x3 x5 x6 x7 x8 x9 x10 w ks bb τ, t ≤ ns.length ∧ σ = [some (.ref b), some (.ref nl), some (.ref dw), x3, some (.ref db), x5, x6, x7, x8, x9, x10] ∧ Same H4 H' ∧
        H' dw = some (.dK (ptV ns w)) ∧ H' db = some (.dK (nV ks bb)) ∧ Df.BF S w ks bb τ t 0)
      ⟨_, _, _, _, _, _, _, x0, [], fun _ => 0, fun _ => 0, Nat.zero_le _, rfl, s5.trans (same_upd hdb), by rw [upd_ne hwb]; exact hw5, upd_same, Df.BF.start S x0 _⟩ (fun _ _ _ _ _ => True.intro) ?_ ?_
    · rintro t x σ H9 H6 ht ⟨x3, x5, x6, x7, x8, x9, x10, w, ks, bb, τ, htn, rfl, s6, hw6, hb6, bf⟩ ⟨rfl, rfl⟩
      -- last = None; the edges
      refine ⟨_, rfl, b, vs, rfl, sq (s6 _ _ hb4), ?_⟩
      refine for_it (walk_enum (K := K) (a := b) (xs := vs)) (fun i σ H' => ∃ x3 x6 x7 x8 x9 x10 w ks bb τ, σ = [some (.ref b), some (.ref nl), some (.ref dw), x3, some (.ref db), some (.int ((0 : Int) + (t : Int))), some x6, x7, x8, x9, x10] ∧ Same H4 H' ∧
          H' dw = some (.dK (ptV ns w)) ∧ H' db = some (.dK (nV ks bb)) ∧ Df.BF S w ks bb τ t i ∧
          ((x6 = .non ∧ ∀ q e, q < i → S[q]? = some e → w e.1 ≤ w e.2.1 + e.2.2) ∨ ∃ l, x6 = .str l ∧ t * S.length < τ l))
        ⟨_, .non, _, _, _, _, w, ks, bb, τ, rfl, s6, hw6, hb6, bf, .inl ⟨rfl, fun q e h => absurd h (Nat.not_lt_zero _)⟩⟩ (fun i σ H' _ ⟨_, _, _, _, _, _, _, _, _, _, _, s7, _⟩ => sq (s7 _ _ hb4)) ?_ ?_
      · rintro i x σ H0 H' hi ⟨x3, x6, x7, x8, x9, x10, w, ks, bb, τ, rfl, s7, hw7, hb7, bf, hlast⟩ ⟨T', y1, y2, rfl, nT, rfl, e1, e2⟩
        cases e1
        rw [plen hvs] at hi
        obtain ⟨v, hv', r, rfl, hrow⟩ := pget hvs (List.getElem?_eq_getElem hi)
        have e2 : vs[i]? = some y2 := e2
        rw [hv'] at e2
        cases e2
        have he : S[i]? = some (S[i].1, S[i].2.1, S[i].2.2) := List.getElem?_eq_getElem hi
        have hSi := hinS _ (List.getElem_mem hi)
        have s8 : Same H0 (upd H0 T' (.tup [V.int (i : Int), V.ref r])) := same_upd nT
        have hrow2 := s8 _ _ (s7 _ _ hrow)
        have hw8 := s8 _ _ hw7
        have hb8 := s8 _ _ hb7
        have s78 := s7.trans s8
        refine ⟨T', _, rfl, sqt upd_same, rfl, _, _, rfl, _, _, rfl, r, _, rfl, sqt hrow2, rfl, _, _, rfl, _, _, rfl, _, _, rfl, rfl, rfl, ?_⟩
        generalize upd H0 T' (.tup [V.int (i : Int), V.ref r]) = H8 at s78 hw8 hb8 ⊢
        have gl : ∀ H'', H'' dw = some (.dK (ptV ns w)) → DGet H'' dw (.str S[i].1) (some (.int (w S[i].1))) := fun H'' h => dget h (valV_tab_in hSi.1)
        have gr : ∀ H'', H'' dw = some (.dK (ptV ns w)) → DGet H'' dw (.str S[i].2.1) (some (.int (w S[i].2.1))) := fun H'' h => dget h (valV_tab_in hSi.2)
        refine ⟨_, rfl, _, rfl, dw, _, rfl, gr _ hw8, _, rfl, _, _, rfl, rfl, _, rfl, _, rfl, dw, _, rfl, gl _ hw8, _, _, rfl, rfl, _, rfl, ?_⟩
        by_cases hlt : w S[i].2.1 + S[i].2.2 < w S[i].1
        · rw [decide_eq_true hlt]
          refine iteT ?_
          have hnl : (ptV ns w).length < sizeLine := by
            rw [show (ptV ns w).length = ns.length from tabV_len _ _]
            exact szlt (by omega)
          have hkl : (nV ks bb).length < sizeLine := by
            rw [show (nV ks bb).length = ks.length from tabV_len _ _]
            have : ks.length ≤ ns.length := Df.nodup_le bf.nd fun x hx => by
              obtain ⟨e, e1, e2, _⟩ := bf.pre x hx
              exact e2 ▸ (hinS e (List.mem_of_getElem? e1)).1
            exact szlt (by omega)
          have bf' := bf.step he (fun e he => (hgood e he).2.2.1) hlt
          refine ⟨_, rfl, _, rfl, dw, _, rfl, gr _ hw8, _, rfl, _, _, rfl, rfl, _, rfl, _, rfl, dw, _, rfl, DPut.k (k := (Sum.inr S[i].1 : Key)) hw8 hnl, ?_⟩
          refine ⟨_, rfl, _, rfl, _, rfl, db, _, rfl, DPut.k (k := (Sum.inr S[i].1 : Key)) (by rw [upd_ne hwb.symm]; exact hb8) hkl, ?_⟩
          refine ⟨_, rfl, _, _, _, _, _, _, _, _, _, _, rfl, same_mut (same_mut s78 hdw) hdb4, ?_, ?_, bf', .inr ⟨_, rfl, ?_⟩⟩
          · rw [upd_ne hwb, upd_same]
            congr 2
            unfold ptV
            rw [putK_tab, show Df.ins ns S[i].1 = ns from if_pos hSi.1]
            refine tabV_congr fun m _ => ?_
            unfold Df.put
            split <;> rfl
          · rw [upd_same]
            congr 2
            exact nV_put
          · rw [Df.put_same]
            omega
        · rw [decide_eq_false hlt]
          refine iteF ⟨_, _, _, _, _, _, w, ks, bb, τ, rfl, s78, hw8, hb8, bf.keep he (by omega), ?_⟩
          rcases hlast with ⟨e6, hq⟩ | hl
          · refine .inl ⟨e6, fun q e hq2 heq => ?_⟩
            by_cases hqi : q = i
            · subst hqi
              rw [he] at heq
              cases heq
              show w S[q].1 ≤ w S[q].2.1 + S[q].2.2
              omega
            · exact hq q e (by omega) heq
          · exact .inr hl
      · rintro σ H7 ⟨x3, x6, x7, x8, x9, x10, w, ks, bb, τ, rfl, s7, hw7, hb7, bf, hlast⟩
        rw [plen hvs] at bf hlast
        rcases hlast with ⟨rfl, hq⟩ | ⟨l, rfl, hl⟩
        · refine ⟨_, rfl, rfl, _, rfl, iteT ?_⟩
          refine hkN ⟨w, fun e he => ?_⟩ H7 (sA.trans s7)
          obtain ⟨q, hq1, hq2⟩ := List.mem_iff_getElem.mp he
          have := hq q e hq1 (by rw [List.getElem?_eq_getElem hq1, hq2])
          omega
        · refine ⟨_, rfl, rfl, _, rfl, ?_⟩
          refine iteF ?_
          refine ⟨_, rfl, _, rfl, nl, _, rfl, .inl (sq (s7 _ _ hn4)), rfl, _, rfl, ?_⟩
          rw [List.length_map]
          have hks : ∀ x ∈ ks, x ∈ ns := fun x hx => by
            obtain ⟨e, e1, e2, _⟩ := bf.pre x hx
            exact e2 ▸ (hinS e (List.mem_of_getElem? e1)).1
          have hkl : ks.length ≤ ns.length := Df.nodup_le bf.nd hks
          by_cases htl : t = ns.length
          · rw [show decide (V.int ((0 : Int) + (t : Int)) = V.int (ns.length : Int)) = true from decide_eq_true (by rw [htl]; congr 1; omega)]
            refine iteT ?_
            obtain ⟨d, hd0, hd1, hd2, hd3⟩ := bf.ringed (by omega) hl
            have hring := bf.isRing (fun e he => (hgood e he).2.2.1) hd0 hd1 hd2 hd3
            have hdl : d ≤ ns.length := by
              have h1 := Df.nodup_le hring.nd (ks := ns) fun x hx => by
                obtain ⟨q, hq1, rfl⟩ := List.mem_map.mp hx
                have hq2 := hring.small q hq1
                rw [Df.at_of (List.getElem?_eq_getElem hq2)]
                exact (hinS _ (List.getElem_mem hq2)).1
              simpa [Df.lefts] using h1
            refine ⟨_, rfl, _, rfl, _, rfl, b, db, l, _, S, ks, bb, d, rfl, ⟨vs, s7 _ _ hb4, pmono (fun _ _ q => q.imp fun _ q => ⟨q.1, s7 _ _ q.2⟩) hvs⟩, hb7, by omega, fun n hn => ?_, bf.back (by omega) hl, rfl, hd0, by omega, hd1, hd2, hd3, fun H8 q s8 hq => ?_⟩
            · obtain ⟨c, e, _⟩ := bf.nx_of hn
              exact ⟨c, e⟩
            · exact hkR _ hring H8 q (sA.trans (s7.trans s8)) hq
          · rw [show decide (V.int ((0 : Int) + (t : Int)) = V.int (ns.length : Int)) = false from decide_eq_false fun e => htl (by injection e with e; omega)]
            refine iteF ⟨_, _, _, _, _, _, _, w, ks, bb, τ, by omega, rfl, s7, hw7, hb7, bf.turn⟩
    · rintro σ H7 ⟨x3, x5, x6, x7, x8, x9, x10, w, ks, bb, τ, htn, _⟩
      exact absurd htn (by omega)
end
end K1

namespace K1
open PySem PySem.Spec PyProof.Rows L2 Ls
/-! ### what the script draws -/
theorem SqL.mono {K : PySem.W.Frag} {H H' : Hp} (s : Same H H') {a : Addr} {xs : List V} (h : SqL K H a xs) : SqL K H' a xs := by
  rcases h with h | h
  · rcases h with h | ⟨o, h⟩
    · exact .inl (.inl (s _ _ h))
    · exact .inl (.inr ⟨o, s _ _ h⟩)
  · exact .inr h
def Scr (K : PySem.W.Frag) (H : Hp) (a : Addr) (ns : List Int) : Prop := SqL K H a (ns.map V.int) ∧ ns.length ≤ 1000
theorem Scr.mono {K : PySem.W.Frag} {H H' : Hp} (s : Same H H') {a : Addr} {ns : List Int} (h : Scr K H a ns) : Scr K H' a ns := ⟨SqL.mono s h.1, h.2⟩
def spDraw (K : PySem.W.Frag) : Sp := fun vs H Q _ => ∃ (a : Addr) (ns : List Int) (at_ many : Int), vs = [.ref a, .int at_, .int many] ∧ Scr K H a ns ∧ 0 < many ∧ ∀ H' d, Same H H' → 0 ≤ d → d < many → Q (.int d) H'
theorem dpInts (K : PySem.W.Frag) (H : Hp) : ∀ ns : List Int, DpAll K H (ns.map V.int) (ns.map PyData.int)
  | [] => .nil
  | n :: ns => .cons (.int n) (dpInts K H ns)
theorem eqv_nil (ns : List Int) : PyData.eqv (.list (ns.map PyData.int)) (.list []) = ns.isEmpty := by
  cases ns with
  | nil => simp [PyData.eqv, PyData.eqvAll]
  | cons n ns => simp [PyData.eqv, PyData.eqvAll]
theorem cut60 (ns : List Int) : cutV (ns.map V.int) none (some 60) = (ns.take 60).map V.int := by
  unfold cutV
  have h1 : HT.sIx (ns.map V.int).length (ns.map V.int).length (some 60) = min 60 (ns.map V.int).length := by
    have := HT.sIx_nat (ns.map V.int).length (ns.map V.int).length 60
    rw [show (some (60 : Int)) = some ((60 : Nat) : Int) from rfl, this]
  rw [h1, HT.sIx_none, List.drop_zero, Nat.sub_zero, List.map_take]
  rw [← List.take_eq_take_min]
section
variable {P : Program} {w : World} {K : PySem.W.Frag} {mg : Str → Option Value} {base : Heap} {f C : Addr} {fd : FuncData} {k : Nat}
theorem sc_u_law_draw : FnScope ["script", "at", "many", "row", "cell", "turn", "step", "mixed"] ["script", "at", "many"] (defScope s_u_law_draw) := ⟨rfl, rfl, rfl, by decide +kernel, rfl, by decide +kernel, by decide +kernel⟩
theorem ok_draw (F : FnP K "_law_draw" s_u_law_draw [] f fd) (G : Facts mg) : FnOk P w K mg base CX0 1 f fd ["script", "at", "many"] (spDraw K) := by
  refine F.ok sc_u_law_draw (fun vs H Q E h => ?_) (fun cdv A outer s H vs Q E hr h => ?_)
  · obtain ⟨a, ns, at_, many, rfl, _⟩ := h
    rfl
  · obtain ⟨a, ns, at_, many, rfl, ⟨hS, hlen⟩, hm, hk⟩ := h
    have hu := hu_of hr
    refine ⟨_, PSs.nox (pss_cons (ps_set (i := 3) sc_u_law_draw.nd rfl (.inl rfl) (pe_ifExp (pt_cmpR (kNeD K hr.units) (pv 0) (pe_lst pa_nil) (nomark _)) (pe_slice (kSlL K) (pv 0) po_none (po_some pe_int)) (pe_lst (pa_cons pe_int pa_nil))))
      (pss_cons (ps_par (i := 4) (j := 5) (by rfl) sc_u_law_draw.nd rfl rfl (by decide) rfl rfl (pa_cons (pe_ix (kIxL K) (pv 3) (pe_op op_mod (pv 1) (pe_callB (kLen K) (by rfl) G.len_ PySem.boot_len (pa_cons (pv 3) pa_nil))) (fun _ _ => rfl)) (pa_cons (pe_op op_fdiv (pv 1) (pe_callB (kLen K) (by rfl) G.len_ PySem.boot_len (pa_cons (pv 3) pa_nil))) pa_nil)) (by rfl))
      (pss_cons (ps_if (pt_cmpR op_ge (pv 4) (pe_op op_pow pe_int pe_int) (nomark _)) (pss_cons (ps_set (i := 4) sc_u_law_draw.nd rfl (.inl rfl) (pe_op op_mod (pe_callTy call_int1 (by rfl) G.int_ (by decide +kernel) (pa_cons (pv 4) pa_nil)) (pe_op op_pow pe_int pe_int)))
        (pss_cons (ps_for PassesOwn.never rfl (pi_range1 (by rfl) G.range_ (pa_cons (pe_op op_mod (pv 5) pe_int) pa_nil)) (pg_name (i := 6) sc_u_law_draw.nd rfl (by first | exact .inl rfl | exact .inr rfl))
          (pss_one (ps_set (i := 4) sc_u_law_draw.nd rfl (.inl rfl) (pe_op op_fdiv (pv 4) pe_int))))
        (pss_one (ps_ret (pe_op op_mod (pe_op op_mod (pe_callTy call_int1 (by rfl) G.int_ (by decide +kernel) (pa_cons (pv 4) pa_nil)) pe_int) (pv 2)))))) pss_nil)
      (pss_cons (ps_set (i := 7) sc_u_law_draw.nd rfl (.inl rfl) (pe_op op_add (pe_op op_mul (pe_op op_add (pe_op op_add (pe_op op_mod (pe_callTy call_int1 (by rfl) G.int_ (by decide +kernel) (pa_cons (pe_op op_add (pv 4) (pe_op op_mul pe_int (pv 5))) pa_nil)) pe_int) (pe_op op_mul pe_int (pv 1))) pe_int) pe_int) (pe_op op_mod (pe_callTy call_int1 (by rfl) G.int_ (by decide +kernel) (pa_cons (pe_op op_fdiv (pv 4) pe_int) pa_nil)) pe_int)))
      (pss_one (ps_ret (pe_op op_mod (pe_callTy call_int1 (by rfl) G.int_ (by decide +kernel) (pa_cons (pe_op op_mod (pe_op op_mul (pe_op op_mod (pv 7) pe_int) pe_int) pe_int) pa_nil)) (pv 2)))))))), ?_⟩
    refine ⟨_, rfl, by show 0 ≤ sizeLine; decide, fun p np => ?_⟩
    have s1 := same_upd np (o := .lst [])
    refine ⟨_, _, .lst (SqL.mono s1 hS) (dpInts K _ ns), .lst (sq upd_same) .nil, PySem.W.shaped_ints ns, rfl, _, rfl, ?_⟩
    rw [eqv_nil]
    by_cases he : ns = []
    case' pos =>
      subst he
      refine iteF ⟨by show 1 ≤ sizeLine; decide, fun b nb => ?_⟩
      have sH := s1.trans (same_upd nb (o := .lst [.int 7]))
      have hb : (upd (upd H p (.lst [])) b (.lst [.int 7])) b = some (.lst (([7] : List Int).map V.int)) := upd_same
      have hne : ([7] : List Int) ≠ [] := by decide
      have hl : ([7] : List Int).length ≤ 60 := by decide
      generalize upd (upd H p (.lst [])) b (.lst [.int 7]) = H1 at sH hb ⊢
      generalize ([7] : List Int) = row at hb hne hl
    case' neg =>
      rw [show (!ns.isEmpty) = true by cases ns with | nil => exact absurd rfl he | cons _ _ => rfl]
      refine iteT ⟨_, rfl, _, rfl, a, _, rfl, SqL.mono s1 hS, fun b nb => ?_⟩
      rw [cut60]
      have sH := s1.trans (same_upd nb (o := .lst ((ns.take 60).map V.int)))
      have hb : (upd (upd H p (.lst [])) b (.lst ((ns.take 60).map V.int))) b = some (.lst ((ns.take 60).map V.int)) := upd_same
      have hne : ns.take 60 ≠ [] := by
        cases ns with
        | nil => exact absurd rfl he
        | cons _ _ => simp
      have hl : (ns.take 60).length ≤ 60 := by rw [List.length_take]; omega
      generalize upd (upd H p (.lst [])) b (.lst ((ns.take 60).map V.int)) = H1 at sH hb ⊢
      generalize ns.take 60 = row at hb hne hl
    all_goals
      have hl0 : (0 : Int) < (row.length : Int) := by
        cases row with
        | nil => exact absurd rfl hne
        | cons _ _ => simp
      have hlm : (row.map V.int).length = row.length := List.length_map _
      have m1 := Int.emod_nonneg at_ (b := (row.length : Int)) (by omega)
      have m2 := Int.emod_lt_of_pos at_ hl0
      obtain ⟨m, hm1, hm2⟩ : ∃ m : Nat, at_ % (row.length : Int) = (m : Int) ∧ m < row.length := ⟨(at_ % (row.length : Int)).toNat, by omega, by omega⟩
      have hat : atI (row.map V.int) (at_ % (row.length : Int)) = some (.int row[m]) := by
        rw [hm1]
        exact atI_nat (by rw [List.getElem?_map, List.getElem?_eq_getElem hm2]; rfl)
      refine ⟨_, rfl, _, rfl, _, rfl, b, _, rfl, .inl (sq hb), ?_⟩
      rw [hlm]
      refine ⟨_, _, rfl, rfl, hl0, b, _, _, _, rfl, rfl, sq hb, hat, ?_⟩
      refine ⟨_, rfl, _, rfl, b, _, rfl, .inl (sq hb), ?_⟩
      rw [hlm]
      refine ⟨_, _, rfl, rfl, ⟨hl0, by omega⟩, ?_⟩
      generalize row[m] = cell
      refine ⟨_, _, rfl, ?_⟩
      refine ⟨_, rfl, _, _, rfl, rfl, ⟨by decide, by decide, by decide⟩, _, _, rfl, rfl, _, rfl, ?_⟩
      by_cases hc : (10 : Int) ^ (18 : Int).toNat ≤ cell
      · rw [decide_eq_true hc]
        refine iteT ⟨_, rfl, .inl ⟨_, rfl, _, _, rfl, rfl, ⟨by decide, by decide, by decide⟩, _, _, rfl, rfl, ?_, ?_⟩⟩
        · exact Int.pow_pos (by decide)
        have t1 := Int.emod_nonneg (at_ / (row.length : Int)) (b := 40) (by decide)
        have t2 := Int.emod_lt_of_pos (at_ / (row.length : Int)) (b := 40) (by decide)
        refine ⟨_, rfl, _, _, rfl, rfl, (by decide : (0 : Int) < 40), at_ / (row.length : Int) % 40, rfl, by omega, by omega, ?_⟩
        refine for_it (walk_range (lo := 0) (n := (at_ / (row.length : Int) % 40).toNat)) (fun i σ H' => ∃ c x6, H' = H1 ∧ σ = [some (.ref a), some (.int at_), some (.int many), some (.ref b), some (.int c), some (.int (at_ / (row.length : Int))), x6, none]) ⟨_, _, rfl, rfl⟩ (fun _ _ _ _ _ => True.intro) ?_ ?_
        · rintro i x σ H9 H' hi ⟨c, x6, rfl, rfl⟩ ⟨rfl, rfl⟩
          exact ⟨_, rfl, _, _, rfl, rfl, ⟨by decide, by decide⟩, _, _, rfl, rfl⟩
        · rintro σ H' ⟨c, x6, rfl, rfl⟩
          refine ⟨_, rfl, .inl ⟨_, rfl, _, _, rfl, rfl, (by decide : (0 : Int) < 97), _, rfl, _, _, rfl, rfl, hm, ?_⟩⟩
          exact hk _ _ sH (Int.emod_nonneg _ (by omega)) (Int.emod_lt_of_pos _ hm)
      · rw [decide_eq_false hc]
        refine iteF ?_
        refine ⟨_, rfl, _, rfl, _, _, rfl, rfl, .inl ⟨by decide, by decide⟩, _, _, rfl, rfl, .inl ⟨_, rfl, _, _, rfl, rfl, (by decide : (0 : Int) < 1000003), _, rfl, _, _, rfl, rfl, .inl ⟨by decide, by decide⟩, _, _, rfl, rfl, _, _, rfl, rfl, _, _, rfl, rfl, .inr ⟨by decide, by decide⟩, _, rfl, _, _, rfl, rfl, ⟨by decide, by decide⟩, .inl ⟨_, rfl, _, _, rfl, rfl, (by decide : (0 : Int) < 999983), _, _, rfl, rfl, ?_⟩⟩⟩
        refine ⟨_, rfl, _, _, rfl, rfl, (by decide : (0 : Int) < 2147483647), _, _, rfl, rfl, .inr ⟨by decide, by decide⟩, _, _, rfl, rfl, (by decide : (0 : Int) < 4294967291), .inl ⟨_, rfl, _, rfl, _, _, rfl, rfl, hm, ?_⟩⟩
        exact hk _ _ sH (Int.emod_nonneg _ (by omega)) (Int.emod_lt_of_pos _ hm)
end
end K1

namespace K1
open PySem PySem.Spec PyProof.Rows L2 Ls
/-! ### the law's drawn names and systems -/
def pools : List (List Str) := [["a", "b", "c", "d"], ["z", "Z9", "00", " "], ["n", "n1", "m", "long name"], ["x", "xx", "xxx", "y"]]
theorem pools_ok : ∀ ks ∈ pools, (("0" : Str) :: (ks ++ (["new", "old"] : List Str))).Nodup ∧ ("" : Str) ∉ ks ∧ ks.length = 4 := by decide +kernel
def spPool (K : PySem.W.Frag) : Sp := fun vs H Q _ => ∃ (a : Addr) (ns : List Int) (at_ : Int), vs = [.ref a, .int at_] ∧ Scr K H a ns ∧ ∀ H' t ks, Same H H' → ks ∈ pools → H' t = some (.tup (ks.map V.str)) → Q (.ref t) H'
/-- a system as the law draws it -/
structure DrawnS (names : List Str) (S : List Df3) : Prop where
  ends : ∀ e ∈ S, e.1 ∈ ("0" : Str) :: names ∧ e.2.1 ∈ ("0" : Str) :: names ∧ e.1 ≠ e.2.1
  lim : ∀ e ∈ S, -5000000000000000 ≤ e.2.2 ∧ e.2.2 ≤ 5000000000000000
def spSystem (K : PySem.W.Frag) : Sp := fun vs H Q _ => ∃ (a t : Addr) (ns : List Int) (at_ most : Int) (names : List Str), vs = [.ref a, .int at_, .ref t, .int most] ∧ Scr K H a ns ∧ H t = some (.tup (names.map V.str)) ∧ (("0" : Str) :: names).Nodup ∧ 1 ≤ names.length ∧ names.length ≤ 10 ∧ 0 ≤ most ∧ most ≤ 20 ∧
  ∀ H' b S, Same H H' → SysAt H' b S → DrawnS names S → (S.length : Int) ≤ most → Q (.ref b) H'
def spWorth : Sp := fun vs H Q _ => ∃ (n : Str) (d : Addr) (ks : List Str) (x : Str → Int), vs = [.str n, .ref d] ∧ H d = some (.dK (ptV ks x)) ∧ n ∈ ("0" : Str) :: ks ∧ Q (.int (Df.pt0 ("0" : Str) x n)) H
def spSolves : Sp := fun vs H Q _ => ∃ (a d : Addr) (S : List Df3) (ks : List Str) (x : Str → Int), vs = [.ref a, .ref d] ∧ SysAt H a S ∧ H d = some (.dK (ptV ks x)) ∧ (∀ e ∈ S, e.1 ∈ ("0" : Str) :: ks ∧ e.2.1 ∈ ("0" : Str) :: ks) ∧ Df.Solves S (Df.pt0 ("0" : Str) x) ∧ Q (.bl true) H
theorem other_ne {n one d : Int} (h0 : 0 ≤ one) (h1 : one < n) (d0 : 0 ≤ d) (d1 : d < n - 1) : (one + 1 + d) % n ≠ one := fun e => by
  by_cases h : one + 1 + d < n
  · rw [Int.emod_eq_of_lt (by omega) h] at e; omega
  · have : (one + 1 + d) % n = one + 1 + d - n := by
      rw [show one + 1 + d = (one + 1 + d - n) + n by omega, Int.add_emod_right, Int.emod_eq_of_lt (by omega) (by omega)]
      omega
    omega
theorem nth_of {α : Type} {xs : List α} {i : Int} (h0 : 0 ≤ i) (h1 : i < (xs.length : Int)) : ∃ m : Nat, i = (m : Int) ∧ m < xs.length := ⟨i.toNat, by omega, by omega⟩
section
variable {P : Program} {w : World} {K : PySem.W.Frag} {mg : Str → Option Value} {base : Heap} {f C : Addr} {fd : FuncData} {k : Nat}
theorem sc_u_law_pool : FnScope ["script", "at"] ["script", "at"] (defScope s_u_law_pool) := ⟨rfl, rfl, rfl, by decide +kernel, rfl, by decide +kernel, by decide +kernel⟩
theorem ok_pool (F : FnP K "_law_pool" s_u_law_pool [] f fd) (G : Facts mg) (C_u_law_draw : Cal P w K mg base 1 "_law_draw" (spDraw K) []) : FnOk P w K mg base CX0 2 f fd ["script", "at"] (spPool K) := by
  refine F.ok sc_u_law_pool (fun vs H Q E h => ?_) (fun cdv A outer s H vs Q E hr h => ?_)
  · obtain ⟨a, ns, at_, rfl, _⟩ := h
    rfl
  · obtain ⟨a, ns, at_, rfl, hS, hk⟩ := h
    have hu := hu_of hr
    refine ⟨_, PSs.nox (pss_one (ps_ret (pe_ix (kIxT K) (pe_tup (pa_cons (pe_tup (pa_cons pe_str (pa_cons pe_str (pa_cons pe_str (pa_cons pe_str pa_nil))))) (pa_cons (pe_tup (pa_cons pe_str (pa_cons pe_str (pa_cons pe_str (pa_cons pe_str pa_nil))))) (pa_cons (pe_tup (pa_cons pe_str (pa_cons pe_str (pa_cons pe_str (pa_cons pe_str pa_nil))))) (pa_cons (pe_tup (pa_cons pe_str (pa_cons pe_str (pa_cons pe_str (pa_cons pe_str pa_nil))))) pa_nil))))) (pe_c C_u_law_draw hr (by decide) (by rfl) (pa_cons (pv 0) (pa_cons (pv 1) (pa_cons pe_int pa_nil)))) (fun _ _ => rfl)))), ?_⟩
    refine ⟨by show 4 ≤ sizeLine; decide, fun p1 n1 => ?_⟩
    have s1 := same_upd n1 (o := .tup [.str "a", .str "b", .str "c", .str "d"])
    have h1 : (upd H p1 (.tup [.str "a", .str "b", .str "c", .str "d"])) p1 = some (.tup ((["a", "b", "c", "d"] : List Str).map V.str)) := upd_same
    refine ⟨by show 4 ≤ sizeLine; decide, fun p2 n2 => ?_⟩
    have s2 := same_upd n2 (o := .tup [.str "z", .str "Z9", .str "00", .str " "])
    refine ⟨by show 4 ≤ sizeLine; decide, fun p3 n3 => ?_⟩
    have s3 := same_upd n3 (o := .tup [.str "n", .str "n1", .str "m", .str "long name"])
    refine ⟨by show 4 ≤ sizeLine; decide, fun p4 n4 => ?_⟩
    have s4 := same_upd n4 (o := .tup [.str "x", .str "xx", .str "xxx", .str "y"])
    refine ⟨by show 4 ≤ sizeLine; decide, fun p n => ?_⟩
    have s5 := same_upd n (o := .tup [.ref p1, .ref p2, .ref p3, .ref p4])
    have sA := s1.trans (s2.trans (s3.trans (s4.trans s5)))
    refine ⟨_, rfl, _, rfl, a, ns, _, 4, rfl, hS.mono sA, by decide, fun H' d s6 d0 d4 => ?_⟩
    have sB := sA.trans s6
    have g1 := s6 _ _ (s5 _ _ (s4 _ _ (s3 _ _ (s2 _ _ h1))))
    have g2 := s6 _ _ (s5 _ _ (s4 _ _ (s3 _ _ (upd_same (a := p2)))))
    have g3 := s6 _ _ (s5 _ _ (s4 _ _ (upd_same (a := p3))))
    have g4 := s6 _ _ (s5 _ _ (upd_same (a := p4)))
    have g5 := s6 _ _ (upd_same (a := p))
    have c : d = 0 ∨ d = 1 ∨ d = 2 ∨ d = 3 := by omega
    rcases c with rfl | rfl | rfl | rfl
    · exact ⟨p, _, _, .ref p1, rfl, rfl, sqt g5, rfl, hk H' p1 _ sB (by decide +kernel) g1⟩
    · exact ⟨p, _, _, .ref p2, rfl, rfl, sqt g5, rfl, hk H' p2 ["z", "Z9", "00", " "] sB (by decide +kernel) g2⟩
    · exact ⟨p, _, _, .ref p3, rfl, rfl, sqt g5, rfl, hk H' p3 ["n", "n1", "m", "long name"] sB (by decide +kernel) g3⟩
    · exact ⟨p, _, _, .ref p4, rfl, rfl, sqt g5, rfl, hk H' p4 ["x", "xx", "xxx", "y"] sB (by decide +kernel) g4⟩
end
end K1

namespace K1
open PySem PySem.Spec PyProof.Rows L2 Ls
theorem DrawnS.nil (names : List Str) : DrawnS names [] := ⟨fun _ h => (List.not_mem_nil h).elim, fun _ h => (List.not_mem_nil h).elim⟩
theorem scale_lim {l s : Int} (h0 : -3 ≤ l) (h1 : l ≤ 5) (hs : s = 1 ∨ s = 1000 ∨ s = 1000000000000000) : -5000000000000000 ≤ (l - 1) * s + l ∧ (l - 1) * s + l ≤ 5000000000000000 := by
  rcases hs with rfl | rfl | rfl <;> omega
section
variable {P : Program} {w : World} {K : PySem.W.Frag} {mg : Str → Option Value} {base : Heap} {f C : Addr} {fd : FuncData} {k : Nat}
theorem sc_u_law_system : FnScope ["script", "at", "names", "most", "found", "ends", "scale", "turn", "spot", "one", "other", "limit"] ["script", "at", "names", "most"] (defScope s_u_law_system) := ⟨rfl, rfl, rfl, by decide +kernel, rfl, by decide +kernel, by decide +kernel⟩
theorem ok_system (F : FnP K "_law_system" s_u_law_system [] f fd) (G : Facts mg) (C_u_law_draw : Cal P w K mg base 1 "_law_draw" (spDraw K) []) : FnOk P w K mg base CX0 2 f fd ["script", "at", "names", "most"] (spSystem K) := by
  refine F.ok sc_u_law_system (fun vs H Q E h => ?_) (fun cdv A outer s H vs Q E hr h => ?_)
  · obtain ⟨a, t, ns, at_, most, names, rfl, _⟩ := h
    rfl
  · obtain ⟨a, t, ns, at_, most, names, rfl, hS, ht, hnd, hl1, hl9, hm0, hm9, hk⟩ := h
    have hu := hu_of hr
    refine ⟨_, PSs.nox (pss_cons (ps_par (i := 4) (j := 5) (by rfl) sc_u_law_system.nd rfl rfl (by decide) rfl rfl (pa_cons (pe_lst pa_nil) (pa_cons (pe_op kCatT (pe_tup (pa_cons pe_str pa_nil)) (pe_callTy kTuple (by rfl) G.tuple_ (by decide +kernel) (pa_cons (pv 2) pa_nil))) pa_nil)) (by rfl))
      (pss_cons (ps_set (i := 6) sc_u_law_system.nd rfl (.inl rfl) (pe_ix (kIxT K) (pe_tup (pa_cons pe_int (pa_cons pe_int (pa_cons pe_int (pa_cons pe_int (pa_cons (pe_op op_pow pe_int pe_int) pa_nil)))))) (pe_c C_u_law_draw hr (by decide) (by rfl) (pa_cons (pv 0) (pa_cons (pv 1) (pa_cons pe_int pa_nil)))) (fun _ _ => rfl)))
      (pss_cons (ps_for PassesOwn.never rfl (pi_range1 (by rfl) G.range_ (pa_cons (pe_c C_u_law_draw hr (by decide) (by rfl) (pa_cons (pv 0) (pa_cons (pe_op op_add (pv 1) pe_int) (pa_cons (pe_op op_add (pv 3) pe_int) pa_nil)))) pa_nil)) (pg_name (i := 7) sc_u_law_system.nd rfl (by first | exact .inl rfl | exact .inr rfl))
        (pss_cons (ps_set (i := 8) sc_u_law_system.nd rfl (.inl rfl) (pe_op op_add (pe_op op_add (pv 1) pe_int) (pe_op op_mul pe_int (pv 7))))
        (pss_cons (ps_set (i := 9) sc_u_law_system.nd rfl (.inl rfl) (pe_c C_u_law_draw hr (by decide) (by rfl) (pa_cons (pv 0) (pa_cons (pv 8) (pa_cons (pe_callB (kLen K) (by rfl) G.len_ PySem.boot_len (pa_cons (pv 5) pa_nil)) pa_nil)))))
        (pss_cons (ps_set (i := 10) sc_u_law_system.nd rfl (.inl rfl) (pe_op op_mod (pe_callTy call_int1 (by rfl) G.int_ (by decide +kernel) (pa_cons (pe_op op_add (pe_op op_add (pv 9) pe_int) (pe_c C_u_law_draw hr (by decide) (by rfl) (pa_cons (pv 0) (pa_cons (pe_op op_add (pv 8) pe_int) (pa_cons (pe_op op_sub (pe_callB (kLen K) (by rfl) G.len_ PySem.boot_len (pa_cons (pv 5) pa_nil)) pe_int) pa_nil))))) pa_nil)) (pe_callB (kLen K) (by rfl) G.len_ PySem.boot_len (pa_cons (pv 5) pa_nil))))
        (pss_cons (ps_set (i := 11) sc_u_law_system.nd rfl (.inl rfl) (pe_op op_sub (pe_c C_u_law_draw hr (by decide) (by rfl) (pa_cons (pv 0) (pa_cons (pe_op op_add (pv 8) pe_int) (pa_cons pe_int pa_nil)))) pe_int))
        (pss_cons (ps_if (PW.pt (pw_and (pt_cmpR op_gt (pv 6) pe_int (nomark _)) (pw_and1 (pt_cmpR op_eq (pe_c C_u_law_draw hr (by decide) (by rfl) (pa_cons (pv 0) (pa_cons (pe_op op_add (pv 8) pe_int) (pa_cons pe_int pa_nil)))) pe_int (nomark _))))) (pss_one (ps_set (i := 11) sc_u_law_system.nd rfl (.inl rfl) (pe_op op_add (pe_op op_mul (pe_op op_sub (pv 11) pe_int) (pv 6)) (pv 11)))) pss_nil)
        (pss_one (ps_expr (pe_bm PySem.F.plainAttrs_list PySem.F.slot_list_append PySem.F.type_list_append mt_append (pv 4) (pa_cons (pe_tup (pa_cons (pe_ix (kIxT K) (pv 5) (pv 9) (fun _ _ => rfl)) (pa_cons (pe_ix (kIxT K) (pv 5) (pv 10) (fun _ _ => rfl)) (pa_cons (pv 11) pa_nil)))) pa_nil))))))))))
      (pss_one (ps_ret (pv 4)))))), ?_⟩
    -- found, ends
    refine ⟨by show 0 ≤ sizeLine; decide, fun d nd => ?_⟩
    have s1 := same_upd nd (o := .lst [])
    refine ⟨by show 1 ≤ sizeLine; decide, fun p np => ?_⟩
    have s2 := same_upd np (o := .tup [.str "0"])
    refine ⟨_, rfl, t, names.map V.str, rfl, .inr (s2 _ _ (s1 _ _ ht)), fun H2 q s3 nq hq => ?_⟩
    refine ⟨p, q, [.str "0"], names.map V.str, rfl, rfl, s3 _ _ upd_same, hq, szl (by simp; omega), fun H3 e s4 ne he => ?_⟩
    have he : H3 e = some (.tup ((("0" : Str) :: names).map V.str)) := he
    generalize hen : ("0" : Str) :: names = ends at hnd he
    have hel : ends.length = names.length + 1 := by rw [← hen]; rfl
    have helm : (ends.map V.str).length = ends.length := List.length_map _
    have sA : Same H H3 := s1.trans (s2.trans (s3.trans s4))
    have hd3 : H3 d = some (.lst []) := s4 _ _ (s3 _ _ (s2 _ _ upd_same))
    refine ⟨_, _, rfl, ?_⟩
    -- scale
    refine ⟨_, _, rfl, rfl, ⟨by decide, by decide, by decide⟩, by show 5 ≤ sizeLine; decide, fun p5 n5 => ?_⟩
    have s5 := same_upd n5 (o := .tup [.int 1, .int 1, .int 1, .int 1000, .int ((10 : Int) ^ (15 : Int).toNat)])
    refine ⟨_, rfl, _, rfl, a, ns, _, 5, rfl, hS.mono (sA.trans s5), by decide, fun H6 ds s6 ds0 ds5 => ?_⟩
    have g5 := s6 _ _ (upd_same (H := H3) (a := p5) (o := .tup [.int 1, .int 1, .int 1, .int 1000, .int ((10 : Int) ^ (15 : Int).toNat)]))
    have hsc : ∃ sc : Int, atI [V.int 1, .int 1, .int 1, .int 1000, .int ((10 : Int) ^ (15 : Int).toNat)] ds = some (.int sc) ∧ (sc = 1 ∨ sc = 1000 ∨ sc = 1000000000000000) := by
      have c : ds = 0 ∨ ds = 1 ∨ ds = 2 ∨ ds = 3 ∨ ds = 4 := by omega
      rcases c with rfl | rfl | rfl | rfl | rfl
      · exact ⟨1, rfl, .inl rfl⟩
      · exact ⟨1, rfl, .inl rfl⟩
      · exact ⟨1, rfl, .inl rfl⟩
      · exact ⟨1000, rfl, .inr (.inl rfl)⟩
      · exact ⟨1000000000000000, rfl, .inr (.inr rfl)⟩
    obtain ⟨sc, hsc, hsc2⟩ := hsc
    refine ⟨p5, _, _, _, rfl, rfl, sqt g5, hsc, ?_⟩
    have sB : Same H H6 := sA.trans (s5.trans s6)
    have he6 := s6 _ _ (s5 _ _ he)
    have hd6 := s6 _ _ (s5 _ _ hd3)
    -- the rows
    refine ⟨_, rfl, _, rfl, _, _, rfl, rfl, _, rfl, _, _, rfl, rfl, a, ns, _, _, rfl, hS.mono sB, by omega, fun H7 n7 s7 n70 n7m => ?_⟩
    refine ⟨n7, rfl, by omega, by omega, ?_⟩
    refine for_it (walk_range (lo := 0) (n := n7.toNat)) (fun i σ H' => ∃ x7 x8 x9 x10 x11 out S, σ = [some (.ref a), some (.int at_), some (.ref t), some (.int most), some (.ref d), some (.ref e), some (.int sc), x7, x8, x9, x10, x11] ∧ Same H H' ∧ H' d = some (.lst out) ∧ H' e = some (.tup (ends.map V.str)) ∧
        Paired (RowT H') out S ∧ DrawnS names S ∧ S.length = i)
      ⟨_, _, _, _, _, [], [], rfl, sB.trans s7, s7 _ _ hd6, s7 _ _ he6, .nil, DrawnS.nil names, rfl⟩ (fun _ _ _ _ _ => True.intro) ?_ ?_
    · rintro i x σ H8 H' hi ⟨x7, x8, x9, x10, x11, out, S, rfl, s8, hd, he, hp, hdr, hSl⟩ ⟨rfl, rfl⟩
      -- spot, one
      refine ⟨_, rfl, _, _, rfl, rfl, _, rfl, _, _, rfl, rfl, .inl ⟨by decide, by decide⟩, _, _, rfl, rfl, ?_⟩
      refine ⟨_, rfl, _, rfl, _, rfl, e, _, rfl, .inr (sqt he), ?_⟩
      rw [helm]
      refine ⟨a, ns, _, _, rfl, hS.mono s8, by omega, fun H9 one s9 o0 o1 => ?_⟩
      -- other
      have he9 := s9 _ _ he
      refine ⟨_, rfl, _, _, rfl, rfl, _, rfl, _, rfl, _, _, rfl, rfl, _, rfl, e, _, rfl, .inr (sqt he9), ?_⟩
      rw [helm]
      refine ⟨_, _, rfl, rfl, a, ns, _, _, rfl, hS.mono (s8.trans s9), by omega, fun H10 dd s10 d0 d1 => ?_⟩
      have he10 := s10 _ _ he9
      refine ⟨_, _, rfl, rfl, .inl ⟨_, rfl, _, rfl, e, _, rfl, .inr (sqt he10), ?_⟩⟩
      rw [helm]
      have hone : (one + 1 + dd) % (ends.length : Int) ≠ one := other_ne o0 o1 d0 d1
      have r0 := Int.emod_nonneg (one + 1 + dd) (b := (ends.length : Int)) (by omega)
      have r1 := Int.emod_lt_of_pos (one + 1 + dd) (b := (ends.length : Int)) (by omega)
      refine ⟨_, _, rfl, rfl, (show (0 : Int) < (ends.length : Int) by omega), ?_⟩
      -- limit
      refine ⟨_, rfl, _, rfl, _, _, rfl, rfl, a, ns, _, 9, rfl, hS.mono (s8.trans (s9.trans s10)), by decide, fun H11 dl s11 l0 l9 => ?_⟩
      refine ⟨_, _, rfl, rfl, ?_⟩
      have s811 := s8.trans (s9.trans (s10.trans s11))
      have s8b := s9.trans (s10.trans s11)
      -- what is left once the limit stands
      have fin : ∀ (lim : Int) (HH : Hp) (x8 x9 x10 : Option V), -5000000000000000 ≤ lim → lim ≤ 5000000000000000 → Same H' HH → Same H HH →
          tDrop (tBM K "list" rAppend (tVar 4) (tCons (tTup (tCons (tOp (rIxT K) (tVar 5) (tVar 9)) (tCons (tOp (rIxT K) (tVar 5) (tVar 10)) (tCons (tVar 11) tNil)))) tNil))
            { nx := fun σ H' => ∃ x7 x8 x9 x10 x11 out S, σ = [some (.ref a), some (.int at_), some (.ref t), some (.int most), some (.ref d), some (.ref e), some (.int sc), x7, x8, x9, x10, x11] ∧ Same H H' ∧ H' d = some (.lst out) ∧ H' e = some (.tup (ends.map V.str)) ∧
                Paired (RowT H') out S ∧ DrawnS names S ∧ S.length = i + 1, rt := Q } [some (.ref a), some (.int at_), some (.ref t), some (.int most), some (.ref d), some (.ref e), some (.int sc), some (.int (0 + (i : Int))), x8, some (.int one), some (.int ((one + 1 + dd) % (ends.length : Int))), some (.int lim)] HH := by
        intro lim HH x8 x9 x10 b0 b1 sx sy
        obtain ⟨m1, e1, hm1⟩ := nth_of o0 (show one < (ends.length : Int) by omega)
        obtain ⟨m2, e2, hm2⟩ := nth_of r0 r1
        have hdH := sx _ _ hd
        have heH := sx _ _ he
        refine ⟨_, rfl, .inl ⟨rfl, _, sq hdH⟩, ?_⟩
        refine ⟨_, rfl, _, rfl, e, _, _, _, rfl, rfl, sqt heH, by rw [e1]; exact atI_nat (by rw [List.getElem?_map, List.getElem?_eq_getElem hm1]; rfl), ?_⟩
        refine ⟨_, rfl, _, rfl, e, _, _, _, rfl, rfl, sqt heH, by rw [e2]; exact atI_nat (by rw [List.getElem?_map, List.getElem?_eq_getElem hm2]; rfl), ?_⟩
        refine ⟨_, rfl, by show 3 ≤ sizeLine; decide, fun r nr => ?_⟩
        have sr := same_upd nr (o := .tup [.str ends[m1], .str ends[m2], .int lim])
        have hde : d ≠ e := fun z => by rw [z, he] at hd; cases hd
        refine ⟨d, out, .ref r, rfl, rfl, sr _ _ hdH, szlt (by rw [plen hp]; omega), _, _, _, _, _, out ++ [.ref r], S ++ [(ends[m1], ends[m2], lim)], rfl, same_mut (sy.trans sr) nd, upd_same, by rw [upd_ne hde.symm]; exact sr _ _ heH, ?_, ?_, by rw [List.length_append, hSl]; rfl⟩
        · have hrd : r ≠ d := (ne_of_none hdH nr).symm
          have keep : ∀ v e, RowT H' v e → RowT (upd (upd HH r (.tup [.str ends[m1], .str ends[m2], .int lim])) d (.lst (out ++ [.ref r]))) v e := fun v e ⟨r', e1, e2⟩ =>
            ⟨r', e1, by
              have h1 := sr _ _ (sx _ _ e2)
              have : r' ≠ d := fun z => by rw [z, hd] at e2; cases e2
              rw [upd_ne this]; exact h1⟩
          exact (pmono keep hp).snoc ⟨r, rfl, by rw [upd_ne hrd]; exact upd_same⟩
        · have hne : ends[m1] ≠ ends[m2] := fun z => by
            have := (List.getElem_inj hnd).mp z
            omega
          refine ⟨fun ee hee => ?_, fun ee hee => ?_⟩
          · rcases List.mem_append.mp hee with h | h
            · exact hdr.ends _ h
            · rw [List.mem_singleton.mp h, hen]
              exact ⟨List.getElem_mem hm1, List.getElem_mem hm2, hne⟩
          · rcases List.mem_append.mp hee with h | h
            · exact hdr.lim _ h
            · rw [List.mem_singleton.mp h]
              exact ⟨b0, b1⟩
      refine ⟨_, rfl, _, _, rfl, rfl, _, rfl, ?_⟩
      by_cases hs1 : (1 : Int) < sc
      · rw [decide_eq_true hs1]
        refine iteT ?_
        refine ⟨_, rfl, _, rfl, _, _, rfl, rfl, a, ns, _, 2, rfl, hS.mono s811, by decide, fun H12 d2 s12 c0 c2 => ?_⟩
        refine ⟨rfl, _, rfl, ?_⟩
        by_cases h1 : d2 = 1
        · rw [show decide (V.int d2 = V.int 1) = true by rw [h1]; exact decide_eq_true rfl]
          refine iteT ⟨_, rfl, _, _, rfl, rfl, _, rfl, _, _, rfl, rfl, .inl ⟨by omega, by omega⟩, _, rfl, _, _, rfl, rfl, ?_⟩
          have := scale_lim (l := dl - 3) (s := sc) (by omega) (by omega) hsc2
          exact fin _ H12 _ none none this.1 this.2 (s8b.trans s12) (s811.trans s12)
        · rw [show decide (V.int d2 = V.int 1) = false from decide_eq_false fun z => h1 (by injection z)]
          exact iteF (fin _ H12 _ none none (by omega) (by omega) (s8b.trans s12) (s811.trans s12))
      · rw [decide_eq_false hs1]
        exact iteF (fin _ H11 _ none none (by omega) (by omega) s8b s811)
    · rintro σ H' ⟨x7, x8, x9, x10, x11, out, S, rfl, s8, hd, he, hp, hdr, hSl⟩
      exact ⟨_, rfl, hk H' d S s8 ⟨out, hd, hp⟩ hdr (by omega)⟩
end
end K1

namespace K1
open PySem PySem.Spec PyProof.Rows L2 Ls
/-! ### systems as data; the law's names of a system -/
def OkN (S : List Df3) : Prop := ∀ e ∈ S, PySem.PyData.strOk e.1 = true ∧ PySem.PyData.strOk e.2.1 = true
theorem okNames {S : List Df3} (h : OkN S) : ∀ x ∈ namesOf S, PySem.PyData.strOk x = true := fun x hx => by
  obtain ⟨e, he, h1, _⟩ := mem_namesOf.mp hx
  rcases h1 with rfl | rfl
  · exact (h e he).1
  · exact (h e he).2
/-! rows as data -/
def rowD (e : Df3) : PyData := .tuple [.str e.1, .str e.2.1, .int e.2.2]
theorem rowD_ok {e : Df3} (h : PySem.PyData.strOk e.1 = true ∧ PySem.PyData.strOk e.2.1 = true) : PyData.canLay0 (rowD e) = true := by
  unfold rowD
  simp only [PyData.canLay0, PyData.canLayAll0, h.1, h.2]
  rfl
theorem rowD_dep (e : Df3) : PyData.depth (rowD e) ≤ 5 := by
  unfold rowD
  simp only [PyData.depth, PyData.depthAll]
  omega
theorem dpSys {K : PySem.W.Frag} {H : Hp} : ∀ {vs : List V} {S : List Df3}, Paired (RowT H) vs S → DpAll K H vs (S.map rowD)
  | _, _, .nil => .nil
  | _, _, .cons ⟨r, e, h⟩ t => by
    subst e
    exact .cons (.tup (sqt h) (.cons (.str _) (.cons (.str _) (.cons (.int _) .nil)))) (dpSys t)
theorem eqv_none (S : List Df3) : PyData.eqv (.list (S.map rowD)) (.list []) = S.isEmpty := by
  cases S with
  | nil => simp [PyData.eqv, PyData.eqvAll]
  | cons e S => simp [PyData.eqv, PyData.eqvAll]
theorem shaped_sys {S : List Df3} (h : OkN S) : SeqAt.shaped (.list (S.map rowD)) = true := shaped_list rowD 5 (by decide) rowD_dep S fun e he => rowD_ok (h e he)
theorem eqv_sys {S : List Df3} (h : OkN S) : PyData.eqv (.list (S.map rowD)) (.list (S.map rowD)) = true := eqv_list rowD S fun e he => rowD_ok (h e he)
theorem cut_upto (xs : List V) (n : Nat) : cutV xs none (some (n : Int)) = xs.take n := by
  unfold cutV
  rw [HT.sIx_nat, HT.sIx_none, List.drop_zero, Nat.sub_zero, ← List.take_eq_take_min]
theorem cut_from (xs : List V) (n : Nat) : cutV xs (some (n : Int)) none = xs.drop n := by
  unfold cutV
  rw [HT.sIx_nat, HT.sIx_none]
  rcases Nat.le_total n xs.length with h | h
  · rw [Nat.min_eq_left h, List.take_of_length_le (by rw [List.length_drop]; omega)]
  · rw [Nat.min_eq_right h, List.drop_of_length_le (Nat.le_refl _), List.drop_of_length_le h]
    simp
theorem ptake {α β : Type} {F : α → β → Prop} : ∀ {xs : List α} {ys : List β} (n : Nat), Paired F xs ys → Paired F (xs.take n) (ys.take n)
  | _, _, 0, _ => by simp only [List.take_zero]; exact .nil
  | _, _, n + 1, .nil => by simp only [List.take_nil]; exact .nil
  | _, _, n + 1, .cons r t => .cons r (ptake n t)
theorem pdrop {α β : Type} {F : α → β → Prop} : ∀ {xs : List α} {ys : List β} (n : Nat), Paired F xs ys → Paired F (xs.drop n) (ys.drop n)
  | _, _, 0, h => h
  | _, _, n + 1, .nil => by simp only [List.drop_nil]; exact .nil
  | _, _, n + 1, .cons r t => pdrop n t
theorem papp {α β : Type} {F : α → β → Prop} : ∀ {xs us : List α} {ys zs : List β}, Paired F xs ys → Paired F us zs → Paired F (xs ++ us) (ys ++ zs)
  | _, _, _, _, .nil, h => h
  | _, _, _, _, .cons r t, h => .cons r (papp t h)
def spLawNames : Sp := spNamesOf
section
variable {P : Program} {w : World} {K : PySem.W.Frag} {mg : Str → Option Value} {base : Heap} {f C : Addr} {fd : FuncData} {k : Nat}
theorem sc_u_law_names_of : FnScope ["system", "found", "left", "right", "limit", "name"] ["system"] (defScope s_u_law_names_of) := ⟨rfl, rfl, rfl, by decide +kernel, rfl, by decide +kernel, by decide +kernel⟩
theorem ok_law_names (F : FnP K "_law_names_of" s_u_law_names_of [] f fd) (G : Facts mg) : FnOk P w K mg base CX0 1 f fd ["system"] spLawNames := by
  refine F.ok sc_u_law_names_of (fun vs H Q E h => ?_) (fun cdv A outer s H vs Q E hr h => ?_)
  · obtain ⟨a, S, rfl, _⟩ := h
    rfl
  · obtain ⟨a, S, rfl, ⟨vs, ha, hvs⟩, hlen, hk⟩ := h
    have hu := hu_of hr
    refine ⟨_, PSs.nox (pss_cons (ps_set (i := 1) sc_u_law_names_of.nd rfl (.inl rfl) (pe_lst pa_nil))
      (pss_cons (ps_for PassesOwn.never rfl (kpi_list K (pv 0)) (kpg_tup K rfl (pgs_cons (pg_name (i := 2) sc_u_law_names_of.nd rfl (by first | exact .inl rfl | exact .inr rfl)) (pgs_cons (pg_name (i := 3) sc_u_law_names_of.nd rfl (by first | exact .inl rfl | exact .inr rfl)) (pgs_cons (pg_name (i := 4) sc_u_law_names_of.nd rfl (by first | exact .inl rfl | exact .inr rfl)) pgs_nil))))
        (pss_one (ps_for PassesOwn.never rfl (kpi_tup K (pe_tup (pa_cons (pv 2) (pa_cons (pv 3) pa_nil)))) (pg_name (i := 5) sc_u_law_names_of.nd rfl (by first | exact .inl rfl | exact .inr rfl))
          (pss_one (ps_if (PW.pt (pw_and (pt_cmpR op_ne (pv 5) pe_str (nomark _)) (pw_and1 (pt_cmpR (kNotIn K) (pv 5) (pv 1) (by rfl))))) (pss_one (ps_expr (pe_bm PySem.F.plainAttrs_list PySem.F.slot_list_append PySem.F.type_list_append mt_append (pv 1) (pa_cons (pv 5) pa_nil)))) pss_nil)))))
      (pss_one (ps_ret (pv 1))))), ?_⟩
    refine ⟨by show 0 ≤ sizeLine; decide, fun d hd => ?_⟩
    refine ⟨_, rfl, a, rfl, ⟨_, sq (same_upd hd _ _ ha)⟩, ?_⟩
    refine for_it (walk_list (K := K) (a := a) (xs := vs)) (fun i σ H' => ∃ x2 x3 x4 x5, σ = [some (.ref a), some (.ref d), x2, x3, x4, x5] ∧ Same H H' ∧ H' d = some (.lst ((namesOf (S.take i)).map V.str)))
      ⟨none, none, none, none, rfl, same_upd hd, upd_same⟩ (fun i σ H' _ ⟨_, _, _, _, _, s1, _⟩ => sq (s1 _ _ ha)) ?_ ?_
    · rintro i x σ H9 H1 hi ⟨x2, x3, x4, x5, rfl, s1, hd1⟩ ⟨rfl, ex⟩
      rw [plen hvs] at hi
      obtain ⟨v, hv', r, rfl, hrow⟩ := pget hvs (List.getElem?_eq_getElem hi)
      rw [hv'] at ex
      cases ex
      refine ⟨r, _, rfl, sqt (s1 _ _ hrow), rfl, _, _, rfl, _, _, rfl, _, _, rfl, rfl, ?_⟩
      refine ⟨_, rfl, _, rfl, by show 2 ≤ sizeLine; decide, fun p np => ?_⟩
      refine ⟨p, rfl, ⟨_, sqt upd_same⟩, ?_⟩
      have hdp : d ≠ p := ne_of_none hd1 np
      have hk2 : ∀ j, (([S[i].1, S[i].2.1].take j).foldl nm1 (namesOf (S.take i))).length ≤ 900000 := fun j => by
        have h1 := len_namesOf (S.take i)
        rw [List.length_take] at h1
        have h2 : ∀ (l : List Str) (ks : List Str), (l.foldl nm1 ks).length ≤ ks.length + l.length := by
          intro l
          induction l with
          | nil => intro ks; simp
          | cons n l ih =>
            intro ks
            have := ih (nm1 ks n)
            have := len_nm1 ks n
            rw [List.foldl_cons, List.length_cons]
            omega
        have h3 := h2 ([S[i].1, S[i].2.1].take j) (namesOf (S.take i))
        have h4 : ([S[i].1, S[i].2.1].take j).length ≤ 2 := by rw [List.length_take]; simp; omega
        omega
      refine for_it (walk_tup (K := K) (a := p) (xs := [V.str S[i].1, V.str S[i].2.1])) (fun j σ H' => ∃ x5, σ = [some (.ref a), some (.ref d), some (.str S[i].1), some (.str S[i].2.1), some (.int S[i].2.2), x5] ∧ Same H H' ∧ H' p = some (.tup [V.str S[i].1, V.str S[i].2.1]) ∧
          H' d = some (.lst ((([S[i].1, S[i].2.1].take j).foldl nm1 (namesOf (S.take i))).map V.str)))
        ⟨_, rfl, s1.trans (same_upd np), upd_same, by rw [upd_ne hdp]; exact hd1⟩ (fun j σ H' _ ⟨_, _, _, hp, _⟩ => sqt hp) ?_ ?_
      · rintro j x σ H9 H2 hj ⟨x5, rfl, s2, hp2, hd2⟩ ⟨rfl, ex⟩
        have hj2 : j < [S[i].1, S[i].2.1].length := hj
        have ex : x = V.str ([S[i].1, S[i].2.1][j]) := by
          have e1 : [V.str S[i].1, V.str S[i].2.1] = [S[i].1, S[i].2.1].map V.str := rfl
          rw [e1, List.getElem?_map, List.getElem?_eq_getElem hj2] at ex
          exact (Option.some.inj ex).symm
        subst ex
        have hf : ([S[i].1, S[i].2.1].take (j + 1)).foldl nm1 (namesOf (S.take i)) = nm1 (([S[i].1, S[i].2.1].take j).foldl nm1 (namesOf (S.take i))) [S[i].1, S[i].2.1][j] := by
          rw [take_snoc hj2, List.foldl_append]
          rfl
        refine ⟨_, rfl, rfl, _, rfl, ?_⟩
        by_cases h0 : [S[i].1, S[i].2.1][j] = "0"
        · rw [show (!decide (V.str [S[i].1, S[i].2.1][j] = V.str "0")) = false by rw [h0]; rfl]
          refine iteF (iteF ⟨_, rfl, s2, hp2, ?_⟩)
          rw [hf, show nm1 _ [S[i].1, S[i].2.1][j] = _ from if_pos h0]
          exact hd2
        · rw [show (!decide (V.str [S[i].1, S[i].2.1][j] = V.str "0")) = true by rw [decide_eq_false fun e => h0 (by injection e)]; rfl]
          refine iteT ⟨_, rfl, _, rfl, d, _, rfl, .inl (sq hd2), rfl, flat_str _, _, rfl, ?_⟩
          rw [inV_str]
          by_cases hin : [S[i].1, S[i].2.1][j] ∈ ([S[i].1, S[i].2.1].take j).foldl nm1 (namesOf (S.take i))
          · rw [decide_eq_true hin]
            refine iteF ⟨_, rfl, s2, hp2, ?_⟩
            rw [hf, show nm1 _ [S[i].1, S[i].2.1][j] = Df.ins _ _ from if_neg h0, show Df.ins _ [S[i].1, S[i].2.1][j] = _ from if_pos hin]
            exact hd2
          · rw [decide_eq_false hin]
            refine iteT ⟨_, rfl, .inl ⟨rfl, _, sq hd2⟩, _, rfl, d, _, _, rfl, rfl, hd2, szlt (by rw [List.length_map]; have := hk2 j; omega), _, rfl, same_mut s2 hd, by rw [upd_ne hdp.symm]; exact hp2, ?_⟩
            rw [upd_same, hf, show nm1 _ [S[i].1, S[i].2.1][j] = Df.ins _ _ from if_neg h0, show Df.ins _ [S[i].1, S[i].2.1][j] = _ from if_neg hin, List.map_append]
            rfl
      · rintro σ H2 ⟨x5, rfl, s2, hp2, hd2⟩
        refine ⟨_, _, _, _, rfl, s2, ?_⟩
        rw [take_snoc hi, namesOf_snoc]
        exact hd2
    · rintro σ H1 ⟨x2, x3, x4, x5, rfl, s1, hd1⟩
      rw [plen hvs, List.take_length] at hd1
      exact ⟨_, rfl, hk _ d s1 hd hd1⟩
end
end K1

namespace Ls
open PySem PySem.Spec PyProof.Rows L2
section
variable {J : It} {n : Nat} {G : Hp → Prop} {Y : Nat → Hp → V → Hp → Prop}
theorem forE_it (w : Walk J n G Y) {g : TG} {tb u : TS} {D : Ends} {σ : L2.St} {H : Hp} (Pv : Nat → L2.St → Hp → Prop) (h0 : Pv 0 σ H) (hG : ∀ i σ H, i ≤ n → Pv i σ H → G H)
    (hs : ∀ i x σ H H', i < n → Pv i σ H → Y i H x H' → g x σ H' fun σ2 H2 => tb { D with nx := Pv (i + 1), ct := Pv (i + 1), bk := D.nx } σ2 H2) (hd : ∀ σ H, Pv n σ H → u D σ H) :
    ∃ W : Nat → Nat → L2.St → Hp → Prop, (∃ m, W 0 m σ H) ∧ ∀ i m σ H, W i m σ H →
      (J.stop i H ∧ u D σ H) ∨ (J.go i H ∧ ∃ N : L2.St → Hp → Prop, (∀ σ' H', N σ' H' → ∃ m', m' < m ∧ W (i + 1) m' σ' H') ∧ ∀ x H', J.yld i H x H' → g x σ H' fun σ2 H2 => tb { D with nx := N, ct := N, bk := D.nx } σ2 H2) :=
  forE_by n Pv h0 (fun i σ H hi p => w.goes i H hi (hG i σ H (Nat.le_of_lt hi) p)) (fun σ H p => w.stops H (hG n σ H (Nat.le_refl _) p)) (fun i x σ H H' hi p y => hs i x σ H H' hi p (w.yields i H x H' hi (hG i σ H (Nat.le_of_lt hi) p) y)) hd
end
theorem pset {α β : Type} {F F' : α → β → Prop} {y0 : β} : ∀ {xs : List α} {ys : List β} (j : Nat), Paired F xs ys → (∀ (k : Nat) x y, k ≠ j → xs[k]? = some x → F x y → F' x y) → (∀ x, xs[j]? = some x → F' x y0) → Paired F' xs (ys.set j y0)
  | _, _, _, .nil, _, _ => by simp only [List.set_nil]; exact .nil
  | _, _, 0, .cons r t, h, h0 => .cons (h0 _ rfl) (by
    have key : ∀ {xs : List α} {ys : List β} (m : Nat), Paired F xs ys → (∀ (k : Nat) x y, xs[k]? = some x → F x y → F' x y) → Paired F' xs ys := by
      intro xs ys m p
      induction p with
      | nil => intro _; exact .nil
      | cons r t ih => intro h; exact .cons (h 0 _ _ rfl r) (ih fun k x y e => h (k + 1) x y e)
    exact key 0 t fun k x y e => h (k + 1) x y (by omega) e)
  | _, _, j + 1, .cons r t, h, h0 => .cons (h 0 _ _ (by omega) rfl r) (pset j t (fun k x y hk e => h (k + 1) x y (by omega) e) fun x e => h0 x e)
end Ls
namespace K1
open PySem PySem.Spec PyProof.Rows L2 Ls
/-! ### classes of names -/
/-- the limits of a table are small or far -/
def Sane (ns : List Str) (R : Df.Tab Str) : Prop := ∀ u ∈ ns, ∀ v ∈ ns, (-(10 ^ 28) ≤ R u v ∧ R u v ≤ 10 ^ 28) ∨ Df.FARI - 10 ^ 28 ≤ R u v
theorem Sane.eq {ns : List Str} {R : Df.Tab Str} (h : Sane ns R) {u v : Str} (hu : u ∈ ns) (hv : v ∈ ns) : decide (R u v + R v u = 0) = Df.eqc (Df.opt ns R) u v := by
  rw [Bool.eq_iff_iff, decide_eq_true_iff, Df.eqc_iff]
  have h1 := h u hu v hv
  have h2 := h v hv u hu
  simp only [Df.FARI_eq] at h1 h2
  constructor
  · intro e
    exact ⟨R u v, R v u, Df.opt_fin hu hv (by simp only [Df.HALFI_eq]; omega), Df.opt_fin hv hu (by simp only [Df.HALFI_eq]; omega), e⟩
  · rintro ⟨a, b, e1, e2, e3⟩
    obtain ⟨_, _, _, f1⟩ := Df.opt_some e1
    obtain ⟨_, _, _, f2⟩ := Df.opt_some e2
    omega
theorem Sane.blk {ns : List Str} {R : Df.Tab Str} (h : Sane ns R) {a b m : Str} (ha : a ∈ ns) (hb : b ∈ ns) (hm : m ∈ ns) (hf : R a b ≤ Df.HALFI) (h1 : m ≠ a) (h2 : m ≠ b) : decide (R a m + R m b = R a b) = Df.blocked (Df.opt ns R) (R a b) a b m := by
  rw [Bool.eq_iff_iff, decide_eq_true_iff, Df.blocked_iff]
  have k1 := h a ha m hm
  have k2 := h m hm b hb
  simp only [Df.FARI_eq, Df.HALFI_eq] at k1 k2 hf
  constructor
  · intro e
    exact ⟨h1, h2, R a m, R m b, Df.opt_fin ha hm (by simp only [Df.HALFI_eq]; omega), Df.opt_fin hm hb (by simp only [Df.HALFI_eq]; omega), e⟩
  · rintro ⟨_, _, x, y, e1, e2, e3⟩
    obtain ⟨_, _, _, f1⟩ := Df.opt_some e1
    obtain ⟨_, _, _, f2⟩ := Df.opt_some e2
    omega
theorem addTo_at (F : Df.OTab Str) (x : Str) : ∀ (gs : List (Df.Grp Str)) (j : Nat) (hj : j < gs.length), (∀ k (hk : k < j), Df.eqc F (gs[k]'(by omega)).1 x = false) → Df.eqc F gs[j].1 x = true → Df.addTo F gs x = gs.set j (gs[j].1, gs[j].2 ++ [x])
  | g :: gs, 0, hj, _, h => by unfold Df.addTo; rw [if_pos (show Df.eqc F g.1 x = true from h)]; rfl
  | g :: gs, j + 1, hj, h0, h => by
    have := h0 0 (by omega)
    conv => lhs; unfold Df.addTo
    rw [if_neg (by rw [show Df.eqc F g.1 x = false from this]; simp), addTo_at F x gs j (by simpa using hj) (fun k hk => h0 (k + 1) (by omega)) h]
    rfl
theorem addTo_no (F : Df.OTab Str) (x : Str) : ∀ (gs : List (Df.Grp Str)), (∀ k (hk : k < gs.length), Df.eqc F gs[k].1 x = false) → Df.addTo F gs x = gs ++ [(x, [])]
  | [], _ => rfl
  | g :: gs, h0 => by
    have := h0 0 (by simp)
    conv => lhs; unfold Df.addTo
    rw [if_neg (by rw [show Df.eqc F g.1 x = false from this]; simp), addTo_no F x gs fun k hk => h0 (k + 1) (by simpa using hk)]
    rfl
def GrpAt (H : Hp) (q : Addr) (gs : List (Df.Grp Str)) : Prop := ∃ ls : List Addr, H q = some (.lst (ls.map V.ref)) ∧ Paired (fun l g => H l = some (.lst ((Df.mem_ g).map V.str))) ls gs
theorem GrpAt.mono {H H' : Hp} (s : Same H H') {q : Addr} {gs : List (Df.Grp Str)} (h : GrpAt H q gs) : GrpAt H' q gs := h.imp fun _ p => ⟨s _ _ p.1, pmono (fun _ _ e => s _ _ e) p.2⟩
def spClasses (C : Addr) : Sp := fun vs H Q _ => ∃ (N : Addr → Prop) (t : Addr) (ns : List Str) (R : Df.Tab Str), vs = [.ref t] ∧ TabAt N C H t ns R ∧ ns.Nodup ∧ ("" : Str) ∉ ns ∧ ns.length ≤ 1000 ∧ Sane ns R ∧ ∀ H' q, Same H H' → GrpAt H' q (Df.classes (Df.opt ns R) ns) → Q (.ref q) H'
def spLimit (C : Addr) : Sp := fun vs H Q _ => ∃ (N : Addr → Prop) (t : Addr) (l r : Str) (ns : List Str) (R : Df.Tab Str), vs = [.ref t, .str l, .str r] ∧ TabAt N C H t ns R ∧ l ∈ ns ∧ r ∈ ns ∧ ("" : Str) ∉ ns ∧ Q (.int (R l r)) H
def spNeeded (C : Addr) : Sp := fun vs H Q _ => ∃ (N : Addr → Prop) (t p : Addr) (a b : Str) (ns hs : List Str) (R : Df.Tab Str), vs = [.ref t, .ref p, .str a, .str b] ∧ TabAt N C H t ns R ∧ H p = some (.lst (hs.map V.str)) ∧ a ∈ ns ∧ b ∈ ns ∧ (∀ h ∈ hs, h ∈ ns) ∧ ("" : Str) ∉ ns ∧ Sane ns R ∧ Q (.bl (Df.needed (Df.opt ns R) hs a b)) H
section
variable {P : Program} {w : World} {K : PySem.W.Frag} {mg : Str → Option Value} {base : Heap} {f C : Addr} {fd : FuncData} {k : Nat}
theorem sc_u_limit : FnScope ["table", "left", "right"] ["table", "left", "right"] (defScope s_u_limit) := ⟨rfl, rfl, rfl, by decide +kernel, rfl, by decide +kernel, by decide +kernel⟩
theorem ok_limit (F : FnP K "_limit" s_u_limit [] f fd) (G : Facts mg) (T : TCls K C) : FnOk P w K mg base CX0 1 f fd ["table", "left", "right"] (spLimit C) := by
  refine F.ok sc_u_limit (fun vs H Q E h => ?_) (fun cdv A outer s H vs Q E hr h => ?_)
  · obtain ⟨N, t, l, r, ns, R, rfl, _⟩ := h
    rfl
  · obtain ⟨N, t, l, r, ns, R, rfl, ⟨dx, an, ar, asp, rs, shown, sp, hNs, ht, han, har, hrs, hsp, hspo, hsl, hss⟩, hl, hr', hne, hq⟩ := h
    have hu := hu_of hr
    obtain ⟨i, hi, hil⟩ := ix_of hl
    obtain ⟨j, hj, hjl⟩ := ix_of hr'
    obtain ⟨vi, hvi, ri, rfl, _, hri⟩ := pget hrs hi
    refine ⟨_, PSs.nox (pss_one (ps_ret (pe_ix (kIxL K) (pe_ix (kIxL K) (kfld K (pv 0)) (pe_dget hu (kfld K (pv 0)) (pv 1) (fun _ _ => rfl)) (fun _ _ => rfl)) (pe_dget hu (kfld K (pv 0)) (pv 2) (fun _ _ => rfl)) (fun _ _ => rfl)))), ?_⟩
    exact ⟨_, rfl, t, C, dx, _, _, rfl, ht, T.cl, T.nR, flds_rows _ _ _, _, rfl, t, C, dx, _, _, rfl, ht, T.cl, T.nS, flds_spots _ _ _, _, rfl, asp, _, rfl, dget hsp (hspo _ _ hi fun z => hne (z ▸ hl)), ar, rs, _, _, rfl, rfl, sq har, atI_nat hvi,
      _, rfl, t, C, dx, _, _, rfl, ht, T.cl, T.nS, flds_spots _ _ _, _, rfl, asp, _, rfl, dget hsp (hspo _ _ hj fun z => hne (z ▸ hr')), ri, _, _, _, rfl, rfl, sq hri, atI_nat (row_at hj), hq⟩
theorem sc_u_needed : FnScope ["table", "heads", "one", "other", "limit", "middle"] ["table", "heads", "one", "other"] (defScope s_u_needed) := ⟨rfl, rfl, rfl, by decide +kernel, rfl, by decide +kernel, by decide +kernel⟩
theorem ok_needed (F : FnP K "_needed" s_u_needed [] f fd) (G : Facts mg) (C_u_limit : Cal P w K mg base 1 "_limit" (spLimit C) []) : FnOk P w K mg base CX0 2 f fd ["table", "heads", "one", "other"] (spNeeded C) := by
  refine F.ok sc_u_needed (fun vs H Q E h => ?_) (fun cdv A outer s H vs Q E hr h => ?_)
  · obtain ⟨N, t, p, a, b, ns, hs, R, rfl, _⟩ := h
    rfl
  · obtain ⟨N, t, p, a, b, ns, hs, R, rfl, ht, hp, ha, hb, hh, hne, hsn, hk⟩ := h
    have hu := hu_of hr
    refine ⟨_, PSs.nox (pss_cons (ps_set (i := 4) sc_u_needed.nd rfl (.inl rfl) (pe_c C_u_limit hr (by decide) (by rfl) (pa_cons (pv 0) (pa_cons (pv 2) (pa_cons (pv 3) pa_nil)))))
      (pss_cons (ps_if (pt_cmpR op_gt (pv 4) (pe_gi (by rfl) G.HALF) (nomark _)) (pss_one (ps_ret pe_bl)) pss_nil)
      (pss_cons (ps_for PassesOwn.never rfl (kpi_list K (pv 1)) (pg_name (i := 5) sc_u_needed.nd rfl (by first | exact .inl rfl | exact .inr rfl))
        (pss_one (ps_if (PW.pt (pw_and (pt_cmpR op_ne (pv 5) (pv 2) (nomark _)) (pw_and1 (pt_cmpR op_ne (pv 5) (pv 3) (nomark _))))) (pss_one (ps_if (pt_cmpR op_eq (pe_op op_add (pe_c C_u_limit hr (by decide) (by rfl) (pa_cons (pv 0) (pa_cons (pv 2) (pa_cons (pv 5) pa_nil)))) (pe_c C_u_limit hr (by decide) (by rfl) (pa_cons (pv 0) (pa_cons (pv 5) (pa_cons (pv 3) pa_nil))))) (pv 4) (nomark _)) (pss_one (ps_ret pe_bl)) pss_nil)) pss_nil)))
      (pss_one (ps_ret pe_bl))))), ?_⟩
    refine ⟨_, rfl, _, rfl, _, rfl, N, t, a, b, ns, R, rfl, ht, ha, hb, hne, ?_⟩
    refine ⟨_, rfl, _, _, rfl, rfl, _, rfl, ?_⟩
    unfold Df.needed at hk
    by_cases hinf : Df.HALFI < R a b
    · rw [show decide ((100000000000000000000000000000 : Int) < R a b) = true from decide_eq_true hinf]
      rw [Df.opt_inf hinf] at hk
      exact iteT hk
    · rw [show decide ((100000000000000000000000000000 : Int) < R a b) = false from decide_eq_false hinf]
      rw [Df.opt_fin ha hb (by omega)] at hk
      have hk : Q (.bl (hs.all fun m => !Df.blocked (Df.opt ns R) (R a b) a b m)) H := hk
      refine iteF ⟨_, rfl, p, rfl, ⟨_, sq hp⟩, ?_⟩
      refine for_it (walk_list (K := K) (a := p) (xs := hs.map V.str)) (fun i σ H' => ∃ x5, H' = H ∧ σ = [some (.ref t), some (.ref p), some (.str a), some (.str b), some (.int (R a b)), x5] ∧ ∀ m ∈ hs.take i, Df.blocked (Df.opt ns R) (R a b) a b m = false) ⟨_, rfl, rfl, fun m hm => by simp at hm⟩ (fun i σ H' _ ⟨_, e, _⟩ => sq (e ▸ hp)) ?_ ?_
      · rintro i x σ H9 H' hi ⟨x5, rfl, rfl, hno⟩ ⟨rfl, ex⟩
        have hil : i < hs.length := by simpa using hi
        have ex : x = V.str hs[i] := by
          rw [List.getElem?_map, List.getElem?_eq_getElem hil] at ex
          exact (Option.some.inj ex).symm
        subst ex
        have hm := hh _ (List.getElem_mem hil)
        have next : Df.blocked (Df.opt ns R) (R a b) a b hs[i] = false → ∀ m ∈ hs.take (i + 1), Df.blocked (Df.opt ns R) (R a b) a b m = false := fun h m hm => by
          rw [take_snoc hil] at hm
          rcases List.mem_append.mp hm with h1 | h1
          · exact hno m h1
          · rw [List.mem_singleton.mp h1]; exact h
        have skip : (hs[i] = a ∨ hs[i] = b) → Df.blocked (Df.opt ns R) (R a b) a b hs[i] = false := fun h => by
          cases e : Df.blocked (Df.opt ns R) (R a b) a b hs[i] with
          | false => rfl
          | true =>
            obtain ⟨k1, k2, _⟩ := Df.blocked_iff.mp e
            exact absurd h (by simp [k1, k2])
        refine ⟨_, rfl, _, rfl, rfl, _, rfl, ?_⟩
        by_cases h1 : hs[i] = a
        · rw [show (!decide (V.str hs[i] = V.str a)) = false by rw [h1, decide_eq_true rfl]; rfl]
          exact iteF (iteF ⟨_, rfl, rfl, next (skip (.inl h1))⟩)
        rw [show (!decide (V.str hs[i] = V.str a)) = true by rw [decide_eq_false fun e => h1 (by injection e)]; rfl]
        refine iteT ⟨_, rfl, _, rfl, rfl, _, rfl, ?_⟩
        by_cases h2 : hs[i] = b
        · rw [show (!decide (V.str hs[i] = V.str b)) = false by rw [h2, decide_eq_true rfl]; rfl]
          exact iteF ⟨_, rfl, rfl, next (skip (.inr h2))⟩
        rw [show (!decide (V.str hs[i] = V.str b)) = true by rw [decide_eq_false fun e => h2 (by injection e)]; rfl]
        refine iteT ⟨_, rfl, _, rfl, _, rfl, N, t, a, hs[i], ns, R, rfl, ht, ha, hm, hne, _, rfl, _, rfl, _, rfl, N, t, hs[i], b, ns, R, rfl, ht, hm, hb, hne, _, _, rfl, rfl, _, rfl, rfl, _, rfl, ?_⟩
        have e := hsn.blk ha hb hm (by omega) h1 h2
        rw [show decide (V.int (R a hs[i] + R hs[i] b) = V.int (R a b)) = decide (R a hs[i] + R hs[i] b = R a b) by rw [Bool.eq_iff_iff]; simp, e]
        cases hbk : Df.blocked (Df.opt ns R) (R a b) a b hs[i] with
        | true =>
          refine iteT ?_
          rw [show (hs.all fun m => !Df.blocked (Df.opt ns R) (R a b) a b m) = false by
            rw [List.all_eq_false]
            exact ⟨hs[i], List.getElem_mem hil, by rw [hbk]; simp⟩] at hk
          exact hk
        | false => exact iteF ⟨_, rfl, rfl, next hbk⟩
      · rintro σ H' ⟨x5, rfl, rfl, hno⟩
        rw [List.length_map, List.take_length] at hno
        rw [show (hs.all fun m => !Df.blocked (Df.opt ns R) (R a b) a b m) = true by
          rw [List.all_eq_true]
          intro m hm
          rw [hno m hm]
          rfl] at hk
        exact hk
end
end K1

namespace K1
open PySem PySem.Spec PyProof.Rows L2 Ls
theorem mem_len_classes (F : Df.OTab Str) (ns : List Str) (hnd : ns.Nodup) : (Df.classes F ns).length ≤ ns.length ∧ ∀ g ∈ Df.classes F ns, (Df.mem_ g).length ≤ ns.length := by
  have p := Df.part F hnd
  have h := p.sum_len hnd
  refine ⟨?_, fun g hg => ?_⟩
  · rw [← h]
    have : ∀ gs : List (Df.Grp Str), gs.length ≤ (gs.flatMap Df.mem_).length := fun gs => by
      induction gs with
      | nil => simp
      | cons g gs ih =>
        rw [List.flatMap_cons, List.length_append, List.length_cons]
        unfold Df.mem_ at *
        rw [List.length_cons] at *
        omega
    exact this _
  · rw [← h]
    obtain ⟨A, B, e⟩ := List.append_of_mem hg
    rw [e, List.flatMap_append, List.flatMap_cons, List.length_append, List.length_append]
    omega
theorem head_ix {ns : List Str} {g : Df.Grp Str} {F : Df.OTab Str} {pre : List Str} (h : Df.Part F pre (Df.classes F pre)) (hp : ∀ x ∈ pre, x ∈ ns) (hg : g ∈ Df.classes F pre) : g.1 ∈ ns := hp _ (h.hd_mem hg)
section
variable {P : Program} {w : World} {K : PySem.W.Frag} {mg : Str → Option Value} {base : Heap} {f C : Addr} {fd : FuncData} {k : Nat}
theorem sc_classes_of : FnScope ["table", "found", "at", "name", "row", "first"] ["table"] (defScope s_classes_of) := ⟨rfl, rfl, rfl, by decide +kernel, rfl, by decide +kernel, by decide +kernel⟩
theorem ok_classes (F : FnP K "classes_of" s_classes_of [] f fd) (G : Facts mg) (T : TCls K C) : FnOk P w K mg base CX0 1 f fd ["table"] (spClasses C) := by
  refine F.ok sc_classes_of (fun vs H Q E h => ?_) (fun cdv A outer s H vs Q E hr h => ?_)
  · obtain ⟨N, t, ns, R, rfl, _⟩ := h
    rfl
  · obtain ⟨N, t, ns, R, rfl, ⟨dx, an, ar, asp, rs, shown, sp, hNs, ht, han, har, hrs, hsp, hspo, hsl, hss⟩, hnd, hne, hlen, hsn, hk⟩ := h
    have hsh := hss hne
    subst hsh
    have hu := hu_of hr
    refine ⟨_, PSs.nox (pss_cons (ps_set (i := 1) sc_classes_of.nd rfl (.inl rfl) (pe_lst pa_nil))
      (pss_cons (ps_for PassesOwn.never rfl (kpi_enumT K (by rfl) G.enumerate_ (pa_cons (kfld K (pv 0)) pa_nil)) (kpg_tup K rfl (pgs_cons (pg_name (i := 2) sc_classes_of.nd rfl (by first | exact .inl rfl | exact .inr rfl)) (pgs_cons (pg_name (i := 3) sc_classes_of.nd rfl (by first | exact .inl rfl | exact .inr rfl)) pgs_nil)))
        (pss_one (ps_forE PassesOwn.never rfl (kpi_list K (pv 1)) (pg_name (i := 4) sc_classes_of.nd rfl (by first | exact .inl rfl | exact .inr rfl))
          (pss_cons (ps_set (i := 5) sc_classes_of.nd rfl (.inl rfl) (pe_dget hu (kfld K (pv 0)) (pe_ix (kIxL K) (pv 4) pe_int (fun _ _ => rfl)) (fun _ _ => rfl)))
          (pss_one (ps_if (pt_cmpR op_eq (pe_op op_add (pe_ix (kIxL K) (pe_ix (kIxL K) (kfld K (pv 0)) (pv 5) (fun _ _ => rfl)) (pv 2) (fun _ _ => rfl)) (pe_ix (kIxL K) (pe_ix (kIxL K) (kfld K (pv 0)) (pv 2) (fun _ _ => rfl)) (pv 5) (fun _ _ => rfl))) pe_int (nomark _)) (pss_cons (ps_expr (pe_bm PySem.F.plainAttrs_list PySem.F.slot_list_append PySem.F.type_list_append mt_append (pv 4) (pa_cons (pv 3) pa_nil)))
            (pss_one ps_break)) pss_nil))) (pss_one (ps_expr (pe_bm PySem.F.plainAttrs_list PySem.F.slot_list_append PySem.F.type_list_append mt_append (pv 1) (pa_cons (pe_lst (pa_cons (pv 3) pa_nil)) pa_nil)))))))
      (pss_one (ps_ret (pv 1))))), ?_⟩
    refine ⟨by show 0 ≤ sizeLine; decide, fun q nq => ?_⟩
    have s0 := same_upd nq (o := .lst [])
    have q0 : (upd H q (.lst [])) q = some (.lst []) := upd_same
    generalize upd H q (.lst []) = H0 at s0 q0 ⊢
    -- for at, name in enumerate(table.names)
    refine ⟨_, rfl, t, C, dx, _, _, rfl, s0 _ _ ht, T.cl, T.nN, flds_names _ _ _, an, shown.map V.str, rfl, sqt (s0 _ _ han), ?_⟩
    have hOn : ∀ i, i < shown.length → (shown.take i).Nodup := fun i _ => hnd.sublist (List.take_sublist _ _)
    have rowsR : ∀ {u : Str}, u ∈ shown → ∃ (i : Nat) (r : Addr), shown[i]? = some u ∧ valV sp (Sum.inr u : Key) = some (V.int (i : Int)) ∧ rs[i]? = some (V.ref r) ∧ H r = some (.lst (rowV shown R u)) := fun {u} hu => by
      obtain ⟨i, hi, hil⟩ := ix_of hu
      obtain ⟨vi, hvi, ri, rfl, _, hri⟩ := pget hrs hi
      exact ⟨i, ri, hi, hspo _ _ hi (fun z => hne (z ▸ hu)), hvi, hri⟩
    refine for_it (walk_enumT (K := K) (a := an) (xs := shown.map V.str)) (fun i σ H' => ∃ x2 x3 x4 x5 ls, σ = [some (.ref t), some (.ref q), x2, x3, x4, x5] ∧ Same H H' ∧ H' q = some (.lst (ls.map V.ref)) ∧ ls.Nodup ∧ (∀ l ∈ ls, H l = none ∧ l ≠ q) ∧ Paired (fun l g => H' l = some (.lst ((Df.mem_ g).map V.str))) ls (Df.classes (Df.opt shown R) (shown.take i)))
      ⟨_, _, _, _, [], rfl, s0, q0, List.nodup_nil, fun l hl => (List.not_mem_nil hl).elim, .nil⟩ (fun i σ H' _ ⟨_, _, _, _, _, _, s1, _⟩ => sqt (s1 _ _ han)) ?_ ?_
    · rintro i x σ H9 H' hi ⟨x2, x3, x4, x5, ls, rfl, s1, hq, hlnd, hlf, hp⟩ ⟨T', y1, y2, rfl, nT, rfl, e1, e2⟩
      cases e1
      have hil : i < shown.length := by simpa using hi
      have e2 : y2 = V.str shown[i] := by
        have e2 : (shown.map V.str)[i]? = some y2 := e2
        rw [List.getElem?_map, List.getElem?_eq_getElem hil] at e2
        exact (Option.some.inj e2).symm
      subst e2
      have sT := same_upd nT (o := .tup [V.int (i : Int), V.str shown[i]])
      refine ⟨T', _, rfl, sqt upd_same, rfl, _, _, rfl, _, _, rfl, rfl, ?_⟩
      have hqT := sT _ _ hq
      have sA := s1.trans sT
      have hpT : Paired (fun l g => (upd H9 T' (.tup [V.int (i : Int), V.str shown[i]])) l = some (.lst ((Df.mem_ g).map V.str))) ls (Df.classes (Df.opt shown R) (shown.take i)) := pmono (fun l g e => sT _ _ e) hp
      generalize upd H9 T' (.tup [V.int (i : Int), V.str shown[i]]) = H2 at sA hqT hpT ⊢
      have part := Df.part (Df.opt shown R) (hnd.sublist (List.take_sublist i shown))
      have hgl := mem_len_classes (Df.opt shown R) (shown.take i) (hnd.sublist (List.take_sublist i shown))
      have hil2 := List.length_take_le i shown
      have hlsl : ls.length = (Df.classes (Df.opt shown R) (shown.take i)).length := plen hpT
      have hin : shown[i] ∈ shown := List.getElem_mem hil
      have esn : Df.classes (Df.opt shown R) (shown.take (i + 1)) = Df.addTo (Df.opt shown R) (Df.classes (Df.opt shown R) (shown.take i)) shown[i] := by
        rw [take_snoc hil, Df.classes_snoc]
      have hsub : ∀ x ∈ shown.take i, x ∈ shown := fun x hx => List.mem_of_mem_take hx
      generalize hgs : Df.classes (Df.opt shown R) (shown.take i) = gs at part hgl hpT hlsl esn
      -- for row in found
      refine ⟨_, rfl, q, rfl, ⟨_, sq hqT⟩, ?_⟩
      refine forE_it (walk_list (K := K) (a := q) (xs := ls.map V.ref)) (fun j σ H' => ∃ x4 x5, H' = H2 ∧ σ = [some (.ref t), some (.ref q), some (.int (i : Int)), some (.str shown[i]), x4, x5] ∧ ∀ k (hk : k < j) (hk2 : k < gs.length), Df.eqc (Df.opt shown R) gs[k].1 shown[i] = false)
        ⟨_, _, rfl, rfl, fun k hk _ => absurd hk (Nat.not_lt_zero _)⟩ (fun j σ H' _ ⟨_, _, e, _⟩ => sq (e ▸ hqT)) ?_ ?_
      · rintro j y σ H8 H' hj ⟨x4, x5, rfl, rfl, hno⟩ ⟨rfl, ey⟩
        have hjl : j < gs.length := by rw [List.length_map] at hj; omega
        obtain ⟨l, hl, hrow⟩ := pget hpT (List.getElem?_eq_getElem hjl)
        have ey : y = V.ref l := by
          rw [List.getElem?_map, hl] at ey
          exact (Option.some.inj ey).symm
        subst ey
        have hgin : gs[j].1 ∈ shown := hsub _ (part.hd_mem (List.getElem_mem hjl))
        obtain ⟨m, rm, hm1, hm2, hm3, hm4⟩ := rowsR hgin
        obtain ⟨m', rm', hn1, hn2, hn3, hn4⟩ := rowsR hin
        have emi : m' = i := by
          obtain ⟨h1, e1⟩ := List.getElem?_eq_some_iff.mp hn1
          exact (List.getElem_inj hnd).mp e1
        subst emi
        refine ⟨_, rfl, t, C, dx, _, _, rfl, sA _ _ ht, T.cl, T.nS, flds_spots _ _ _, _, rfl, l, _, _, _, rfl, rfl, sq hrow, (show atI ((Df.mem_ gs[j]).map V.str) ((0 : Nat) : Int) = some (V.str gs[j].1) from atI_nat rfl), asp, _, rfl, dget (sA _ _ hsp) hm2, ?_⟩
        refine ⟨_, rfl, t, C, dx, _, _, rfl, sA _ _ ht, T.cl, T.nR, flds_rows _ _ _, _, rfl, ar, rs, _, _, rfl, rfl, sq (sA _ _ har), atI_nat hm3, _, rfl, rm, _, _, _, rfl, rfl, sq (sA _ _ hm4), atI_nat (row_at hn1), ?_⟩
        refine ⟨_, rfl, t, C, dx, _, _, rfl, sA _ _ ht, T.cl, T.nR, flds_rows _ _ _, _, rfl, ar, rs, _, _, rfl, rfl, sq (sA _ _ har), atI_nat hn3, _, rfl, rm', _, _, _, rfl, rfl, sq (sA _ _ hn4), atI_nat (row_at hm1), _, _, rfl, rfl, rfl, _, rfl, ?_⟩
        rw [show decide (V.int (R gs[j].1 shown[m'] + R shown[m'] gs[j].1) = V.int 0) = decide (R gs[j].1 shown[m'] + R shown[m'] gs[j].1 = 0) by rw [Bool.eq_iff_iff]; simp, hsn.eq hgin hin]
        cases he : Df.eqc (Df.opt shown R) gs[j].1 shown[m'] with
        | true =>
          refine iteT ?_
          -- row.append(name); break
          have hmg := hgl.2 _ (List.getElem_mem hjl)
          refine ⟨_, rfl, .inl ⟨rfl, _, sq hrow⟩, _, rfl, l, _, _, rfl, rfl, hrow, ?_, ?_⟩
          · rw [List.length_map]
            exact szlt (by omega)
          have hlq : l ≠ q := (hlf _ (List.mem_of_getElem? hl)).2
          refine ⟨_, _, _, _, ls, rfl, same_mut sA (hlf _ (List.mem_of_getElem? hl)).1, by rw [upd_ne hlq.symm]; exact hqT, hlnd, hlf, ?_⟩
          rw [esn, addTo_at _ _ gs j hjl (fun k hk => hno k hk (by omega)) he]
          refine pset j hpT (fun k l' g hk hl' e => ?_) fun l' hl' => ?_
          · have : l' ≠ l := fun z => by
              subst z
              obtain ⟨h1, e1⟩ := List.getElem?_eq_some_iff.mp hl
              obtain ⟨h2, e2⟩ := List.getElem?_eq_some_iff.mp hl'
              exact hk ((List.getElem_inj hlnd).mp (e2.trans e1.symm))
            rw [upd_ne this]
            exact e
          · rw [hl] at hl'
            cases hl'
            rw [upd_same]
            simp [Df.mem_]
        | false =>
          refine iteF ⟨_, _, rfl, rfl, fun k hk hk2 => ?_⟩
          by_cases hkj : k < j
          · exact hno k hkj hk2
          · have : k = j := by omega
            subst this
            exact he
      · rintro σ H' ⟨x4, x5, rfl, rfl, hno⟩
        rw [List.length_map, hlsl] at hno
        -- found.append([name])
        refine ⟨_, rfl, .inl ⟨rfl, _, sq hqT⟩, ?_⟩
        refine ⟨_, rfl, by show 1 ≤ sizeLine; decide, fun p np => ?_⟩
        have sp := same_upd np (o := .lst [V.str shown[i]])
        have hpq : p ≠ q := (ne_of_none hqT np).symm
        refine ⟨q, _, _, rfl, rfl, sp _ _ hqT, ?_, _, _, _, _, ls ++ [p], rfl, same_mut (sA.trans sp) nq, by rw [upd_same, List.map_append]; rfl, ?_, ?_, ?_⟩
        · rw [List.length_map]
          exact szlt (by omega)
        · rw [List.nodup_append]
          refine ⟨hlnd, by simp, fun a ha b hb e => ?_⟩
          rw [List.mem_singleton.mp hb] at e
          subst e
          obtain ⟨j, hj, ej⟩ := List.mem_iff_getElem.mp ha
          have hjl : j < gs.length := by omega
          obtain ⟨l, hl, hrow⟩ := pget hpT (List.getElem?_eq_getElem hjl)
          rw [List.getElem?_eq_getElem hj, ej] at hl
          cases hl
          rw [np] at hrow
          cases hrow
        · intro l hl
          rcases List.mem_append.mp hl with h | h
          · exact hlf l h
          · rw [List.mem_singleton.mp h]
            exact ⟨sA.free np, hpq⟩
        · rw [esn, addTo_no _ _ gs fun k hk => hno k hk hk]
          have keep : ∀ l (g : Df.Grp Str), l ≠ q → H' l = some (.lst ((Df.mem_ g).map V.str)) → (upd (upd H' p (.lst [V.str shown[i]])) q (.lst (ls.map V.ref ++ [.ref p]))) l = some (.lst ((Df.mem_ g).map V.str)) := fun l g hl e => by
            rw [upd_ne hl]
            exact sp _ _ e
          have keep2 : ∀ {ls : List Addr} {gs : List (Df.Grp Str)} {H3 : Hp}, (∀ l ∈ ls, l ≠ q) → (∀ l (g : Df.Grp Str), l ≠ q → H' l = some (.lst ((Df.mem_ g).map V.str)) → H3 l = some (.lst ((Df.mem_ g).map V.str))) → Paired (fun l g => H' l = some (.lst ((Df.mem_ g).map V.str))) ls gs → Paired (fun l g => H3 l = some (.lst ((Df.mem_ g).map V.str))) ls gs := by
            intro ls gs H3 hq k p
            induction p with
            | nil => exact .nil
            | cons r t ih => exact .cons (k _ _ (hq _ List.mem_cons_self) r) (ih fun l hl => hq l (List.mem_cons_of_mem _ hl))
          exact (keep2 (fun l hl => (hlf l hl).2) keep hpT).snoc (by rw [upd_ne hpq]; exact upd_same)
    · rintro σ H' ⟨x2, x3, x4, x5, ls, rfl, s1, hq, hlnd, hlf, hp⟩
      rw [List.length_map, List.take_length] at hp
      exact ⟨_, rfl, hk H' q s1 ⟨ls, hq, hp⟩⟩
end
end K1

namespace K1
open PySem PySem.Spec PyProof.Rows L2 Ls
/-! ### the fewest differences -/
theorem cutf1 (xs : List V) : cutV xs (some 1) none = xs.drop 1 := by
  unfold cutV
  have h1 : HT.sIx xs.length 0 (some 1) = min 1 xs.length := HT.sIx_nat xs.length 0 1
  rw [h1, HT.sIx_none]
  cases xs with
  | nil => rfl
  | cons x r => simp
theorem cutt1 (xs : List V) : cutV xs none (some 1) = xs.take 1 := by
  unfold cutV
  have h1 : HT.sIx xs.length xs.length (some 1) = min 1 xs.length := HT.sIx_nat xs.length xs.length 1
  rw [h1, HT.sIx_none, List.drop_zero, Nat.sub_zero]
  cases xs with
  | nil => rfl
  | cons x r => simp
def rowR (R : Df.Tab Str) (p : Str × Str) : Df3 := (p.1, p.2, R p.1 p.2)
def spRingOf (C : Addr) : Sp := fun vs H Q _ => ∃ (N : Addr → Prop) (t p : Addr) (ns : List Str) (R : Df.Tab Str) (g : Df.Grp Str), vs = [.ref t, .ref p] ∧ TabAt N C H t ns R ∧ H p = some (.lst ((Df.mem_ g).map V.str)) ∧ (∀ x ∈ Df.mem_ g, x ∈ ns) ∧ ("" : Str) ∉ ns ∧ (Df.mem_ g).length ≤ 1000 ∧
  ∀ H' q, Same H H' → H q = none → SysAt H' q ((Df.ringP g).map (rowR R)) → Q (.ref q) H'
section
variable {P : Program} {w : World} {K : PySem.W.Frag} {mg : Str → Option Value} {base : Heap} {f C CN : Addr} {fd : FuncData} {k : Nat}
theorem sc_u_ring_of : FnScope ["table", "names", "left", "right"] ["table", "names"] (defScope s_u_ring_of) := ⟨rfl, rfl, rfl, by decide +kernel, rfl, by decide +kernel, by decide +kernel⟩
theorem ok_ring_of (F : FnP K "_ring_of" s_u_ring_of [] f fd) (G : Facts mg) (C_u_limit : Cal P w K mg base 1 "_limit" (spLimit C) []) : FnOk P w K mg base CX0 2 f fd ["table", "names"] (spRingOf C) := by
  refine F.ok sc_u_ring_of (fun vs H Q E h => ?_) (fun cdv A outer s H vs Q E hr h => ?_)
  · obtain ⟨N, t, p, ns, R, g, rfl, _⟩ := h
    rfl
  · obtain ⟨N, t, p, ns, R, g, rfl, ht, hp, hin, hne, hlen, hk⟩ := h
    have hu := hu_of hr
    refine ⟨_, PSs.nox (pss_cons (ps_if (pt_cmpR op_eq (pe_callB (kLen K) (by rfl) G.len_ PySem.boot_len (pa_cons (pv 1) pa_nil)) pe_int (nomark _)) (pss_one (ps_ret (pe_lst pa_nil))) pss_nil)
      (pss_one (ps_ret (pe_lc (own := [("left", 2), ("right", 3)]) (g := gTup K 2 (gCons (gName 2) (gCons (gName 3) (gNil)))) (tt := tYes) rfl sc_u_ring_of.nd  (kpi_list K (pe_listZip rfl (by rfl) G.list_ (by decide +kernel) (by rfl) G.zip_ (pa_cons (pv 1) (pa_cons (pe_op op_cat (pe_slice (kSlL K) (pv 1) (po_some pe_int) po_none) (pe_slice (kSlL K) (pv 1) po_none (po_some pe_int))) pa_nil)))) (blkOk_by (by kernel_rfl)) (fun _ _ _ _ _ => (kpg_tup K rfl (pgs_cons (pg_name (i := 2) sc_u_ring_of.nd rfl (by first | exact .inl rfl | exact .inr rfl)) (pgs_cons (pg_name (i := 3) sc_u_ring_of.nd rfl (by first | exact .inl rfl | exact .inr rfl)) pgs_nil)))) (fun _ _ _ _ _ => pts_nil) (fun _ _ _ _ _ => (pe_tup (pa_cons (pv 2) (pa_cons (pv 3) (pa_cons (pe_c C_u_limit hr (by decide) (by rfl) (pa_cons (pv 0) (pa_cons (pv 2) (pa_cons (pv 3) pa_nil)))) pa_nil))))))))), ?_⟩
    refine ⟨_, rfl, p, _, rfl, .inl (sq hp), rfl, _, rfl, ?_⟩
    have hml : (Df.mem_ g).length = g.2.length + 1 := rfl
    by_cases h1 : g.2 = []
    · rw [show decide (V.int (((Df.mem_ g).map V.str).length : Int) = V.int 1) = true by rw [List.length_map, hml, h1]; rfl]
      refine iteT ⟨by show 0 ≤ sizeLine; decide, fun q nq => ?_⟩
      exact hk _ q (same_upd nq) nq ⟨[], upd_same, by unfold Df.ringP; rw [if_pos h1]; exact .nil⟩
    · have hpos := List.length_pos_iff.mpr h1
      rw [show decide (V.int (((Df.mem_ g).map V.str).length : Int) = V.int 1) = false from decide_eq_false fun z => by
        injection z with z
        rw [List.length_map, hml] at z
        omega]
      refine iteF ?_
      -- list(zip(names, names[1:] + names[:1]))
      refine ⟨_, rfl, _, rfl, _, rfl, p, _, rfl, sq hp, fun p1 n1 => ?_⟩
      rw [cutf1, ← List.map_drop]
      have t1 := same_upd n1 (o := .lst (((Df.mem_ g).drop 1).map V.str))
      refine ⟨_, rfl, _, rfl, p, _, rfl, sq (t1 _ _ hp), fun p2 n2 => ?_⟩
      rw [cutt1, ← List.map_take]
      have t2 := same_upd n2 (o := .lst (((Df.mem_ g).take 1).map V.str))
      refine ⟨p1, p2, _, _, rfl, rfl, t2 _ _ upd_same, upd_same, szl (by simp; omega), fun p3 n3 => ?_⟩
      rw [← List.map_append, show (Df.mem_ g).drop 1 ++ (Df.mem_ g).take 1 = g.2 ++ [g.1] from rfl]
      have t3 := same_upd n3 (o := .lst ((g.2 ++ [g.1]).map V.str))
      have sA := t1.trans (t2.trans t3)
      refine ⟨p, p3, (Df.mem_ g).map V.str, (g.2 ++ [g.1]).map V.str, rfl, sA _ _ hp, upd_same, by simp [Df.mem_], szlt (by rw [List.length_map]; omega), fun H4 q ts s4 nq hts hq => ?_⟩
      have sB := sA.trans s4
      have hzip : ((Df.mem_ g).map V.str).zip ((g.2 ++ [g.1]).map V.str) = (Df.ringE g).map fun e => (V.str e.1, V.str e.2) := by
        unfold Df.ringE Df.mem_
        rw [List.zip_map]
        rfl
      rw [hzip] at hts
      have hrl : (Df.ringE g).length = g.2.length + 1 := by
        unfold Df.ringE
        rw [List.length_zip]
        simp
      have htl : ts.length = (Df.ringE g).length := by rw [plen hts, List.length_map]
      refine ⟨q, rfl, ⟨_, sq hq⟩, fun D hD => ?_⟩
      have hts2 := pmap (fun e : Str × Str => (V.str e.1, V.str e.2)) hts
      refine lc_it (walk_list (K := K) (a := q) (xs := ts.map V.ref)) (fun i H' => ∃ out, Same H4 H' ∧ H' D = some (.lst out) ∧ Paired (fun v e => v ≠ V.ref D ∧ RowT H' v e) out (((Df.ringE g).take i).map (rowR R))) ⟨[], same_upd hD, upd_same, by rw [List.take_zero]; exact .nil⟩ (fun i H' _ ⟨_, s5, _⟩ => sq (s5 _ _ hq)) ?_ ?_
      · rintro i y H9 H' hi ⟨out, s5, hd, ho⟩ ⟨rfl, ey⟩
        have hir : i < (Df.ringE g).length := by rw [List.length_map] at hi; omega
        obtain ⟨ti, hti, hrow⟩ := pget hts2 (List.getElem?_eq_getElem hir)
        have ey : y = V.ref ti := by
          rw [List.getElem?_map, hti] at ey
          exact (Option.some.inj ey).symm
        subst ey
        have hri := Df.ring_in (g := g) (List.getElem_mem hir)
        refine ⟨ti, _, rfl, sqt (s5 _ _ hrow), rfl, _, _, rfl, _, _, rfl, rfl, rfl, ?_⟩
        refine ⟨_, rfl, _, rfl, _, rfl, _, rfl, _, rfl, N, t, _, _, ns, R, rfl, ht.mono (sB.trans s5), hin _ hri.1, hin _ hri.2, hne, by show 3 ≤ sizeLine; decide, fun r nr => ?_⟩
        have sr := same_upd nr (o := .tup [.str (Df.ringE g)[i].1, .str (Df.ringE g)[i].2, .int (R (Df.ringE g)[i].1 (Df.ringE g)[i].2)])
        have rD : r ≠ D := (ne_of_none hd nr).symm
        refine ⟨out, sr _ _ hd, ?_, out ++ [.ref r], same_mut (s5.trans sr) hD, upd_same, ?_⟩
        · rw [plen ho, List.length_map, List.length_take]
          exact szlt (by omega)
        · rw [take_snoc hir, List.map_append]
          have keep : ∀ v e, (v ≠ V.ref D ∧ RowT H' v e) → v ≠ V.ref D ∧ RowT (upd (upd H' r (.tup [.str (Df.ringE g)[i].1, .str (Df.ringE g)[i].2, .int (R (Df.ringE g)[i].1 (Df.ringE g)[i].2)])) D (.lst (out ++ [.ref r]))) v e := fun v e ⟨e0, r', e1, e2⟩ =>
            ⟨e0, r', e1, by rw [upd_ne (fun z => e0 (by rw [e1, z]))]; exact sr _ _ e2⟩
          exact (pmono keep ho).snoc ⟨fun z => rD (by injection z), r, rfl, by rw [upd_ne rD]; exact upd_same⟩
      · rintro H' ⟨out, s5, hd, ho⟩
        rw [List.length_map, htl, List.take_length] at ho
        exact hk H' D (sB.trans s5) (sB.free hD) ⟨out, hd, by unfold Df.ringP; rw [if_neg h1]; exact pmono (fun _ _ q => q.2) ho⟩
end
end K1

namespace K1
open PySem PySem.Spec PyProof.Rows L2 Ls
theorem sane_of {ns : List Str} {B : Int} {S : List Df3} {R : Df.Tab Str} (h : Df.Ok ns B S R) (hB : B ≤ 10 ^ 28) : Sane ns R := fun u hu v hv => by
  rcases h.size u hu v hv with z | z
  · left; omega
  · right; omega
theorem few_rows {ns : List Str} {R : Df.Tab Str} {gs : List (Df.Grp Str)} (p : Df.Part (Df.opt ns R) ns gs) (cl : Df.Cl ns (Df.opt ns R)) : (Df.fewP (Df.opt ns R) gs).map (rowR R) = Df.few (Df.opt ns R) gs := by
  unfold Df.few
  refine List.map_congr_left fun e he => ?_
  obtain ⟨_, _, k⟩ := p.fin cl he
  obtain ⟨_, _, _, ev⟩ := Df.opt_some k
  show (e.1, e.2, R e.1 e.2) = (e.1, e.2, Df.val (Df.opt ns R) e.1 e.2)
  rw [ev]
def spFewest (CN : Addr) : Sp := fun vs H Q E => ∃ (a : Addr) (S : List Df3) (L : Int), vs = [.ref a] ∧ SysAt H a S ∧ GoodS S ∧ S.length ≤ 400 ∧ Df.Fit (("0" : Str) :: namesOf S) S L ∧ (("0" : Str) :: namesOf S).length ≤ 5 ∧ (Df.addedR Df.blankR S = none → ∀ H', Same H H' → E (.ref CN) none H') ∧
  (∀ R, Df.addedR Df.blankR S = some R → ∀ H' q, Same H H' → SysAt H' q (Df.few (Df.opt (("0" : Str) :: namesOf S) R) (Df.classes (Df.opt (("0" : Str) :: namesOf S) R) (("0" : Str) :: namesOf S))) → Q (.ref q) H')
theorem paired_keep {H H' : Hp} {out : List V} {S : List Df3} (h : Paired (RowT H) out S) (k : ∀ v e, RowT H v e → RowT H' v e) : Paired (RowT H') out S := pmono k h
section
variable {P : Program} {w : World} {K : PySem.W.Frag} {mg : Str → Option Value} {base : Heap} {f C CN : Addr} {fd : FuncData} {k : Nat}
theorem sc_fewest : FnScope ["system", "table", "groups", "heads", "names", "found", "row", "one", "other"] ["system"] (defScope s_fewest) := ⟨rfl, rfl, rfl, by decide +kernel, rfl, by decide +kernel, by decide +kernel⟩
theorem ok_fewest (F : FnP K "fewest" s_fewest [] f fd) (G : Facts mg) (NX : ExcF K mg "NoSolution" CN) (C_checked_system : Cal P w K mg base 2 "checked_system" spChecked [.non]) (C_names_of : Cal P w K mg base 1 "names_of" spNamesOf []) (C_table_of : Cal P w K mg base 5 "table_of" (spTableOf C) [])
    (C_classes_of : Cal P w K mg base 1 "classes_of" (spClasses C) []) (C_u_ring_of : Cal P w K mg base 2 "_ring_of" (spRingOf C) []) (C_u_needed : Cal P w K mg base 2 "_needed" (spNeeded C) []) (C_u_limit : Cal P w K mg base 1 "_limit" (spLimit C) []) :
    FnOk P w K mg base (L2N.CX P w) 6 f fd ["system"] (spFewest CN) := by
  refine F.ok sc_fewest (fun vs H Q E h => ?_) (fun cdv A outer s H vs Q E hr h => ?_)
  · obtain ⟨a, S, L, rfl, _⟩ := h
    rfl
  · obtain ⟨a, S, L, rfl, hS, hgood, hlen, fit, h5, hkN, hk⟩ := h
    have hu := hu_of hr
    refine ⟨_, (pss_cons (ps_set (i := 0) sc_fewest.nd rfl (.inl rfl) (pe_c C_checked_system hr (by decide) (by rfl) (pa_cons (pv 0) pa_nil)))
      (pss_cons (ps_set (i := 1) sc_fewest.nd rfl (.inr rfl) (pe_c C_table_of hr (by decide) (by rfl) (pa_cons (pe_c C_names_of hr (by decide) (by rfl) (pa_cons (pv 0) pa_nil)) (pa_cons (pv 0) pa_nil))))
      (pss_cons (ps_if (pt_cmpR op_isN (pv 1) pe_non (nomark _)) (pss_one (L2N.ps_raise rfl (L2N.takes_of rfl rfl rfl rfl) (pmk_own0N PySem.F.excBase_ValueError NX.xP NX.gP NX.kP (raises_own NX.bP NX.tP) (by rfl)))) pss_nil)
      (pss_cons (ps_set (i := 2) sc_fewest.nd rfl (.inl rfl) (pe_c C_classes_of hr (by decide) (by rfl) (pa_cons (pv 1) pa_nil)))
      (pss_cons (ps_setLc (i := 3) (own := [("names", 4)]) (g := gName 4) (tt := tYes) rfl sc_fewest.nd rfl rfl (sw_true rfl rfl rfl (by decide +kernel)) (kpi_list K (pv 2)) (blkOk_by (by kernel_rfl)) (fun _ _ _ _ _ => (pg_name (i := 4) sc_fewest.nd rfl (by first | exact .inl rfl | exact .inr rfl))) (fun _ _ _ _ _ => pts_nil) (fun _ _ _ _ _ => (pe_ix (kIxL K) (pv 4) pe_int (fun _ _ => rfl))))
      (pss_cons (ps_setLc2 (i := 5) (own := [("names", 4), ("row", 6)]) (vs1 := [6]) (g := gName 4) (g1 := gName 6) (tt := tYes) (tt1 := tYes) rfl sc_fewest.nd rfl rfl (sw_true rfl rfl rfl (by decide +kernel)) (kpi_list K (pv 2)) (blkOk_by (by kernel_rfl)) (by decide) (fun _ _ _ _ _ => (pg_name (i := 4) sc_fewest.nd rfl (by first | exact .inl rfl | exact .inr rfl))) (fun _ _ _ _ _ => pts_nil) (fun _ _ _ _ _ => (kpi_list K (pe_c C_u_ring_of hr (by decide) (by rfl) (pa_cons (pv 1) (pa_cons (pv 4) pa_nil))))) (fun _ _ _ _ _ => (pg_name (i := 6) sc_fewest.nd rfl (by first | exact .inl rfl | exact .inr rfl))) (fun _ _ _ _ _ => pts_nil) (fun _ _ _ _ _ => (pv 6)))
      (pss_cons (ps_for (passes_of rfl) rfl (kpi_list K (pv 3)) (pg_name (i := 7) sc_fewest.nd rfl (by first | exact .inl rfl | exact .inr rfl))
        (pss_one (ps_for (passes_of rfl) rfl (kpi_list K (pv 3)) (pg_name (i := 8) sc_fewest.nd rfl (by first | exact .inl rfl | exact .inr rfl))
          (pss_one (ps_if (PW.pt (pw_and (pt_cmpR op_ne (pv 7) (pv 8) (nomark _)) (pw_and1 (pt_val (pe_c C_u_needed hr (by decide) (by rfl) (pa_cons (pv 1) (pa_cons (pv 3) (pa_cons (pv 7) (pa_cons (pv 8) pa_nil))))))))) (pss_one (ps_expr (pe_bm PySem.F.plainAttrs_list PySem.F.slot_list_append PySem.F.type_list_append mt_append (pv 5) (pa_cons (pe_tup (pa_cons (pv 7) (pa_cons (pv 8) (pa_cons (pe_c C_u_limit hr (by decide) (by rfl) (pa_cons (pv 1) (pa_cons (pv 7) (pa_cons (pv 8) pa_nil)))) pa_nil)))) pa_nil)))) pss_nil)))))
      (pss_one (ps_ret (pv 5)))))))))), ?_⟩
    refine ⟨_, rfl, a, S, rfl, hS.q, hgood, by omega, fun H1 b s1 hS1 => ?_⟩
    refine ⟨_, rfl, b, S, rfl, hS1, by omega, fun H2 q s2 nq hq => ?_⟩
    have hl := len_namesOf S
    have hnd := nd_namesOf S
    have hne : ("" : Str) ∉ ("0" : Str) :: namesOf S := fun z => (List.mem_cons.mp z).elim (fun z => absurd z (by decide +kernel)) hgood.names
    refine ⟨_, rfl, fun _ => True, q, b, namesOf S, _, S, rfl, fun _ _ => trivial, hq, Lab.of hnd, by omega, hS1.mono s2, sys_in S, hgood.ends, fun R e H3 t s3 ht => ?_, fun e H3 s3 => ?_⟩
    · refine ⟨_, rfl, rfl, _, rfl, ?_⟩
      rw [decide_eq_false (show ¬ V.ref t = V.non from fun z => by cases z)]
      refine iteF ?_
      have l3 := fit.le3
      obtain ⟨ok, wk⟩ := fit.some e
      have sane := sane_of ok l3.1
      have cl := ok.cl l3.1
      have part := Df.part (Df.opt (("0" : Str) :: namesOf S) R) hnd
      have h20 := part.len20 cl hnd h5
      have hfr := few_rows part cl
      have s03 := s1.trans (s2.trans s3)
      have hgl := mem_len_classes (Df.opt (("0" : Str) :: namesOf S) R) _ hnd
      have hk := hk R e
      generalize hns : ("0" : Str) :: namesOf S = ns at *
      -- groups
      refine ⟨_, rfl, _, t, ns, R, rfl, ht, hnd, hne, by omega, sane, fun H4 g s4 hg => ?_⟩
      generalize hgs : Df.classes (Df.opt ns R) ns = gs at *
      obtain ⟨ls, hgq, hgp⟩ := hg
      have hlsl : ls.length = gs.length := plen hgp
      have ht4 := ht.mono s4
      have hgin : ∀ {i : Nat} (hi : i < gs.length), ∀ x ∈ Df.mem_ gs[i], x ∈ ns := fun {i} hi x hx => part.in_ (List.getElem_mem hi) hx
      -- heads
      refine ⟨_, rfl, g, rfl, ⟨_, sq hgq⟩, fun D hD => ?_⟩
      refine lc_it (walk_list (K := K) (a := g) (xs := ls.map V.ref)) (fun i H' => Same H4 H' ∧ H' D = some (.lst ((Df.hds (gs.take i)).map V.str))) ⟨same_upd hD, upd_same⟩ (fun i H' _ ⟨s5, _⟩ => sq (s5 _ _ hgq)) ?_ ?_
      · rintro i y H9 H' hi ⟨s5, hd⟩ ⟨rfl, ey⟩
        have hil : i < gs.length := by rw [List.length_map] at hi; omega
        obtain ⟨l, hl', hrow⟩ := pget hgp (List.getElem?_eq_getElem hil)
        have ey : y = V.ref l := by
          rw [List.getElem?_map, hl'] at ey
          exact (Option.some.inj ey).symm
        subst ey
        refine ⟨rfl, _, rfl, l, _, _, _, rfl, rfl, sq (s5 _ _ hrow), (show atI ((Df.mem_ gs[i]).map V.str) ((0 : Nat) : Int) = some (V.str gs[i].1) from atI_nat rfl), _, hd, ?_, same_mut s5 hD, ?_⟩
        · rw [List.length_map]
          unfold Df.hds
          rw [List.length_map, List.length_take]
          exact szlt (by omega)
        · rw [upd_same, take_snoc hil]
          unfold Df.hds
          rw [List.map_append, List.map_append]
          rfl
      rintro H5 ⟨s5, hd5⟩
      rw [List.length_map, hlsl, List.take_length] at hd5
      have ht5 := ht4.mono s5
      have hgq5 := s5 _ _ hgq
      -- the rings
      refine ⟨_, rfl, g, rfl, ⟨_, sq hgq5⟩, fun D2 hD2 => ?_⟩
      have rl20 : ∀ i, ((gs.take i).flatMap Df.ringP).length ≤ 20 := fun i => by
        have h1 : ((gs.take i).flatMap Df.ringP).length ≤ (gs.flatMap Df.ringP).length := by
          conv => rhs; rw [← List.take_append_drop i gs]
          rw [List.flatMap_append, List.length_append]
          omega
        have h2 : (Df.few (Df.opt ns R) gs).length = (gs.flatMap Df.ringP).length + (Df.pairsP (Df.opt ns R) (Df.hds gs)).length := by
          unfold Df.few Df.fewP
          rw [List.length_map, List.length_append]
        omega
      refine lc2_it (walk_list (K := K) (a := g) (xs := ls.map V.ref)) (fun i H' => Same H5 H' ∧ ∃ out, H' D2 = some (.lst out) ∧ Paired (RowT H') out (((gs.take i).flatMap Df.ringP).map (rowR R))) ⟨same_upd hD2, [], upd_same, by rw [List.take_zero]; exact .nil⟩ (fun i H' _ ⟨s6, _⟩ => sq (s6 _ _ hgq5)) ?_ ?_
      · rintro i y H9 H' hi ⟨s6, out, hd, ho⟩ ⟨rfl, ey⟩
        have hil : i < gs.length := by rw [List.length_map] at hi; omega
        obtain ⟨l, hl', hrow⟩ := pget hgp (List.getElem?_eq_getElem hil)
        have ey : y = V.ref l := by
          rw [List.getElem?_map, hl'] at ey
          exact (Option.some.inj ey).symm
        subst ey
        have hml := hgl.2 _ (List.getElem_mem hil)
        refine ⟨rfl, _, rfl, _, rfl, _, t, l, ns, R, gs[i], rfl, ht5.mono s6, s6 _ _ (s5 _ _ hrow), hgin hil, hne, by omega, fun H7 qr s7 nqr hr7 => ?_⟩
        obtain ⟨vr, hqr, hvr⟩ := hr7
        have qrD : qr ≠ D2 := (ne_of_none hd nqr).symm
        refine ⟨qr, rfl, ⟨_, sq hqr⟩, ?_⟩
        have hvl : vr.length = (Df.ringP gs[i]).length := by rw [plen hvr, List.length_map]
        have er : (gs.take (i + 1)).flatMap Df.ringP = (gs.take i).flatMap Df.ringP ++ Df.ringP gs[i] := by
          rw [take_snoc hil, List.flatMap_append]
          simp
        have b20 := rl20 (i + 1)
        rw [er, List.length_append] at b20
        refine lc_in (walk_list (K := K) (a := qr) (xs := vr)) (fun j H' => Same H5 H' ∧ H' qr = some (.lst vr) ∧ Paired (RowT H') vr ((Df.ringP gs[i]).map (rowR R)) ∧ ∃ out, H' D2 = some (.lst out) ∧ Paired (RowT H') out (((gs.take i).flatMap Df.ringP ++ (Df.ringP gs[i]).take j).map (rowR R))) ⟨s6.trans s7, hqr, hvr, out, s7 _ _ hd, by rw [List.take_zero, List.append_nil]; exact pmono (fun _ _ q => q.imp fun _ q => ⟨q.1, s7 _ _ q.2⟩) ho⟩ (fun j H' _ ⟨_, h, _⟩ => sq h) ?_ ?_
        · rintro j y H8 H' hj ⟨s8, hq8, hv8, out8, hd8, ho8⟩ ⟨rfl, ey⟩
          have hjl : j < (Df.ringP gs[i]).length := by omega
          obtain ⟨v, hv, r, rfl, hrow8⟩ := pget hv8 (show ((Df.ringP gs[i]).map (rowR R))[j]? = some (rowR R (Df.ringP gs[i])[j]) by rw [List.getElem?_map, List.getElem?_eq_getElem hjl]; rfl)
          rw [hv] at ey
          cases ey
          have keep : ∀ v e, RowT H' v e → RowT (upd H' D2 (.lst (out8 ++ [.ref r]))) v e := fun v e ⟨r', e1, e2⟩ => ⟨r', e1, by
            have : r' ≠ D2 := fun z => by rw [z, hd8] at e2; cases e2
            rw [upd_ne this]; exact e2⟩
          refine ⟨rfl, _, rfl, out8, hd8, ?_, same_mut s8 hD2, by rw [upd_ne qrD]; exact hq8, pmono keep hv8, _, upd_same, ?_⟩
          · rw [plen ho8, List.length_map, List.length_append, List.length_take]
            exact szlt (by omega)
          · rw [take_snoc hjl, ← List.append_assoc, List.map_append]
            exact (pmono keep ho8).snoc (keep _ _ ⟨r, rfl, hrow8⟩)
        · rintro H' ⟨s8, _, _, out8, hd8, ho8⟩
          rw [hvl, List.take_length, ← er] at ho8
          exact ⟨s8, out8, hd8, ho8⟩
      rintro H6 ⟨s6, out6, hd6, ho6⟩
      rw [List.length_map, hlsl, List.take_length] at ho6
      -- between the heads
      have hgl' : ∀ h ∈ Df.hds gs, h ∈ ns := fun h hh => by
        obtain ⟨g, hg, rfl⟩ := Df.mem_hds.mp hh
        exact part.hd_mem hg
      have hdl : (Df.hds gs).length = gs.length := List.length_map _
      have nD2 : D ≠ D2 := ne_of_none hd5 hD2
      have efl : (Df.few (Df.opt ns R) gs).length = (gs.flatMap Df.ringP).length + ((Df.hds gs).flatMap (Df.rowP (Df.opt ns R) (Df.hds gs))).length := by
        unfold Df.few Df.fewP
        rw [List.length_map, List.length_append, Df.pairsP_eq]
      generalize hhs : Df.hds gs = hs at *
      have bnd : ∀ i, ((hs.take i).flatMap (Df.rowP (Df.opt ns R) hs)).length ≤ (hs.flatMap (Df.rowP (Df.opt ns R) hs)).length := fun i => by
        have e : hs.flatMap (Df.rowP (Df.opt ns R) hs) = (hs.take i).flatMap (Df.rowP (Df.opt ns R) hs) ++ (hs.drop i).flatMap (Df.rowP (Df.opt ns R) hs) := by rw [← List.flatMap_append, List.take_append_drop]
        rw [e, List.length_append]
        omega
      refine ⟨_, rfl, D, rfl, ⟨_, sq (s6 _ _ hd5)⟩, ?_⟩
      refine for_it (walk_list (K := K) (a := D) (xs := hs.map V.str)) (fun i σ H' => ∃ x4 x6 x7 x8, σ = [some (.ref b), some (.ref t), some (.ref g), some (.ref D), x4, some (.ref D2), x6, x7, x8] ∧ Same H5 H' ∧ ∃ out, H' D2 = some (.lst out) ∧ Paired (RowT H') out ((gs.flatMap Df.ringP ++ (hs.take i).flatMap (Df.rowP (Df.opt ns R) hs)).map (rowR R)))
        ⟨_, _, _, _, rfl, s6, out6, hd6, by rw [List.take_zero]; simpa using ho6⟩ (fun i σ H' _ ⟨_, _, _, _, _, s7, _⟩ => sq (s7 _ _ hd5)) ?_ ?_
      · rintro i y σ H9 H' hi ⟨x4, x6, x7, x8, rfl, s7, out7, hd7, ho7⟩ ⟨rfl, ey⟩
        have hil : i < hs.length := by simpa using hi
        have ey : y = V.str hs[i] := by
          rw [List.getElem?_map, List.getElem?_eq_getElem hil] at ey
          exact (Option.some.inj ey).symm
        subst ey
        have hmi := hgl' _ (List.getElem_mem hil)
        have er : (hs.take (i + 1)).flatMap (Df.rowP (Df.opt ns R) hs) = (hs.take i).flatMap (Df.rowP (Df.opt ns R) hs) ++ Df.rowP (Df.opt ns R) hs hs[i] := by
          rw [take_snoc hil, List.flatMap_append]
          simp
        have b1 := bnd (i + 1)
        rw [er, List.length_append] at b1
        refine ⟨_, rfl, D, rfl, ⟨_, sq (s7 _ _ hd5)⟩, ?_⟩
        refine for_it (walk_list (K := K) (a := D) (xs := hs.map V.str)) (fun j σ H' => ∃ x4 x6 x8, σ = [some (.ref b), some (.ref t), some (.ref g), some (.ref D), x4, some (.ref D2), x6, some (.str hs[i]), x8] ∧ Same H5 H' ∧ ∃ out, H' D2 = some (.lst out) ∧
            Paired (RowT H') out ((gs.flatMap Df.ringP ++ (hs.take i).flatMap (Df.rowP (Df.opt ns R) hs) ++ ((hs.take j).filter fun b => decide (hs[i] ≠ b) && Df.needed (Df.opt ns R) hs hs[i] b).map fun b => (hs[i], b)).map (rowR R)))
          ⟨_, _, _, rfl, s7, out7, hd7, by rw [List.take_zero]; simpa using ho7⟩ (fun j σ H' _ ⟨_, _, _, _, s8, _⟩ => sq (s8 _ _ hd5)) ?_ ?_
        · rintro j y σ H8 H' hj ⟨x4, x6, x8, rfl, s8, out8, hd8, ho8⟩ ⟨rfl, ey⟩
          have hjl : j < hs.length := by simpa using hj
          have ey : y = V.str hs[j] := by
            rw [List.getElem?_map, List.getElem?_eq_getElem hjl] at ey
            exact (Option.some.inj ey).symm
          subst ey
          have hmj := hgl' _ (List.getElem_mem hjl)
          have skip : (decide (hs[i] ≠ hs[j]) && Df.needed (Df.opt ns R) hs hs[i] hs[j]) = false → ((hs.take (j + 1)).filter fun b => decide (hs[i] ≠ b) && Df.needed (Df.opt ns R) hs hs[i] b) = (hs.take j).filter fun b => decide (hs[i] ≠ b) && Df.needed (Df.opt ns R) hs hs[i] b := fun h => by
            rw [take_snoc hjl, List.filter_append, List.filter_cons, if_neg (by rw [h]; simp)]
            simp
          refine ⟨_, rfl, _, rfl, rfl, _, rfl, ?_⟩
          by_cases hij : hs[i] = hs[j]
          · rw [show (!decide (V.str hs[i] = V.str hs[j])) = false by rw [hij, decide_eq_true rfl]; rfl]
            refine iteF (iteF ⟨_, _, _, rfl, s8, out8, hd8, ?_⟩)
            rw [skip (by rw [decide_eq_false (fun h => h hij)]; rfl)]
            exact ho8
          rw [show (!decide (V.str hs[i] = V.str hs[j])) = true by rw [decide_eq_false fun e => hij (by injection e)]; rfl]
          have ht8 := ht5.mono s8
          refine iteT ⟨_, rfl, _, rfl, _, rfl, _, rfl, _, t, D, hs[i], hs[j], ns, hs, R, rfl, ht8, s8 _ _ hd5, hmi, hmj, hgl', hne, sane, _, rfl, ?_⟩
          cases hnd2 : Df.needed (Df.opt ns R) hs hs[i] hs[j] with
          | false =>
            refine iteF ⟨_, _, _, rfl, s8, out8, hd8, ?_⟩
            rw [skip (by rw [hnd2]; simp)]
            exact ho8
          | true =>
            have yes : ((hs.take (j + 1)).filter fun b => decide (hs[i] ≠ b) && Df.needed (Df.opt ns R) hs hs[i] b) = ((hs.take j).filter fun b => decide (hs[i] ≠ b) && Df.needed (Df.opt ns R) hs hs[i] b) ++ [hs[j]] := by
              rw [take_snoc hjl, List.filter_append, List.filter_cons, if_pos (by rw [hnd2, decide_eq_true hij]; rfl)]
              simp
            refine iteT ⟨_, rfl, .inl ⟨rfl, _, sq hd8⟩, ?_⟩
            refine ⟨_, rfl, _, rfl, _, rfl, _, rfl, _, rfl, _, t, hs[i], hs[j], ns, R, rfl, ht8, hmi, hmj, hne, by show 3 ≤ sizeLine; decide, fun r nr => ?_⟩
            have sr := same_upd nr (o := .tup [.str hs[i], .str hs[j], .int (R hs[i] hs[j])])
            have rD : r ≠ D2 := (ne_of_none hd8 nr).symm
            refine ⟨D2, out8, .ref r, rfl, rfl, sr _ _ hd8, ?_, _, _, _, rfl, same_mut (s8.trans sr) hD2, _, upd_same, ?_⟩
            · rw [plen ho8, List.length_map, List.length_append, List.length_append, List.length_map]
              have b2 : ((hs.take j).filter fun b => decide (hs[i] ≠ b) && Df.needed (Df.opt ns R) hs hs[i] b).length ≤ (hs.take j).length := List.length_filter_le _ _
              rw [List.length_take] at b2
              exact szlt (by omega)
            · rw [yes, List.map_append (f := fun b => (hs[i], b)), ← List.append_assoc, List.map_append]
              have keep : ∀ v e, RowT H' v e → RowT (upd (upd H' r (.tup [.str hs[i], .str hs[j], .int (R hs[i] hs[j])])) D2 (.lst (out8 ++ [.ref r]))) v e := fun v e ⟨r', e1, e2⟩ => ⟨r', e1, by
                have : r' ≠ D2 := fun z => by rw [z, hd8] at e2; cases e2
                rw [upd_ne this]; exact sr _ _ e2⟩
              exact (pmono keep ho8).snoc ⟨r, rfl, by rw [upd_ne rD]; exact upd_same⟩
        · rintro σ H' ⟨x4, x6, x8, rfl, s8, out8, hd8, ho8⟩
          rw [List.length_map, List.take_length] at ho8
          refine ⟨_, _, _, _, rfl, s8, out8, hd8, ?_⟩
          rw [er, ← List.append_assoc]
          exact ho8
      · rintro σ H' ⟨x4, x6, x7, x8, rfl, s7, out7, hd7, ho7⟩
        rw [List.length_map, List.take_length] at ho7
        refine ⟨_, rfl, hk H' D2 (s03.trans (s4.trans (s5.trans s7))) ⟨out7, hd7, ?_⟩⟩
        rw [← hfr]
        unfold Df.fewP
        rw [hhs]
        exact ho7
    · refine ⟨_, rfl, rfl, _, rfl, iteT ?_⟩
      exact hkN e H3 (s1.trans (s2.trans s3))
end
end K1

namespace K1
open PySem PySem.Spec PyProof.Rows L2 Ls
/-! ### the law's table -/
def key2 (u v : Str) : List Key := [Sum.inr u, Sum.inr v]
def TabD (kvs : List (List Key × V)) (F : Df.OTab Str) : Prop := ∀ u v : Str, valV kvs (key2 u v) = (F u v).map V.int
theorem key2_iff {u v x y : Str} : key2 x y = key2 u v ↔ x = u ∧ y = v := by
  unfold key2
  constructor
  · intro h
    injection h with h1 h2
    injection h2 with h2 _
    exact ⟨by injection h1, by injection h2⟩
  · rintro ⟨rfl, rfl⟩; rfl
def setF (F : Df.OTab Str) (u v : Str) (c : Int) : Df.OTab Str := fun x y => if x = u ∧ y = v then some c else F x y
theorem TabD.put {kvs : List (List Key × V)} {F : Df.OTab Str} (h : TabD kvs F) (u v : Str) (c : Int) : TabD (putK kvs (key2 u v) (V.int c)) (setF F u v c) := fun x y => by
  rw [valV_put]
  unfold setF
  by_cases q : x = u ∧ y = v
  · rw [if_pos (key2_iff.mpr q), if_pos q]; rfl
  · rw [if_neg (fun z => q (key2_iff.mp z)), if_neg q]; exact h x y
theorem relax_none {F : Df.OTab Str} {u v : Str} {c : Int} (h : F u v = none) : Df.relax F u v c = setF F u v c := by
  funext x y
  unfold Df.relax setF
  split
  · rw [h]
  · rfl
theorem relax_less {F : Df.OTab Str} {u v : Str} {c d : Int} (h : F u v = some d) (hc : c < d) : Df.relax F u v c = setF F u v c := by
  funext x y
  unfold Df.relax setF
  split
  · rw [h]
    show (if c < d then some c else some d) = _
    rw [if_pos hc]
  · rfl
theorem relax_id {F : Df.OTab Str} {u v : Str} {c d : Int} (h : F u v = some d) (hc : ¬ c < d) : Df.relax F u v c = F := by
  funext x y
  unfold Df.relax
  split
  · rename_i q
    obtain ⟨rfl, rfl⟩ := q
    rw [h]
    show (if c < d then some c else some d) = _
    rw [if_neg hc]
  · rfl
theorem key_tup (u v : Str) : (key2 u v).map kV = [V.str u, V.str v] := rfl
def dgF (l : List Str) : Df.OTab Str := fun x y => if x = y ∧ x ∈ l then some 0 else none
def spLTable : Sp := fun vs H Q _ => ∃ (n a : Addr) (nms : List Str) (S : List Df3), vs = [.ref n, .ref a] ∧ H n = some (.lst (nms.map V.str)) ∧ SysAt H a S ∧ (("0" : Str) :: nms).length ≤ 10 ∧ (∀ e ∈ S, e.1 ∈ ("0" : Str) :: nms ∧ e.2.1 ∈ ("0" : Str) :: nms) ∧ S.length ≤ 100 ∧
  (∀ F, Df.Fw (("0" : Str) :: nms) S (("0" : Str) :: nms) F → (∀ u ∈ ("0" : Str) :: nms, ∀ d, F u u = some d → d < 0 → ∀ H', Same H H' → Q .non H') ∧ (Df.Zero (("0" : Str) :: nms) F → ∀ H' q kvs, Same H H' → H' q = some (.dT kvs) → TabD kvs F → Q (.ref q) H'))
section
variable {P : Program} {w : World} {K : PySem.W.Frag} {mg : Str → Option Value} {base : Heap} {f C CN : Addr} {fd : FuncData} {k : Nat}
theorem sc_u_law_table : FnScope ["names", "system", "ends", "found", "one", "left", "right", "limit", "middle", "first", "other"] ["names", "system"] (defScope s_u_law_table) := ⟨rfl, rfl, rfl, by decide +kernel, rfl, by decide +kernel, by decide +kernel⟩
theorem ok_ltable (F : FnP K "_law_table" s_u_law_table [] f fd) (G : Facts mg) : FnOk P w K mg base CX0 1 f fd ["names", "system"] spLTable := by
  refine F.ok sc_u_law_table (fun vs H Q E h => ?_) (fun cdv A outer s H vs Q E hr h => ?_)
  · obtain ⟨n, a, nms, S, rfl, _⟩ := h
    rfl
  · obtain ⟨n, a, nms, S, rfl, hn, hS, hl, hin, hSl, hk⟩ := h
    have hu := hu_of hr
    refine ⟨_, PSs.nox (pss_cons (ps_set (i := 2) sc_u_law_table.nd rfl (.inl rfl) (pe_op kCatT (pe_tup (pa_cons pe_str pa_nil)) (pe_callTy kTuple (by rfl) G.tuple_ (by decide +kernel) (pa_cons (pv 0) pa_nil))))
      (pss_cons (ps_set (i := 3) sc_u_law_table.nd rfl (.inl rfl) pe_dnewT)
      (pss_cons (ps_for PassesOwn.never rfl (kpi_tup K (pv 2)) (pg_name (i := 4) sc_u_law_table.nd rfl (by first | exact .inl rfl | exact .inr rfl))
        (pss_one (ps_dput hu (pv 3) (pe_tup (pa_cons (pv 4) (pa_cons (pv 4) pa_nil))) pe_int rfl)))
      (pss_cons (ps_for PassesOwn.never rfl (kpi_list K (pv 1)) (kpg_tup K rfl (pgs_cons (pg_name (i := 5) sc_u_law_table.nd rfl (by first | exact .inl rfl | exact .inr rfl)) (pgs_cons (pg_name (i := 6) sc_u_law_table.nd rfl (by first | exact .inl rfl | exact .inr rfl)) (pgs_cons (pg_name (i := 7) sc_u_law_table.nd rfl (by first | exact .inl rfl | exact .inr rfl)) pgs_nil))))
        (pss_one (ps_if (PW.pt (pw_or (pt_cmp (pc_dnotin hu (pe_tup (pa_cons (pv 5) (pa_cons (pv 6) pa_nil))) (pv 3))) (pw_or1 (pt_cmpR op_lt (pv 7) (pe_dget hu (pv 3) (pe_tup (pa_cons (pv 5) (pa_cons (pv 6) pa_nil))) (fun _ _ => rfl)) (nomark _))))) (pss_one (ps_dput hu (pv 3) (pe_tup (pa_cons (pv 5) (pa_cons (pv 6) pa_nil))) (pv 7) rfl)) pss_nil)))
      (pss_cons (ps_for PassesOwn.never rfl (kpi_tup K (pv 2)) (pg_name (i := 8) sc_u_law_table.nd rfl (by first | exact .inl rfl | exact .inr rfl))
        (pss_one (ps_for PassesOwn.never rfl (kpi_tup K (pv 2)) (pg_name (i := 4) sc_u_law_table.nd rfl (by first | exact .inl rfl | exact .inr rfl))
          (pss_one (ps_if (pt_cmp (pc_din hu (pe_tup (pa_cons (pv 4) (pa_cons (pv 8) pa_nil))) (pv 3))) (pss_cons (ps_set (i := 9) sc_u_law_table.nd rfl (.inl rfl) (pe_dget hu (pv 3) (pe_tup (pa_cons (pv 4) (pa_cons (pv 8) pa_nil))) (fun _ _ => rfl)))
            (pss_one (ps_for PassesOwn.never rfl (kpi_tup K (pv 2)) (pg_name (i := 10) sc_u_law_table.nd rfl (by first | exact .inl rfl | exact .inr rfl))
              (pss_one (ps_if (pt_cmp (pc_din hu (pe_tup (pa_cons (pv 8) (pa_cons (pv 10) pa_nil))) (pv 3))) (pss_cons (ps_set (i := 7) sc_u_law_table.nd rfl (.inl rfl) (pe_op op_add (pv 9) (pe_dget hu (pv 3) (pe_tup (pa_cons (pv 8) (pa_cons (pv 10) pa_nil))) (fun _ _ => rfl))))
                (pss_one (ps_if (PW.pt (pw_or (pt_cmp (pc_dnotin hu (pe_tup (pa_cons (pv 4) (pa_cons (pv 10) pa_nil))) (pv 3))) (pw_or1 (pt_cmpR op_lt (pv 7) (pe_dget hu (pv 3) (pe_tup (pa_cons (pv 4) (pa_cons (pv 10) pa_nil))) (fun _ _ => rfl)) (nomark _))))) (pss_one (ps_dput hu (pv 3) (pe_tup (pa_cons (pv 4) (pa_cons (pv 10) pa_nil))) (pv 7) rfl)) pss_nil))) pss_nil))))) pss_nil)))))
      (pss_cons (ps_for PassesOwn.never rfl (kpi_tup K (pv 2)) (pg_name (i := 4) sc_u_law_table.nd rfl (by first | exact .inl rfl | exact .inr rfl))
        (pss_one (ps_if (pt_cmpR op_lt (pe_dget hu (pv 3) (pe_tup (pa_cons (pv 4) (pa_cons (pv 4) pa_nil))) (fun _ _ => rfl)) pe_int (nomark _)) (pss_one (ps_ret pe_non)) pss_nil)))
      (pss_one (ps_ret (pv 3))))))))), ?_⟩
    -- ends
    refine ⟨by show 1 ≤ sizeLine; decide, fun p np => ?_⟩
    have s1 := same_upd np (o := .tup [.str "0"])
    refine ⟨_, rfl, n, nms.map V.str, rfl, .inl (s1 _ _ hn), fun H2 q s2 nq hq => ?_⟩
    refine ⟨p, q, [.str "0"], nms.map V.str, rfl, rfl, s2 _ _ upd_same, hq, szl (by simp at hl ⊢; omega), fun H3 e s3 ne he => ?_⟩
    have he : H3 e = some (.tup ((("0" : Str) :: nms).map V.str)) := he
    have s03 := s1.trans (s2.trans s3)
    generalize hns : ("0" : Str) :: nms = ns at *
    have nml : (ns.map V.str).length = ns.length := List.length_map _
    have atn : ∀ (i : Nat) (h : i < ns.length) x, (ns.map V.str)[i]? = some x → x = V.str ns[i] := fun i h x ex => by
      rw [List.getElem?_map, List.getElem?_eq_getElem h] at ex
      exact (Option.some.inj ex).symm
    -- found
    intro d nd
    have s4 := same_upd nd (o := .dT [])
    have he4 := s4 _ _ he
    refine ⟨_, rfl, e, rfl, ⟨_, sqt he4⟩, ?_⟩
    have hd0 : (upd H3 d (.dT [])) d = some (.dT []) := upd_same
    generalize upd H3 d (.dT []) = H4 at s4 he4 hd0 ⊢
    have s04 := s03.trans s4
    have dn : H d = none := s03.free nd
    refine for_it (walk_tup (K := K) (a := e) (xs := ns.map V.str)) (fun i σ H' => ∃ x4 kvs, σ = [some (.ref n), some (.ref a), some (.ref e), some (.ref d), x4, none, none, none, none, none, none] ∧ Same H H' ∧ H' e = some (.tup (ns.map V.str)) ∧ H' d = some (.dT kvs) ∧ kvs.length ≤ i ∧ TabD kvs (dgF (ns.take i)))
      ⟨_, [], rfl, s04, he4, hd0, Nat.le_refl _, fun u v => by simp [valV, dgF]⟩ (fun i σ H' _ ⟨_, _, _, _, h, _⟩ => sqt h) ?_ ?_
    · rintro i x σ H9 H' hi ⟨x4, kvs, rfl, s5, he5, hd5, hkl, ht⟩ ⟨rfl, ex⟩
      rw [nml] at hi
      cases atn i hi x ex
      refine ⟨_, rfl, _, rfl, _, rfl, by show 2 ≤ sizeLine; decide, fun p2 np2 => ?_⟩
      have sp := same_upd np2 (o := .tup [.str ns[i], .str ns[i]])
      have hde : d ≠ e := fun z => by rw [z, he5] at hd5; cases hd5
      refine ⟨d, _, rfl, DPut.t (k := key2 ns[i] ns[i]) (sp _ _ hd5) (by rw [key_tup]; exact upd_same) (szlt (by omega)), _, _, rfl, same_mut (s5.trans sp) dn, by rw [upd_ne hde.symm]; exact sp _ _ he5, upd_same, ?_, ?_⟩
      · have := length_putK kvs (key2 ns[i] ns[i]) (V.int 0)
        omega
      · have := ht.put ns[i] ns[i] 0
        intro x y
        rw [this x y]
        unfold setF
        congr 1
        unfold dgF
        by_cases q : x = ns[i] ∧ y = ns[i]
        · rw [if_pos q, if_pos]
          exact ⟨by rw [q.1, q.2], by rw [q.1, take_snoc hi]; exact List.mem_append_right _ (List.mem_singleton.mpr rfl)⟩
        · rw [if_neg q]
          by_cases q2 : x = y ∧ x ∈ ns.take i
          · rw [if_pos q2, if_pos ⟨q2.1, by rw [take_snoc hi]; exact List.mem_append_left _ q2.2⟩]
          · rw [if_neg q2, if_neg]
            rintro ⟨rfl, h⟩
            rw [take_snoc hi] at h
            rcases List.mem_append.mp h with h | h
            · exact q2 ⟨rfl, h⟩
            · have := List.mem_singleton.mp h
              exact q ⟨this, this⟩
    rintro σ H5 ⟨x4, kvs, rfl, s5, he5, hd5, hkl, ht⟩
    rw [nml, List.take_length] at ht
    rw [nml] at hkl
    -- the rows
    obtain ⟨vs, hva, hvs⟩ := hS
    have hsnd0 : Df.Snd ns S (dgF ns) := fun u v c h => by
      unfold dgF at h
      split at h
      · rename_i q
        obtain ⟨rfl, hq⟩ := q
        cases h
        exact ⟨hq, hq, .refl hq⟩
      · cases h
    have hdg0 : Df.Dg ns (dgF ns) := fun u hu => ⟨0, if_pos ⟨rfl, hu⟩, Int.le_refl _⟩
    generalize dgF ns = F0 at ht hsnd0 hdg0
    -- what a look and a change of the dict do
    refine ⟨_, rfl, a, rfl, ⟨_, sq (s5 _ _ hva)⟩, ?_⟩
    refine for_it (walk_list (K := K) (a := a) (xs := vs)) (fun i σ H' => ∃ x4 x5 x6 x7 kvs F, σ = [some (.ref n), some (.ref a), some (.ref e), some (.ref d), x4, x5, x6, x7, none, none, none] ∧ Same H H' ∧ H' e = some (.tup (ns.map V.str)) ∧ H' d = some (.dT kvs) ∧ kvs.length ≤ 10 + i ∧ TabD kvs F ∧ Df.Snd ns S F ∧ Df.Dg ns F ∧ Df.Comp (S.take i) F)
      ⟨_, _, _, _, kvs, F0, rfl, s5, he5, hd5, by omega, ht, hsnd0, hdg0, fun e he => by simp at he⟩ (fun i σ H' _ ⟨_, _, _, _, _, _, _, h, _⟩ => sq (h _ _ hva)) ?_ ?_
    · rintro i x σ H9 H' hi ⟨x4, x5, x6, x7, kvs, F, rfl, s6, he6, hd6, hkl, ht, hsnd, hdg, hcm⟩ ⟨rfl, ex⟩
      rw [plen hvs] at hi
      obtain ⟨v, hv', r, rfl, hrow⟩ := pget hvs (List.getElem?_eq_getElem hi)
      rw [hv'] at ex
      cases ex
      refine ⟨r, _, rfl, sqt (s6 _ _ hrow), rfl, _, _, rfl, _, _, rfl, _, _, rfl, rfl, ?_⟩
      have hm := hin _ (List.getElem_mem hi)
      have wk : Df.Wk S ns S[i].1 S[i].2.1 S[i].2.2 := by
        have := Df.Wk.step (S := S) (V := ns) (u := S[i].1) (x := S[i].2.1) (c := S[i].2.2) (List.getElem_mem hi) hm.1 (.refl hm.2)
        rwa [Int.add_zero] at this
      have hcm2 : Df.Comp (S.take (i + 1)) (Df.relax F S[i].1 S[i].2.1 S[i].2.2) := fun e he => by
        rw [take_snoc hi] at he
        rcases List.mem_append.mp he with h | h
        · exact (Df.relax_mono F _ _ _).le (hcm e h)
        · rw [List.mem_singleton.mp h]
          exact Df.relax_same F _ _ _
      have hde : d ≠ e := fun z => by rw [z, he6] at hd6; cases hd6
      -- the store
      have fin : ∀ HH, Same H' HH → Same H HH → Df.relax F S[i].1 S[i].2.1 S[i].2.2 = setF F S[i].1 S[i].2.1 S[i].2.2 →
          sDPut (tVar 3) (tTup (tCons (tVar 5) (tCons (tVar 6) tNil))) (tVar 7) { nx := fun σ H' => ∃ x4 x5 x6 x7 kvs F, σ = [some (.ref n), some (.ref a), some (.ref e), some (.ref d), x4, x5, x6, x7, none, none, none] ∧ Same H H' ∧ H' e = some (.tup (ns.map V.str)) ∧ H' d = some (.dT kvs) ∧ kvs.length ≤ 10 + (i + 1) ∧ TabD kvs F ∧ Df.Snd ns S F ∧ Df.Dg ns F ∧ Df.Comp (S.take (i + 1)) F, rt := Q }
            [some (.ref n), some (.ref a), some (.ref e), some (.ref d), x4, some (.str S[i].1), some (.str S[i].2.1), some (.int S[i].2.2), none, none, none] HH := fun HH sx sy er => by
        have hdH := sx _ _ hd6
        have heH := sx _ _ he6
        refine ⟨_, rfl, _, rfl, _, rfl, _, rfl, by show 2 ≤ sizeLine; decide, fun p2 np2 => ?_⟩
        have sp := same_upd np2 (o := .tup [.str S[i].1, .str S[i].2.1])
        refine ⟨d, _, rfl, DPut.t (k := key2 S[i].1 S[i].2.1) (sp _ _ hdH) (by rw [key_tup]; exact upd_same) (szlt (by omega)), _, _, _, _, _, setF F S[i].1 S[i].2.1 S[i].2.2, rfl, same_mut (sy.trans sp) dn, by rw [upd_ne hde.symm]; exact sp _ _ heH, upd_same, ?_, ht.put _ _ _, ?_, ?_, ?_⟩
        · have := length_putK kvs (key2 S[i].1 S[i].2.1) (V.int S[i].2.2)
          omega
        · rw [← er]; exact hsnd.relax hm.1 hm.2 wk
        · rw [← er]; exact hdg.mono (Df.relax_mono _ _ _ _)
        · rw [← er]; exact hcm2
      -- (left, right) not in found
      refine ⟨_, rfl, _, rfl, by show 2 ≤ sizeLine; decide, fun p1 np1 => ?_⟩
      have sp1 := same_upd np1 (o := .tup [.str S[i].1, .str S[i].2.1])
      refine ⟨_, rfl, d, _, rfl, DGet.t (k := key2 S[i].1 S[i].2.1) (sp1 _ _ hd6) (by rw [key_tup]; exact upd_same), ?_⟩
      rw [ht]
      cases hF : F S[i].1 S[i].2.1 with
      | none => exact ⟨_, rfl, iteT (fin _ sp1 (s6.trans sp1) (relax_none hF))⟩
      | some dd =>
        refine ⟨_, rfl, iteF ?_⟩
        refine ⟨_, rfl, _, rfl, _, rfl, _, rfl, by show 2 ≤ sizeLine; decide, fun p2 np2 => ?_⟩
        have sp2 := same_upd np2 (o := .tup [.str S[i].1, .str S[i].2.1])
        refine ⟨d, _, rfl, (by
          have := DGet.t (k := key2 S[i].1 S[i].2.1) (sp2 _ _ (sp1 _ _ hd6)) (by rw [key_tup]; exact upd_same)
          rw [ht, hF] at this
          exact this), ?_⟩
        refine ⟨_, _, rfl, rfl, _, rfl, ?_⟩
        by_cases hlt : S[i].2.2 < dd
        · rw [decide_eq_true hlt]
          exact iteT (fin _ (sp1.trans sp2) (s6.trans (sp1.trans sp2)) (relax_less hF hlt))
        · rw [decide_eq_false hlt]
          refine iteF ⟨_, _, _, _, kvs, F, rfl, s6.trans (sp1.trans sp2), sp2 _ _ (sp1 _ _ he6), sp2 _ _ (sp1 _ _ hd6), by omega, ht, hsnd, hdg, ?_⟩
          rw [relax_id hF hlt] at hcm2
          exact hcm2
    rintro σ H6 ⟨x4, x5, x6, x7, kvs1, F1, rfl, s6, he6, hd6, hkl1, ht1, hsnd1, hdg1, hcm1⟩
    rw [plen hvs, List.take_length] at hcm1
    rw [plen hvs] at hkl1
    have fw0 : Df.Fw ns S [] F1 := ⟨hsnd1, hdg1, hcm1, fun _ k hk => (List.not_mem_nil hk).elim⟩
    have hmn : ∀ (i : Nat) (h : i < ns.length), ns[i] ∈ ns := fun i h => List.getElem_mem h
    -- the phases
    refine ⟨_, rfl, e, rfl, ⟨_, sqt he6⟩, ?_⟩
    refine for_it (walk_tup (K := K) (a := e) (xs := ns.map V.str)) (fun mi σ H' => ∃ x4 x5 x6 x7 x8 x9 x10 kvs F, σ = [some (.ref n), some (.ref a), some (.ref e), some (.ref d), x4, x5, x6, x7, x8, x9, x10] ∧ Same H H' ∧ H' e = some (.tup (ns.map V.str)) ∧ H' d = some (.dT kvs) ∧ kvs.length ≤ 110 + 100 * mi ∧ TabD kvs F ∧ Df.Fw ns S (ns.take mi) F)
      ⟨_, _, _, _, _, _, _, kvs1, F1, rfl, s6, he6, hd6, by omega, ht1, fw0⟩ (fun i σ H' _ ⟨_, _, _, _, _, _, _, _, _, _, _, h, _⟩ => sqt h) ?_ ?_
    · rintro mi x σ H9 H' hi ⟨x4, x5, x6, x7, x8, x9, x10, kvs, F, rfl, s7, he7, hd7, hkl, ht, fw⟩ ⟨rfl, ex⟩
      rw [nml] at hi
      cases atn mi hi x ex
      have hmm := hmn mi hi
      have esn : ns.take (mi + 1) = ns.take mi ++ [ns[mi]] := take_snoc hi
      generalize hm0 : ns[mi] = m at hmm esn
      refine ⟨_, rfl, e, rfl, ⟨_, sqt he7⟩, ?_⟩
      refine for_it (walk_tup (K := K) (a := e) (xs := ns.map V.str)) (fun oi σ H' => ∃ x4 x7 x9 x10 kvs G, σ = [some (.ref n), some (.ref a), some (.ref e), some (.ref d), x4, x5, x6, x7, some (.str m), x9, x10] ∧ Same H H' ∧ H' e = some (.tup (ns.map V.str)) ∧ H' d = some (.dT kvs) ∧ kvs.length ≤ 110 + 100 * mi + 10 * oi ∧ TabD kvs G ∧ Df.Ph ns S m F G ∧
          ∀ u ∈ ns.take oi, ∀ v ∈ ns, ∀ a b, F u m = some a → F m v = some b → Df.Le G u v (a + b))
        ⟨_, _, _, _, kvs, F, rfl, s7, he7, hd7, by omega, ht, Df.Ph.start fw.snd, fun u hu => by simp at hu⟩ (fun i σ H' _ ⟨_, _, _, _, _, _, _, _, h, _⟩ => sqt h) ?_ ?_
      · rintro oi x σ H9 H' hi2 ⟨x4, x7, x9, x10, kvs, G', rfl, s8, he8, hd8, hkl8, ht8, ph, hdn⟩ ⟨rfl, ex⟩
        rw [nml] at hi2
        cases atn oi hi2 x ex
        have hon := hmn oi hi2
        have esn2 : ns.take (oi + 1) = ns.take oi ++ [ns[oi]] := take_snoc hi2
        generalize hu0 : ns[oi] = one at hon esn2
        -- (one, middle) in found
        refine ⟨_, rfl, _, rfl, by show 2 ≤ sizeLine; decide, fun p1 np1 => ?_⟩
        have sp1 := same_upd np1 (o := .tup [.str one, .str m])
        refine ⟨_, rfl, d, _, rfl, DGet.t (k := key2 one m) (sp1 _ _ hd8) (by rw [key_tup]; exact upd_same), ?_⟩
        rw [ht8]
        have hde : d ≠ e := fun z => by rw [z, he8] at hd8; cases hd8
        cases hG : G' one m with
        | none =>
          refine ⟨_, rfl, iteF ⟨_, _, _, _, kvs, G', rfl, s8.trans sp1, sp1 _ _ he8, sp1 _ _ hd8, by omega, ht8, ph, fun u hu v hv a b e1 e2 => ?_⟩⟩
          rw [esn2] at hu
          rcases List.mem_append.mp hu with h | h
          · exact hdn u h v hv a b e1 e2
          · rw [List.mem_singleton.mp h] at e1
            obtain ⟨c, e3, _⟩ := ph.mono _ _ _ e1
            rw [hG] at e3
            cases e3
        | some first =>
          refine ⟨_, rfl, iteT ?_⟩
          refine ⟨_, rfl, _, rfl, _, rfl, by show 2 ≤ sizeLine; decide, fun p2 np2 => ?_⟩
          have sp2 := same_upd np2 (o := .tup [.str one, .str m])
          refine ⟨d, _, rfl, (by
            have := DGet.t (k := key2 one m) (sp2 _ _ (sp1 _ _ hd8)) (by rw [key_tup]; exact upd_same)
            rw [ht8, hG] at this
            exact this), ?_⟩
          have hrd := ph.rd hG
          have sq2 := sp1.trans sp2
          refine ⟨_, rfl, e, rfl, ⟨_, sqt (sq2 _ _ he8)⟩, ?_⟩
          refine for_it (walk_tup (K := K) (a := e) (xs := ns.map V.str)) (fun k σ H' => ∃ x7 x10 kvs G2, σ = [some (.ref n), some (.ref a), some (.ref e), some (.ref d), some (.str one), x5, x6, x7, some (.str m), some (.int first), x10] ∧ Same H H' ∧ H' e = some (.tup (ns.map V.str)) ∧ H' d = some (.dT kvs) ∧ kvs.length ≤ 110 + 100 * mi + 10 * oi + k ∧ TabD kvs G2 ∧ Df.Ph ns S m F G2 ∧ Df.Mono G' G2 ∧
              ∀ v ∈ ns.take k, ∀ b, F m v = some b → Df.Le G2 one v (first + b))
            ⟨_, _, kvs, G', rfl, s8.trans sq2, sq2 _ _ he8, sq2 _ _ hd8, by omega, ht8, ph, Df.Mono.refl _, fun v hv => by simp at hv⟩ (fun i σ H' _ ⟨_, _, _, _, _, _, h, _⟩ => sqt h) ?_ ?_
          · rintro k x σ H9 H' hi3 ⟨x7, x10, kvs, G2, rfl, s9, he9, hd9, hkl9, ht9, ph9, mo9, hdn9⟩ ⟨rfl, ex⟩
            rw [nml] at hi3
            cases atn k hi3 x ex
            have hvn := hmn k hi3
            have esn3 : ns.take (k + 1) = ns.take k ++ [ns[k]] := take_snoc hi3
            generalize hv0 : ns[k] = oth at hvn esn3
            refine ⟨_, rfl, _, rfl, by show 2 ≤ sizeLine; decide, fun p3 np3 => ?_⟩
            have sp3 := same_upd np3 (o := .tup [.str m, .str oth])
            refine ⟨_, rfl, d, _, rfl, DGet.t (k := key2 m oth) (sp3 _ _ hd9) (by rw [key_tup]; exact upd_same), ?_⟩
            rw [ht9]
            cases hG2 : G2 m oth with
            | none =>
              refine ⟨_, rfl, iteF ⟨_, _, kvs, G2, rfl, s9.trans sp3, sp3 _ _ he9, sp3 _ _ hd9, by omega, ht9, ph9, mo9, fun v hv b e2 => ?_⟩⟩
              rw [esn3] at hv
              rcases List.mem_append.mp hv with h | h
              · exact hdn9 v h b e2
              · rw [List.mem_singleton.mp h] at e2
                obtain ⟨c, e3, _⟩ := ph9.mono _ _ _ e2
                rw [hG2] at e3
                cases e3
            | some y =>
              refine ⟨_, rfl, iteT ?_⟩
              -- limit = first + found[(middle, other)]
              refine ⟨_, rfl, _, rfl, _, rfl, _, rfl, by show 2 ≤ sizeLine; decide, fun p4 np4 => ?_⟩
              have sp4 := same_upd np4 (o := .tup [.str m, .str oth])
              refine ⟨d, _, rfl, (by
                have := DGet.t (k := key2 m oth) (sp4 _ _ (sp3 _ _ hd9)) (by rw [key_tup]; exact upd_same)
                rw [ht9, hG2] at this
                exact this), _, _, rfl, rfl, ?_⟩
              have ph10 := ph9.step (v := oth) hrd hG2
              have mo10 := mo9.trans (Df.relax_mono G2 one oth (first + y))
              have dn10 : ∀ v ∈ ns.take (k + 1), ∀ b, F m v = some b → Df.Le (Df.relax G2 one oth (first + y)) one v (first + b) := fun v hv b e2 => by
                rw [esn3] at hv
                rcases List.mem_append.mp hv with h | h
                · exact (Df.relax_mono G2 _ _ _).le (hdn9 v h b e2)
                · rw [List.mem_singleton.mp h] at e2 ⊢
                  obtain ⟨c, e3, l3⟩ := ph9.mono _ _ _ e2
                  rw [hG2] at e3
                  cases e3
                  exact (Df.relax_same G2 one oth (first + y)).up (by omega)
              have s34 := sp3.trans sp4
              have fin : ∀ HH, Same H' HH → Same H HH → Df.relax G2 one oth (first + y) = setF G2 one oth (first + y) →
                  sDPut (tVar 3) (tTup (tCons (tVar 4) (tCons (tVar 10) tNil))) (tVar 7) { nx := fun σ H' => ∃ x7 x10 kvs G2, σ = [some (.ref n), some (.ref a), some (.ref e), some (.ref d), some (.str one), x5, x6, x7, some (.str m), some (.int first), x10] ∧ Same H H' ∧ H' e = some (.tup (ns.map V.str)) ∧ H' d = some (.dT kvs) ∧ kvs.length ≤ 110 + 100 * mi + 10 * oi + (k + 1) ∧ TabD kvs G2 ∧ Df.Ph ns S m F G2 ∧ Df.Mono G' G2 ∧ (∀ v ∈ ns.take (k + 1), ∀ b, F m v = some b → Df.Le G2 one v (first + b)), rt := Q }
                    [some (.ref n), some (.ref a), some (.ref e), some (.ref d), some (.str one), x5, x6, some (.int (first + y)), some (.str m), some (.int first), some (.str oth)] HH := fun HH sx sy er => by
                have hdH := sx _ _ hd9
                have heH := sx _ _ he9
                refine ⟨_, rfl, _, rfl, _, rfl, _, rfl, by show 2 ≤ sizeLine; decide, fun p5 np5 => ?_⟩
                have sp := same_upd np5 (o := .tup [.str one, .str oth])
                refine ⟨d, _, rfl, DPut.t (k := key2 one oth) (sp _ _ hdH) (by rw [key_tup]; exact upd_same) (szlt (by omega)), _, _, _, setF G2 one oth (first + y), rfl, same_mut (sy.trans sp) dn, by rw [upd_ne hde.symm]; exact sp _ _ heH, upd_same, ?_, ht9.put _ _ _, ?_, ?_, ?_⟩
                · have := length_putK kvs (key2 one oth) (V.int (first + y))
                  omega
                · rw [← er]; exact ph10
                · rw [← er]; exact mo10
                · rw [← er]; exact dn10
              -- (one, other) not in found or less
              refine ⟨_, rfl, _, rfl, by show 2 ≤ sizeLine; decide, fun p5 np5 => ?_⟩
              have sp5 := same_upd np5 (o := .tup [.str one, .str oth])
              have s35 := s34.trans sp5
              refine ⟨_, rfl, d, _, rfl, DGet.t (k := key2 one oth) (s35 _ _ hd9) (by rw [key_tup]; exact upd_same), ?_⟩
              rw [ht9]
              cases hF : G2 one oth with
              | none => exact ⟨_, rfl, iteT (fin _ s35 (s9.trans s35) (relax_none hF))⟩
              | some dd =>
                refine ⟨_, rfl, iteF ?_⟩
                refine ⟨_, rfl, _, rfl, _, rfl, _, rfl, by show 2 ≤ sizeLine; decide, fun p6 np6 => ?_⟩
                have sp6 := same_upd np6 (o := .tup [.str one, .str oth])
                have s36 := s35.trans sp6
                refine ⟨d, _, rfl, (by
                  have := DGet.t (k := key2 one oth) (s36 _ _ hd9) (by rw [key_tup]; exact upd_same)
                  rw [ht9, hF] at this
                  exact this), ?_⟩
                refine ⟨_, _, rfl, rfl, _, rfl, ?_⟩
                by_cases hlt : first + y < dd
                · rw [decide_eq_true hlt]
                  exact iteT (fin _ s36 (s9.trans s36) (relax_less hF hlt))
                · rw [decide_eq_false hlt]
                  rw [relax_id hF hlt] at ph10 mo10 dn10
                  exact iteF ⟨_, _, kvs, G2, rfl, s9.trans s36, s36 _ _ he9, s36 _ _ hd9, by omega, ht9, ph10, mo10, dn10⟩
          · rintro σ H' ⟨x7, x10, kvs, G2, rfl, s9, he9, hd9, hkl9, ht9, ph9, mo9, hdn9⟩
            rw [nml, List.take_length] at hdn9
            rw [nml] at hkl9
            refine ⟨_, _, _, _, kvs, G2, rfl, s9, he9, hd9, by omega, ht9, ph9, fun u hu v hv a b e1 e2 => ?_⟩
            rw [esn2] at hu
            rcases List.mem_append.mp hu with h | h
            · exact mo9.le (hdn u h v hv a b e1 e2)
            · rw [List.mem_singleton.mp h] at e1 ⊢
              obtain ⟨c, e3, l3⟩ := ph.mono _ _ _ e1
              rw [hG] at e3
              cases e3
              exact (hdn9 v hv b e2).up (by omega)
      · rintro σ H' ⟨x4, x7, x9, x10, kvs, G', rfl, s8, he8, hd8, hkl8, ht8, ph, hdn⟩
        rw [nml, List.take_length] at hdn
        rw [nml] at hkl8
        refine ⟨_, _, _, _, _, _, _, kvs, G', rfl, s8, he8, hd8, by omega, ht8, ?_⟩
        rw [esn]
        exact fw.next hmm (fun k hk => List.mem_of_mem_take hk) ph hdn
    rintro σ H7 ⟨x4, x5, x6, x7, x8, x9, x10, kvs, F, rfl, s7, he7, hd7, hkl, ht, fw⟩
    rw [nml, List.take_length] at fw
    obtain ⟨kN, kD⟩ := hk F fw
    -- a name less than itself
    refine ⟨_, rfl, e, rfl, ⟨_, sqt he7⟩, ?_⟩
    refine for_it (walk_tup (K := K) (a := e) (xs := ns.map V.str)) (fun i σ H' => ∃ x4, σ = [some (.ref n), some (.ref a), some (.ref e), some (.ref d), x4, x5, x6, x7, x8, x9, x10] ∧ Same H H' ∧ H' e = some (.tup (ns.map V.str)) ∧ H' d = some (.dT kvs) ∧ ∀ u ∈ ns.take i, F u u = some 0)
      ⟨_, rfl, s7, he7, hd7, fun u hu => by simp at hu⟩ (fun i σ H' _ ⟨_, _, _, h, _⟩ => sqt h) ?_ ?_
    · rintro i x σ H9 H' hi ⟨x4, rfl, s8, he8, hd8, hz⟩ ⟨rfl, ex⟩
      rw [nml] at hi
      cases atn i hi x ex
      obtain ⟨dd, edd, ldd⟩ := fw.dg _ (hmn i hi)
      refine ⟨_, rfl, _, rfl, _, rfl, by show 2 ≤ sizeLine; decide, fun p1 np1 => ?_⟩
      have sp1 := same_upd np1 (o := .tup [.str ns[i], .str ns[i]])
      refine ⟨d, _, rfl, (by
        have := DGet.t (k := key2 ns[i] ns[i]) (sp1 _ _ hd8) (by rw [key_tup]; exact upd_same)
        rw [ht, edd] at this
        exact this), ?_⟩
      refine ⟨_, _, rfl, rfl, _, rfl, ?_⟩
      by_cases hlt : dd < 0
      · rw [decide_eq_true hlt]
        exact iteT (kN _ (hmn i hi) _ edd hlt _ (s8.trans sp1))
      · rw [decide_eq_false hlt]
        refine iteF ⟨_, rfl, s8.trans sp1, sp1 _ _ he8, sp1 _ _ hd8, fun u hu => ?_⟩
        rw [take_snoc hi] at hu
        rcases List.mem_append.mp hu with h | h
        · exact hz u h
        · rw [List.mem_singleton.mp h, edd]
          congr 1
          omega
    · rintro σ H' ⟨x4, rfl, s8, he8, hd8, hz⟩
      rw [nml, List.take_length] at hz
      exact ⟨_, rfl, kD hz H' d kvs s8 hd8 ht⟩
end
end K1

namespace K1
open PySem PySem.Spec PyProof.Rows L2 Ls
/-! ### the law's counting -/
theorem eqvs_nil (l : List Str) : PyData.eqv (.list (l.map PyData.str)) (.list []) = l.isEmpty := by
  cases l with
  | nil => simp [PyData.eqv, PyData.eqvAll]
  | cons e S => simp [PyData.eqv, PyData.eqvAll]
def fin2 (F : Df.OTab Str) (u v : Str) : Bool := (F u v).isSome && (F v u).isSome
theorem fin2_some {F : Df.OTab Str} {u v : Str} (h : fin2 F u v = true) : ∃ a b, F u v = some a ∧ F v u = some b := by
  unfold fin2 at h
  rw [Bool.and_eq_true] at h
  exact ⟨_, _, Option.eq_some_of_isSome h.1, Option.eq_some_of_isSome h.2⟩
theorem eqc_some {F : Df.OTab Str} {u v : Str} {a b : Int} (h1 : F u v = some a) (h2 : F v u = some b) : Df.eqc F u v = decide (a + b = 0) := by
  unfold Df.eqc
  rw [h1, h2]
theorem filt2 (F : Df.OTab Str) (p q : Str → Str × Str) (l : List Str) (hq : ∀ x, q x = ((p x).2, (p x).1)) : (l.filter fun x => fin2 F (p x).1 (p x).2).filter (fun x => Df.eqc F (p x).1 (p x).2) = l.filter fun x => Df.eqc F (p x).1 (p x).2 := by
  rw [List.filter_filter]
  refine List.filter_congr fun x _ => ?_
  rw [Bool.eq_iff_iff, Bool.and_eq_true]
  constructor
  · exact fun h => h.1
  · intro h
    refine ⟨h, ?_⟩
    obtain ⟨a, b, e1, e2, _⟩ := Df.eqc_iff.mp h
    unfold fin2
    rw [e1, e2]
    rfl
def spLNeeded : Sp := fun vs H Q _ => ∃ (q d : Addr) (kvs : List (List Key × V)) (F : Df.OTab Str) (hs : List Str) (a b : Str) (c : Int), vs = [.ref q, .ref d, .str a, .str b] ∧ H q = some (.lst (hs.map V.str)) ∧ H d = some (.dT kvs) ∧ TabD kvs F ∧ F a b = some c ∧ ∀ H', Same H H' → Q (.bl (Df.needed F hs a b)) H'
section
variable {P : Program} {w : World} {K : PySem.W.Frag} {mg : Str → Option Value} {base : Heap} {f C CN : Addr} {fd : FuncData} {k : Nat}
theorem sc_u_law_needed : FnScope ["heads", "table", "one", "other", "middle"] ["heads", "table", "one", "other"] (defScope s_u_law_needed) := ⟨rfl, rfl, rfl, by decide +kernel, rfl, by decide +kernel, by decide +kernel⟩
theorem ok_lneeded (F : FnP K "_law_needed" s_u_law_needed [] f fd) (G : Facts mg) : FnOk P w K mg base CX0 1 f fd ["heads", "table", "one", "other"] spLNeeded := by
  refine F.ok sc_u_law_needed (fun vs H Q E h => ?_) (fun cdv A outer s H vs Q E hr h => ?_)
  · obtain ⟨q, d, kvs, F, hs, a, b, c, rfl, _⟩ := h
    rfl
  · obtain ⟨q, d, kvs, F, hs, a, b, c, rfl, hq, hd, ht, hab, hk⟩ := h
    have hu := hu_of hr
    refine ⟨_, PSs.nox (pss_cons (ps_for PassesOwn.never rfl (kpi_list K (pv 0)) (pg_name (i := 4) sc_u_law_needed.nd rfl (by first | exact .inl rfl | exact .inr rfl))
        (pss_one (ps_if (PW.pt (pw_and (pt_cmpR op_ne (pv 4) (pv 2) (nomark _)) (pw_and (pt_cmpR op_ne (pv 4) (pv 3) (nomark _)) (pw_and (pt_cmp (pc_din hu (pe_tup (pa_cons (pv 2) (pa_cons (pv 4) pa_nil))) (pv 1))) (pw_and1 (pt_cmp (pc_din hu (pe_tup (pa_cons (pv 4) (pa_cons (pv 3) pa_nil))) (pv 1)))))))) (pss_one (ps_if (pt_cmpR op_eq (pe_op op_add (pe_dget hu (pv 1) (pe_tup (pa_cons (pv 2) (pa_cons (pv 4) pa_nil))) (fun _ _ => rfl)) (pe_dget hu (pv 1) (pe_tup (pa_cons (pv 4) (pa_cons (pv 3) pa_nil))) (fun _ _ => rfl))) (pe_dget hu (pv 1) (pe_tup (pa_cons (pv 2) (pa_cons (pv 3) pa_nil))) (fun _ _ => rfl)) (nomark _)) (pss_one (ps_ret pe_bl)) pss_nil)) pss_nil)))
      (pss_one (ps_ret pe_bl))), ?_⟩
    unfold Df.needed at hk
    rw [hab] at hk
    have hk : ∀ H', Same H H' → Q (.bl (hs.all fun m => !Df.blocked F c a b m)) H' := hk
    refine ⟨_, rfl, q, rfl, ⟨_, sq hq⟩, ?_⟩
    refine for_it (walk_list (K := K) (a := q) (xs := hs.map V.str)) (fun i σ H' => ∃ x4, σ = [some (.ref q), some (.ref d), some (.str a), some (.str b), x4] ∧ Same H H' ∧ ∀ m ∈ hs.take i, Df.blocked F c a b m = false) ⟨_, rfl, Same.refl H, fun m hm => by simp at hm⟩ (fun i σ H' _ ⟨_, _, s1, _⟩ => sq (s1 _ _ hq)) ?_ ?_
    · rintro i x σ H9 H' hi ⟨x4, rfl, s1, hno⟩ ⟨rfl, ex⟩
      have hil : i < hs.length := by simpa using hi
      have ex : x = V.str hs[i] := by
        rw [List.getElem?_map, List.getElem?_eq_getElem hil] at ex
        exact (Option.some.inj ex).symm
      subst ex
      have esn : hs.take (i + 1) = hs.take i ++ [hs[i]] := take_snoc hil
      have hmem := List.getElem_mem hil
      generalize hm0 : hs[i] = m at esn hmem
      have next : Df.blocked F c a b m = false → ∀ m ∈ hs.take (i + 1), Df.blocked F c a b m = false := fun h m hm => by
        rw [esn] at hm
        rcases List.mem_append.mp hm with h1 | h1
        · exact hno m h1
        · rw [List.mem_singleton.mp h1]; exact h
      have no : (¬ (m ≠ a ∧ m ≠ b ∧ ∃ x y, F a m = some x ∧ F m b = some y ∧ x + y = c)) → Df.blocked F c a b m = false := fun h => by
        cases e : Df.blocked F c a b m with
        | false => rfl
        | true => exact absurd (Df.blocked_iff.mp e) h
      have hd1 := s1 _ _ hd
      refine ⟨_, rfl, _, rfl, rfl, _, rfl, ?_⟩
      by_cases h1 : m = a
      · rw [show (!decide (V.str m = V.str a)) = false by rw [h1, decide_eq_true rfl]; rfl]
        exact iteF (iteF ⟨_, rfl, s1, next (no fun h => h.1 h1)⟩)
      rw [show (!decide (V.str m = V.str a)) = true by rw [decide_eq_false fun e => h1 (by injection e)]; rfl]
      refine iteT ⟨_, rfl, _, rfl, rfl, _, rfl, ?_⟩
      by_cases h2 : m = b
      · rw [show (!decide (V.str m = V.str b)) = false by rw [h2, decide_eq_true rfl]; rfl]
        exact iteF (iteF ⟨_, rfl, s1, next (no fun h => h.2.1 h2)⟩)
      rw [show (!decide (V.str m = V.str b)) = true by rw [decide_eq_false fun e => h2 (by injection e)]; rfl]
      refine iteT ⟨_, rfl, _, rfl, by show 2 ≤ sizeLine; decide, fun p1 np1 => ?_⟩
      have t1 := same_upd np1 (o := .tup [.str a, .str m])
      refine ⟨_, rfl, d, _, rfl, DGet.t (k := key2 a m) (t1 _ _ hd1) (by rw [key_tup]; exact upd_same), ?_⟩
      rw [ht]
      cases hF1 : F a m with
      | none => exact ⟨_, rfl, iteF (iteF ⟨_, rfl, s1.trans t1, next (no fun h => by obtain ⟨_, _, x, y, e1, _⟩ := h; rw [hF1] at e1; cases e1)⟩)⟩
      | some x =>
        refine ⟨_, rfl, iteT ⟨_, rfl, _, rfl, by show 2 ≤ sizeLine; decide, fun p2 np2 => ?_⟩⟩
        have t2 := same_upd np2 (o := .tup [.str m, .str b])
        have t12 := t1.trans t2
        refine ⟨_, rfl, d, _, rfl, DGet.t (k := key2 m b) (t12 _ _ hd1) (by rw [key_tup]; exact upd_same), ?_⟩
        rw [ht]
        cases hF2 : F m b with
        | none => exact ⟨_, rfl, iteF ⟨_, rfl, s1.trans t12, next (no fun h => by obtain ⟨_, _, x, y, _, e2, _⟩ := h; rw [hF2] at e2; cases e2)⟩⟩
        | some y =>
          refine ⟨_, rfl, iteT ?_⟩
          refine ⟨_, rfl, _, rfl, _, rfl, by show 2 ≤ sizeLine; decide, fun p3 np3 => ?_⟩
          have t3 := t12.trans (same_upd np3 (o := .tup [.str a, .str m]))
          refine ⟨d, _, rfl, (by
            have := DGet.t (k := key2 a m) (t3 _ _ hd1) (by rw [key_tup]; exact upd_same)
            rw [ht, hF1] at this
            exact this), ?_⟩
          refine ⟨_, rfl, _, rfl, _, rfl, by show 2 ≤ sizeLine; decide, fun p4 np4 => ?_⟩
          have t4 := t3.trans (same_upd np4 (o := .tup [.str m, .str b]))
          refine ⟨d, _, rfl, (by
            have := DGet.t (k := key2 m b) (t4 _ _ hd1) (by rw [key_tup]; exact upd_same)
            rw [ht, hF2] at this
            exact this), _, _, rfl, rfl, ?_⟩
          refine ⟨_, rfl, _, rfl, _, rfl, by show 2 ≤ sizeLine; decide, fun p5 np5 => ?_⟩
          have t5 := t4.trans (same_upd np5 (o := .tup [.str a, .str b]))
          refine ⟨d, _, rfl, (by
            have := DGet.t (k := key2 a b) (t5 _ _ hd1) (by rw [key_tup]; exact upd_same)
            rw [ht, hab] at this
            exact this), rfl, _, rfl, ?_⟩
          rw [show decide (V.int (x + y) = V.int c) = decide (x + y = c) by rw [Bool.eq_iff_iff]; simp]
          by_cases hxy : x + y = c
          · rw [decide_eq_true hxy]
            refine iteT ?_
            have hb : Df.blocked F c a b m = true := Df.blocked_iff.mpr ⟨h1, h2, x, y, hF1, hF2, hxy⟩
            have := hk _ (s1.trans t5)
            rw [show (hs.all fun m => !Df.blocked F c a b m) = false by
              rw [List.all_eq_false]
              exact ⟨m, hmem, by rw [hb]; simp⟩] at this
            exact this
          · rw [decide_eq_false hxy]
            exact iteF ⟨_, rfl, s1.trans t5, next (no fun h => by
              obtain ⟨_, _, x', y', e1, e2, e3⟩ := h
              rw [hF1] at e1
              rw [hF2] at e2
              cases e1; cases e2
              exact hxy e3)⟩
    · rintro σ H' ⟨x4, rfl, s1, hno⟩
      rw [List.length_map, List.take_length] at hno
      have := hk _ s1
      rw [show (hs.all fun m => !Df.blocked F c a b m) = true by
        rw [List.all_eq_true]
        intro m hm
        rw [hno m hm]
        rfl] at this
      exact this
end
end K1

namespace K1
open PySem PySem.Spec PyProof.Rows L2 Ls
theorem addH_eq (F : Df.OTab Str) (hs : List Str) (x : Str) : Df.addH F hs x = if (hs.filter fun h => Df.eqc F h x) = [] then hs ++ [x] else hs := by
  unfold Df.addH
  by_cases h : hs.any (fun h => Df.eqc F h x) = true
  · rw [if_pos h, if_neg]
    intro e
    obtain ⟨y, hy, q⟩ := List.any_eq_true.mp h
    have : y ∈ hs.filter fun h => Df.eqc F h x := List.mem_filter.mpr ⟨hy, q⟩
    rw [e] at this
    cases this
  · rw [if_neg h, if_pos]
    rw [List.filter_eq_nil_iff]
    intro y hy q
    exact h (List.any_eq_true.mpr ⟨y, hy, q⟩)
theorem addH_len (F : Df.OTab Str) (hs : List Str) (x : Str) : (Df.addH F hs x).length ≤ hs.length + 1 := by
  unfold Df.addH
  split <;> simp
theorem foldH_snoc (F : Df.OTab Str) (l : List Str) (x : Str) : (l ++ [x]).foldl (Df.addH F) [] = Df.addH F (l.foldl (Df.addH F) []) x := by
  rw [List.foldl_append]
  rfl
theorem foldH_sub (F : Df.OTab Str) : ∀ (l : List Str) (hs : List Str), (l.foldl (Df.addH F) hs).length ≤ hs.length + l.length ∧ ∀ x ∈ l.foldl (Df.addH F) hs, x ∈ hs ∨ x ∈ l
  | [], hs => ⟨by simp, fun x hx => .inl hx⟩
  | a :: l, hs => by
    obtain ⟨h1, h2⟩ := foldH_sub F l (Df.addH F hs a)
    have h3 := addH_len F hs a
    rw [List.foldl_cons, List.length_cons]
    refine ⟨by omega, fun x hx => ?_⟩
    rcases h2 x hx with h | h
    · unfold Df.addH at h
      split at h
      · exact .inl h
      · rcases List.mem_append.mp h with h | h
        · exact .inl h
        · rw [List.mem_singleton.mp h]; exact .inr List.mem_cons_self
    · exact .inr (List.mem_cons_of_mem _ h)
/-- one comprehension of the law: the items x of l with (a x, b x) and (b x, a x) in the table, then those whose sum is 0 -/
def spHeads : Sp := fun vs H Q _ => ∃ (e d : Addr) (kvs : List (List Key × V)) (F : Df.OTab Str) (ns : List Str), vs = [.ref e, .ref d] ∧ H e = some (.tup (ns.map V.str)) ∧ H d = some (.dT kvs) ∧ TabD kvs F ∧ ns.length ≤ 1000 ∧ (∀ x ∈ ns, PySem.PyData.strOk x = true) ∧
  ∀ H' p q, Same H H' → H' p = some (.tup [.ref q, .int (Df.manyH F ns (ns.foldl (Df.addH F) []) : Nat)]) → H' q = some (.lst ((ns.foldl (Df.addH F) []).map V.str)) → Q (.ref p) H'
def spDue : Sp := fun vs H Q _ => ∃ (n d : Addr) (kvs : List (List Key × V)) (F : Df.OTab Str) (nms : List Str), vs = [.ref n, .ref d] ∧ H n = some (.lst (nms.map V.str)) ∧ H d = some (.dT kvs) ∧ TabD kvs F ∧ nms.length ≤ 900 ∧ (∀ x ∈ ("0" : Str) :: nms, PySem.PyData.strOk x = true) ∧
  ∀ H', Same H H' → Q (.int (Df.manyH F (("0" : Str) :: nms) ((("0" : Str) :: nms).foldl (Df.addH F) []) + (Df.pairsP F ((("0" : Str) :: nms).foldl (Df.addH F) [])).length : Nat)) H'
section
variable {P : Program} {w : World} {K : PySem.W.Frag} {mg : Str → Option Value} {base : Heap} {f C CN : Addr} {fd : FuncData} {k : Nat}
theorem sc_u_law_heads : FnScope ["ends", "table", "heads", "many", "end", "same", "head", "members"] ["ends", "table"] (defScope s_u_law_heads) := ⟨rfl, rfl, rfl, by decide +kernel, rfl, by decide +kernel, by decide +kernel⟩
theorem ok_lheads (F : FnP K "_law_heads" s_u_law_heads [] f fd) (G : Facts mg) : FnOk P w K mg base CX0 1 f fd ["ends", "table"] spHeads := by
  refine F.ok sc_u_law_heads (fun vs H Q E h => ?_) (fun cdv A outer s H vs Q E hr h => ?_)
  · obtain ⟨e, d, kvs, F, ns, rfl, _⟩ := h
    rfl
  · obtain ⟨e, d, kvs, F, ns, rfl, he, hd, ht, hlen, hok, hk⟩ := h
    have hu := hu_of hr
    refine ⟨_, PSs.nox (pss_cons (ps_par (i := 2) (j := 3) (by rfl) sc_u_law_heads.nd rfl rfl (by decide) rfl rfl (pa_cons (pe_lst pa_nil) (pa_cons pe_int pa_nil)) (by rfl))
      (pss_cons (ps_for PassesOwn.never rfl (kpi_tup K (pv 0)) (pg_name (i := 4) sc_u_law_heads.nd rfl (by first | exact .inl rfl | exact .inr rfl))
        (pss_cons (ps_setLc (i := 5) (own := [("head", 6)]) (g := gName 6) rfl sc_u_law_heads.nd rfl rfl (sw_true rfl rfl rfl (by decide +kernel)) (kpi_list K (pv 2)) (blkOk_by (by kernel_rfl)) (fun _ _ _ _ _ => (pg_name (i := 6) sc_u_law_heads.nd rfl (by first | exact .inl rfl | exact .inr rfl))) (fun _ _ _ _ _ => (pts_one (PW.pt (pw_and (pt_cmp (pc_din hu (pe_tup (pa_cons (pv 6) (pa_cons (pv 4) pa_nil))) (pv 1))) (pw_and1 (pt_cmp (pc_din hu (pe_tup (pa_cons (pv 4) (pa_cons (pv 6) pa_nil))) (pv 1)))))))) (fun _ _ _ _ _ => (pv 6)))
        (pss_cons (ps_setLc (i := 5) (own := [("head", 6)]) (g := gName 6) rfl sc_u_law_heads.nd rfl rfl (sw_true rfl rfl rfl (by decide +kernel)) (kpi_list K (pv 5)) (blkOk_by (by kernel_rfl)) (fun _ _ _ _ _ => (pg_name (i := 6) sc_u_law_heads.nd rfl (by first | exact .inl rfl | exact .inr rfl))) (fun _ _ _ _ _ => (pts_one (pt_cmpR op_eq (pe_op op_add (pe_dget hu (pv 1) (pe_tup (pa_cons (pv 6) (pa_cons (pv 4) pa_nil))) (fun _ _ => rfl)) (pe_dget hu (pv 1) (pe_tup (pa_cons (pv 4) (pa_cons (pv 6) pa_nil))) (fun _ _ => rfl))) pe_int (nomark _)))) (fun _ _ _ _ _ => (pv 6)))
        (pss_one (ps_if (pt_cmpR (kEqD K hr.units) (pv 5) (pe_lst pa_nil) (nomark _)) (pss_one (ps_expr (pe_bm PySem.F.plainAttrs_list PySem.F.slot_list_append PySem.F.type_list_append mt_append (pv 2) (pa_cons (pv 4) pa_nil)))) pss_nil)))))
      (pss_cons (ps_for PassesOwn.never rfl (kpi_list K (pv 2)) (pg_name (i := 6) sc_u_law_heads.nd rfl (by first | exact .inl rfl | exact .inr rfl))
        (pss_cons (ps_setLc (i := 7) (own := [("end", 4)]) (g := gName 4) rfl sc_u_law_heads.nd rfl rfl (sw_true rfl rfl rfl (by decide +kernel)) (kpi_tup K (pv 0)) (blkOk_by (by kernel_rfl)) (fun _ _ _ _ _ => (pg_name (i := 4) sc_u_law_heads.nd rfl (by first | exact .inl rfl | exact .inr rfl))) (fun _ _ _ _ _ => (pts_one (PW.pt (pw_and (pt_cmp (pc_din hu (pe_tup (pa_cons (pv 6) (pa_cons (pv 4) pa_nil))) (pv 1))) (pw_and1 (pt_cmp (pc_din hu (pe_tup (pa_cons (pv 4) (pa_cons (pv 6) pa_nil))) (pv 1)))))))) (fun _ _ _ _ _ => (pv 4)))
        (pss_cons (ps_setLc (i := 7) (own := [("end", 4)]) (g := gName 4) rfl sc_u_law_heads.nd rfl rfl (sw_true rfl rfl rfl (by decide +kernel)) (kpi_list K (pv 7)) (blkOk_by (by kernel_rfl)) (fun _ _ _ _ _ => (pg_name (i := 4) sc_u_law_heads.nd rfl (by first | exact .inl rfl | exact .inr rfl))) (fun _ _ _ _ _ => (pts_one (pt_cmpR op_eq (pe_op op_add (pe_dget hu (pv 1) (pe_tup (pa_cons (pv 6) (pa_cons (pv 4) pa_nil))) (fun _ _ => rfl)) (pe_dget hu (pv 1) (pe_tup (pa_cons (pv 4) (pa_cons (pv 6) pa_nil))) (fun _ _ => rfl))) pe_int (nomark _)))) (fun _ _ _ _ _ => (pv 4)))
        (pss_one (ps_if (pt_cmpR op_gt (pe_callB (kLen K) (by rfl) G.len_ PySem.boot_len (pa_cons (pv 7) pa_nil)) pe_int (nomark _)) (pss_one (ps_set (i := 3) sc_u_law_heads.nd rfl (.inl rfl) (pe_op op_add (pv 3) (pe_callB (kLen K) (by rfl) G.len_ PySem.boot_len (pa_cons (pv 7) pa_nil))))) pss_nil)))))
      (pss_one (ps_ret (pe_tup (pa_cons (pv 2) (pa_cons (pv 3) pa_nil)))))))), ?_⟩
    have nml : (ns.map V.str).length = ns.length := List.length_map _
    have atl : ∀ (l : List Str) (i : Nat) (h : i < l.length) x, (l.map V.str)[i]? = some x → x = V.str l[i] := fun l i h x ex => by
      rw [List.getElem?_map, List.getElem?_eq_getElem h] at ex
      exact (Option.some.inj ex).symm
    refine ⟨by show 0 ≤ sizeLine; decide, fun q nq => ?_⟩
    have s0 := same_upd nq (o := .lst [])
    have hq0 : (upd H q (.lst [])) q = some (.lst []) := upd_same
    generalize upd H q (.lst []) = H0 at s0 hq0 ⊢
    refine ⟨_, _, rfl, ?_⟩
    have fl := foldH_sub F
    -- the heads
    refine ⟨_, rfl, e, rfl, ⟨_, sqt (s0 _ _ he)⟩, ?_⟩
    refine for_it (walk_tup (K := K) (a := e) (xs := ns.map V.str)) (fun i σ H' => ∃ x4 x5 x6, σ = [some (.ref e), some (.ref d), some (.ref q), some (.int 0), x4, x5, x6, none] ∧ Same H H' ∧ H' q = some (.lst (((ns.take i).foldl (Df.addH F) []).map V.str)))
      ⟨_, _, _, rfl, s0, hq0⟩ (fun i σ H' _ ⟨_, _, _, _, s1, _⟩ => sqt (s1 _ _ he)) ?_ ?_
    · rintro i x σ H9 H' hi ⟨x4, x5, x6, rfl, s1, hq⟩ ⟨rfl, ex⟩
      rw [nml] at hi
      cases atl ns i hi x ex
      have esn : ns.take (i + 1) = ns.take i ++ [ns[i]] := take_snoc hi
      have hf := fl (ns.take i) []
      have hltake := List.length_take_le i ns
      have hsn : ∀ x ∈ (ns.take i).foldl (Df.addH F) [], x ∈ ns := fun x hx => by
        rcases hf.2 x hx with h | h
        · cases h
        · exact List.mem_of_mem_take h
      have hhl : ((ns.take i).foldl (Df.addH F) []).length ≤ 1000 := by have := hf.1; simp at this; omega
      generalize hx0 : ns[i] = y at esn
      generalize hh0 : (ns.take i).foldl (Df.addH F) [] = hs at hq hsn hhl
      -- same = [head for head in heads if ..]
      refine ⟨_, rfl, q, rfl, ⟨_, sq hq⟩, fun D hD => ?_⟩
      refine lc_it (walk_list (K := K) (a := q) (xs := hs.map V.str)) (fun j H2 => Same H' H2 ∧ H2 D = some (.lst (((hs.take j).filter fun h => fin2 F h y).map V.str))) ⟨same_upd hD, upd_same⟩ (fun j H2 _ ⟨s2, _⟩ => sq (s2 _ _ hq)) ?_ ?_
      · rintro j z H9 H2 hj ⟨s2, hD2⟩ ⟨rfl, ez⟩
        have hjl : j < hs.length := by simpa using hj
        cases atl hs j hjl z ez
        have ef : (hs.take (j + 1)).filter (fun h => fin2 F h y) = (hs.take j).filter (fun h => fin2 F h y) ++ if fin2 F hs[j] y = true then [hs[j]] else [] := by
          rw [take_snoc hjl, List.filter_append, List.filter_cons]
          rfl
        generalize hs[j] = h at ef
        have hd2 := s2 _ _ (s1 _ _ hd)
        refine ⟨rfl, _, rfl, _, rfl, by show 2 ≤ sizeLine; decide, fun p1 np1 => ?_⟩
        have t1 := same_upd np1 (o := .tup [.str h, .str y])
        refine ⟨_, rfl, d, _, rfl, DGet.t (k := key2 h y) (t1 _ _ hd2) (by rw [key_tup]; exact upd_same), ?_⟩
        rw [ht]
        cases hF1 : F h y with
        | none =>
          refine ⟨_, rfl, iteF (iteF ⟨s2.trans t1, ?_⟩)⟩
          rw [ef, if_neg (by unfold fin2; rw [hF1]; simp), List.append_nil]
          exact t1 _ _ hD2
        | some a =>
          refine ⟨_, rfl, iteT ⟨_, rfl, _, rfl, by show 2 ≤ sizeLine; decide, fun p2 np2 => ?_⟩⟩
          have t2 := t1.trans (same_upd np2 (o := .tup [.str y, .str h]))
          refine ⟨_, rfl, d, _, rfl, DGet.t (k := key2 y h) (t2 _ _ hd2) (by rw [key_tup]; exact upd_same), ?_⟩
          rw [ht]
          cases hF2 : F y h with
          | none =>
            refine ⟨_, rfl, iteF ⟨s2.trans t2, ?_⟩⟩
            rw [ef, if_neg (by unfold fin2; rw [hF2]; simp), List.append_nil]
            exact t2 _ _ hD2
          | some b =>
            refine ⟨_, rfl, iteT ⟨_, rfl, _, t2 _ _ hD2, ?_, same_mut (s2.trans t2) hD, ?_⟩⟩
            · rw [List.length_map]
              have := List.length_filter_le (fun h => fin2 F h y) (hs.take j)
              rw [List.length_take] at this
              exact szlt (by omega)
            · rw [upd_same, ef, if_pos (by unfold fin2; rw [hF1, hF2]; rfl), List.map_append]
              rfl
      rintro H2 ⟨s2, hD2⟩
      rw [List.length_map, List.take_length] at hD2
      -- same = [head for head in same if .. == 0]
      have hq2 := s2 _ _ hq
      have ha1 : ∀ h ∈ hs.filter (fun h => fin2 F h y), ∃ a b, F h y = some a ∧ F y h = some b := fun h hh => fin2_some (List.mem_filter.mp hh).2
      have hfl := List.length_filter_le (fun h => fin2 F h y) hs
      have hfin := filt2 F (fun h => (h, y)) (fun h => (y, h)) hs fun _ => rfl
      generalize hs.filter (fun h => fin2 F h y) = s1l at hD2 ha1 hfl hfin
      refine ⟨_, rfl, D, rfl, ⟨_, sq hD2⟩, fun D2 hDD => ?_⟩
      refine lc_it (walk_list (K := K) (a := D) (xs := s1l.map V.str)) (fun j H3 => Same H2 H3 ∧ H3 D2 = some (.lst (((s1l.take j).filter fun h => Df.eqc F h y).map V.str))) ⟨same_upd hDD, upd_same⟩ (fun j H3 _ ⟨s3, _⟩ => sq (s3 _ _ hD2)) ?_ ?_
      · rintro j z H9 H3 hj ⟨s3, hD3⟩ ⟨rfl, ez⟩
        have hjl : j < s1l.length := by simpa using hj
        cases atl s1l j hjl z ez
        have ef : (s1l.take (j + 1)).filter (fun h => Df.eqc F h y) = (s1l.take j).filter (fun h => Df.eqc F h y) ++ if Df.eqc F s1l[j] y = true then [s1l[j]] else [] := by
          rw [take_snoc hjl, List.filter_append, List.filter_cons]
          rfl
        obtain ⟨a, b, hF1, hF2⟩ := ha1 _ (List.getElem_mem hjl)
        generalize s1l[j] = h at ef hF1 hF2
        have hd3 := s3 _ _ (s2 _ _ (s1 _ _ hd))
        refine ⟨rfl, _, rfl, _, rfl, _, rfl, by show 2 ≤ sizeLine; decide, fun p1 np1 => ?_⟩
        have t1 := same_upd np1 (o := .tup [.str h, .str y])
        refine ⟨d, _, rfl, (by
          have := DGet.t (k := key2 h y) (t1 _ _ hd3) (by rw [key_tup]; exact upd_same)
          rw [ht, hF1] at this
          exact this), ?_⟩
        refine ⟨_, rfl, _, rfl, _, rfl, by show 2 ≤ sizeLine; decide, fun p2 np2 => ?_⟩
        have t2 := t1.trans (same_upd np2 (o := .tup [.str y, .str h]))
        refine ⟨d, _, rfl, (by
          have := DGet.t (k := key2 y h) (t2 _ _ hd3) (by rw [key_tup]; exact upd_same)
          rw [ht, hF2] at this
          exact this), _, _, rfl, rfl, rfl, _, rfl, ?_⟩
        have ee := eqc_some hF1 hF2
        rw [show decide (V.int (a + b) = V.int 0) = decide (a + b = 0) by rw [Bool.eq_iff_iff]; simp, ← ee]
        cases hE : Df.eqc F h y with
        | true =>
          refine iteT ⟨_, rfl, _, t2 _ _ hD3, ?_, same_mut (s3.trans t2) hDD, ?_⟩
          · rw [List.length_map]
            have := List.length_filter_le (fun h => Df.eqc F h y) (s1l.take j)
            rw [List.length_take] at this
            exact szlt (by omega)
          · rw [upd_same, ef, if_pos hE, List.map_append]
            rfl
        | false =>
          refine iteF ⟨s3.trans t2, ?_⟩
          rw [ef, if_neg (by rw [hE]; simp), List.append_nil]
          exact t2 _ _ hD3
      rintro H3 ⟨s3, hD3⟩
      rw [List.length_map, List.take_length, hfin] at hD3
      have s13 := s1.trans (s2.trans s3)
      have hq3 := s3 _ _ hq2
      -- if same == []
      have ok2 : ∀ x ∈ hs.filter (fun h => Df.eqc F h y), PySem.PyData.strOk x = true := fun x hx => hok x (hsn x (List.mem_filter.mp hx).1)
      have hD3 : H3 D2 = some (.lst ((hs.filter fun h => Df.eqc F h y).map V.str)) := hD3
      refine ⟨_, rfl, by show 0 ≤ sizeLine; decide, fun p np => ?_⟩
      have t1 := same_upd np (o := .lst [])
      refine ⟨_, _, .lst (sq (t1 _ _ hD3)) (dpStrs K _ _), .lst (sq upd_same) .nil, shaped_strs _ ok2, rfl, _, rfl, ?_⟩
      rw [eqvs_nil]
      have eF := addH_eq F hs y
      have hq4 := t1 _ _ hq3
      have eN : (ns.take (i + 1)).foldl (Df.addH F) [] = Df.addH F hs y := by rw [esn, foldH_snoc, hh0]
      by_cases hnil : (hs.filter fun h => Df.eqc F h y) = []
      · rw [show (hs.filter fun h => Df.eqc F h y).isEmpty = true by rw [hnil]; rfl]
        rw [if_pos hnil] at eF
        refine iteT ⟨_, rfl, .inl ⟨rfl, _, sq hq4⟩, _, rfl, q, _, _, rfl, rfl, hq4, ?_, _, _, _, rfl, same_mut (s13.trans t1) nq, ?_⟩
        · rw [List.length_map]
          exact szlt (by omega)
        · rw [upd_same, eN, eF, List.map_append]
          rfl
      · rw [show (hs.filter fun h => Df.eqc F h y).isEmpty = false by
          cases h : hs.filter fun h => Df.eqc F h y with
          | nil => exact absurd h hnil
          | cons _ _ => rfl]
        rw [if_neg hnil] at eF
        refine iteF ⟨_, _, _, rfl, s13.trans t1, ?_⟩
        rw [eN, eF]
        exact hq4
    rintro σ H1 ⟨x4, x5, x6, rfl, s1, hq1⟩
    rw [nml, List.take_length] at hq1
    have hf := fl ns []
    have hhl : (ns.foldl (Df.addH F) []).length ≤ 1000 := by have := hf.1; simp at this; omega
    generalize hh0 : ns.foldl (Df.addH F) [] = hs at hq1 hhl hk
    have hml : (hs.map V.str).length = hs.length := List.length_map _
    -- the members
    refine ⟨_, rfl, q, rfl, ⟨_, sq hq1⟩, ?_⟩
    refine for_it (walk_list (K := K) (a := q) (xs := hs.map V.str)) (fun i σ H' => ∃ x4 x5 x6 x7, σ = [some (.ref e), some (.ref d), some (.ref q), some (.int (Df.manyH F ns (hs.take i) : Nat)), x4, x5, x6, x7] ∧ Same H H' ∧ H' q = some (.lst (hs.map V.str)))
      ⟨_, _, _, _, rfl, s1, hq1⟩ (fun i σ H' _ ⟨_, _, _, _, _, _, h⟩ => sq h) ?_ ?_
    · rintro i x σ H9 H' hi ⟨x4, x5, x6, x7, rfl, s2, hq⟩ ⟨rfl, ex⟩
      rw [hml] at hi
      cases atl hs i hi x ex
      have em : Df.manyH F ns (hs.take (i + 1)) = Df.manyH F ns (hs.take i) + if 1 < Df.manyOf F ns hs[i] then Df.manyOf F ns hs[i] else 0 := by
        unfold Df.manyH
        rw [take_snoc hi, List.map_append, List.sum_append]
        simp
      generalize hs[i] = y at em
      have he2 := s2 _ _ he
      -- members = [end for end in ends if ..]
      refine ⟨_, rfl, e, rfl, ⟨_, sqt he2⟩, fun D hD => ?_⟩
      refine lc_it (walk_tup (K := K) (a := e) (xs := ns.map V.str)) (fun j H2 => Same H' H2 ∧ H2 D = some (.lst (((ns.take j).filter fun h => fin2 F y h).map V.str))) ⟨same_upd hD, upd_same⟩ (fun j H2 _ ⟨s3, _⟩ => sqt (s3 _ _ he2)) ?_ ?_
      · rintro j z H9 H2 hj ⟨s3, hD2⟩ ⟨rfl, ez⟩
        have hjl : j < ns.length := by simpa using hj
        cases atl ns j hjl z ez
        have ef : (ns.take (j + 1)).filter (fun h => fin2 F y h) = (ns.take j).filter (fun h => fin2 F y h) ++ if fin2 F y ns[j] = true then [ns[j]] else [] := by
          rw [take_snoc hjl, List.filter_append, List.filter_cons]
          rfl
        generalize ns[j] = h at ef
        have hd2 := s3 _ _ (s2 _ _ hd)
        refine ⟨rfl, _, rfl, _, rfl, by show 2 ≤ sizeLine; decide, fun p1 np1 => ?_⟩
        have t1 := same_upd np1 (o := .tup [.str y, .str h])
        refine ⟨_, rfl, d, _, rfl, DGet.t (k := key2 y h) (t1 _ _ hd2) (by rw [key_tup]; exact upd_same), ?_⟩
        rw [ht]
        cases hF1 : F y h with
        | none =>
          refine ⟨_, rfl, iteF (iteF ⟨s3.trans t1, ?_⟩)⟩
          rw [ef, if_neg (by unfold fin2; rw [hF1]; simp), List.append_nil]
          exact t1 _ _ hD2
        | some a =>
          refine ⟨_, rfl, iteT ⟨_, rfl, _, rfl, by show 2 ≤ sizeLine; decide, fun p2 np2 => ?_⟩⟩
          have t2 := t1.trans (same_upd np2 (o := .tup [.str h, .str y]))
          refine ⟨_, rfl, d, _, rfl, DGet.t (k := key2 h y) (t2 _ _ hd2) (by rw [key_tup]; exact upd_same), ?_⟩
          rw [ht]
          cases hF2 : F h y with
          | none =>
            refine ⟨_, rfl, iteF ⟨s3.trans t2, ?_⟩⟩
            rw [ef, if_neg (by unfold fin2; rw [hF2]; simp), List.append_nil]
            exact t2 _ _ hD2
          | some b =>
            refine ⟨_, rfl, iteT ⟨_, rfl, _, t2 _ _ hD2, ?_, same_mut (s3.trans t2) hD, ?_⟩⟩
            · rw [List.length_map]
              have := List.length_filter_le (fun h => fin2 F y h) (ns.take j)
              rw [List.length_take] at this
              exact szlt (by omega)
            · rw [upd_same, ef, if_pos (by unfold fin2; rw [hF1, hF2]; rfl), List.map_append]
              rfl
      rintro H2 ⟨s3, hD2⟩
      rw [nml, List.take_length] at hD2
      have hq2 := s3 _ _ hq
      have ha1 : ∀ h ∈ ns.filter (fun h => fin2 F y h), ∃ a b, F y h = some a ∧ F h y = some b := fun h hh => fin2_some (List.mem_filter.mp hh).2
      have hfl := List.length_filter_le (fun h => fin2 F y h) ns
      have hfin := filt2 F (fun h => (y, h)) (fun h => (h, y)) ns fun _ => rfl
      have hmo : Df.manyOf F ns y = (ns.filter fun h => Df.eqc F y h).length := rfl
      have hfl2 := List.length_filter_le (fun h => Df.eqc F y h) ns
      generalize ns.filter (fun h => fin2 F y h) = s1l at hD2 ha1 hfl hfin
      refine ⟨_, rfl, D, rfl, ⟨_, sq hD2⟩, fun D2 hDD => ?_⟩
      refine lc_it (walk_list (K := K) (a := D) (xs := s1l.map V.str)) (fun j H3 => Same H2 H3 ∧ H3 D2 = some (.lst (((s1l.take j).filter fun h => Df.eqc F y h).map V.str))) ⟨same_upd hDD, upd_same⟩ (fun j H3 _ ⟨s4, _⟩ => sq (s4 _ _ hD2)) ?_ ?_
      · rintro j z H9 H3 hj ⟨s4, hD3⟩ ⟨rfl, ez⟩
        have hjl : j < s1l.length := by simpa using hj
        cases atl s1l j hjl z ez
        have ef : (s1l.take (j + 1)).filter (fun h => Df.eqc F y h) = (s1l.take j).filter (fun h => Df.eqc F y h) ++ if Df.eqc F y s1l[j] = true then [s1l[j]] else [] := by
          rw [take_snoc hjl, List.filter_append, List.filter_cons]
          rfl
        obtain ⟨a, b, hF1, hF2⟩ := ha1 _ (List.getElem_mem hjl)
        generalize s1l[j] = h at ef hF1 hF2
        have hd3 := s4 _ _ (s3 _ _ (s2 _ _ hd))
        refine ⟨rfl, _, rfl, _, rfl, _, rfl, by show 2 ≤ sizeLine; decide, fun p1 np1 => ?_⟩
        have t1 := same_upd np1 (o := .tup [.str y, .str h])
        refine ⟨d, _, rfl, (by
          have := DGet.t (k := key2 y h) (t1 _ _ hd3) (by rw [key_tup]; exact upd_same)
          rw [ht, hF1] at this
          exact this), ?_⟩
        refine ⟨_, rfl, _, rfl, _, rfl, by show 2 ≤ sizeLine; decide, fun p2 np2 => ?_⟩
        have t2 := t1.trans (same_upd np2 (o := .tup [.str h, .str y]))
        refine ⟨d, _, rfl, (by
          have := DGet.t (k := key2 h y) (t2 _ _ hd3) (by rw [key_tup]; exact upd_same)
          rw [ht, hF2] at this
          exact this), _, _, rfl, rfl, rfl, _, rfl, ?_⟩
        have ee := eqc_some hF1 hF2
        rw [show decide (V.int (a + b) = V.int 0) = decide (a + b = 0) by rw [Bool.eq_iff_iff]; simp, ← ee]
        cases hE : Df.eqc F y h with
        | true =>
          refine iteT ⟨_, rfl, _, t2 _ _ hD3, ?_, same_mut (s4.trans t2) hDD, ?_⟩
          · rw [List.length_map]
            have := List.length_filter_le (fun h => Df.eqc F y h) (s1l.take j)
            rw [List.length_take] at this
            exact szlt (by omega)
          · rw [upd_same, ef, if_pos hE, List.map_append]
            rfl
        | false =>
          refine iteF ⟨s4.trans t2, ?_⟩
          rw [ef, if_neg (by rw [hE]; simp), List.append_nil]
          exact t2 _ _ hD3
      rintro H3 ⟨s4, hD3⟩
      rw [List.length_map, List.take_length, hfin] at hD3
      have hD3 : H3 D2 = some (.lst ((ns.filter fun h => Df.eqc F y h).map V.str)) := hD3
      have s24 := s2.trans (s3.trans s4)
      have hq3 := s4 _ _ hq2
      -- if len(members) > 1
      refine ⟨_, rfl, D2, _, rfl, .inl (sq hD3), _, _, rfl, rfl, _, rfl, ?_⟩
      rw [List.length_map, ← hmo]
      by_cases h1 : 1 < Df.manyOf F ns y
      · rw [decide_eq_true (show (1 : Int) < (Df.manyOf F ns y : Int) by omega)]
        rw [if_pos h1] at em
        refine iteT ⟨_, rfl, _, rfl, D2, _, rfl, .inl (sq hD3), _, _, rfl, rfl, ?_⟩
        rw [List.length_map, ← hmo]
        refine ⟨x4, x5, some (.str y), some (.ref D2), ?_, s24, hq3⟩
        rw [em, Int.natCast_add]
        rfl
      · rw [decide_eq_false (show ¬ (1 : Int) < (Df.manyOf F ns y : Int) by omega)]
        rw [if_neg h1, Nat.add_zero] at em
        refine iteF ⟨x4, x5, some (.str y), some (.ref D2), ?_, s24, hq3⟩
        rw [em]
        rfl
    · rintro σ H' ⟨x4, x5, x6, x7, rfl, s2, hq⟩
      rw [hml, List.take_length]
      refine ⟨_, rfl, _, rfl, by show 2 ≤ sizeLine; decide, fun p np => ?_⟩
      have t1 := same_upd np (o := .tup [.ref q, .int (Df.manyH F ns hs : Nat)])
      exact hk _ p q (s2.trans t1) upd_same (t1 _ _ hq)
end
end K1

namespace K1
open PySem PySem.Spec PyProof.Rows L2 Ls
section
variable {P : Program} {w : World} {K : PySem.W.Frag} {mg : Str → Option Value} {base : Heap} {f C CN : Addr} {fd : FuncData} {k : Nat}
theorem sc_u_law_due : FnScope ["names", "table", "heads", "many", "one", "other"] ["names", "table"] (defScope s_u_law_due) := ⟨rfl, rfl, rfl, by decide +kernel, rfl, by decide +kernel, by decide +kernel⟩
theorem ok_ldue (F : FnP K "_law_due" s_u_law_due [] f fd) (G : Facts mg) (C_u_law_heads : Cal P w K mg base 1 "_law_heads" spHeads []) (C_u_law_needed : Cal P w K mg base 1 "_law_needed" spLNeeded []) : FnOk P w K mg base CX0 2 f fd ["names", "table"] spDue := by
  refine F.ok sc_u_law_due (fun vs H Q E h => ?_) (fun cdv A outer s H vs Q E hr h => ?_)
  · obtain ⟨n, d, kvs, F, nms, rfl, _⟩ := h
    rfl
  · obtain ⟨n, d, kvs, F, nms, rfl, hn, hd, ht, hlen, hok, hk⟩ := h
    have hu := hu_of hr
    refine ⟨_, PSs.nox (pss_cons (ps_asg (pe_c C_u_law_heads hr (by decide) (by rfl) (pa_cons (pe_op kCatT (pe_tup (pa_cons pe_str pa_nil)) (pe_callTy kTuple (by rfl) G.tuple_ (by decide +kernel) (pa_cons (pv 0) pa_nil))) (pa_cons (pv 1) pa_nil))) (kpg_tup K rfl (pgs_cons (pg_name (i := 2) sc_u_law_due.nd rfl (by first | exact .inl rfl | exact .inr rfl)) (pgs_cons (pg_name (i := 3) sc_u_law_due.nd rfl (by first | exact .inl rfl | exact .inr rfl)) pgs_nil))))
      (pss_cons (ps_for PassesOwn.never rfl (kpi_list K (pv 2)) (pg_name (i := 4) sc_u_law_due.nd rfl (by first | exact .inl rfl | exact .inr rfl))
        (pss_one (ps_for PassesOwn.never rfl (kpi_list K (pv 2)) (pg_name (i := 5) sc_u_law_due.nd rfl (by first | exact .inl rfl | exact .inr rfl))
          (pss_one (ps_if (PW.pt (pw_and (pt_cmpR op_ne (pv 4) (pv 5) (nomark _)) (pw_and (pt_cmp (pc_din hu (pe_tup (pa_cons (pv 4) (pa_cons (pv 5) pa_nil))) (pv 1))) (pw_and1 (pt_val (pe_c C_u_law_needed hr (by decide) (by rfl) (pa_cons (pv 2) (pa_cons (pv 1) (pa_cons (pv 4) (pa_cons (pv 5) pa_nil)))))))))) (pss_one (ps_set (i := 3) sc_u_law_due.nd rfl (.inl rfl) (pe_op op_add (pv 3) pe_int))) pss_nil)))))
      (pss_one (ps_ret (pv 3))))), ?_⟩
    refine ⟨by show 1 ≤ sizeLine; decide, fun p np => ?_⟩
    have s1 := same_upd np (o := .tup [.str "0"])
    refine ⟨_, rfl, n, nms.map V.str, rfl, .inl (s1 _ _ hn), fun H2 q s2 nq hq => ?_⟩
    refine ⟨p, q, [.str "0"], nms.map V.str, rfl, rfl, s2 _ _ upd_same, hq, szl (by simp; omega), fun H3 e s3 ne he => ?_⟩
    have he : H3 e = some (.tup ((("0" : Str) :: nms).map V.str)) := he
    have s03 := s1.trans (s2.trans s3)
    have hl1 : (("0" : Str) :: nms).length ≤ 1000 := by rw [List.length_cons]; omega
    generalize hns : ("0" : Str) :: nms = ns at *
    refine ⟨_, rfl, e, d, kvs, F, ns, rfl, he, s03 _ _ hd, ht, hl1, hok, fun H4 r q2 s4 hr4 hq4 => ?_⟩
    have s04 := s03.trans s4
    have hf := foldH_sub F ns []
    have hhl : (ns.foldl (Df.addH F) []).length ≤ 1000 := by have := hf.1; simp at this; omega
    generalize hh0 : ns.foldl (Df.addH F) [] = hs at hr4 hq4 hk hhl
    refine ⟨r, _, rfl, sqt hr4, rfl, _, _, rfl, _, _, rfl, rfl, ?_⟩
    have hml : (hs.map V.str).length = hs.length := List.length_map _
    have atl : ∀ (i : Nat) (h : i < hs.length) x, (hs.map V.str)[i]? = some x → x = V.str hs[i] := fun i h x ex => by
      rw [List.getElem?_map, List.getElem?_eq_getElem h] at ex
      exact (Option.some.inj ex).symm
    generalize Df.manyH F ns hs = M at hk ⊢
    refine ⟨_, rfl, q2, rfl, ⟨_, sq hq4⟩, ?_⟩
    refine for_it (walk_list (K := K) (a := q2) (xs := hs.map V.str)) (fun i σ H' => ∃ x4 x5, σ = [some (.ref n), some (.ref d), some (.ref q2), some (.int (M + ((hs.take i).flatMap (Df.rowP F hs)).length : Nat)), x4, x5] ∧ Same H4 H') ⟨_, _, by rw [List.take_zero]; rfl, Same.refl _⟩ (fun i σ H' _ ⟨_, _, _, s5⟩ => sq (s5 _ _ hq4)) ?_ ?_
    · rintro i x σ H9 H' hi ⟨x4, x5, rfl, s5⟩ ⟨rfl, ex⟩
      rw [hml] at hi
      cases atl i hi x ex
      have er : ((hs.take (i + 1)).flatMap (Df.rowP F hs)).length = ((hs.take i).flatMap (Df.rowP F hs)).length + (Df.rowP F hs hs[i]).length := by
        rw [take_snoc hi, List.flatMap_append, List.length_append]
        simp
      have erp : (Df.rowP F hs hs[i]).length = (hs.filter fun b => decide (hs[i] ≠ b) && Df.needed F hs hs[i] b).length := List.length_map _
      generalize hs[i] = a at er erp
      refine ⟨_, rfl, q2, rfl, ⟨_, sq (s5 _ _ hq4)⟩, ?_⟩
      refine for_it (walk_list (K := K) (a := q2) (xs := hs.map V.str)) (fun j σ H' => ∃ x5, σ = [some (.ref n), some (.ref d), some (.ref q2), some (.int (M + ((hs.take i).flatMap (Df.rowP F hs)).length + ((hs.take j).filter fun b => decide (a ≠ b) && Df.needed F hs a b).length : Nat)), some (.str a), x5] ∧ Same H4 H') ⟨_, by rw [List.take_zero]; rfl, s5⟩ (fun i σ H' _ ⟨_, _, s6⟩ => sq (s6 _ _ hq4)) ?_ ?_
      · rintro j x σ H9 H' hj ⟨x5, rfl, s6⟩ ⟨rfl, ex⟩
        rw [hml] at hj
        cases atl j hj x ex
        have ef : ((hs.take (j + 1)).filter fun b => decide (a ≠ b) && Df.needed F hs a b).length = ((hs.take j).filter fun b => decide (a ≠ b) && Df.needed F hs a b).length + if (decide (a ≠ hs[j]) && Df.needed F hs a hs[j]) = true then 1 else 0 := by
          rw [take_snoc hj, List.filter_append, List.length_append, List.filter_cons]
          congr 1
          split <;> simp
        generalize hs[j] = b at ef
        have skip : (decide (a ≠ b) && Df.needed F hs a b) = false → ∀ HH, Same H4 HH → ∃ x5_1, [some (V.ref n), some (V.ref d), some (V.ref q2), some (V.int (M + ((hs.take i).flatMap (Df.rowP F hs)).length + ((hs.take j).filter fun b => decide (a ≠ b) && Df.needed F hs a b).length : Nat)), some (V.str a), some (V.str b)] = [some (.ref n), some (.ref d), some (.ref q2), some (.int (M + ((hs.take i).flatMap (Df.rowP F hs)).length + ((hs.take (j + 1)).filter fun b => decide (a ≠ b) && Df.needed F hs a b).length : Nat)), some (.str a), x5_1] ∧ Same H4 HH := fun h HH sH => by
          rw [if_neg (by rw [h]; simp), Nat.add_zero] at ef
          rw [ef]
          exact ⟨_, rfl, sH⟩
        have hd6 := s6 _ _ (s04 _ _ hd)
        refine ⟨_, rfl, _, rfl, rfl, _, rfl, ?_⟩
        by_cases h1 : a = b
        · rw [show (!decide (V.str a = V.str b)) = false by rw [h1, decide_eq_true rfl]; rfl]
          exact iteF (iteF (skip (by rw [decide_eq_false (fun h => h h1)]; rfl) _ s6))
        rw [show (!decide (V.str a = V.str b)) = true by rw [decide_eq_false fun e => h1 (by injection e)]; rfl]
        refine iteT ⟨_, rfl, _, rfl, by show 2 ≤ sizeLine; decide, fun p1 np1 => ?_⟩
        have t1 := same_upd np1 (o := .tup [.str a, .str b])
        refine ⟨_, rfl, d, _, rfl, DGet.t (k := key2 a b) (t1 _ _ hd6) (by rw [key_tup]; exact upd_same), ?_⟩
        rw [ht]
        cases hF : F a b with
        | none =>
          refine ⟨_, rfl, iteF (iteF (skip ?_ _ (s6.trans t1)))⟩
          unfold Df.needed
          rw [hF]
          simp
        | some c =>
          refine ⟨_, rfl, iteT ⟨_, rfl, _, rfl, _, rfl, _, rfl, q2, d, kvs, F, hs, a, b, c, rfl, t1 _ _ (s6 _ _ hq4), t1 _ _ hd6, ht, hF, fun H7 s7 => ?_⟩⟩
          have s47 := s6.trans (t1.trans s7)
          refine ⟨_, rfl, ?_⟩
          cases hN : Df.needed F hs a b with
          | false => exact iteF (skip (by rw [hN]; simp) _ s47)
          | true =>
            refine iteT ⟨_, rfl, _, _, rfl, rfl, some (.str b), ?_, s47⟩
            rw [if_pos (by rw [hN, decide_eq_true h1]; rfl)] at ef
            rw [ef, ← Nat.add_assoc, Int.natCast_add _ 1]
            rfl
      · rintro σ H' ⟨x5, rfl, s6⟩
        rw [hml, List.take_length, ← erp, Nat.add_assoc, ← er]
        exact ⟨_, _, rfl, s6⟩
    · rintro σ H' ⟨x4, x5, rfl, s5⟩
      rw [hml, List.take_length, ← Df.pairsP_eq]
      exact ⟨_, rfl, hk H' (s04.trans s5)⟩
end
end K1

namespace K1
open PySem PySem.Spec PyProof.Rows L2 Ls
/-! ### the law's look at the fewest differences -/
def spRight5 : Sp := fun vs H Q _ => ∃ (a : Addr) (S : List Df3) (L : Int), vs = [.ref a] ∧ SysAt H a S ∧ GoodS S ∧ OkN S ∧ S.length ≤ 100 ∧ Df.Fit (("0" : Str) :: namesOf S) S L ∧ (("0" : Str) :: namesOf S).length ≤ 5 ∧ L ≤ 5000000000000000 ∧ ∀ H', Same H H' → Q (.bl true) H'
theorem notin_names {K : PySem.W.Frag} {H : Hp} {x : Str} {l : List Str} {p : Addr} (h : H p = some (.lst (l.map V.str))) (hx : x ∈ l) {Q : VK} (q : Q (.bl false) H) : rIn K true (.str x) (.ref p) H Q := by
  refine ⟨p, _, rfl, .inl (sq h), rfl, flat_str _, ?_⟩
  rw [inV_str, decide_eq_true hx]
  exact q
section
variable {P : Program} {w : World} {K : PySem.W.Frag} {mg : Str → Option Value} {base : Heap} {f C CN : Addr} {fd : FuncData} {k : Nat}
theorem sc_u_law_right : FnScope ["system", "names", "table", "found", "row", "at"] ["system"] (defScope s_u_law_right) := ⟨rfl, rfl, rfl, by decide +kernel, rfl, by decide +kernel, by decide +kernel⟩
theorem ok_right5 (F : FnP K "_law_right" s_u_law_right [] f fd) (G : Facts mg) (NX : ExcF K mg "NoSolution" CN) (C_u_law_names_of : Cal P w K mg base 1 "_law_names_of" spLawNames []) (C_u_law_table : Cal P w K mg base 1 "_law_table" spLTable []) (C_fewest : CalXN P w K mg base 6 "fewest" (spFewest CN) [])
    (H_ring : CalH P w K mg base 3 "ring" spRing []) (C_u_law_due : Cal P w K mg base 2 "_law_due" spDue []) (C_implied : Cal P w K mg base 6 "implied" spImplied []) : FnOk P w K mg base CX0 7 f fd ["system"] spRight5 := by
  refine F.ok sc_u_law_right (fun vs H Q E h => ?_) (fun cdv A outer s H vs Q E hr h => ?_)
  · obtain ⟨a, S, L, rfl, _⟩ := h
    rfl
  · obtain ⟨a, S, L, rfl, hS, hgood, hok, hlen, fit, h5, hL, hk⟩ := h
    have hu := hu_of hr
    refine ⟨_, PSs.nox (pss_cons (ps_set (i := 1) sc_u_law_right.nd rfl (.inl rfl) (pe_c C_u_law_names_of hr (by decide) (by rfl) (pa_cons (pv 0) pa_nil)))
      (pss_cons (ps_set (i := 2) sc_u_law_right.nd rfl (.inl rfl) (pe_c C_u_law_table hr (by decide) (by rfl) (pa_cons (pv 1) (pa_cons (pv 0) pa_nil))))
      (pss_cons (ps_if (pt_cmpR op_isN (pv 2) pe_non (nomark _)) (pss_one (L2N.ps_try_many rfl rfl takes0N (fun W pn xe tk _ => (pss_cons (ps_expr (pe_cxNS C_fewest tk hr (by decide) (by rfl) (pa_cons (pv 0) pa_nil)))
          (pss_one (ps_ret pe_bl)))) (L2N.HdsOk.cons ⟨rfl, by decide, .inl NX.gP⟩ (fun a oe cls d pn hz hd => (pss_one (ps_ret (pe_cmpR op_notN (pe_ch H_ring (roomS hr) (hotZ hz hd) (by decide) (by rfl) (pa_cons (pv 0) pa_nil)) pe_non (nomark _))))) .nil))) pss_nil)
      (pss_cons (ps_set (i := 3) sc_u_law_right.nd rfl (.inr rfl) (pe_cxN C_fewest takes0N (fun _ _ _ _ h => h) hr (by decide) (by rfl) (pa_cons (pv 0) pa_nil)))
      (pss_cons (ps_if (PW.pt (pw_or (pt_not (pt_val (pe_callB (kIsi K) (by rfl) G.isinstance_ (by decide +kernel) (pa_cons (pv 3) (pa_cons (pe_ty "list" (by rfl) G.list_ (by decide +kernel)) pa_nil))))) (pw_or1 (pt_cmpR op_ne (pe_callB (kLen K) (by rfl) G.len_ PySem.boot_len (pa_cons (pv 3) pa_nil)) (pe_c C_u_law_due hr (by decide) (by rfl) (pa_cons (pv 1) (pa_cons (pv 2) pa_nil))) (nomark _))))) (pss_one (ps_ret pe_bl)) pss_nil)
      (pss_cons (ps_for PassesOwn.never rfl (kpi_list K (pv 3)) (pg_name (i := 4) sc_u_law_right.nd rfl (by first | exact .inl rfl | exact .inr rfl))
        (pss_cons (ps_if (PW.pt (pw_or (pt_not (pt_val (pe_callB (kIsi K) (by rfl) G.isinstance_ (by decide +kernel) (pa_cons (pv 4) (pa_cons (pe_ty "tuple" (by rfl) G.tuple_ (by decide +kernel)) pa_nil))))) (pw_or (pt_cmpR op_ne (pe_callB (kLen K) (by rfl) G.len_ PySem.boot_len (pa_cons (pv 4) pa_nil)) pe_int (nomark _)) (pw_or (pt_cmpR (kNotIn K) (pe_ix (kIxT K) (pv 4) pe_int (fun _ _ => rfl)) (pe_op op_cat (pv 1) (pe_lst (pa_cons pe_str pa_nil))) (by rfl)) (pw_or1 (pt_cmpR (kNotIn K) (pe_ix (kIxT K) (pv 4) pe_int (fun _ _ => rfl)) (pe_op op_cat (pv 1) (pe_lst (pa_cons pe_str pa_nil))) (by rfl))))))) (pss_one (ps_ret pe_bl)) pss_nil)
        (pss_one (ps_if (pt_not (pt_val (pe_c C_implied hr (by decide) (by rfl) (pa_cons (pv 0) (pa_cons (pv 4) pa_nil))))) (pss_one (ps_ret pe_bl)) pss_nil))))
      (pss_cons (ps_for PassesOwn.never rfl (pi_range1 (by rfl) G.range_ (pa_cons (pe_callB (kLen K) (by rfl) G.len_ PySem.boot_len (pa_cons (pv 3) pa_nil)) pa_nil)) (pg_name (i := 5) sc_u_law_right.nd rfl (by first | exact .inl rfl | exact .inr rfl))
        (pss_one (ps_if (pt_val (pe_c C_implied hr (by decide) (by rfl) (pa_cons (pe_op op_cat (pe_slice (kSlL K) (pv 3) po_none (po_some (pv 5))) (pe_slice (kSlL K) (pv 3) (po_some (pe_op op_add (pv 5) pe_int)) po_none)) (pa_cons (pe_ix (kIxL K) (pv 3) (pv 5) (fun _ _ => rfl)) pa_nil)))) (pss_one (ps_ret pe_bl)) pss_nil)))
      (pss_one (ps_ret (pe_callB (kAll K rfl) (by rfl) G.all_ (by decide +kernel) (pa_cons (pe_lc (own := [("row", 4)]) (g := gName 4) (tt := tYes) rfl sc_u_law_right.nd  (kpi_list K (pv 0)) (blkOk_by (by kernel_rfl)) (fun _ _ _ _ _ => (pg_name (i := 4) sc_u_law_right.nd rfl (by first | exact .inl rfl | exact .inr rfl))) (fun _ _ _ _ _ => pts_nil) (fun _ _ _ _ _ => (pe_c C_implied hr (by decide) (by rfl) (pa_cons (pv 3) (pa_cons (pv 4) pa_nil))))) pa_nil))))))))))), ?_⟩
    -- names, table
    refine ⟨_, rfl, a, S, rfl, hS, by omega, fun H1 n s1 nn hn => ?_⟩
    have hS1 := hS.mono s1
    have hnd := nd_namesOf S
    have hne : ("" : Str) ∉ ("0" : Str) :: namesOf S := fun z => (List.mem_cons.mp z).elim (fun z => absurd z (by decide +kernel)) hgood.names
    have hokn : ∀ x ∈ ("0" : Str) :: namesOf S, PySem.PyData.strOk x = true := fun x hx => by
      rcases List.mem_cons.mp hx with z | z
      · subst z; decide +kernel
      · exact okNames hok x z
    have hin := sys_in S
    have hnl : (namesOf S).length ≤ 900 := by rw [List.length_cons] at h5; omega
    refine ⟨_, rfl, _, rfl, n, a, namesOf S, S, rfl, hn, hS1, by omega, hin, by omega, fun FF fw => ?_⟩
    generalize hns : ("0" : Str) :: namesOf S = ns at *
    have nsz : (ns.length : Int) * L ≤ 10 ^ 28 := by
      have h1 := Int.mul_le_mul_of_nonneg_right (show (ns.length : Int) ≤ 5 by omega) fit.nn
      omega
    refine ⟨fun u hu d hd hlt H2 s2 => ?_, fun hz H2 q kvs s2 hq ht => ?_⟩
    · -- no solution
      have hno : ∀ p, ¬ Df.Solves S p := fw.neg hd hlt
      have hR : Df.addedR Df.blankR S = none := by
        cases e : Df.addedR Df.blankR S with
        | none => rfl
        | some R =>
          obtain ⟨p, hp⟩ := fit.solvable hns.symm hnd e
          exact absurd hp (hno p)
      refine ⟨_, rfl, rfl, _, rfl, iteT ?_⟩
      refine ⟨_, rfl, a, S, L, rfl, hS1.mono s2, hgood, by omega, hns ▸ fit, hns ▸ h5, fun _ H3 s3 => ?_, fun R e => by rw [hR] at e; cases e⟩
      refine ⟨true, NX.eP, fun _ _ _ => ?_, fun q => nomatch q⟩
      have s13 := s1.trans (s2.trans s3)
      refine ⟨_, rfl, a, S, rfl, (hS.mono s13).q, hgood, by omega, fun ⟨p, hp⟩ => absurd hp (hno p), fun fs hf H4 b s4 hb => ⟨rfl, ?_⟩⟩
      have := hk H4 (s13.trans s4)
      rw [show (!decide (V.ref b = V.non)) = true by rw [decide_eq_false (show ¬ V.ref b = V.non from fun z => by cases z)]; rfl]
      exact this
    · have cl := fw.cl hz
      have hsol := cl.solves fw.cmp hin
      obtain ⟨R, hR⟩ : ∃ R, Df.addedR Df.blankR S = some R := by
        cases e : Df.addedR Df.blankR S with
        | none => exact absurd hsol (fit.none e _)
        | some R => exact ⟨R, rfl⟩
      have eF := fw.eq hz fit hR hsol nsz
      have fo := fit.fewOk hR hsol hnd h5 hL
      rw [eF] at fo
      refine ⟨_, rfl, rfl, _, rfl, ?_⟩
      rw [decide_eq_false (show ¬ V.ref q = V.non from fun z => by cases z)]
      refine iteF ?_
      -- found = fewest(system)
      refine ⟨_, rfl, a, S, L, rfl, hS1.mono s2, hgood, by omega, hns ▸ fit, hns ▸ h5, fun e => (by rw [hR] at e; cases e), fun R' e' H3 b s3 hb => ?_⟩
      rw [hR] at e'
      cases e'
      rw [hns, eF] at hb
      have s13 := s1.trans (s2.trans s3)
      have hrows := fo.rows
      have hfl := fo.len
      obtain ⟨part, clF, efl, _, hone, hnon, hall, _⟩ := fo
      have hcount := part.few_len clF hnd
      rw [← efl] at hcount
      have hhds : Df.hds (Df.classes FF ns) = ns.foldl (Df.addH FF) [] := Df.map_classes FF ns
      rw [hhds] at hcount
      generalize hfg : Df.few FF (Df.classes FF ns) = fl at *
      obtain ⟨vb, hbq, hvb⟩ := hb
      have hgf : ∀ e ∈ fl, GoodS [e] := fun e he d hd => by
        rw [List.mem_singleton.mp hd]
        obtain ⟨k1, k2, k3, k4, k5⟩ := hrows e he
        exact ⟨fun z => hne (z ▸ k1), fun z => hne (z ▸ k2), k3, by omega, by omega⟩
      have hgfl : ∀ T : List Df3, (∀ e ∈ T, e ∈ fl) → GoodS T := fun T hT e he => hgf e (hT e he) e (by simp)
      have hvl : vb.length = fl.length := plen hvb
      -- not isinstance(found, list) or len(found) != _law_due(names, table)
      refine ⟨_, rfl, _, _, _, _, true, rfl, .ty "list", .base (.lst hbq), kit_ty (by decide +kernel), _, rfl, iteF ?_⟩
      refine ⟨_, rfl, b, _, rfl, .inl (sq hbq), _, rfl, _, rfl, n, q, kvs, FF, namesOf S, rfl, s3 _ _ (s2 _ _ hn), s3 _ _ hq, ht, hnl, hns ▸ hokn, fun H4 s4 => ?_⟩
      rw [hns, ← hcount, hvl]
      refine ⟨rfl, _, rfl, ?_⟩
      rw [show (!decide (V.int (fl.length : Int) = V.int (fl.length : Int))) = false by rw [decide_eq_true rfl]; rfl]
      refine iteF ?_
      have s14 := s13.trans s4
      have hb4 := s4 _ _ hbq
      have hv4 : Paired (RowT H4) vb fl := pmono (fun _ _ q => q.imp fun _ q => ⟨q.1, s4 _ _ q.2⟩) hvb
      have hn4 := s4 _ _ (s3 _ _ (s2 _ _ hn))
      have hS4 := hS.mono s14
      clear s1 s2 s3 s4 hbq hvb hn hq hS hS1 s13
      -- for row in found
      refine ⟨_, rfl, b, rfl, ⟨_, sq hb4⟩, ?_⟩
      refine for_it (walk_list (K := K) (a := b) (xs := vb)) (fun i σ H' => ∃ x4, σ = [some (.ref a), some (.ref n), some (.ref q), some (.ref b), x4, none] ∧ Same H4 H') ⟨_, rfl, Same.refl _⟩ (fun i σ H' _ ⟨_, _, s5⟩ => sq (s5 _ _ hb4)) ?_ ?_
      · rintro i x σ H9 H' hi ⟨x4, rfl, s5⟩ ⟨rfl, ex⟩
        rw [hvl] at hi
        obtain ⟨v, hv, r, rfl, hrow⟩ := pget hv4 (List.getElem?_eq_getElem hi)
        rw [hv] at ex
        cases ex
        have hmem := List.getElem_mem hi
        obtain ⟨k1, k2, _⟩ := hrows _ hmem
        have im := hone _ hmem
        have hg1 := hgf _ hmem
        generalize fl[i] = e at hrow k1 k2 im hg1
        have hrow5 := s5 _ _ hrow
        have inl : ∀ y, y ∈ ns → y ∈ namesOf S ++ [("0" : Str)] := fun y hy => by
          rw [← hns] at hy
          rcases List.mem_cons.mp hy with z | z
          · exact List.mem_append_right _ (List.mem_singleton.mpr z)
          · exact List.mem_append_left _ z
        refine ⟨_, rfl, _, _, _, _, true, rfl, .ty "tuple", .base (.tup hrow5), kit_ty (by decide +kernel), _, rfl, iteF ?_⟩
        refine ⟨_, rfl, r, rowT e, rfl, .inr (sqt hrow5), rfl, _, rfl, iteF ?_⟩
        refine ⟨_, rfl, r, _, _, .str e.1, rfl, rfl, sqt hrow5, rfl, _, rfl, by show 1 ≤ sizeLine; decide, fun p1 np1 => ?_⟩
        have t1 := same_upd np1 (o := .lst [.str "0"])
        refine ⟨n, p1, _, _, rfl, rfl, t1 _ _ (s5 _ _ hn4), upd_same, szl (by simp; omega), fun p2 np2 => ?_⟩
        have t2 := t1.trans (same_upd np2 (o := .lst ((namesOf S).map V.str ++ [.str "0"])))
        refine notin_names (l := namesOf S ++ [("0" : Str)]) (by rw [upd_same, List.map_append]; rfl) (inl _ k1) ⟨_, rfl, iteF ?_⟩
        refine ⟨_, rfl, r, _, _, .str e.2.1, rfl, rfl, sqt (t2 _ _ hrow5), rfl, _, rfl, by show 1 ≤ sizeLine; decide, fun p3 np3 => ?_⟩
        have t3 := t2.trans (same_upd np3 (o := .lst [.str "0"]))
        refine ⟨n, p3, _, _, rfl, rfl, t3 _ _ (s5 _ _ hn4), upd_same, szl (by simp; omega), fun p4 np4 => ?_⟩
        have t4 := t3.trans (same_upd np4 (o := .lst ((namesOf S).map V.str ++ [.str "0"])))
        refine notin_names (l := namesOf S ++ [("0" : Str)]) (by rw [upd_same, List.map_append]; rfl) (inl _ k2) ⟨_, rfl, iteF ?_⟩
        refine ⟨_, rfl, _, rfl, a, r, S, e, rfl, hS4.mono (s5.trans t4), t4 _ _ hrow5, hgood, hg1, by omega, fun H7 s7 => ?_⟩
        rw [im]
        exact ⟨_, rfl, iteF ⟨_, rfl, s5.trans (t4.trans s7)⟩⟩
      rintro σ H5 ⟨x4, rfl, s5⟩
      have hb5 := s5 _ _ hb4
      have hv5 : Paired (RowT H5) vb fl := pmono (fun _ _ q => q.imp fun _ q => ⟨q.1, s5 _ _ q.2⟩) hv4
      have hS5 := hS4.mono s5
      -- for at in range(len(found))
      refine ⟨_, rfl, b, _, rfl, .inl (sq hb5), (vb.length : Int), rfl, by omega, by omega, ?_⟩
      refine for_it (walk_range (lo := 0) (n := ((vb.length : Int)).toNat)) (fun i σ H' => ∃ x4 x5, σ = [some (.ref a), some (.ref n), some (.ref q), some (.ref b), x4, x5] ∧ Same H5 H') ⟨_, _, rfl, Same.refl _⟩ (fun _ _ _ _ _ => True.intro) ?_ ?_
      · rintro i x σ H9 H' hi ⟨x4, x5, rfl, s6⟩ ⟨rfl, rfl⟩
        have hil : i < fl.length := by omega
        have hnone := hnon i hil
        obtain ⟨v, hv, r, rfl, hrow⟩ := pget hv5 (List.getElem?_eq_getElem hil)
        have hg1 := hgf _ (List.getElem_mem hil)
        simp only [Int.zero_add]
        have hb6 := s6 _ _ hb5
        have hv6 : Paired (RowT H') vb fl := pmono (fun _ _ q => q.imp fun _ q => ⟨q.1, s6 _ _ q.2⟩) hv5
        refine ⟨_, rfl, _, rfl, (i : Int), rfl, b, _, rfl, sq hb6, fun p1 n1 => ?_⟩
        rw [cut_upto]
        have t1 := same_upd n1 (o := .lst (vb.take i))
        refine ⟨_, rfl, _, rfl, _, _, rfl, rfl, (i : Int) + 1, rfl, b, _, rfl, sq (t1 _ _ hb6), fun p2 n2 => ?_⟩
        rw [show ((i : Int) + 1) = ((i + 1 : Nat) : Int) by omega, cut_from]
        have t2 := same_upd n2 (o := .lst (vb.drop (i + 1)))
        refine ⟨p1, p2, _, _, rfl, rfl, t2 _ _ upd_same, upd_same, szl (by rw [List.length_take, List.length_drop]; omega), fun p3 n3 => ?_⟩
        have t3 := same_upd n3 (o := .lst (vb.take i ++ vb.drop (i + 1)))
        have sN := t1.trans (t2.trans t3)
        have hsub : SysAt (upd (upd (upd H' p1 (.lst (vb.take i))) p2 (.lst (vb.drop (i + 1)))) p3 (.lst (vb.take i ++ vb.drop (i + 1)))) p3 (fl.take i ++ fl.drop (i + 1)) :=
          ⟨_, upd_same, pmono (fun _ _ q => q.imp fun _ q => ⟨q.1, sN _ _ q.2⟩) (papp (ptake i hv6) (pdrop (i + 1) hv6))⟩
        refine ⟨_, rfl, _, rfl, b, _, _, .ref r, rfl, rfl, sq (sN _ _ hb6), atI_nat hv, ?_⟩
        refine ⟨p3, r, _, fl[i], rfl, hsub, sN _ _ (s6 _ _ hrow), hgfl _ (fun e he => (List.mem_append.mp he).elim List.mem_of_mem_take List.mem_of_mem_drop), hg1, by rw [List.length_append, List.length_take, List.length_drop]; omega, fun H7 s7 => ?_⟩
        rw [hnone]
        exact ⟨_, rfl, iteF ⟨_, _, rfl, s6.trans (sN.trans s7)⟩⟩
      rintro σ H6 ⟨x4, x5, rfl, s6⟩
      have hb6 := s6 _ _ hb5
      have hv6 : Paired (RowT H6) vb fl := pmono (fun _ _ q => q.imp fun _ q => ⟨q.1, s6 _ _ q.2⟩) hv5
      -- all([implied(found, row) for row in system])
      obtain ⟨vs, hva, hvs⟩ := hS5.mono s6
      refine ⟨_, rfl, a, rfl, ⟨_, sq hva⟩, fun D hD => ?_⟩
      refine lc_it (walk_list (K := K) (a := a) (xs := vs)) (fun i H' => Same H6 H' ∧ H' D = some (.lst ((List.replicate i true).map V.bl))) ⟨same_upd hD, upd_same⟩ (fun i H' _ ⟨s7, _⟩ => sq (s7 _ _ hva)) ?_ ?_
      · rintro i y H9 H' hi ⟨s7, hd⟩ ⟨rfl, ey⟩
        rw [plen hvs] at hi
        obtain ⟨v, hv, r, rfl, hrow⟩ := pget hvs (List.getElem?_eq_getElem hi)
        rw [hv] at ey
        cases ey
        have hmem := List.getElem_mem hi
        refine ⟨rfl, _, rfl, _, rfl, b, r, fl, S[i], rfl, ⟨vb, s7 _ _ hb6, pmono (fun _ _ q => q.imp fun _ q => ⟨q.1, s7 _ _ q.2⟩) hv6⟩, s7 _ _ hrow, hgfl _ (fun _ h => h), fun e he => by rw [List.mem_singleton.mp he]; exact hgood _ hmem, by omega, fun H8 s8 => ?_⟩
        rw [hall _ hmem]
        refine ⟨_, s8 _ _ hd, ?_, same_mut (s7.trans s8) hD, ?_⟩
        · rw [List.length_map, List.length_replicate]
          exact szlt (by omega)
        · rw [upd_same, List.replicate_succ', List.map_append]
          rfl
      rintro H7 ⟨s7, hd⟩
      refine ⟨D, _, rfl, sq hd, ?_⟩
      rw [show (List.replicate vs.length true).all id = true by rw [List.all_eq_true]; intro y hy; exact (List.mem_replicate.mp hy).2]
      exact hk H7 (s14.trans (s5.trans (s6.trans s7)))
end
end K1

namespace K1
open PySem PySem.Spec PyProof.Rows L2 Ls
/-! ### the law -/
theorem pow_up5 {b : Int} (hb : 1 ≤ b) {k m : Nat} (h : k ≤ m) : b ^ k ≤ b ^ m := by
  obtain ⟨d, rfl⟩ := Nat.le.dest h
  rw [Int.pow_add]
  have h1 : (1 : Int) ≤ b ^ d := by have := Int.pow_pos (n := b) (m := d) (by omega); omega
  have h2 : 0 ≤ b ^ k := by have := Int.pow_pos (n := b) (m := k) (by omega); omega
  have h3 := Int.mul_le_mul_of_nonneg_left h1 h2
  omega
def L5 : Int := 5000000000000000
theorem fit5 {ns : List Str} {D : List Df3} (h1 : ∀ e ∈ D, e.1 ∈ ns ∧ e.2.1 ∈ ns ∧ -L5 ≤ e.2.2 ∧ e.2.2 ≤ L5) (h2 : ns.length ≤ 5) (h3 : D.length ≤ 14) : Df.Fit ns D L5 := by
  refine ⟨by decide, h1, ?_⟩
  have p9 := pow_up5 (b := 9) (by decide) h2
  have p3 := pow_up5 (b := 3) (by decide) h3
  have q3 : (3 : Int) ^ D.length * L5 ≤ 3 ^ 14 * L5 := Int.mul_le_mul_of_nonneg_right p3 (by decide)
  have q0 : (0 : Int) ≤ 3 ^ 14 * L5 := by decide
  have q9 : (0 : Int) ≤ 9 ^ ns.length := by have := Df.pow9 ns.length; omega
  have r1 := Int.mul_le_mul_of_nonneg_left q3 q9
  have r2 := Int.mul_le_mul_of_nonneg_right p9 q0
  have r3 : (9 : Int) ^ 5 * (3 ^ 14 * L5) ≤ 10 ^ 28 := by decide
  omega
theorem names_sub5 {D : List Df3} {Z : List Str} (h : ∀ e ∈ D, e.1 ∈ ("0" : Str) :: Z ∧ e.2.1 ∈ ("0" : Str) :: Z) : (("0" : Str) :: namesOf D).length ≤ (("0" : Str) :: Z).length := by
  refine Df.nodup_le (nd_namesOf D) fun x hx => ?_
  rcases List.mem_cons.mp hx with rfl | hx
  · exact List.mem_cons_self
  · obtain ⟨e, he, h1, _⟩ := mem_namesOf.mp hx
    rcases h1 with rfl | rfl
    · exact (h e he).1
    · exact (h e he).2
structure Ends5 (Z : List Str) : Prop where
  ne : ("" : Str) ∉ Z
  ok : ∀ x ∈ Z, PySem.PyData.strOk x = true
  len : Z.length ≤ 4
section
variable {Z : List Str} {S : List Df3}
theorem DrawnS.good (z : Ends5 Z) (h : DrawnS Z S) : GoodS S := fun e he => by
  obtain ⟨h1, h2, h3⟩ := h.ends e he
  have ⟨h4, h5⟩ := h.lim e he
  have nz : ∀ x ∈ ("0" : Str) :: Z, x ≠ "" := fun x hx q => by
    subst q
    rcases List.mem_cons.mp hx with k | k
    · exact absurd k (by decide +kernel)
    · exact z.ne k
  exact ⟨nz _ h1, nz _ h2, h3, by omega, by omega⟩
theorem DrawnS.okn (z : Ends5 Z) (h : DrawnS Z S) : OkN S := fun e he => by
  obtain ⟨h1, h2, _⟩ := h.ends e he
  have nz : ∀ x ∈ ("0" : Str) :: Z, PySem.PyData.strOk x = true := fun x hx => by
    rcases List.mem_cons.mp hx with k | k
    · subst k; decide +kernel
    · exact z.ok x k
  exact ⟨nz _ h1, nz _ h2⟩
theorem DrawnS.nlen (z : Ends5 Z) (h : DrawnS Z S) : (("0" : Str) :: namesOf S).length ≤ 5 := Nat.le_trans (names_sub5 fun e he => ⟨(h.ends e he).1, (h.ends e he).2.1⟩) (by rw [List.length_cons]; have := z.len; omega)
theorem DrawnS.fit (z : Ends5 Z) (h : DrawnS Z S) (hl : S.length ≤ 14) : Df.Fit (("0" : Str) :: namesOf S) S L5 :=
  fit5 (fun e he => ⟨(sys_in S e he).1, (sys_in S e he).2, (h.lim e he).1, (h.lim e he).2⟩) (h.nlen z) hl
theorem DrawnS.app {T : List Df3} (h : DrawnS Z S) (k : DrawnS Z T) : DrawnS Z (S ++ T) :=
  ⟨fun e he => (List.mem_append.mp he).elim (h.ends e) (k.ends e), fun e he => (List.mem_append.mp he).elim (h.lim e) (k.lim e)⟩
end
section
variable {P : Program} {w : World} {K : PySem.W.Frag} {mg : Str → Option Value} {base : Heap} {f C : Addr} {fd : FuncData} {k : Nat}
theorem pools_strs : ∀ ks ∈ pools, ∀ x ∈ ks, PySem.PyData.strOk x = true := by decide +kernel
theorem cut_names (ks : List Str) (n : Int) (h : 0 ≤ n) : cutV (ks.map V.str) none (some n) = (ks.take n.toNat).map V.str := by
  have := cut_upto (ks.map V.str) n.toNat
  rw [show ((n.toNat : Nat) : Int) = n by omega, ← List.map_take] at this
  exact this
def spLaw (K : PySem.W.Frag) : Sp := fun vs H Q _ => ∃ (a : Addr) (ns : List Int), vs = [.ref a] ∧ Scr K H a ns ∧ ∀ H', Q (.bl true) H'
theorem sc_law : FnScope ["script", "turn", "names", "system", "step", "spot", "one", "other", "shift", "kept"] ["script"] (defScope s_law) := ⟨rfl, rfl, rfl, by decide +kernel, rfl, by decide +kernel, by decide +kernel⟩
theorem ok_law (F : FnP K "law" s_law [] f fd) (G : Facts mg) (C_u_law_draw : Cal P w K mg base 1 "_law_draw" (spDraw K) []) (C_u_law_pool : Cal P w K mg base 2 "_law_pool" (spPool K) []) (C_u_law_system : Cal P w K mg base 2 "_law_system" (spSystem K) [])
    (C_u_law_right : Cal P w K mg base 7 "_law_right" spRight5 []) : FnOk P w K mg base CX0 8 f fd ["script"] (spLaw K) := by
  refine F.ok sc_law (fun vs H Q E h => ?_) (fun cdv A outer s H vs Q E hr h => ?_)
  · obtain ⟨a, ns, rfl, _⟩ := h
    rfl
  · obtain ⟨a, ns, rfl, hS, hk⟩ := h
    have hu := hu_of hr
    refine ⟨_, PSs.nox (pss_cons (ps_for PassesOwn.never rfl (pi_range1 (by rfl) G.range_ (pa_cons pe_int pa_nil)) (pg_name (i := 1) sc_law.nd rfl (by first | exact .inl rfl | exact .inr rfl))
        (pss_cons (ps_set (i := 2) sc_law.nd rfl (.inl rfl) (pe_slice kSlT (pe_c C_u_law_pool hr (by decide) (by rfl) (pa_cons (pv 0) (pa_cons (pe_op op_mul pe_int (pv 1)) pa_nil))) po_none (po_some (pe_op op_add pe_int (pe_c C_u_law_draw hr (by decide) (by rfl) (pa_cons (pv 0) (pa_cons (pe_op op_add (pe_op op_mul pe_int (pv 1)) pe_int) (pa_cons pe_int pa_nil))))))))
        (pss_cons (ps_set (i := 3) sc_law.nd rfl (.inl rfl) (pe_c C_u_law_system hr (by decide) (by rfl) (pa_cons (pv 0) (pa_cons (pe_op op_add (pe_op op_mul pe_int (pv 1)) pe_int) (pa_cons (pv 2) (pa_cons pe_int pa_nil))))))
        (pss_cons (ps_for PassesOwn.never rfl (pi_range1 (by rfl) G.range_ (pa_cons (pe_c C_u_law_draw hr (by decide) (by rfl) (pa_cons (pv 0) (pa_cons (pe_op op_add (pe_op op_mul pe_int (pv 1)) pe_int) (pa_cons pe_int pa_nil)))) pa_nil)) (pg_name (i := 4) sc_law.nd rfl (by first | exact .inl rfl | exact .inr rfl))
          (pss_cons (ps_set (i := 5) sc_law.nd rfl (.inl rfl) (pe_op op_add (pe_op op_add (pe_op op_mul pe_int (pv 1)) pe_int) (pe_op op_mul pe_int (pv 4))))
          (pss_cons (ps_set (i := 6) sc_law.nd rfl (.inl rfl) (pe_ix (kIxT K) (pv 2) (pe_c C_u_law_draw hr (by decide) (by rfl) (pa_cons (pv 0) (pa_cons (pv 5) (pa_cons (pe_callB (kLen K) (by rfl) G.len_ PySem.boot_len (pa_cons (pv 2) pa_nil)) pa_nil)))) (fun _ _ => rfl)))
          (pss_cons (ps_set (i := 7) sc_law.nd rfl (.inl rfl) (pe_ix (kIxT K) (pe_op kCatT (pe_tup (pa_cons pe_str pa_nil)) (pv 2)) (pe_c C_u_law_draw hr (by decide) (by rfl) (pa_cons (pv 0) (pa_cons (pe_op op_add (pv 5) pe_int) (pa_cons (pe_op op_add (pe_callB (kLen K) (by rfl) G.len_ PySem.boot_len (pa_cons (pv 2) pa_nil)) pe_int) pa_nil)))) (fun _ _ => rfl)))
          (pss_cons (ps_set (i := 8) sc_law.nd rfl (.inl rfl) (pe_op op_sub (pe_c C_u_law_draw hr (by decide) (by rfl) (pa_cons (pv 0) (pa_cons (pe_op op_add (pv 5) pe_int) (pa_cons pe_int pa_nil)))) pe_int))
          (pss_one (ps_if (pt_cmpR op_ne (pv 6) (pv 7) (nomark _)) (pss_one (ps_set (i := 3) sc_law.nd rfl (.inl rfl) (pe_op op_cat (pv 3) (pe_lst (pa_cons (pe_tup (pa_cons (pv 6) (pa_cons (pv 7) (pa_cons (pv 8) pa_nil)))) (pa_cons (pe_tup (pa_cons (pv 7) (pa_cons (pv 6) (pa_cons (pe_op op_sub pe_int (pv 8)) pa_nil)))) pa_nil)))))) pss_nil)))))))
        (pss_cons (ps_set (i := 9) sc_law.nd rfl (.inl rfl) (pe_callTy (kList K) (by rfl) G.list_ (by decide +kernel) (pa_cons (pv 3) pa_nil)))
        (pss_one (ps_if (PW.pt (pw_or (pt_not (pt_val (pe_c C_u_law_right hr (by decide) (by rfl) (pa_cons (pv 3) pa_nil)))) (pw_or1 (pt_cmpR (kNeD K hr.units) (pv 3) (pv 9) (nomark _))))) (pss_one (ps_ret pe_bl)) pss_nil)))))))
      (pss_one (ps_ret pe_bl))), ?_⟩
    refine ⟨2, rfl, by decide, by decide, ?_⟩
    refine for_it (walk_range (lo := 0) (n := (2 : Int).toNat)) (fun i σ H' => ∃ x1 x2 x3 x4 x5 x6 x7 x8 x9, σ = [some (.ref a), x1, x2, x3, x4, x5, x6, x7, x8, x9] ∧ Same H H') ⟨_, _, _, _, _, _, _, _, _, rfl, Same.refl H⟩ (fun _ _ _ _ _ => True.intro) ?_ ?_
    · rintro i x σ H9 H1 hi ⟨x1, x2, x3, x4, x5, x6, x7, x8, x9, rfl, s1⟩ ⟨rfl, rfl⟩
      -- names
      refine ⟨_, rfl, _, rfl, _, _, rfl, rfl, .inl ⟨by decide, by decide⟩, a, ns, _, rfl, hS.mono s1, fun H2 t ks s2 hks ht => ?_⟩
      obtain ⟨hnd, hne, hkl⟩ := pools_ok ks hks
      refine ⟨_, rfl, _, rfl, _, _, rfl, rfl, .inl ⟨by decide, by decide⟩, _, _, rfl, rfl, a, ns, _, 3, rfl, hS.mono (s1.trans s2), by decide, fun H3 d3 s3 d30 d33 => ?_⟩
      refine ⟨_, _, rfl, rfl, _, rfl, t, _, rfl, s3 _ _ ht, fun H4 nm s4 nnm hnm => ?_⟩
      rw [cut_names ks (2 + d3) (by omega)] at hnm
      have hl2 : (ks.take (2 + d3).toNat).length = (2 + d3).toNat := by rw [List.length_take]; omega
      have hndn : (("0" : Str) :: ks.take (2 + d3).toNat).Nodup := hnd.sublist (List.Sublist.cons_cons _ ((List.take_sublist _ _).trans (List.sublist_append_left _ _)))
      have z : Ends5 (ks.take (2 + d3).toNat) := ⟨fun h => hne (List.mem_of_mem_take h), fun x hx => pools_strs ks hks x (List.mem_of_mem_take hx), by omega⟩
      generalize ks.take (2 + d3).toNat = names at hnm hl2 hndn z
      have sA := s1.trans (s2.trans (s3.trans s4))
      -- system
      refine ⟨_, rfl, _, rfl, _, _, rfl, rfl, .inl ⟨by decide, by decide⟩, _, _, rfl, rfl, _, rfl, a, nm, ns, _, 8, names, rfl, hS.mono sA, hnm, hndn, by omega, by omega, by decide, by decide, fun H5 b S s5 hb hdr hSl => ?_⟩
      have sB := sA.trans s5
      have hnm5 := s5 _ _ hnm
      have hnl : (names.map V.str).length = names.length := List.length_map _
      -- the turns that add a pair of rows
      refine ⟨_, rfl, _, rfl, _, _, rfl, rfl, .inl ⟨by decide, by decide⟩, _, _, rfl, rfl, a, ns, _, 4, rfl, hS.mono sB, by decide, fun H6 d4 s6 d40 d44 => ?_⟩
      refine ⟨d4, rfl, by omega, by omega, ?_⟩
      refine for_it (walk_range (lo := 0) (n := d4.toNat)) (fun j σ H' => ∃ b S x4 x5 x6 x7 x8, σ = [some (.ref a), some (.int (0 + (i : Int))), some (.ref nm), some (.ref b), x4, x5, x6, x7, x8, x9] ∧ Same H6 H' ∧ SysAt H' b S ∧ DrawnS names S ∧ S.length ≤ 8 + 2 * j)
        ⟨b, S, _, _, _, _, _, rfl, Same.refl H6, hb.mono s6, hdr, by omega⟩ (fun _ _ _ _ _ => True.intro) ?_ ?_
      · rintro j x σ H9 H7 hj ⟨b, S, x4, x5, x6, x7, x8, rfl, s7, hb, hdr, hSl⟩ ⟨rfl, rfl⟩
        have sC := sB.trans (s6.trans s7)
        have hnm7 := s7 _ _ (s6 _ _ hnm5)
        refine ⟨_, rfl, _, _, rfl, rfl, .inl ⟨by decide, by decide⟩, _, _, rfl, rfl, _, rfl, _, _, rfl, rfl, .inl ⟨by decide, by decide⟩, _, _, rfl, rfl, ?_⟩
        -- one
        refine ⟨_, rfl, _, rfl, _, rfl, _, rfl, nm, _, rfl, .inr (sqt hnm7), ?_⟩
        rw [hnl]
        refine ⟨a, ns, _, _, rfl, hS.mono sC, by omega, fun H8 one s8 o0 o1 => ?_⟩
        obtain ⟨m1, rfl, hm1⟩ := nth_of o0 o1
        have hnm8 := s8 _ _ hnm7
        refine ⟨nm, _, _, .str names[m1], rfl, rfl, sqt hnm8, atI_nat (by rw [List.getElem?_map, List.getElem?_eq_getElem hm1]; rfl), ?_⟩
        -- other
        refine ⟨by show 1 ≤ sizeLine; decide, fun p np => ?_⟩
        have t1 := same_upd np (o := .tup [.str "0"])
        refine ⟨_, rfl, p, nm, [.str "0"], names.map V.str, rfl, rfl, upd_same, t1 _ _ hnm8, szl (by simp; omega), fun H10 e s10 ne he => ?_⟩
        have he : H10 e = some (.tup ((("0" : Str) :: names).map V.str)) := he
        have hnm10 := s10 _ _ (t1 _ _ hnm8)
        have sD := s8.trans (t1.trans s10)
        refine ⟨_, rfl, _, rfl, _, _, rfl, rfl, _, rfl, nm, _, rfl, .inr (sqt hnm10), ?_⟩
        rw [hnl]
        refine ⟨_, _, rfl, rfl, a, ns, _, _, rfl, hS.mono (sC.trans sD), by omega, fun H11 two s11 w0 w1 => ?_⟩
        have hel : (("0" : Str) :: names).length = names.length + 1 := rfl
        obtain ⟨m2, rfl, hm2⟩ := nth_of (xs := ("0" : Str) :: names) w0 (by omega)
        refine ⟨e, _, _, .str (("0" : Str) :: names)[m2], rfl, rfl, sqt (s11 _ _ he), atI_nat (by rw [List.getElem?_map, List.getElem?_eq_getElem hm2]; rfl), ?_⟩
        -- shift
        refine ⟨_, rfl, _, rfl, _, _, rfl, rfl, a, ns, _, 5, rfl, hS.mono (sC.trans (sD.trans s11)), by decide, fun H12 sh s12 h0 h5 => ?_⟩
        refine ⟨_, _, rfl, rfl, ?_⟩
        have sE := sD.trans (s11.trans s12)
        have hb12 := hb.mono sE
        have hmem1 : names[m1] ∈ ("0" : Str) :: names := List.mem_cons_of_mem _ (List.getElem_mem hm1)
        have hmem2 : (("0" : Str) :: names)[m2] ∈ ("0" : Str) :: names := List.getElem_mem hm2
        generalize names[m1] = one at hmem1 ⊢
        generalize (("0" : Str) :: names)[m2] = two at hmem2 ⊢
        refine ⟨_, rfl, _, rfl, rfl, _, rfl, ?_⟩
        by_cases h12 : one = two
        · rw [show (!decide (V.str one = V.str two)) = false by rw [h12, decide_eq_true rfl]; rfl]
          exact iteF ⟨b, S, _, _, _, _, _, rfl, s7.trans sE, hb12, hdr, by omega⟩
        rw [show (!decide (V.str one = V.str two)) = true by rw [decide_eq_false (show ¬ V.str one = V.str two from fun z => h12 (by injection z))]; rfl]
        refine iteT ?_
        obtain ⟨vs, hbv, hvs⟩ := hb12
        refine ⟨_, rfl, _, rfl, _, rfl, _, rfl, by show 3 ≤ sizeLine; decide, fun p1 n1 => ?_⟩
        have u1 := same_upd n1 (o := .tup (rowT (one, two, sh - 2)))
        refine ⟨_, rfl, _, rfl, _, rfl, _, _, rfl, rfl, by show 3 ≤ sizeLine; decide, fun p2 n2 => ?_⟩
        have u2 := same_upd n2 (o := .tup (rowT (two, one, 0 - (sh - 2))))
        refine ⟨by show 2 ≤ sizeLine; decide, fun p3 n3 => ?_⟩
        have u3 := same_upd n3 (o := .lst [.ref p1, .ref p2])
        have u13 := u1.trans (u2.trans u3)
        refine ⟨b, p3, _, _, rfl, rfl, u13 _ _ hbv, upd_same, szl (by rw [plen hvs]; simp; omega), fun p4 n4 => ?_⟩
        have u4 := same_upd n4 (o := .lst (vs ++ [.ref p1, .ref p2]))
        have u14 := u13.trans u4
        have g1 := u4 _ _ (u3 _ _ (u2 _ _ (upd_same (a := p1) (o := .tup (rowT (one, two, sh - 2))) (H := H12))))
        have g2 := u4 _ _ (u3 _ _ (upd_same (a := p2) (o := .tup (rowT (two, one, 0 - (sh - 2))))))
        refine ⟨p4, S ++ [(one, two, sh - 2), (two, one, 0 - (sh - 2))], _, _, _, _, _, rfl, s7.trans (sE.trans u14), ⟨_, upd_same, papp (pmono (fun _ _ q => q.imp fun _ q => ⟨q.1, u14 _ _ q.2⟩) hvs) (.cons ⟨p1, rfl, g1⟩ (.cons ⟨p2, rfl, g2⟩ .nil))⟩, hdr.app ⟨fun e he => ?_, fun e he => ?_⟩, by rw [List.length_append]; simp; omega⟩
        · rcases List.mem_cons.mp he with rfl | he
          · exact ⟨hmem1, hmem2, h12⟩
          · rw [List.mem_singleton.mp he]
            exact ⟨hmem2, hmem1, fun z => h12 z.symm⟩
        · rcases List.mem_cons.mp he with rfl | he
          · exact ⟨by show _ ≤ sh - 2; omega, by show sh - 2 ≤ _; omega⟩
          · rw [List.mem_singleton.mp he]
            exact ⟨by show _ ≤ 0 - (sh - 2); omega, by show 0 - (sh - 2) ≤ _; omega⟩
      rintro σ H7 ⟨b, S, x4, x5, x6, x7, x8, rfl, s7, hb, hdr, hSl⟩
      have hSl : S.length ≤ 14 := by omega
      have okS := hdr.okn z
      obtain ⟨vs, hbv, hvs⟩ := hb
      -- kept
      refine ⟨_, rfl, b, vs, rfl, .inl (sq hbv), fun l nl => ?_⟩
      have s8 := same_upd nl (o := .lst vs)
      refine ⟨_, rfl, b, S, L5, rfl, ⟨vs, s8 _ _ hbv, pmono (fun _ _ q => q.imp fun _ q => ⟨q.1, s8 _ _ q.2⟩) hvs⟩, hdr.good z, okS, by omega, hdr.fit z hSl, hdr.nlen z, by decide, fun H9 s9 => ?_⟩
      have hl9 := s9 _ _ (upd_same (H := H7) (a := l) (o := .lst vs))
      have s89 := s8.trans s9
      have hvs9 : Paired (RowT H9) vs S := pmono (fun _ _ q => q.imp fun _ q => ⟨q.1, s89 _ _ q.2⟩) hvs
      refine ⟨_, rfl, iteF ?_⟩
      refine ⟨_, rfl, _, rfl, _, _, .lst (sq (s89 _ _ hbv)) (dpSys hvs9), .lst (sq hl9) (dpSys hvs9), shaped_sys okS, shaped_sys okS, _, rfl, ?_⟩
      rw [eqv_sys okS]
      exact iteF ⟨_, _, _, _, _, _, _, _, _, rfl, sB.trans (s6.trans (s7.trans s89))⟩
    · rintro σ H' ⟨x1, x2, x3, x4, x5, x6, x7, x8, x9, rfl, s1⟩
      exact hk _
end
end K1

namespace K1
open PySem PySem.Spec PyProof.Rows L2 Ls
def d_Table___init__ : He.DefD := ⟨("Table", some "__init__"), "__init__", "Table.__init__", defArgs s_Table___init__, defBody s_Table___init__, defScope s_Table___init__, [.non], []⟩
def d_blank : He.DefD := ⟨("blank", none), "blank", "blank", defArgs s_blank, defBody s_blank, defScope s_blank, [], []⟩
def d_more : He.DefD := ⟨("more", none), "more", "more", defArgs s_more, defBody s_more, defScope s_more, [], []⟩
def d_added : He.DefD := ⟨("added", none), "added", "added", defArgs s_added, defBody s_added, defScope s_added, [], []⟩
def d_table_of : He.DefD := ⟨("table_of", none), "table_of", "table_of", defArgs s_table_of, defBody s_table_of, defScope s_table_of, [], []⟩
def d_is_limit : He.DefD := ⟨("is_limit", none), "is_limit", "is_limit", defArgs s_is_limit, defBody s_is_limit, defScope s_is_limit, [], []⟩
def d_u_is_end : He.DefD := ⟨("_is_end", none), "_is_end", "_is_end", defArgs s_u_is_end, defBody s_u_is_end, defScope s_u_is_end, [], []⟩
def d_names_of : He.DefD := ⟨("names_of", none), "names_of", "names_of", defArgs s_names_of, defBody s_names_of, defScope s_names_of, [], []⟩
def d_checked_system : He.DefD := ⟨("checked_system", none), "checked_system", "checked_system", defArgs s_checked_system, defBody s_checked_system, defScope s_checked_system, [.non], []⟩
def d_u_cycle : He.DefD := ⟨("_cycle", none), "_cycle", "_cycle", defArgs s_u_cycle, defBody s_u_cycle, defScope s_u_cycle, [], []⟩
def d_ring : He.DefD := ⟨("ring", none), "ring", "ring", defArgs s_ring, defBody s_ring, defScope s_ring, [], []⟩
def d_implied : He.DefD := ⟨("implied", none), "implied", "implied", defArgs s_implied, defBody s_implied, defScope s_implied, [], []⟩
def d_u_law_draw : He.DefD := ⟨("_law_draw", none), "_law_draw", "_law_draw", defArgs s_u_law_draw, defBody s_u_law_draw, defScope s_u_law_draw, [], []⟩
def d_u_law_pool : He.DefD := ⟨("_law_pool", none), "_law_pool", "_law_pool", defArgs s_u_law_pool, defBody s_u_law_pool, defScope s_u_law_pool, [], []⟩
def d_u_law_system : He.DefD := ⟨("_law_system", none), "_law_system", "_law_system", defArgs s_u_law_system, defBody s_u_law_system, defScope s_u_law_system, [], []⟩
def d_u_law_names_of : He.DefD := ⟨("_law_names_of", none), "_law_names_of", "_law_names_of", defArgs s_u_law_names_of, defBody s_u_law_names_of, defScope s_u_law_names_of, [], []⟩
def d_u_limit : He.DefD := ⟨("_limit", none), "_limit", "_limit", defArgs s_u_limit, defBody s_u_limit, defScope s_u_limit, [], []⟩
def d_u_needed : He.DefD := ⟨("_needed", none), "_needed", "_needed", defArgs s_u_needed, defBody s_u_needed, defScope s_u_needed, [], []⟩
def d_classes_of : He.DefD := ⟨("classes_of", none), "classes_of", "classes_of", defArgs s_classes_of, defBody s_classes_of, defScope s_classes_of, [], []⟩
def d_u_ring_of : He.DefD := ⟨("_ring_of", none), "_ring_of", "_ring_of", defArgs s_u_ring_of, defBody s_u_ring_of, defScope s_u_ring_of, [], []⟩
def d_fewest : He.DefD := ⟨("fewest", none), "fewest", "fewest", defArgs s_fewest, defBody s_fewest, defScope s_fewest, [], []⟩
def d_u_law_table : He.DefD := ⟨("_law_table", none), "_law_table", "_law_table", defArgs s_u_law_table, defBody s_u_law_table, defScope s_u_law_table, [], []⟩
def d_u_law_needed : He.DefD := ⟨("_law_needed", none), "_law_needed", "_law_needed", defArgs s_u_law_needed, defBody s_u_law_needed, defScope s_u_law_needed, [], []⟩
def d_u_law_heads : He.DefD := ⟨("_law_heads", none), "_law_heads", "_law_heads", defArgs s_u_law_heads, defBody s_u_law_heads, defScope s_u_law_heads, [], []⟩
def d_u_law_due : He.DefD := ⟨("_law_due", none), "_law_due", "_law_due", defArgs s_u_law_due, defBody s_u_law_due, defScope s_u_law_due, [], []⟩
def d_u_law_right : He.DefD := ⟨("_law_right", none), "_law_right", "_law_right", defArgs s_u_law_right, defBody s_u_law_right, defScope s_u_law_right, [], []⟩
def d_law : He.DefD := ⟨("law", none), "law", "law", defArgs s_law, defBody s_law, defScope s_law, [], []⟩
def fn : List He.DefD := [d_Table___init__, d_blank, d_more, d_added, d_table_of, d_is_limit, d_u_is_end, d_names_of, d_checked_system, d_u_cycle, d_ring, d_implied, d_u_law_draw, d_u_law_pool, d_u_law_system, d_u_law_names_of, d_u_limit, d_u_needed, d_classes_of, d_u_ring_of, d_fewest, d_u_law_table, d_u_law_needed, d_u_law_heads, d_u_law_due, d_u_law_right, d_law]
def fa : List He.Fa := [.glo "blank", .glo "more", .glo "added", .glo "table_of", .glo "is_limit", .glo "_is_end", .glo "names_of", .glo "checked_system", .glo "_cycle", .glo "ring", .glo "implied", .glo "_law_draw", .glo "_law_pool", .glo "_law_system", .glo "_law_names_of", .glo "_limit", .glo "_needed", .glo "classes_of", .glo "_ring_of", .glo "fewest", .glo "_law_table", .glo "_law_needed", .glo "_law_heads", .glo "_law_due", .glo "_law_right", .glo "law", .free "len", .free "range", .free "zip", .free "enumerate", .free "isinstance", .free "tuple", .free "list", .free "int", .free "bool", .free "str", .free "all", .int "FAR" 1000000000000000000000000000000, .int "HALF" 100000000000000000000000000000, .int "MOST" 1000000000000000000, .glo "Table", .cls "Table", .noat "Table" "names", .noat "Table" "rows", .noat "Table" "spots", .mkr "Table", .glo "NoSolution", .exc "NoSolution", .exm "NoSolution" "NoSolution" true]
abbrev R : PySem.W.OpenRow := PySem.W.OpenLaw.row PySem.Challenge.rw_loopsheds_k05_fewest
def names : List Str := (["FAR", "HALF", "Table", "blank", "more", "added", "table_of", "LoopshedsError", "BadDifference", "NoSolution", "MOST", "is_limit", "_is_end", "checked_system", "names_of", "_cycle"] : List Str) ++ (["ring", "implied", "classes_of", "_limit", "_ring_of", "_needed", "fewest", "_law_draw", "_law_names_of", "_law_pool", "_law_system", "_law_table", "_law_heads", "_law_needed", "_law_due", "_law_right"] : List Str)
abbrev hk : PySem.W.Hook := He.hookD 4 fa fn
def ob (s : PySem.W.SharedT) : He.AlD := He.obsDG 4 fa fn (HandSHeadRun.getT s)
theorem ob_eq (s : PySem.W.SharedT) : ob s = hk.obs s.abs := He.obsDG_eq (HandSHeadRun.getT_eq s)
theorem run (w : World) : HandSHeadRun.RunEq R (PySem.W.view R.prog [37]) hk ob 4000 names w := by
  intro os
  kernel_rfl
theorem facts {P : Program} {w : World} {K : PySem.W.Frag} {h : Heap} {mg : Str → Option Value} {f : Addr} (X : K.In h) (N : h.Ns mainGlobals mg) (hfa : mg ("law" : Str) = some (.ref f)) (c : He.SaysD fa fn K) :
    ∃ fd : FuncData, (∀ (s : Shared) (v : Value), BindsTo s fd ⟨[v], []⟩ [("script", v)]) ∧ ∀ base : Heap, K.In base → base.Ns mainGlobals mg → FnOk P w K mg base CX0 8 f fd ["script"] (spLaw K) := by
  obtain ⟨fd_Table___init__, F_Table___init__⟩ := c.def_ 0 (d := d_Table___init__) rfl
  obtain ⟨fd_blank, F_blank⟩ := c.def_ 1 (d := d_blank) rfl
  obtain ⟨fd_more, F_more⟩ := c.def_ 2 (d := d_more) rfl
  obtain ⟨fd_added, F_added⟩ := c.def_ 3 (d := d_added) rfl
  obtain ⟨fd_table_of, F_table_of⟩ := c.def_ 4 (d := d_table_of) rfl
  obtain ⟨fd_is_limit, F_is_limit⟩ := c.def_ 5 (d := d_is_limit) rfl
  obtain ⟨fd_u_is_end, F_u_is_end⟩ := c.def_ 6 (d := d_u_is_end) rfl
  obtain ⟨fd_names_of, F_names_of⟩ := c.def_ 7 (d := d_names_of) rfl
  obtain ⟨fd_checked_system, F_checked_system⟩ := c.def_ 8 (d := d_checked_system) rfl
  obtain ⟨fd_u_cycle, F_u_cycle⟩ := c.def_ 9 (d := d_u_cycle) rfl
  obtain ⟨fd_ring, F_ring⟩ := c.def_ 10 (d := d_ring) rfl
  obtain ⟨fd_implied, F_implied⟩ := c.def_ 11 (d := d_implied) rfl
  obtain ⟨fd_u_law_draw, F_u_law_draw⟩ := c.def_ 12 (d := d_u_law_draw) rfl
  obtain ⟨fd_u_law_pool, F_u_law_pool⟩ := c.def_ 13 (d := d_u_law_pool) rfl
  obtain ⟨fd_u_law_system, F_u_law_system⟩ := c.def_ 14 (d := d_u_law_system) rfl
  obtain ⟨fd_u_law_names_of, F_u_law_names_of⟩ := c.def_ 15 (d := d_u_law_names_of) rfl
  obtain ⟨fd_u_limit, F_u_limit⟩ := c.def_ 16 (d := d_u_limit) rfl
  obtain ⟨fd_u_needed, F_u_needed⟩ := c.def_ 17 (d := d_u_needed) rfl
  obtain ⟨fd_classes_of, F_classes_of⟩ := c.def_ 18 (d := d_classes_of) rfl
  obtain ⟨fd_u_ring_of, F_u_ring_of⟩ := c.def_ 19 (d := d_u_ring_of) rfl
  obtain ⟨fd_fewest, F_fewest⟩ := c.def_ 20 (d := d_fewest) rfl
  obtain ⟨fd_u_law_table, F_u_law_table⟩ := c.def_ 21 (d := d_u_law_table) rfl
  obtain ⟨fd_u_law_needed, F_u_law_needed⟩ := c.def_ 22 (d := d_u_law_needed) rfl
  obtain ⟨fd_u_law_heads, F_u_law_heads⟩ := c.def_ 23 (d := d_u_law_heads) rfl
  obtain ⟨fd_u_law_due, F_u_law_due⟩ := c.def_ 24 (d := d_u_law_due) rfl
  obtain ⟨fd_u_law_right, F_u_law_right⟩ := c.def_ 25 (d := d_u_law_right) rfl
  obtain ⟨fd_law, F_law⟩ := c.def_ 26 (d := d_law) rfl
  have G : Facts mg := ⟨He.free_ok X N (c.fact 26 (f := .free "len") rfl), He.free_ok X N (c.fact 27 (f := .free "range") rfl), He.free_ok X N (c.fact 28 (f := .free "zip") rfl), He.free_ok X N (c.fact 29 (f := .free "enumerate") rfl), He.free_ok X N (c.fact 30 (f := .free "isinstance") rfl), He.free_ok X N (c.fact 31 (f := .free "tuple") rfl), He.free_ok X N (c.fact 32 (f := .free "list") rfl), He.free_ok X N (c.fact 33 (f := .free "int") rfl), He.free_ok X N (c.fact 34 (f := .free "bool") rfl), He.free_ok X N (c.fact 35 (f := .free "str") rfl), He.free_ok X N (c.fact 36 (f := .free "all") rfl), He.int_ok X N (c.fact 37 (f := .int "FAR" 1000000000000000000000000000000) rfl), He.int_ok X N (c.fact 38 (f := .int "HALF" 100000000000000000000000000000) rfl), He.int_ok X N (c.fact 39 (f := .int "MOST" 1000000000000000000) rfl)⟩
  have T : TCls K (He.ga K "Table") := ⟨He.cls_ok (c.fact 41 (f := .cls "Table") rfl), He.noat_ok (c.fact 42 (f := .noat "Table" "names") rfl), He.noat_ok (c.fact 43 (f := .noat "Table" "rows") rfl), He.noat_ok (c.fact 44 (f := .noat "Table" "spots") rfl)⟩
  have NX : ExcF K mg "NoSolution" (He.ga K "NoSolution") := ⟨He.glo_ok X N (c.fact 46 (f := .glo "NoSolution") rfl), (He.exc_ok (c.fact 47 (f := .exc "NoSolution") rfl)).1, (He.exc_ok (c.fact 47 (f := .exc "NoSolution") rfl)).2.1, (He.exc_ok (c.fact 47 (f := .exc "NoSolution") rfl)).2.2.1, (He.exc_ok (c.fact 47 (f := .exc "NoSolution") rfl)).2.2.2, He.exm_ok (c.fact 48 (f := .exm "NoSolution" "NoSolution" true) rfl)⟩
  have e := hfa.symm.trans (He.glo_ok X N (c.fact 25 (f := .glo "law") rfl))
  cases e
  have b := FunD.bindsA (ps := ["script"]) F_law fun _ _ _ _ _ _ us hl => match us, hl with | [_], _ => rfl
  refine ⟨fd_law, fun s v => b s [v] rfl, fun base _ _ => ?_⟩
  have O_Table___init__ : FnOk P w K mg base CX0 1 (He.fAd K ("Table", some "__init__")) fd_Table___init__ ["self", "names", "rows", "spots"] (spTable (He.ga K "Table")) := ok_init F_Table___init__ G T
  obtain ⟨ds_M_Table, v_M_Table, b_M_Table⟩ := FunD.binds1 (ps := ["self", "names", "rows", "spots"]) F_Table___init__ 3 0 (List.cons_ne_nil _ _) rfl fun _ _ _ _ _ _ _ us its h1 h2 => match us, h1, its, h2 with | [_, _, _], _, [_], _ => ⟨_, rfl, rfl⟩
  have M_Table : Mak P w K mg base 1 "Table" (He.ga K "Table") (spTable (He.ga K "Table")) [.non] := ⟨_, fd_Table___init__, ["self", "names", "rows", "spots"], ds_M_Table, He.mkr_ok (c.fact 45 (f := .mkr "Table") rfl), O_Table___init__, He.glo_ok X N (c.fact 40 (f := .glo "Table") rfl), b_M_Table, v_M_Table⟩
  obtain ⟨ds_M_Table_1, v_M_Table_1, b_M_Table_1⟩ := FunD.binds1 (ps := ["self", "names", "rows", "spots"]) F_Table___init__ 4 1 (List.cons_ne_nil _ _) rfl fun _ _ _ _ _ _ _ us its h1 h2 => match us, h1, its, h2 with | [_, _, _, _], _, [_], _ => ⟨_, rfl, rfl⟩
  have M_Table_1 : Mak P w K mg base 1 "Table" (He.ga K "Table") (spTable (He.ga K "Table")) [] := ⟨_, fd_Table___init__, ["self", "names", "rows", "spots"], ds_M_Table_1, He.mkr_ok (c.fact 45 (f := .mkr "Table") rfl), O_Table___init__, He.glo_ok X N (c.fact 40 (f := .glo "Table") rfl), b_M_Table_1, v_M_Table_1⟩
  have O_blank : FnOk P w K mg base CX0 3 (He.fAd K ("blank", none)) fd_blank ["names"] (spBlank (He.ga K "Table")) := ok_blank F_blank G M_Table
  have b_C_blank : Binds K fd_blank ["names"] [] := FunD.bindsN F_blank fun _ _ _ _ _ _ us hl => match us, hl with | [_], _ => rfl
  have C_blank : Cal P w K mg base 3 "blank" (spBlank (He.ga K "Table")) [] := ⟨_, fd_blank, ["names"], [], O_blank, He.glo_ok X N (c.fact 0 (f := .glo "blank") rfl), F_blank.kp, b_C_blank, .nil⟩
  have O_more : FnOk P w K mg base CX0 3 (He.fAd K ("more", none)) fd_more ["table", "left", "right", "limit"] (spMore (He.ga K "Table")) := ok_more F_more G T M_Table_1
  have b_C_more : Binds K fd_more ["table", "left", "right", "limit"] [] := FunD.bindsN F_more fun _ _ _ _ _ _ us hl => match us, hl with | [_, _, _, _], _ => rfl
  have C_more : Cal P w K mg base 3 "more" (spMore (He.ga K "Table")) [] := ⟨_, fd_more, ["table", "left", "right", "limit"], [], O_more, He.glo_ok X N (c.fact 1 (f := .glo "more") rfl), F_more.kp, b_C_more, .nil⟩
  have O_added : FnOk P w K mg base CX0 4 (He.fAd K ("added", none)) fd_added ["table", "system"] (spAdded (He.ga K "Table")) := ok_added F_added G C_more
  have b_C_added : Binds K fd_added ["table", "system"] [] := FunD.bindsN F_added fun _ _ _ _ _ _ us hl => match us, hl with | [_, _], _ => rfl
  have C_added : Cal P w K mg base 4 "added" (spAdded (He.ga K "Table")) [] := ⟨_, fd_added, ["table", "system"], [], O_added, He.glo_ok X N (c.fact 2 (f := .glo "added") rfl), F_added.kp, b_C_added, .nil⟩
  have O_table_of : FnOk P w K mg base CX0 5 (He.fAd K ("table_of", none)) fd_table_of ["names", "system"] (spTableOf (He.ga K "Table")) := ok_table_of F_table_of G C_added C_blank
  have b_C_table_of : Binds K fd_table_of ["names", "system"] [] := FunD.bindsN F_table_of fun _ _ _ _ _ _ us hl => match us, hl with | [_, _], _ => rfl
  have C_table_of : Cal P w K mg base 5 "table_of" (spTableOf (He.ga K "Table")) [] := ⟨_, fd_table_of, ["names", "system"], [], O_table_of, He.glo_ok X N (c.fact 3 (f := .glo "table_of") rfl), F_table_of.kp, b_C_table_of, .nil⟩
  have O_is_limit : FnOk P w K mg base CX0 1 (He.fAd K ("is_limit", none)) fd_is_limit ["thing"] (spIsLimit) := ok_is_limit F_is_limit G
  have b_C_is_limit : Binds K fd_is_limit ["thing"] [] := FunD.bindsN F_is_limit fun _ _ _ _ _ _ us hl => match us, hl with | [_], _ => rfl
  have C_is_limit : Cal P w K mg base 1 "is_limit" (spIsLimit) [] := ⟨_, fd_is_limit, ["thing"], [], O_is_limit, He.glo_ok X N (c.fact 4 (f := .glo "is_limit") rfl), F_is_limit.kp, b_C_is_limit, .nil⟩
  have O_u_is_end : FnOk P w K mg base CX0 1 (He.fAd K ("_is_end", none)) fd_u_is_end ["thing", "known"] (spIsEnd) := ok_is_end F_u_is_end G
  have b_C_u_is_end : Binds K fd_u_is_end ["thing", "known"] [] := FunD.bindsN F_u_is_end fun _ _ _ _ _ _ us hl => match us, hl with | [_, _], _ => rfl
  have C_u_is_end : Cal P w K mg base 1 "_is_end" (spIsEnd) [] := ⟨_, fd_u_is_end, ["thing", "known"], [], O_u_is_end, He.glo_ok X N (c.fact 5 (f := .glo "_is_end") rfl), F_u_is_end.kp, b_C_u_is_end, .nil⟩
  have O_names_of : FnOk P w K mg base CX0 1 (He.fAd K ("names_of", none)) fd_names_of ["system"] (spNamesOf) := ok_names_of F_names_of G
  have b_C_names_of : Binds K fd_names_of ["system"] [] := FunD.bindsN F_names_of fun _ _ _ _ _ _ us hl => match us, hl with | [_], _ => rfl
  have C_names_of : Cal P w K mg base 1 "names_of" (spNamesOf) [] := ⟨_, fd_names_of, ["system"], [], O_names_of, He.glo_ok X N (c.fact 6 (f := .glo "names_of") rfl), F_names_of.kp, b_C_names_of, .nil⟩
  have O_checked_system : FnOk P w K mg base CX0 2 (He.fAd K ("checked_system", none)) fd_checked_system ["system", "names"] (spChecked) := ok_checked F_checked_system G C_is_limit C_u_is_end
  obtain ⟨ds_C_checked_system, v_C_checked_system, b_C_checked_system⟩ := FunD.binds1 (ps := ["system", "names"]) F_checked_system 1 0 (List.cons_ne_nil _ _) rfl fun _ _ _ _ _ _ _ us its h1 h2 => match us, h1, its, h2 with | [_], _, [_], _ => ⟨_, rfl, rfl⟩
  have C_checked_system : Cal P w K mg base 2 "checked_system" (spChecked) [.non] := ⟨_, fd_checked_system, ["system", "names"], ds_C_checked_system, O_checked_system, He.glo_ok X N (c.fact 7 (f := .glo "checked_system") rfl), F_checked_system.kp, b_C_checked_system, v_C_checked_system⟩
  have O_u_cycle : FnOk P w K mg base CX0 1 (He.fAd K ("_cycle", none)) fd_u_cycle ["system", "before", "name"] (spCycle) := ok_cycle F_u_cycle G
  have b_C_u_cycle : Binds K fd_u_cycle ["system", "before", "name"] [] := FunD.bindsN F_u_cycle fun _ _ _ _ _ _ us hl => match us, hl with | [_, _, _], _ => rfl
  have C_u_cycle : Cal P w K mg base 1 "_cycle" (spCycle) [] := ⟨_, fd_u_cycle, ["system", "before", "name"], [], O_u_cycle, He.glo_ok X N (c.fact 8 (f := .glo "_cycle") rfl), F_u_cycle.kp, b_C_u_cycle, .nil⟩
  have O_ring : FnOk P w K mg base CX0 3 (He.fAd K ("ring", none)) fd_ring ["system"] (spRing) := ok_ring F_ring G C_checked_system C_names_of C_u_cycle
  have O_implied : FnOk P w K mg base CX0 6 (He.fAd K ("implied", none)) fd_implied ["system", "difference"] (spImplied) := ok_implied F_implied G T C_checked_system C_names_of C_table_of
  have b_C_implied : Binds K fd_implied ["system", "difference"] [] := FunD.bindsN F_implied fun _ _ _ _ _ _ us hl => match us, hl with | [_, _], _ => rfl
  have C_implied : Cal P w K mg base 6 "implied" (spImplied) [] := ⟨_, fd_implied, ["system", "difference"], [], O_implied, He.glo_ok X N (c.fact 10 (f := .glo "implied") rfl), F_implied.kp, b_C_implied, .nil⟩
  have OH_is_limit : L2H.FnH P w K mg base CX0 1 (He.fAd K ("is_limit", none)) fd_is_limit ["thing"] (spIsLimit) := okH_is_limit F_is_limit G
  have b_H_is_limit : Binds K fd_is_limit ["thing"] [] := FunD.bindsN F_is_limit fun _ _ _ _ _ _ us hl => match us, hl with | [_], _ => rfl
  have H_is_limit : CalH P w K mg base 1 "is_limit" (spIsLimit) [] := ⟨_, fd_is_limit, ["thing"], [], OH_is_limit, He.glo_ok X N (c.fact 4 (f := .glo "is_limit") rfl), F_is_limit.kp, b_H_is_limit, .nil⟩
  have OH_u_is_end : L2H.FnH P w K mg base CX0 1 (He.fAd K ("_is_end", none)) fd_u_is_end ["thing", "known"] (spIsEnd) := okH_is_end F_u_is_end G
  have b_H_u_is_end : Binds K fd_u_is_end ["thing", "known"] [] := FunD.bindsN F_u_is_end fun _ _ _ _ _ _ us hl => match us, hl with | [_, _], _ => rfl
  have H_u_is_end : CalH P w K mg base 1 "_is_end" (spIsEnd) [] := ⟨_, fd_u_is_end, ["thing", "known"], [], OH_u_is_end, He.glo_ok X N (c.fact 5 (f := .glo "_is_end") rfl), F_u_is_end.kp, b_H_u_is_end, .nil⟩
  have OH_names_of : L2H.FnH P w K mg base CX0 1 (He.fAd K ("names_of", none)) fd_names_of ["system"] (spNamesOf) := okH_names_of F_names_of G
  have b_H_names_of : Binds K fd_names_of ["system"] [] := FunD.bindsN F_names_of fun _ _ _ _ _ _ us hl => match us, hl with | [_], _ => rfl
  have H_names_of : CalH P w K mg base 1 "names_of" (spNamesOf) [] := ⟨_, fd_names_of, ["system"], [], OH_names_of, He.glo_ok X N (c.fact 6 (f := .glo "names_of") rfl), F_names_of.kp, b_H_names_of, .nil⟩
  have OH_checked_system : L2H.FnH P w K mg base CX0 2 (He.fAd K ("checked_system", none)) fd_checked_system ["system", "names"] (spChecked) := okH_checked F_checked_system G H_is_limit H_u_is_end
  obtain ⟨ds_H_checked_system, v_H_checked_system, b_H_checked_system⟩ := FunD.binds1 (ps := ["system", "names"]) F_checked_system 1 0 (List.cons_ne_nil _ _) rfl fun _ _ _ _ _ _ _ us its h1 h2 => match us, h1, its, h2 with | [_], _, [_], _ => ⟨_, rfl, rfl⟩
  have H_checked_system : CalH P w K mg base 2 "checked_system" (spChecked) [.non] := ⟨_, fd_checked_system, ["system", "names"], ds_H_checked_system, OH_checked_system, He.glo_ok X N (c.fact 7 (f := .glo "checked_system") rfl), F_checked_system.kp, b_H_checked_system, v_H_checked_system⟩
  have OH_u_cycle : L2H.FnH P w K mg base CX0 1 (He.fAd K ("_cycle", none)) fd_u_cycle ["system", "before", "name"] (spCycle) := okH_cycle F_u_cycle G
  have b_H_u_cycle : Binds K fd_u_cycle ["system", "before", "name"] [] := FunD.bindsN F_u_cycle fun _ _ _ _ _ _ us hl => match us, hl with | [_, _, _], _ => rfl
  have H_u_cycle : CalH P w K mg base 1 "_cycle" (spCycle) [] := ⟨_, fd_u_cycle, ["system", "before", "name"], [], OH_u_cycle, He.glo_ok X N (c.fact 8 (f := .glo "_cycle") rfl), F_u_cycle.kp, b_H_u_cycle, .nil⟩
  have OH_ring : L2H.FnH P w K mg base CX0 3 (He.fAd K ("ring", none)) fd_ring ["system"] (spRing) := okH_ring F_ring G H_checked_system H_names_of H_u_cycle
  have b_H_ring : Binds K fd_ring ["system"] [] := FunD.bindsN F_ring fun _ _ _ _ _ _ us hl => match us, hl with | [_], _ => rfl
  have H_ring : CalH P w K mg base 3 "ring" (spRing) [] := ⟨_, fd_ring, ["system"], [], OH_ring, He.glo_ok X N (c.fact 9 (f := .glo "ring") rfl), F_ring.kp, b_H_ring, .nil⟩
  have O_u_law_draw : FnOk P w K mg base CX0 1 (He.fAd K ("_law_draw", none)) fd_u_law_draw ["script", "at", "many"] (spDraw K) := ok_draw F_u_law_draw G
  have b_C_u_law_draw : Binds K fd_u_law_draw ["script", "at", "many"] [] := FunD.bindsN F_u_law_draw fun _ _ _ _ _ _ us hl => match us, hl with | [_, _, _], _ => rfl
  have C_u_law_draw : Cal P w K mg base 1 "_law_draw" (spDraw K) [] := ⟨_, fd_u_law_draw, ["script", "at", "many"], [], O_u_law_draw, He.glo_ok X N (c.fact 11 (f := .glo "_law_draw") rfl), F_u_law_draw.kp, b_C_u_law_draw, .nil⟩
  have O_u_law_pool : FnOk P w K mg base CX0 2 (He.fAd K ("_law_pool", none)) fd_u_law_pool ["script", "at"] (spPool K) := ok_pool F_u_law_pool G C_u_law_draw
  have b_C_u_law_pool : Binds K fd_u_law_pool ["script", "at"] [] := FunD.bindsN F_u_law_pool fun _ _ _ _ _ _ us hl => match us, hl with | [_, _], _ => rfl
  have C_u_law_pool : Cal P w K mg base 2 "_law_pool" (spPool K) [] := ⟨_, fd_u_law_pool, ["script", "at"], [], O_u_law_pool, He.glo_ok X N (c.fact 12 (f := .glo "_law_pool") rfl), F_u_law_pool.kp, b_C_u_law_pool, .nil⟩
  have O_u_law_system : FnOk P w K mg base CX0 2 (He.fAd K ("_law_system", none)) fd_u_law_system ["script", "at", "names", "most"] (spSystem K) := ok_system F_u_law_system G C_u_law_draw
  have b_C_u_law_system : Binds K fd_u_law_system ["script", "at", "names", "most"] [] := FunD.bindsN F_u_law_system fun _ _ _ _ _ _ us hl => match us, hl with | [_, _, _, _], _ => rfl
  have C_u_law_system : Cal P w K mg base 2 "_law_system" (spSystem K) [] := ⟨_, fd_u_law_system, ["script", "at", "names", "most"], [], O_u_law_system, He.glo_ok X N (c.fact 13 (f := .glo "_law_system") rfl), F_u_law_system.kp, b_C_u_law_system, .nil⟩
  have O_u_law_names_of : FnOk P w K mg base CX0 1 (He.fAd K ("_law_names_of", none)) fd_u_law_names_of ["system"] (spLawNames) := ok_law_names F_u_law_names_of G
  have b_C_u_law_names_of : Binds K fd_u_law_names_of ["system"] [] := FunD.bindsN F_u_law_names_of fun _ _ _ _ _ _ us hl => match us, hl with | [_], _ => rfl
  have C_u_law_names_of : Cal P w K mg base 1 "_law_names_of" (spLawNames) [] := ⟨_, fd_u_law_names_of, ["system"], [], O_u_law_names_of, He.glo_ok X N (c.fact 14 (f := .glo "_law_names_of") rfl), F_u_law_names_of.kp, b_C_u_law_names_of, .nil⟩
  have O_u_limit : FnOk P w K mg base CX0 1 (He.fAd K ("_limit", none)) fd_u_limit ["table", "left", "right"] (spLimit (He.ga K "Table")) := ok_limit F_u_limit G T
  have b_C_u_limit : Binds K fd_u_limit ["table", "left", "right"] [] := FunD.bindsN F_u_limit fun _ _ _ _ _ _ us hl => match us, hl with | [_, _, _], _ => rfl
  have C_u_limit : Cal P w K mg base 1 "_limit" (spLimit (He.ga K "Table")) [] := ⟨_, fd_u_limit, ["table", "left", "right"], [], O_u_limit, He.glo_ok X N (c.fact 15 (f := .glo "_limit") rfl), F_u_limit.kp, b_C_u_limit, .nil⟩
  have O_u_needed : FnOk P w K mg base CX0 2 (He.fAd K ("_needed", none)) fd_u_needed ["table", "heads", "one", "other"] (spNeeded (He.ga K "Table")) := ok_needed F_u_needed G C_u_limit
  have b_C_u_needed : Binds K fd_u_needed ["table", "heads", "one", "other"] [] := FunD.bindsN F_u_needed fun _ _ _ _ _ _ us hl => match us, hl with | [_, _, _, _], _ => rfl
  have C_u_needed : Cal P w K mg base 2 "_needed" (spNeeded (He.ga K "Table")) [] := ⟨_, fd_u_needed, ["table", "heads", "one", "other"], [], O_u_needed, He.glo_ok X N (c.fact 16 (f := .glo "_needed") rfl), F_u_needed.kp, b_C_u_needed, .nil⟩
  have O_classes_of : FnOk P w K mg base CX0 1 (He.fAd K ("classes_of", none)) fd_classes_of ["table"] (spClasses (He.ga K "Table")) := ok_classes F_classes_of G T
  have b_C_classes_of : Binds K fd_classes_of ["table"] [] := FunD.bindsN F_classes_of fun _ _ _ _ _ _ us hl => match us, hl with | [_], _ => rfl
  have C_classes_of : Cal P w K mg base 1 "classes_of" (spClasses (He.ga K "Table")) [] := ⟨_, fd_classes_of, ["table"], [], O_classes_of, He.glo_ok X N (c.fact 17 (f := .glo "classes_of") rfl), F_classes_of.kp, b_C_classes_of, .nil⟩
  have O_u_ring_of : FnOk P w K mg base CX0 2 (He.fAd K ("_ring_of", none)) fd_u_ring_of ["table", "names"] (spRingOf (He.ga K "Table")) := ok_ring_of F_u_ring_of G C_u_limit
  have b_C_u_ring_of : Binds K fd_u_ring_of ["table", "names"] [] := FunD.bindsN F_u_ring_of fun _ _ _ _ _ _ us hl => match us, hl with | [_, _], _ => rfl
  have C_u_ring_of : Cal P w K mg base 2 "_ring_of" (spRingOf (He.ga K "Table")) [] := ⟨_, fd_u_ring_of, ["table", "names"], [], O_u_ring_of, He.glo_ok X N (c.fact 18 (f := .glo "_ring_of") rfl), F_u_ring_of.kp, b_C_u_ring_of, .nil⟩
  have O_fewest : FnOk P w K mg base (L2N.CX P w) 6 (He.fAd K ("fewest", none)) fd_fewest ["system"] (spFewest (He.ga K "NoSolution")) := ok_fewest F_fewest G NX C_checked_system C_names_of C_table_of C_classes_of C_u_ring_of C_u_needed C_u_limit
  have b_C_fewest : Binds K fd_fewest ["system"] [] := FunD.bindsN F_fewest fun _ _ _ _ _ _ us hl => match us, hl with | [_], _ => rfl
  have C_fewest : CalXN P w K mg base 6 "fewest" (spFewest (He.ga K "NoSolution")) [] := ⟨_, fd_fewest, ["system"], [], O_fewest, He.glo_ok X N (c.fact 19 (f := .glo "fewest") rfl), F_fewest.kp, b_C_fewest, .nil⟩
  have O_u_law_table : FnOk P w K mg base CX0 1 (He.fAd K ("_law_table", none)) fd_u_law_table ["names", "system"] (spLTable) := ok_ltable F_u_law_table G
  have b_C_u_law_table : Binds K fd_u_law_table ["names", "system"] [] := FunD.bindsN F_u_law_table fun _ _ _ _ _ _ us hl => match us, hl with | [_, _], _ => rfl
  have C_u_law_table : Cal P w K mg base 1 "_law_table" (spLTable) [] := ⟨_, fd_u_law_table, ["names", "system"], [], O_u_law_table, He.glo_ok X N (c.fact 20 (f := .glo "_law_table") rfl), F_u_law_table.kp, b_C_u_law_table, .nil⟩
  have O_u_law_needed : FnOk P w K mg base CX0 1 (He.fAd K ("_law_needed", none)) fd_u_law_needed ["heads", "table", "one", "other"] (spLNeeded) := ok_lneeded F_u_law_needed G
  have b_C_u_law_needed : Binds K fd_u_law_needed ["heads", "table", "one", "other"] [] := FunD.bindsN F_u_law_needed fun _ _ _ _ _ _ us hl => match us, hl with | [_, _, _, _], _ => rfl
  have C_u_law_needed : Cal P w K mg base 1 "_law_needed" (spLNeeded) [] := ⟨_, fd_u_law_needed, ["heads", "table", "one", "other"], [], O_u_law_needed, He.glo_ok X N (c.fact 21 (f := .glo "_law_needed") rfl), F_u_law_needed.kp, b_C_u_law_needed, .nil⟩
  have O_u_law_heads : FnOk P w K mg base CX0 1 (He.fAd K ("_law_heads", none)) fd_u_law_heads ["ends", "table"] (spHeads) := ok_lheads F_u_law_heads G
  have b_C_u_law_heads : Binds K fd_u_law_heads ["ends", "table"] [] := FunD.bindsN F_u_law_heads fun _ _ _ _ _ _ us hl => match us, hl with | [_, _], _ => rfl
  have C_u_law_heads : Cal P w K mg base 1 "_law_heads" (spHeads) [] := ⟨_, fd_u_law_heads, ["ends", "table"], [], O_u_law_heads, He.glo_ok X N (c.fact 22 (f := .glo "_law_heads") rfl), F_u_law_heads.kp, b_C_u_law_heads, .nil⟩
  have O_u_law_due : FnOk P w K mg base CX0 2 (He.fAd K ("_law_due", none)) fd_u_law_due ["names", "table"] (spDue) := ok_ldue F_u_law_due G C_u_law_heads C_u_law_needed
  have b_C_u_law_due : Binds K fd_u_law_due ["names", "table"] [] := FunD.bindsN F_u_law_due fun _ _ _ _ _ _ us hl => match us, hl with | [_, _], _ => rfl
  have C_u_law_due : Cal P w K mg base 2 "_law_due" (spDue) [] := ⟨_, fd_u_law_due, ["names", "table"], [], O_u_law_due, He.glo_ok X N (c.fact 23 (f := .glo "_law_due") rfl), F_u_law_due.kp, b_C_u_law_due, .nil⟩
  have O_u_law_right : FnOk P w K mg base CX0 7 (He.fAd K ("_law_right", none)) fd_u_law_right ["system"] (spRight5) := ok_right5 F_u_law_right G NX C_u_law_names_of C_u_law_table C_fewest H_ring C_u_law_due C_implied
  have b_C_u_law_right : Binds K fd_u_law_right ["system"] [] := FunD.bindsN F_u_law_right fun _ _ _ _ _ _ us hl => match us, hl with | [_], _ => rfl
  have C_u_law_right : Cal P w K mg base 7 "_law_right" (spRight5) [] := ⟨_, fd_u_law_right, ["system"], [], O_u_law_right, He.glo_ok X N (c.fact 24 (f := .glo "_law_right") rfl), F_u_law_right.kp, b_C_u_law_right, .nil⟩
  have O_law : FnOk P w K mg base CX0 8 (He.fAd K ("law", none)) fd_law ["script"] (spLaw K) := ok_law F_law G C_u_law_draw C_u_law_pool C_u_law_system C_u_law_right
  exact O_law
end K1
open PySem PySem.W PySem.Calls PyProof.Rows
theorem PySem.Challenge.cw_loopsheds_k05_fewest_holds : PySem.Challenge.rw_loopsheds_k05_fewest.Holds := by
  w_on; o_law
  refine HandSHeadRun.head_any (r := OpenLaw.row PySem.Challenge.rw_loopsheds_k05_fewest) (q := view (OpenLaw.row PySem.Challenge.rw_loopsheds_k05_fewest).prog [37]) (H := K1.hk) (ob := K1.ob) (M := 4000) (loose := K1.names) (d := HandSHeadRun.topDef (OpenLaw.row PySem.Challenge.rw_loopsheds_k05_fewest).prog 37) (kwd := []) K1.ob_eq
    (by kernel_rfl) (fun s => by kernel_rfl) K1.run (by kernel_rfl) (by kernel_rfl) (by kernel_rfl) (by rfl) (by first | assumption | decide +kernel) (by decide +kernel) ⟨rfl, rfl, rfl, rfl, rfl, by decide +kernel⟩ ?hw ?hc
  case hw => w_witness2
  case hc =>
    refine L2.walk_ofE (l := PySem.Challenge.rw_loopsheds_k05_fewest) (n := 63) (k := 8) (x := "script") (CX := L2.CX0) rfl (by decide) (by kernel_rfl) ⟨rfl, by decide, by decide⟩ ?F (fun _ _ _ _ z => z)
    intro w mg fa h Y G hmg0
    obtain ⟨K, KX, c⟩ := Y
    have hmg : mg ("law" : PySem.Str) = some (.ref fa) := by
      have e : (HandSHeadRun.topDef (OpenLaw.row PySem.Challenge.rw_loopsheds_k05_fewest).prog 37).name = ("law" : PySem.Str) := by kernel_rfl
      rw [← e]
      exact hmg0
    obtain ⟨fd, hb, hF⟩ := K1.facts (P := (PySem.Challenge.rw_loopsheds_k05_fewest).prog) (w := w) KX G hmg c
    exact ⟨K, fd, K1.spLaw K, KX, hb, fun H a ns hl _ hS => ⟨a, ns, rfl, ⟨hS, Nat.le_trans hl (by decide)⟩, fun _ => rfl⟩, hF⟩

