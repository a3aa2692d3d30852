import PyProof.Rows.All
import Wide.All
import OpenK.AllK
import Wide.FinOn
import KE.GoesEnum
import KE.GoesMore
import HandS.ForMost
import HandS.DictComp
import HandS.SetKeys
import HandS.Strs
import HandS.SetFor
import HandS.SortKw
import HandS.TupAny
import HandS.Conv
import HandS.Flow
import HandS.Style
import HandS.IsInst
import HandS.Wide
import HandS.WideBits
import HandS.Codes
import HandS.Walk
import HandS.More
import HandS.EndBits
import HandS.SetIn
import HandS.NamedTupSort
import PySem.Challenge.RW_flatbonds_k12_whole_summands
/-! FbA -/
set_option Elab.async false
set_option linter.all false
set_option maxRecDepth 100000
set_option maxHeartbeats 4000000
/-! Own rules of the layer: enumerate over a tuple, name = {dict comprehension}, xs[i] += e. -/
namespace Fb
open PySem PySem.Spec PyProof.Rows L2

/-! ### enumerate over a tuple -/
theorem meets_enumB {v : Value} {o : Obj} {H : Heap → Prop} (B : Begins v o H) :
    Meets (Builtin.«enumerate.__new__» ⟨[.type "enumerate", v], []⟩) (fun _ R s => H s.heap ∧
      R (.ok (.ret (.ref (s.heap.push o).objs.size))) { s with heap := (s.heap.push o).push { cls := .type "enumerate", data := .fields #[.none, .bool false, .ref s.heap.objs.size, rawInt 0, .none, .none] } }) :=
  .of_wp fun prog w A R s h => by
    obtain ⟨hp, g, d, tk, os⟩ := s; obtain ⟨h1, h⟩ := h
    have hsub := sub_enumerate
    have q1 : ∀ {A' : Around} {E : Value → Shared → Prop} {Q : Value → Shared → Prop}, Q (.ref hp.objs.size) ⟨hp.push o, g, d, tk, os⟩ → wpAny (model prog w) A' (pyIter v) Q E ⟨hp, g, d, tk, os⟩ :=
      fun q => B.iter prog w _ _ ⟨hp, g, d, tk, os⟩ _ h1 q
    wp_walk using q1
    refine wpAny_stack_any fun st => wpAny_pure ?_
    split
    · rename_i c _ _ _ _ _
      cases (c == Value.type "enumerate")
      · wp_walk using q1
        exact ⟨_, rfl, h⟩
      · wp_walk using q1
        exact ⟨_, rfl, h⟩
    · wp_walk using q1
      exact ⟨_, rfl, h⟩
theorem call_enumB {prog : Program} {w : World} {A : Around} {E : Value → Shared → Prop} {s : Shared} {v : Value} {o : Obj} {H : Heap → Prop} {Q : Value → Shared → Prop} (B : Begins v o H) (h1 : H s.heap)
    (h : ∀ h', IsEnum h' (s.heap.objs.size + 1) s.heap.objs.size 0 .none → h'.get? s.heap.objs.size = some o → h'.objs.size = s.heap.objs.size + 2 →
      (∀ b o, s.heap.get? b = some o → h'.get? b = some o) → Q (.ref (s.heap.objs.size + 1)) { s with heap := h' }) :
    wpAny (model prog w) A (call (.type "enumerate") [v]) Q E s := by
  refine callType_new F.called_enumerate (by decide) (F.typeCall_enumerate_1 _) (F.newCall_enumerate_1 _) (fun obj => F.args_object_init_2 obj _) F.entry_enumerate_new
    (meets_enumB B) ⟨h1, ?_⟩
  have hz : (s.heap.push o).objs.size = s.heap.objs.size + 1 := Heap.size_push ..
  show _ ∧ _
  rw [hz]
  have he : IsEnum ((s.heap.push o).push { cls := .type "enumerate", data := .fields #[.none, .bool false, .ref s.heap.objs.size, rawInt 0, .none, .none] }) (s.heap.objs.size + 1) s.heap.objs.size 0 .none := by
    have := Heap.get?_push_size (s.heap.push o) (o := { cls := .type "enumerate", data := .fields #[.none, .bool false, .ref s.heap.objs.size, rawInt 0, .none, .none] }) rfl
    rw [hz] at this; exact this
  refine ⟨⟨_, he, rfl⟩, h _ he (Heap.get?_push_of_some _ (Heap.get?_push_size _ B.free)) (by rw [Heap.size_push, hz]) fun b o x => Heap.get?_push_of_some _ (Heap.get?_push_of_some _ x)⟩

def Itet (K : PySem.W.Frag) (a : Addr) : It :=
  ⟨fun i H => ∃ xs x, SqT K H a xs ∧ xs[i]? = some x,
   fun i H v H' => ∃ T x, v = .ref T ∧ H T = none ∧ H' = upd H T (.tup [.int (i : Nat), x]) ∧ ∀ xs, SqT K H a xs → xs[i]? = some x,
   fun i H => ∃ xs, SqT K H a xs ∧ xs.length ≤ i⟩
theorem turn_enumT {P : Program} {w : World} {K : PySem.W.Frag} {elts : List Expr} {kk : Nat} {tpos : Pos} (a e it : Addr) :
    Turn P w K (.Tuple elts kk tpos) (Itet K a) [e, it] e (fun i h => (∃ old, IsEnum h e it ((i : Nat) : Int) old) ∧ h.IsTupleIter it a i ∧ e ≠ it ∧ a ≠ it ∧ a ≠ e) where
  mem := by simp
  obj := fun i h st b hb => by
    obtain ⟨⟨old, he⟩, ⟨o, ho, hc, hd⟩, _⟩ := st
    have e' : b = e ∨ b = it := by simpa using hb
    rcases e' with z | z
    · rw [z]; exact ⟨_, he, fun v q => nomatch q⟩
    · rw [z]; exact ⟨o, ho, fun v q => by rw [hd] at q; cases q⟩
  keep := fun i h h' st k => let ⟨⟨old, he⟩, hi, hne⟩ := st; ⟨⟨old, k e (by simp) _ he⟩, hi.at fun o q => k it (by simp) o q, hne⟩
  item := by
    intro X hP hw hK hc i pins s σ H E I hf st hg
    subst hP hw hK
    obtain ⟨⟨old, he⟩, hit, hne, hai, hae⟩ := st
    obtain ⟨xs, x, hq, hx⟩ := hg
    obtain ⟨its, rv, p, hz⟩ := I.tuple hq
    obtain ⟨u, hu, ru⟩ := rv.get hx
    have hel : e < s.heap.objs.size := Heap.lt_size he
    have hil : it < s.heap.objs.size := by obtain ⟨_, q, _⟩ := hit; exact Heap.lt_size q
    have hlt : i < its.toArray.size := by
      have := (List.getElem?_eq_some_iff.mp hu).1
      simpa using this
    refine wpAny_pyNext_enum_itemD (Draws.tuple (prog := X.prog) (w := X.w) (A := X.A.in1) (I.ok.hd hc) it a hai its.toArray) he ⟨hit, p⟩ hlt hne (by simp [hne, Ne.symm hae]) fun x' h' tk hP ho hit' hT hsz hk => ?_
    have ex : x' = u := by
      have e1 : its.toArray[i]? = some u := by simpa using hu
      rw [e1] at hP
      exact (Option.some.inj hP).symm
    subst ex
    refine ⟨_, rfl, wpAny_letOwnedTupleGo_enum (s := { s with heap := h', toks := tk + 1 }) ho fun h'' he' sb => ?_⟩
    have hT2 : h''.get? s.heap.objs.size = some { cls := .type "tuple", data := .seq #[.int i tk, x'] } := (sb.2 _ (Nat.ne_of_gt hel)).trans hT
    have new : ObjOk X.prog X.w (upd H s.heap.objs.size (.tup [.int (i : Nat), x])) h'' s.heap.objs.size (.tup [.int (i : Nat), x]) :=
      ⟨by show 2 ≤ sizeLine; decide, [.int i tk, x'], .cons ⟨_, rfl⟩ (.cons ru .nil), ⟨_, hT2, rfl, _, rfl⟩⟩
    have I1 : Inv X pins σ (upd H s.heap.objs.size (.tup [.int (i : Nat), x])) { s with heap := h'', toks := tk + 1 } :=
      I.turnedNew (ch := [e, it]) (fun b ob hb q => (sb.2 b (fun z => hb (by simp [z]))).trans (hk b ob (fun z => hb (by simp [z])) (fun z => hb (by simp [z])) q)) hf (Nat.le_refl _) new
    refine ⟨.ref s.heap.objs.size, _, I1, rfl, ⟨_, x, rfl, I.hok.fresh (Nat.le_refl _), rfl, fun ys hy => by rw [I.tuple_inj hy hq]; exact hx⟩, ⟨⟨x', ?_⟩, hit'.1.at fun o q => (sb.2 it (Ne.symm hne)).trans q, hne, hai, hae⟩, fun b hb => ?_⟩
    · have e1 : ((i + 1 : Nat) : Int) = (i : Int) + 1 := by omega
      rw [e1]; exact he'
    · have hb' : b < s.heap.objs.size := by
        have e' : b = e ∨ b = it := by simpa using hb
        rcases e' with z | z
        · rw [z]; exact hel
        · rw [z]; exact hil
      rw [upd_ne (Nat.ne_of_lt hb')]
      exact (hf b hb).1
  done := by
    intro X hP hw hK hc i pins s σ H E I hf st hg
    subst hP hw hK
    obtain ⟨⟨old, he⟩, hit, hne, hai, hae⟩ := st
    obtain ⟨xs, hq, hx⟩ := hg
    obtain ⟨its, rv, p, hz⟩ := I.tuple hq
    obtain ⟨f0, f1, f2, f3, f4, f5⟩ := hf it (by simp)
    have hl := rv.length
    have D := Draws.tuple (prog := X.prog) (w := X.w) (A := X.A.in1) (I.ok.hd hc) it a hai its.toArray
    have D2 : Draws X.prog X.w X.A.in1 it [it, a] i (fun _ _ => True) (fun j h => j = i ∧ h.IsTupleIter it a i ∧ h.IsTuple a its.toArray) := by
      refine ⟨fun j h q => let ⟨o, ho, _⟩ := q.2.1; ⟨o, ho⟩, fun j h h' q hk => ⟨q.1, q.2.1.at fun o e => hk it (by simp) o e, q.2.2.at fun o e => hk a (by simp) o e⟩, fun j s Q E hj q _ => absurd q.1 (Nat.ne_of_lt hj), fun s Q E q hE => ?_⟩
      exact wpAny_nextOf_tuple_end (I.ok.hd hc) q.2.1 q.2.2 (by simp; omega) hE
    exact wpAny_pyNext_enum_endD D2 he ⟨rfl, hit, p⟩ fun h' eb => ⟨rfl, I.turned (t' := s.toks) (fun b o hb q => eb b o hb q) f0 f1 f3 f4 f5⟩
  self := fun A i s Q E st h => let ⟨⟨_, he⟩, _⟩ := st; wpAny_pyIter_enum he h
def iEnumT (K : PySem.W.Frag) (ta : TA) : TI := fun σ H R => ta σ H fun vs H1 => ∃ a xs, vs = [.ref a] ∧ SqT K H1 a xs ∧ R (Itet K a) H1
theorem pi_enumT {X : Cx} {e : Expr} {ta : TA} {p pos tpos : Pos} {elts : List Expr} {kk : Nat} (hg : Gl X "enumerate") (hm : X.mg "enumerate" = none) (ha : PA X [e] ta) (hs : starEach [e] X.env = [(false, eval e X.env)] := by rfl) :
    PI X (.Tuple elts kk tpos) (.Call (.Name "enumerate" p) [e] [] pos) (iEnumT X.K ta) := by
  refine ⟨fun pins s σ H R I h => ?_⟩
  refine Call_ (ld_blt I hg hm boot_enumerate (PyProof.Rows.callWith_type1 (thn (ha.run pos pins s σ H _ I h) fun us s1 ⟨vs, H1, I1, r1, q1⟩ => ?_) hs rfl))
  obtain ⟨a, xs, ex, hq, q⟩ := q1
  subst ex
  cases r1 with
  | cons r rr =>
    cases rr
    cases r
    obtain ⟨its, rv, p', hz⟩ := I1.tuple hq
    have hal : a < s1.heap.objs.size := by obtain ⟨o, ho, _⟩ := p'; exact Heap.lt_size ho
    refine call_enumB (begins_tuple a its.toArray) p' fun h' he hit hsz hk => wpAny_pyIter_enum he ?_
    have I2 : Inv X pins σ H1 { s1 with heap := h' } := I1.kept (t' := s1.toks) hk
    refine ⟨s1.heap.objs.size + 1, [s1.heap.objs.size + 1, s1.heap.objs.size], _, _, H1, rfl, I2, turn_enumT a (s1.heap.objs.size + 1) s1.heap.objs.size, ⟨⟨.none, he⟩, ⟨_, hit, rfl, rfl⟩, Nat.succ_ne_self _, Nat.ne_of_lt hal, Nat.ne_of_lt (Nat.lt_succ_of_lt hal)⟩, fun b hb => ?_, q⟩
    have e' : b = s1.heap.objs.size + 1 ∨ b = s1.heap.objs.size := by simpa using hb
    have hle : s1.heap.objs.size ≤ b := by
      rcases e' with z | z
      · rw [z]; exact Nat.le_add_right _ _
      · rw [z]; exact Nat.le_refl _
    exact I1.fpOk hle (I1.hok.fresh hle)
theorem walk_enumT {K : PySem.W.Frag} {a : Addr} {xs : List V} : Walk (Itet K a) xs.length (fun H => SqT K H a xs) (YPair (fun i => some (.int (i : Nat))) (fun i => xs[i]?)) := by
  refine ⟨fun i _ hi q => ⟨xs, xs[i], q, by simp [hi]⟩, fun _ q => ⟨xs, q, Nat.le_refl _⟩, fun i H v H' _ q y => ?_⟩
  obtain ⟨T, x, h1, h2, h3, h4⟩ := y
  exact ⟨T, .int (i : Nat), x, h1, h2, h3, rfl, h4 xs q⟩

/-! ### name = {k: v for ..} on one line, the name a local -/
section
variable {X : Cx}
theorem sw_trueD {kx vx : Expr} {gs : List Comprehension} {scope : Scope} {pos py : Pos} {y : Str} {l : Nat} {env : Env} (hk : env.scope.kind = .function) (hy : env.scope.names.lookup y = some .local) (hl : (py.line == pos.line) = true)
    (ha : (scope.names.any fun (n, k) => n == y && (k == .local || k == .cell)) = false) : swapsWith (.DictComp kx vx gs scope pos) (some (.Name y py)) l env = pure true := by
  have ky : env.kindOf y = some .local := hy
  have hb : env.blockKind = .function := by unfold Env.blockKind; rw [hk]; rfl
  unfold swapsWith
  simp only [hb, ky, ha, Expr.pos, hl]
  rfl
theorem ps_setDc {i : Nat} {y : Str} {py : Pos} {kx vx tg iter : Expr} {ifs : List Expr} {scope : Scope} {own : List (Str × Nat)} {pos spos : Pos} {wi : TI} {g : TG} {tt : TT} {tk tv : TE} (hc : X.calm = true) (hN : X.N.Nodup) (hy : X.N[i]? = some y) (hyl : X.env.scope.names.lookup y = some .local)
    (hsw : swapsWith (.DictComp kx vx [⟨tg, iter, ifs, 0⟩] scope pos) (some (.Name y py)) spos.line X.env = pure true) (hi : PI X tg iter wi) (ok : BlkOk X.N X.env.scope scope own)
    (hg : ∀ (s : Shared) (H : Hp) (C : Addr) (cl : List (Str × Addr)) (fp : List Addr), PG (X.blk s H scope (compEnvC scope cl C X.env) fp) tg g) (ht : ∀ (s : Shared) (H : Hp) (C : Addr) (cl : List (Str × Addr)) (fp : List Addr), PTs (X.blk s H scope (compEnvC scope cl C X.env) fp) ifs tt)
    (hk : ∀ (s : Shared) (H : Hp) (C : Addr) (cl : List (Str × Addr)) (fp : List Addr), PE (X.blk s H scope (compEnvC scope cl C X.env) fp) kx tk)
    (he : ∀ (s : Shared) (H : Hp) (C : Addr) (cl : List (Str × Addr)) (fp : List Addr), PE (X.blk s H scope (compEnvC scope cl C X.env) fp) vx tv) (hs : ∀ x, foldedSetIterable iter X.env x = pure x := by intro _; rfl) :
    PS X (.Assign [.Name y py] (.DictComp kx vx [⟨tg, iter, ifs, 0⟩] scope pos) spos) (tAsg (tDc wi g tt tk tv (own.map (·.2))) (gName i)) := by
  refine ⟨fun pins s σ H D I h => ?_⟩
  rw [exec_Assign_Name_used _ _ _ _ hsw]
  refine wpAny_bind (wpAny_standAt (wpAny_bind ?_))
  show wpAny _ X.A (do let _ ← comprehension (.DictComp kx vx [⟨tg, iter, ifs, 0⟩] scope pos) scope X.env (firstIterPos [⟨tg, iter, ifs, 0⟩] pos) newDict false (eval iter X.env) (some (assign (.Name y py) X.env))) _ _ s
  have h : tDc wi g tt tk tv (own.map (·.2)) σ H (fun x H1 => gName i x σ H1 D.nx) := h
  refine wpAny_bind (thn (dc_core (Qf := fun _ s' => SP X pins D .next s') hc hN I hi ok hg ht hk he hs h fun L C s' m H' I' q hn f => ?_) fun _ s' hq => wpAny_pure (wpAny_pure hq))
  show wpAny _ _ (assign (.Name y py) X.env (.ref L)) _ _ _
  refine wpAny_assign_Name (store_ok2 (v := V.ref L) I' hN hy (.inl hyl) rfl (fun s2 I2 ⟨a, sb, ha⟩ => ?_) (.inr hyl))
  obtain ⟨f0, f1, f2, f3, f4, f5⟩ := f
  have haC : C ≠ a := by
    rcases ha with z | z
    · rw [z]; exact f1
    · exact fun e => f4 y a z e.symm
  refine ⟨m, hn.sameBut sb haC, fun h3 sb3 => ?_⟩
  exact ⟨_, H', I2.turned (t' := s2.toks) (fun b o hb e => (sb3.2 b hb).trans e) f0 f1 f3 f4 f5, q⟩
/-- a dict comprehension over any walk -/
theorem dc_it {J : It} {n : Nat} {G : Hp → Prop} {Y : Nat → Hp → V → Hp → Prop} (w : Walk J n G Y) {g : TG} {tt : TT} {tk tv : TE} {vs : List Nat} {σ : L2.St} {H1 : Hp} {D : Addr} {Qd : Hp → Prop} (Pv : Nat → Hp → Prop) (h0 : Pv 0 (upd H1 D (.dK []))) (hG : ∀ i H, i ≤ n → Pv i H → G H)
    (hs : ∀ i x H H', i < n → Pv i H → Y i H x H' → g x (wipe σ vs) H' fun σ2 H2 => wipe σ2 vs = wipe σ vs ∧ tt σ2 H2 fun b H3 =>
      if b = true then tk σ2 H3 fun y H4 => tv σ2 H4 fun z H5 => ∃ kvs k, y = kV k ∧ H5 D = some (.dK kvs) ∧ kvs.length < sizeLine ∧ Pv (i + 1) (upd H5 D (.dK (putK kvs k z))) else Pv (i + 1) H3) (hd : ∀ H, Pv n H → Qd H) :
    ∃ W : Nat → Nat → Hp → Prop, (∃ m, W 0 m (upd H1 D (.dK []))) ∧ ∀ i m H, W i m H →
      (J.stop i H ∧ Qd H) ∨ (J.go i H ∧ ∃ Nx : Hp → Prop, (∀ H', Nx H' → ∃ m', m' < m ∧ W (i + 1) m' H') ∧ ∀ x H', J.yld i H x H' → g x (wipe σ vs) H' fun σ2 H2 => wipe σ2 vs = wipe σ vs ∧ tt σ2 H2 fun b H3 =>
        if b = true then tk σ2 H3 fun y H4 => tv σ2 H4 fun z H5 => ∃ kvs k, y = kV k ∧ H5 D = some (.dK kvs) ∧ kvs.length < sizeLine ∧ Nx (upd H5 D (.dK (putK kvs k z))) else Nx H3) := by
  refine ⟨fun i m H => m = n - i ∧ i ≤ n ∧ Pv i H, ⟨n, by simp, Nat.zero_le _, h0⟩, ?_⟩
  rintro i m H ⟨rfl, hi, p⟩
  have q := hG i H hi p
  by_cases hlt : i < n
  · exact .inr ⟨w.goes i H hlt q, Pv (i + 1), fun H' p' => ⟨n - (i + 1), by omega, rfl, hlt, p'⟩, fun x H' y => hs i x H H' hlt p (w.yields i H x H' hlt q y)⟩
  · have e : i = n := by omega
    subst e
    exact .inl ⟨w.stops H q, hd H p⟩
/-- a while by a measure that is a ghost -/
theorem while_m {c : TT} {tb : TS} {D : Ends} {σ : L2.St} {H : Hp} (W : Nat → L2.St → Hp → Prop) (m0 : Nat) (h0 : W m0 σ H)
    (hs : ∀ m σ H, W m σ H → c σ H fun b H1 => if b = true then ∃ N : L2.St → Hp → Prop, (∀ σ' H', N σ' H' → ∃ m', m' < m ∧ W m' σ' H') ∧ tb { D with nx := N, ct := N, bk := D.nx } σ H1 else D.nx σ H1) : tWhile c tb D σ H :=
  ⟨W, ⟨m0, h0⟩, hs⟩

/-! ### xs[i] += e of a list -/
def rGetN (K : PySem.W.Frag) : V → V → Hp → VK → Prop := fun x y H Q => ∃ p xs i v, x = .ref p ∧ y = .int i ∧ SqL K H p xs ∧ 0 ≤ i ∧ xs[i.toNat]? = some v ∧ Q v H
theorem get_list : PGet X (rGetN X.K) := by
  intro pins s σ H x y v u Q I rx ry h
  obtain ⟨p, xs, i, z, rfl, rfl, hq, h0, he, q⟩ := h
  cases rx
  obtain ⟨t, rfl⟩ := ry
  obtain ⟨its, r, pl, hz⟩ := I.list hq
  obtain ⟨w, ew, rw'⟩ := r.get he
  have hn := line63
  have hl := (List.getElem?_eq_some_iff.mp he).1
  exact wpAny_getItem_list pl.isList h0 (by omega) (by simpa using ew) ⟨z, H, I, rw', q⟩
end
end Fb

/-! FbB -/
set_option maxHeartbeats 4000000
/-! Own rules of the layer: sorted of a tuple of ints, of a list of tuples of ints; repr of data. -/
namespace SrtO
open PySem PyProof.Rows Srt
section
variable {prog : Program} {w : World} {A : Around} {E : Value → Shared → Prop} {s : Shared}
theorem collect_tupF {l : Addr} {vs : List Value} {Q : List Value → Shared → Prop} (hl : IsTup s.heap l vs.toArray)
    (h : Q vs { s with heap := (s.heap.push (seqObj "list" #[] 0)).update s.heap.objs.size (Obj.mapSeq (· ++ vs.toArray)) }) (hsz : vs.length ≤ sizeLine) :
    wpAny (model prog w) A (collect (.ref l)) Q E s := by
  obtain ⟨o, ho, hc, n, hd⟩ := id hl
  unfold collect
  refine wpAny_bind (wpAny_runValue (codeAny_builtin entry_proto_collect' ?_))
  show wpAny _ _ (do again (.builtin "list.__iadd__" ⟨[← newList [], .ref l], []⟩)) _ _ s
  refine wpAny_bind (wpAny_newList (wpAny_pure ⟨Code.quiet_builtin _ (by decide +kernel), codeAny_builtin entry_list_iadd' ?_⟩))
  show wpAny _ _ (Builtin.List.listExtendWith (.ref s.heap.objs.size) (.ref l) (.ref s.heap.objs.size)) _ _ { s with heap := s.heap.push (seqObj "list" #[] 0) }
  unfold Builtin.List.listExtendWith
  have ho' : (s.heap.push (seqObj "list" #[] 0)).get? l = some o := Heap.get?_push_of_some _ ho
  refine wpAny_bind (wpAny_typeOf (T := "tuple") ⟨o, ho', hc⟩ ?_)
  have ht : (Value.type "tuple" == Value.type "tuple") = true := by rfl
  rw [if_pos (by rw [ht]; simp)]
  refine wpAny_bind (listItems_at ho' hd ?_)
  refine wpAny_bind (listItems_at (xs := #[]) (n := 0) (Heap.get?_push_size _ rfl) rfl ?_)
  rw [if_neg (by simp)]
  refine wpAny_bind (listUpdate_at (xs := #[]) (n := 0) (Heap.get?_push_size _ rfl) rfl ?_ (Nat.zero_le _) (by show (#[] ++ vs.toArray).size ≤ sizeLine + 1; simp only [Array.size_append, List.size_toArray, List.length_nil]; omega))
  refine wpAny_pure ?_
  show wpAny (model prog w) A (do
      let o ← load s.heap.objs.size
      match o.data with
      | .seq xs _ => pure xs.toList
      | _ => unsupported "internal:collect") Q E { s with heap := (s.heap.push (seqObj "list" #[] 0)).update s.heap.objs.size (Obj.mapSeq (· ++ vs.toArray)) }
  refine wpAny_bind (wpAny_load (get?_update_seq (Heap.get?_push_size _ rfl) _) ?_)
  show wpAny _ _ (pure ((#[] : Array Value) ++ vs.toArray).toList) Q E _
  rw [show ((#[] : Array Value) ++ vs.toArray).toList = vs by simp]
  exact wpAny_pure h
theorem sorted_ordT {l : Addr} {vs : List Value} {ltv : Value → Value → Bool} {Q : Value → Shared → Prop} (O : Swo ltv) (hl : IsTup s.heap l vs.toArray) (hz : vs.length ≤ sizeLine)
    (hS : 2 ≤ vs.length → ∀ (h₁ : Heap) (a : Addr), h₁.get? a = some (seqObj "list" vs.toArray 0) → (∀ b o, s.heap.get? b = some o → b ≠ a ∧ h₁.get? b = some o) → SortableO prog w A.in1.in1 { s with heap := h₁ } a vs ltv)
    (h : ∀ out : List Value, Srtd ltv out → Stb ltv out vs → Q (.ref (s.heap.objs.size + 1)) { s with heap := sortedAll s.heap vs out.toArray }) :
    wpAny (model prog w) A (call (.builtin "sorted") [.ref l]) Q E s := by
  refine Calls.call_function_entry kind_sorted plain_sorted entry_sorted (args_sorted1 _) ?_
  unfold Builtin.«sorted»
  refine wpAny_bind (m := checkCount "sorted" 1 1 _) (wpAny_pure ?_)
  refine wpAny_bind (collect_tupF hl ?_ hz)
  refine wpAny_bind (wpAny_newList ?_ hz)
  have hsz : ((s.heap.push (seqObj "list" #[] 0)).update s.heap.objs.size (Obj.mapSeq (· ++ vs.toArray))).objs.size = s.heap.objs.size + 1 := by
    rw [Heap.size_update, size_push']
  have hoL : (((s.heap.push (seqObj "list" #[] 0)).update s.heap.objs.size (Obj.mapSeq (· ++ vs.toArray))).push (seqObj "list" vs.toArray 0)).get? (s.heap.objs.size + 1) = some (seqObj "list" vs.toArray 0) := by
    rw [← hsz]; exact Heap.get?_push_size _ rfl
  have keep : ∀ b o, s.heap.get? b = some o → b ≠ s.heap.objs.size + 1 ∧ (((s.heap.push (seqObj "list" #[] 0)).update s.heap.objs.size (Obj.mapSeq (· ++ vs.toArray))).push (seqObj "list" vs.toArray 0)).get? b = some o := fun b o q => by
    have hlt : b < s.heap.objs.size := Heap.lt_size q
    refine ⟨Nat.ne_of_lt (Nat.lt_succ_of_lt hlt), Heap.get?_push_of_some _ ?_⟩
    rw [Heap.get?_update_ne _ _ _ _ (Nat.ne_of_lt hlt)]
    exact Heap.get?_push_of_some _ q
  show wpAny _ _ _ _ _ { s with heap := ((s.heap.push (seqObj "list" #[] 0)).update s.heap.objs.size (Obj.mapSeq (· ++ vs.toArray))).push (seqObj "list" vs.toArray 0) }
  rw [hsz]
  refine wpAny_bind (wpAny_holding (wpAny_call_entry slot_list_sort ⟨_, hoL, rfl⟩ entry_list_sort (list_sort_ord O hoL hz (fun h2 => hS h2 _ _ hoL keep) fun out hs hb => ⟨_, rfl, ?_⟩) (args_list_sort _)))
  exact wpAny_pure ⟨_, rfl, h out hs hb⟩

/-! ### tuples of ints, not empty, of any lengths -/
/-- v is a tuple of these ints -/
def IsTI (h : Heap) (v : Value) (ns : List Int) : Prop := ∃ a xs o n, v = Value.ref a ∧ h.get? a = some o ∧ o.cls = .type "tuple" ∧ o.data = .seq xs n ∧ IntsAre xs.toList ns
theorem IsTI.keeps {h h' : Heap} {v : Value} {ns : List Int} (x : IsTI h v ns) (k : ∀ b o, h.get? b = some o → o.cls = .type "tuple" → h'.get? b = some o) : IsTI h' v ns :=
  let ⟨a, xs, o, n, e, ho, hc, hd, i⟩ := x; ⟨a, xs, o, n, e, k a o ho hc, hc, hd, i⟩
theorem lexTI (c : Bool) {xs ys : List Value} {ns ms : List Int} (i : Nat) (hx : IntsAre xs ns) (hy : IntsAre ys ms) {Q : Bool → Shared → Prop} (h : Q (HT.lexLt ns ms) s) :
    PySem.W.KatLex prog w A c (decide (xs.length < ys.length)) Q (xs.zip ys) i s := by
  induction hx generalizing ys ms i with
  | nil =>
    cases hy with
    | nil =>
      exact PySem.W.kat_nil (by simpa [HT.lexLt] using h)
    | cons q u hy =>
      exact PySem.W.kat_nil (by simpa [HT.lexLt] using h)
  | @cons p t xs ns hx ih =>
    cases hy with
    | nil => exact PySem.W.kat_nil (by simpa [HT.lexLt] using h)
    | @cons q u ys ms hy =>
      show PySem.W.KatLex prog w A c (decide (xs.length + 1 < ys.length + 1)) Q ((Value.int p t, Value.int q u) :: xs.zip ys) i s
      have ed : decide (xs.length + 1 < ys.length + 1) = decide (xs.length < ys.length) := by simp
      rw [ed]
      refine PySem.W.kat_cons (wpAny_eqBool_int ?_)
      by_cases e : p = q
      · subst e
        rw [beq_self_eq_true]
        rw [HT.lexLt_cons, if_pos rfl] at h
        exact PySem.W.kat_yes (ih (i + 1) hy h)
      · rw [show (p == q) = false from beq_eq_false_iff_ne.mpr e]
        rw [HT.lexLt_cons, if_neg e] at h
        exact PySem.W.kat_no (TS.oneLt_ints _ h)
theorem firsts_TI {h : Heap} {k : Value → List Int} : ∀ vs : List Value, (∀ v ∈ vs, IsTI h v (k v) ∧ k v ≠ []) → ∃ fs, PySem.W.KatTups h vs fs ∧ fs.length = vs.length ∧ ∀ f, f ∈ fs → ∃ n t, f = Value.int n t
  | [], _ => ⟨[], PySem.W.KatTups.nil, rfl, fun f hf => by simp at hf⟩
  | v :: vs, x => by
    obtain ⟨fs, kt, hl, hi⟩ := firsts_TI vs fun u hu => x u (List.mem_cons_of_mem _ hu)
    obtain ⟨⟨a, xs, o, n, rfl, ho, hc, hdt, i⟩, hn⟩ := x v (List.mem_cons_self ..)
    obtain ⟨y, ys, e⟩ : ∃ y ys, xs.toList = y :: ys := by
      cases q : xs.toList with
      | nil =>
        rw [q] at i
        have l := i.length
        rw [List.length_nil] at l
        exact absurd (List.eq_nil_of_length_eq_zero l.symm) hn
      | cons y ys => exact ⟨y, ys, rfl⟩
    obtain ⟨m, t, hy⟩ := i.all y (by rw [e]; exact List.mem_cons_self ..)
    refine ⟨y :: fs, PySem.W.KatTups.cons ho hc hdt ?_ kt, by simp [hl], ?_⟩
    · have z := congrArg (fun l : List Value => l[0]?) e
      simpa using z
    · intro f hf
      rcases List.mem_cons.mp hf with rfl | hf
      · exact ⟨m, t, hy⟩
      · exact hi f hf
theorem tis_sortable {a : Addr} {vs : List Value} {k : Value → List Int} (h2 : 2 ≤ vs.length) (hp : ∀ v ∈ vs, IsTI s.heap v (k v) ∧ k v ≠ []) (ha : ∀ o, s.heap.get? a = some o → o.cls ≠ .type "tuple") : SortableO prog w A s a vs fun v u => HT.lexLt (k v) (k u) := by
  intro h' keep
  have hp' : ∀ v ∈ vs, IsTI h' v (k v) ∧ k v ≠ [] := fun v hm => ⟨(hp v hm).1.keeps fun b o e c => keep b o (fun z => by subst z; exact ha o e c) e, (hp v hm).2⟩
  obtain ⟨fs, h1, hl, h3⟩ := firsts_TI vs hp'
  refine ⟨tuples' true, fun Q E hq => ?_, fun p q hm hm' => ?_⟩
  · refine PySem.W.kat_kind (T := .type "int") h1 (by omega) (fun f hm => ?_) (by rfl) ?_
    · obtain ⟨x, t, rfl⟩ := h3 f hm
      exact PySem.W.Looks.now
    · have e : (Value.type "int" != Value.type "tuple") = true := by first | decide +kernel | rfl | decide
      rw [e]
      exact hq
  · obtain ⟨x1, x2⟩ := hp' _ hm
    obtain ⟨y1, y2⟩ := hp' _ hm'
    show wpAny (model prog w) A (keyLt' (tuples' true) p.1 q.1) (fun r s' => s' = { s with heap := h' } ∧ r = HT.lexLt (k p.1) (k q.1)) (fun _ _ => False) _
    generalize hk1 : k p.1 = ns at x1 x2
    generalize hk2 : k q.1 = ms at y1 y2
    obtain ⟨b, xs, o, n, e, ho, hc, hd, i⟩ := x1
    obtain ⟨b', ys, o', n', e', ho', hc', hd', i'⟩ := y1
    rw [e, e']
    refine PySem.W.kat_lt (s := { s with heap := h' }) ho hd ho' hd' ?_
    have es : decide (xs.size < ys.size) = decide (xs.toList.length < ys.toList.length) := by simp
    rw [es]
    exact lexTI true 0 i i' ⟨rfl, rfl⟩
end
end SrtO

namespace Fb
open PySem PySem.Spec PyProof.Rows L2
/-- sorted(t), t a tuple of ints -/
def rSortedTI (K : PySem.W.Frag) : List V → Hp → VK → Prop := fun vs H Q => ∃ (a : Addr) (ns : List Int), vs = [V.ref a] ∧ SqT K H a (ns.map V.int) ∧
  ∀ (ns' : List Int) (p : Addr), ns'.Perm ns → ns'.Pairwise (· ≤ ·) → H p = none → Q (.ref p) (upd H p (.lst (ns'.map V.int)))
/-- sorted(xs), xs a list of tuples of ints, none empty: the same in some order -/
def rSortedLT (K : PySem.W.Frag) : List V → Hp → VK → Prop := fun vs H Q => ∃ (a : Addr) (xs : List V), vs = [V.ref a] ∧ SqL K H a xs ∧ (∀ x ∈ xs, ∃ t ns, x = V.ref t ∧ SqT K H t (ns.map V.int) ∧ ns ≠ []) ∧
  ∀ (ys : List V) (p : Addr), ys.Perm xs → H p = none → Q (.ref p) (upd H p (.lst ys))
section
variable {X : Cx}
theorem cr_sortedTI : CallR X (.builtin "sorted") (rSortedTI X.K) := by
  intro pins s σ H vs us Q I r h
  obtain ⟨a, ns, rfl, hs, q⟩ := h
  obtain ⟨its, rv, hl, hz⟩ := I.tuple hs
  rw [Vals.ref1 r]
  have hi := rv.ints
  refine SrtO.sorted_ordT SrtO.swo_int hl (by rw [← rv.length]; exact hz) (fun h2 h₁ a' _ _ => SrtO.ints_sortable hi h2) fun out h1 h2 => ?_
  obtain ⟨k1, k2, k3⟩ := SrtO.ints_out hi h1 h2
  obtain ⟨ep, he'⟩ := PyProof.Rows.sortedAll_at s.heap its out.toArray
  have hlen : ((out.map SrtO.iv).map V.int).length ≤ sizeLine := by
    rw [List.length_map, k2.length_eq]
    rw [List.length_map] at hz
    exact hz
  exact ⟨.ref _, upd H (s.heap.objs.size + 1) (.lst ((out.map SrtO.iv).map V.int)), I.laid (t' := s.toks) (fun _ _ => PyProof.Rows.sortedAll_old) (Nat.le_succ _) ⟨hlen, out, ep, vals_of_ints k1, he'⟩, rfl, q _ _ k2 k3 (I.hok.fresh (Nat.le_succ _))⟩
theorem cr_sortedLT : CallR X (.builtin "sorted") (rSortedLT X.K) := by
  intro pins s σ H vs us Q I r h
  obtain ⟨a, xs, rfl, hs, hx, q⟩ := h
  obtain ⟨its, rv, hl, hz⟩ := I.list hs
  rw [Vals.ref1 r]
  obtain ⟨e1, e2⟩ := refs_back rv fun x m => by
    obtain ⟨t, _, e, _⟩ := hx x m
    exact ⟨t, e⟩
  have hk : ∃ k : Value → List Int, ∀ v ∈ its, SrtO.IsTI s.heap v (k v) ∧ k v ≠ [] := by
    have hv : ∀ v, v ∈ its → ∃ ns, SrtO.IsTI s.heap v ns ∧ ns ≠ [] := fun v hv => by
      obtain ⟨t, rfl⟩ := e2 v hv
      have hm : V.ref t ∈ xs := by rw [e1]; exact List.mem_map.mpr ⟨_, hv, rfl⟩
      obtain ⟨t', ns, e, ht, hn⟩ := hx _ hm
      cases e
      obtain ⟨its2, r2, ⟨o, ho, hc, n, hd⟩, _⟩ := I.tuple ht
      exact ⟨ns, ⟨t, _, o, n, rfl, ho, hc, hd, intsAre_of r2⟩, hn⟩
    classical
    refine ⟨fun v => if h : v ∈ its then Classical.choose (hv v h) else [], fun v h => ?_⟩
    simp only [dif_pos h]
    exact Classical.choose_spec (hv v h)
  obtain ⟨k, hk⟩ := hk
  refine SrtO.sorted_ord (NtL.swo_lexL k) hl.isList (by rw [← rv.length]; exact hz) (fun h2 h₁ a' ha kk => ?_) fun out h1 h2 => ?_
  · refine SrtO.tis_sortable (s := { s with heap := h₁ }) h2 (fun v hm => ⟨(hk v hm).1.keeps fun b o e _ => (kk b o e).2, (hk v hm).2⟩) fun o e => ?_
    have e' : some o = some (seqObj "list" its.toArray 0) := e.symm.trans ha
    cases e'
    intro c
    exact absurd (Value.type.inj c) (by decide)
  · have h3 : ∀ u ∈ out, ∃ a, u = Value.ref a := fun u hu => e2 u (h2.perm.mem_iff.mp hu)
    obtain ⟨ep, he'⟩ := PyProof.Rows.sortedAll_at s.heap its out.toArray
    have hp : (out.map backV).Perm xs := by
      rw [e1]
      exact h2.perm.map backV
    exact ⟨.ref _, upd H (s.heap.objs.size + 1) (.lst (out.map backV)), I.laid (t' := s.toks) (fun _ _ => PyProof.Rows.sortedAll_old) (Nat.le_succ _) ⟨by rw [hp.length_eq]; exact hz, out, ep, vals_back h3, he'⟩, rfl, q _ _ hp (I.hok.fresh (Nat.le_succ _))⟩

/-! ### repr of data, where nothing is being shown -/
def rRepr (K : PySem.W.Frag) : List V → Hp → VK → Prop := fun vs H Q => ∃ (a : Addr) (d : PyData), vs = [V.ref a] ∧ Dp K H (.ref a) d ∧ d.showable = true ∧ d.hasDict = false ∧ d.depth ≤ 30 ∧ d.shown.length ≤ sizeLine ∧ Q (.str d.shown) H
theorem call_reprD (hg : X.A.guards = some []) (hu : X.A.units + 64 < cLine) : CallR X (.builtin "repr") (rRepr X.K) := by
  intro pins s σ H vs us Q I r h
  obtain ⟨a, d, rfl, hd, hs, hn, hdp, hz, q⟩ := h
  rw [Vals.ref1 r]
  obtain ⟨as, r1⟩ := Dp.reads I d (.ref a) (.ref a) hd rfl
  exact repr_of_reads' (h₀ := s.heap) r1 hs (PyData.noDict_hsm hn) hg (by omega) (fun _ _ e => e) (fun h' u tk hk => ⟨.str d.shown, H, I.kept hk, ⟨_, rfl⟩, q⟩) hz
theorem call_reprNone : CallR X (.builtin "repr") (fun vs H Q => vs = [V.non] ∧ Q (.str (Str.ofString "None")) H) := by
  intro pins s σ H vs us Q I r h
  obtain ⟨rfl, q⟩ := h
  obtain ⟨u, rfl, ru⟩ := vals1 r
  cases ru
  exact P.repr_of_none ⟨.str _, H, I.tok _, ⟨_, rfl⟩, q⟩
end
end Fb

/-! FbC -/
set_option maxHeartbeats 4000000
/-! Own rules of the layer: {**d, k: v}. -/
namespace Fb
open PySem PySem.Spec PyProof.Rows L2

section
variable {prog : Program} {w : World} {A : Around} {E : Value → Shared → Prop} {s : Shared}
variable {K : Type} [DecidableEq K] {knd : KeyKind prog w K}
theorem dictPut_pairs {d : Addr} {kvs : List (K × Value)} {k : K} {key v : Value} {Q : Unit → Shared → Prop} (hkey : knd.is k key = true) (hm : s.heap.DictOf knd d kvs)
    (hQ : ∀ h', h'.DictOf knd d (stored kvs k v) → Heap.SameBut d s.heap h' → Q () { s with heap := h' })
    (hsz : kvs.length ≤ sizeLine) :
    wpAny (model prog w) A (dictPut d (knd.hash k) key v) Q E s := by
  obtain ⟨o, es, ep, ho, hc, hd, hk, hp, hn⟩ := hm
  have hes : es.size ≤ sizeLine := by have e1 := hp.length; have e2 : es.toList.length = es.size := by simp
                                      omega
  unfold dictPut
  refine wpAny_bind (wpAny_dictFind_of (s := s) hkey ho hd hk ?_)
  have hidx : (es.findIdx? fun e => knd.is k e.key) = kvs.findIdx? fun kv => decide (kv.1 = k) := by
    rw [← hp.findIdx k]; obtain ⟨l⟩ := es; simp
  cases hi : es.findIdx? fun e => knd.is k e.key with
  | some i =>
    refine wpAny_updateDict (s := s) ho hd (hQ _ ⟨_, _, ep, Heap.get?_update_self _ ho (Obj.isFreed_of_dict (Obj.data_mapDict hd _)),
      hc.mapDict _, Obj.data_mapDict hd _, hk.modify _ _, ?_, ?_⟩ (Heap.SameBut.update ..))
    · rw [stored, if_pos (any_of_findIdx_some (hidx ▸ hi))]
      have hl : (es.toList.findIdx? fun e => knd.is k e.key) = some i := by rw [← hi]; obtain ⟨l⟩ := es; simp
      have := hp.modify hn hl v
      obtain ⟨l⟩ := es
      simpa using this
    · rw [stored, if_pos (any_of_findIdx_some (hidx ▸ hi)), keys_map_store]; exact hn
  | none =>
    have hnot : k ∉ kvs.map (·.1) := not_mem_of_findIdx_none (hidx ▸ hi)
    have hany : ¬ (kvs.any fun kv => decide (kv.1 = k)) = true := by
      rw [List.any_eq_true]; rintro ⟨kv, hkv, he⟩
      exact hnot (List.mem_map.mpr ⟨kv, hkv, of_decide_eq_true he⟩)
    refine wpAny_updateDictKeys (hz := hes) (s := s) ho hd (hQ _ ⟨_, _, ep + 1, Heap.get?_update_self _ ho (Obj.isFreed_of_dict (Obj.data_mapDictKeys hd _)),
      hc.mapDictKeys _, Obj.data_mapDictKeys hd _, hk.push hkey _, ?_, ?_⟩ (Heap.SameBut.update ..))
    · rw [stored, if_neg hany]
      have := hp.append hkey (knd.hash k) v
      obtain ⟨l⟩ := es
      simpa using this
    · rw [stored, if_neg hany, List.map_append, List.nodup_append]
      refine ⟨hn, by simp, ?_⟩
      intro a ha b hb
      simp only [List.map_cons, List.map_nil, List.mem_singleton] at hb
      subst hb
      exact fun e => hnot (e ▸ ha)
end

section
variable {prog : Program} {w : World} {A : Around} {E : Value → Shared → Prop} {s : Shared}
theorem pairs_at {es : List DictEntry} {kvs : List (Key × Value)} (h : Pairs (mixKind prog w) es kvs) : ∀ i, i < es.length → ∃ e kv, es[i]? = some e ∧ kvs[i]? = some kv ∧ (mixKind prog w).is kv.1 e.key = true ∧ e.val = kv.2 := by
  induction h with
  | nil => intro i hi; exact absurd hi (Nat.not_lt_zero _)
  | @cons e kv es kvs h1 h2 ht ih =>
    intro i hi
    cases i with
    | zero => exact ⟨e, kv, rfl, rfl, h1, h2⟩
    | succ i => exact ih i (Nat.lt_of_succ_lt_succ hi)
theorem hash_at {es : Array DictEntry} (hk : KeysOf (mixKind prog w) es) {i : Nat} {e : DictEntry} {k : Key} (he : es[i]? = some e) (h : (mixKind prog w).is k e.key = true) : e.hash = (mixKind prog w).hash k := by
  obtain ⟨k', h1, h2⟩ := hk e (Array.mem_of_getElem? he)
  rw [(mixKind prog w).inj _ _ _ h h1]
  exact h2
theorem len_stored {K : Type} [DecidableEq K] (kvs : List (K × Value)) (k : K) (v : Value) : (stored kvs k v).length ≤ kvs.length + 1 := by
  unfold stored
  split
  · simp
  · simp
theorem len_merged {K : Type} [DecidableEq K] : ∀ (more kvs : List (K × Value)), (merged kvs more).length ≤ kvs.length + more.length
  | [], kvs => Nat.le_refl _
  | p :: r, kvs => by
    have h1 := len_merged r (stored kvs p.1 p.2)
    have h2 := len_stored kvs p.1 p.2
    show (merged (stored kvs p.1 p.2) r).length ≤ _
    rw [List.length_cons]; omega
theorem merged_snoc {K : Type} [DecidableEq K] (kvs : List (K × Value)) (more : List (K × Value)) (p : K × Value) : merged kvs (more ++ [p]) = stored (merged kvs more) p.1 p.2 := by
  unfold merged
  rw [List.foldl_append]
  rfl
theorem merge_ok {d a : Addr} {kvs more : List (Key × Value)} {Q : Unit → Shared → Prop} (hS : (a == sysModules) = false) (hne : d ≠ a) (hd : s.heap.DictOf (mixKind prog w) d kvs) (hm : s.heap.DictOf (mixKind prog w) a more)
    (hsz : kvs.length + more.length ≤ sizeLine) (hQ : ∀ h', h'.DictOf (mixKind prog w) d (merged kvs more) → Heap.SameBut d s.heap h' → Q () { s with heap := h' }) :
    wpAny (model prog w) A (mergeMapping d (.ref a) false) Q E s := by
  have tm := hm.typeIs
  obtain ⟨oa, ea, epa, hoa, hca, hda, hka, hpa, hna⟩ := id hm
  obtain ⟨od, ed, epd, hod, hcd, hdd, hkd, hpd, hnd⟩ := id hd
  unfold mergeMapping
  refine wpAny_bind (wpAny_isInstance tm isSubtype_dict_dict ?_)
  rw [if_pos rfl]
  refine wpAny_bind (wpAny_specialOf tm F.slot_dict_iter.lookup ?_)
  refine wpAny_bind (wpAny_pure ?_)
  rw [show (some (Value.builtin "dict.__iter__") == some (Value.builtin "dict.__iter__")) = true from beq_self_eq_true _]
  dsimp only
  rw [if_neg (by rw [hS]; exact Bool.false_ne_true)]
  have keysNoRef : ∀ (es : Array DictEntry), KeysOf (mixKind prog w) es → ∀ e ∈ es.toList, ∀ r, e.key ≠ Value.ref r := fun es hk e he r z => by
    obtain ⟨k, h1, _⟩ := hk e (Array.mem_toList_iff.mp he)
    rcases keyIs_shape (k := k) (v := e.key) h1 with ⟨i, t, _, q⟩ | ⟨x, t, _, q⟩ <;> (rw [z] at q; cases q)
  have loop : wpAny (model prog w) A (do
      let size := (← dictEntries a).size
      let epoch ← dictEpoch a
      for i in List.range size do
        let some e := (← dictEntries a)[i]? | unsupported "dict.changed-during-merge"
        holding [e.key, e.val] do
          dictPut d e.hash e.key e.val
        if (← dictEpoch a) != epoch then unsupported "dict.changed-during-merge") Q E s := by
    refine wpAny_bind (wpAny_dictEntries hoa hda ?_)
    refine wpAny_bind (wpAny_dictEpoch hoa hda ?_)
    refine wpAny_bind ?_
    refine wpAny_forIn_list _
      (fun rest _ s' => ∃ h' i, s' = { s with heap := h' } ∧ rest = List.range' i (ea.size - i) ∧ i ≤ ea.size ∧ h'.DictOf (mixKind prog w) d (merged kvs (more.take i)) ∧ h'.get? a = some oa ∧ Heap.SameBut d s.heap h')
      _ ?_ ?_ _ _ ⟨s.heap, 0, rfl, by rw [List.range_eq_range']; simp, Nat.zero_le _, by simpa [merged] using hd, hoa, Heap.SameBut.refl _ _⟩
    · rintro x rest b s' ⟨h', i, rfl, hr, hi, hd', hoa', hs'⟩
      have hlt : i < ea.size := by
        rcases Nat.lt_or_ge i ea.size with h | h
        · exact h
        · rw [Nat.sub_eq_zero_of_le h] at hr; simp at hr
      obtain ⟨rfl, hrest⟩ : x = i ∧ rest = List.range' (i + 1) (ea.size - (i + 1)) := by
        have e : ea.size - i = (ea.size - (i + 1)) + 1 := by omega
        rw [e, List.range'_succ] at hr
        injection hr with h1 h2
        exact ⟨h1, h2⟩
      refine wpAny_bind (wpAny_dictEntries (s := { s with heap := h' }) hoa' hda ?_)
      obtain ⟨e, kv, e1, e2, e3, e4⟩ := pairs_at hpa x (by rw [Array.length_toList]; exact hlt)
      have e1' : ea[x]? = some e := by rw [← Array.getElem?_toList]; exact e1
      have ht : more.take (x + 1) = more.take x ++ [kv] := by rw [List.take_add_one, e2]; rfl
      have hl : more.length = ea.size := by rw [← hpa.length, Array.length_toList]
      rw [e1']
      dsimp only
      rw [hash_at hka e1' e3, e4]
      refine wpAny_bind (wpAny_holding (dictPut_pairs (s := { s with heap := h' }) e3 hd' (fun h'' hd'' sb => ?_) ?_))
      · have ha'' : h''.get? a = some oa := (sb.2 a (Ne.symm hne)).trans hoa'
        refine wpAny_bind (wpAny_dictEpoch (s := { s with heap := h'' }) ha'' hda ?_)
        rw [if_neg (by simp)]
        refine wpAny_pure ⟨h'', x + 1, rfl, hrest, hlt, ?_, ha'', hs'.trans sb⟩
        rw [ht, merged_snoc]
        exact hd''
      · have := len_merged (more.take x) kvs
        rw [List.length_take] at this
        omega
    · rintro b s' ⟨h', i, rfl, hr, hi, hd', hoa', hs'⟩
      have hin : i = ea.size := by
        rcases Nat.lt_or_ge i ea.size with h | h
        · have e : ea.size - i = (ea.size - (i + 1)) + 1 := by omega
          rw [e, List.range'_succ] at hr; exact nomatch hr
        · exact Nat.le_antisymm hi h
      refine wpAny_pure (hQ h' ?_ hs')
      have hl : more.length = ea.size := by rw [← hpa.length, Array.length_toList]
      rw [hin, ← hl, List.take_length] at hd'; exact hd'
  refine wpAny_bind (wpAny_dictEntries hod hdd ?_)
  simp only [Bool.false_eq_true, if_false]
  split
  · refine wpAny_bind (wpAny_dictEntries hoa hda ?_)
    refine wpAny_bind ?_
    rw [← Array.forIn_toList]
    refine wpAny_forIn_list _ (fun rest _ s' => s' = s ∧ ∀ e ∈ rest, ∀ r, e.key ≠ Value.ref r) _ ?_ ?_ _ _ ⟨rfl, keysNoRef ea hka⟩
    · rintro e rest b s' ⟨rfl, hk⟩
      split
      · rename_i r he
        exact absurd he (hk e List.mem_cons_self r)
      · exact wpAny_pure ⟨rfl, fun e' h' => hk e' (List.mem_cons_of_mem _ h')⟩
    · rintro b s' ⟨rfl, _⟩
      exact loop
  · exact loop
end

/-! ### {**d, k: v} -/
def tSpread (td tk tv : TE) : TE := fun σ H Q => ∀ p, H p = none → td σ (upd H p (.dK [])) fun x H1 => ∃ a kvs, x = .ref a ∧ H1 a = some (.dK kvs) ∧ a ≠ p ∧ H1 p = some (.dK []) ∧ kvs.length ≤ 1000 ∧
  ∀ q, upd H1 p (.dK (mergeK [] kvs)) q = none → tk σ (upd (upd H1 p (.dK (mergeK [] kvs))) q (.dK [])) fun y H2 => tv σ H2 fun z H3 => ∃ k, y = kV k ∧ H3 q = some (.dK []) ∧ H3 p = some (.dK (mergeK [] kvs)) ∧
    Q (.ref p) (upd (upd H3 q (.dK [(k, z)])) p (.dK (putK (mergeK [] kvs) k z)))
section
variable {X : Cx}
theorem merge_inv {pins : List (Addr × Obj)} {σ : L2.St} {H : Hp} {s : Shared} {A : Around} {E : Value → Shared → Prop} {p a : Addr} {kvs more : List (Key × V)} {Q : Unit → Shared → Prop} (I : L2.Inv X pins σ H s) (hp : H p = some (.dK kvs)) (ha : H a = some (.dK more)) (hne : a ≠ p)
    (hz : kvs.length + more.length ≤ 5000) (h : ∀ s', L2.Inv X pins σ (upd H p (.dK (mergeK kvs more))) s' → Q () s') : wpAny (model X.prog X.w) A (mergeMapping p (.ref a) false) Q E s := by
  obtain ⟨z1, lo1, vs1, r1, dd1⟩ := dk_of I.hok hp
  obtain ⟨z2, lo2, vs2, r2, dd2⟩ := dk_of I.hok ha
  have l1 : kvs.length = vs1.length := r1.length
  have l2 : more.length = vs2.length := r2.length
  refine merge_ok lo2 (Ne.symm hne) dd1 dd2 (by rw [← l1, ← l2, sizeLine_eq]; omega) fun h' dd' sb => ?_
  have he : ∃ q, h'.get? p = some q := let ⟨q, _, _, hq, _⟩ := dd'; ⟨q, hq⟩
  have hl : (mergeK kvs more).length ≤ sizeLine := by
    have := length_mergeK more kvs
    rw [sizeLine_eq]; omega
  exact h _ (d_write (t' := s.toks) I (by rw [hp]; exact True.intro) sb he (dk_new hl lo1 (r2.merge r1) dd'))
theorem pe_spread {d k v : Expr} {td tk tv : TE} {pos : Pos} (hd : PE X d td) (hk : PE X k tk) (hv : PE X v tv) : PE X (.Dict [none, some k] [d, v] pos) (tSpread td tk tv) := by
  refine ⟨fun pins s σ H Q I h => ?_⟩
  rw [arm_eval_Dict]
  refine wpAny_bind (wpAny_standAt ?_)
  have ez : (evalEachOpt [none, some k] X.env).zip ((evalEach [d, v] X.env).map fun v => do let x ← v; standAt pos; pure x) = [(none, do let x ← eval d X.env; standAt pos; pure x), (some (eval k X.env), do let x ← eval v X.env; standAt pos; pure x)] := rfl
  rw [ez]
  unfold dictDisplay
  dsimp only
  rw [List.forIn_cons]
  dsimp only
  refine wpAny_bind (wpAny_bind (wpAny_bind ?_))
  rw [if_pos (show ([] : List (Sem Value × Sem Value)).isEmpty = true from rfl)]
  refine wpAny_pure ?_
  dsimp only
  refine wpAny_bind (wpAny_alloc ?_)
  have hn := I.hok.fresh (Nat.le_refl s.heap.objs.size)
  have I1 := I.laid (a := s.heap.objs.size) (o := .dK []) (h' := s.heap.push { cls := .type "dict", data := .dict #[] }) (t' := s.toks) (fun _ _ q => Heap.get?_push_of_some _ q) (Nat.le_refl _) (dk_empty s.heap I.big)
  refine wpAny_bind (wpAny_holding (wpAny_bind (thn (hd.run pins _ σ _ _ I1 (h _ hn)) fun u s1 ⟨x, H1, I2, r1, a, kvs, ex, ha, hne, hp, hz, q1⟩ => wpAny_bind (wpAny_standAt (wpAny_pure ?_)))))
  subst ex
  obtain rfl : u = Value.ref a := r1
  refine wpAny_bind (wpAny_onRaise (wpAny_tryCatch (wpAny_onRaise (wpAny_holding (merge_inv I2 hp ha hne (by rw [List.length_nil]; omega) fun s2 I3 => ?_)))))
  refine wpAny_pure ?_
  dsimp only
  rw [List.forIn_cons]
  dsimp only
  refine wpAny_bind ?_
  rw [if_neg (by simp)]
  refine wpAny_pure ?_
  dsimp only
  rw [List.forIn_nil]
  refine wpAny_pure ?_
  dsimp only
  rw [if_neg (by simp)]
  refine wpAny_bind ?_
  have ep : ([] ++ [(eval k X.env, do let x ← eval v X.env; standAt pos; pure x)] : List (Sem Value × Sem Value)) = pairTrees [some k] [v] X.env pos := rfl
  rw [ep]
  have hn2 := I3.hok.fresh (Nat.le_refl s2.heap.objs.size)
  have I4 := I3.laid (a := s2.heap.objs.size) (o := .dK []) (h' := s2.heap.push { cls := .type "dict", data := .dict #[] }) (t' := s2.toks) (fun _ _ q => Heap.get?_push_of_some _ q) (Nat.le_refl _) (dk_empty s2.heap I3.big)
  refine wpAny_bind (wpAny_holding (wpAny_subDict (knd := mixKind X.prog X.w) (show 1 ≤ 15 from by decide) (pairTrees_cons_walk (thn (hk.run pins _ σ _ _ I4 (q1 _ hn2)) fun kv s3 ⟨y, H2, I5, r2, q2⟩ => thn (hv.run pins s3 σ H2 _ I5 q2) fun vv s4 ⟨z, H3, I6, r3, kk, ek, hq, hp3, q3⟩ => pairTrees_nil_walk ?_))))
  subst ek
  obtain ⟨rs, c, rk⟩ := carries_of (P := X.prog) (w := X.w) (kvs := [(kk, z)]) (ws := [(kv, vv)]) (.cons ⟨r2, r3⟩ .nil)
  obtain ⟨z0, lo0, vs0, r0, dd0⟩ := dk_of I6.hok hq
  cases r0
  refine ⟨rs, c, dd0, fun h' dd' sb => ?_⟩
  have he : ∃ q, h'.get? s2.heap.objs.size = some q := let ⟨q, _, _, hq, _⟩ := dd'; ⟨q, hq⟩
  have I7 := d_write (t' := s4.toks + 1) I6 (by rw [hq]; exact True.intro) sb he (dk_new (kvs := [(kk, z)]) (show 1 ≤ sizeLine from by decide) lo0 (rk.merge .nil) dd')
  have hpq : s.heap.objs.size ≠ s2.heap.objs.size := fun e => by
    rw [← e, upd_same] at hn2
    cases hn2
  refine wpAny_bind (wpAny_onRaise (wpAny_holding (merge_inv (kvs := mergeK [] kvs) (more := [(kk, z)]) I7 (by rw [upd_ne hpq]; exact hp3) upd_same (Ne.symm hpq) ?_ fun s5 I8 => ?_)))
  · have := length_mergeK kvs []
    rw [List.length_nil] at this
    show _ + 1 ≤ 5000
    omega
  · exact wpAny_pure (wpAny_pure ⟨.ref s.heap.objs.size, _, I8, rfl, q3⟩)
end
end Fb

/-! FbD -/
set_option maxHeartbeats 4000000
/-! Own rules of the layer: {a, b} == {c, d} of ints. -/
namespace Fb
open PySem PySem.Spec PyProof.Rows L2
theorem sub_set_frozen : isSubtype (.type "set") (.type "frozenset") = pure false := by rw [isSubtype_type]; kernel_rfl
theorem entry_seteq : entryFor table "set.__eq__" = some Builtin.«frozenset.__eq__» := entryFor_alias (id' := "frozenset.__eq__") (by kernel_rfl) rfl (by decide +kernel) (by kernel_rfl)
section
variable {prog : Program} {w : World} {A : Around} {E : Value → Shared → Prop} {s : Shared}
theorem quiet_int {i : Int} {t : Tok} {Q : Bool → Shared → Prop} (h : Q true s) : wpAny (model prog w) A (Builtin.Frozenset.quietEq (.int i t)) Q E s := wpAny_pure h
theorem int_elem {e : Int × Value} {k : Int} (h : (intKind prog w).is k e.2 = true) : ∃ t, e.2 = Value.int k t := Value.isInt_shape h
theorem subset_ok {a b : Addr} {S T : Int → Bool} {n m : Nat} {nm : String} {Q : Bool → Shared → Prop} (ha : s.heap.SetOf (intKind prog w) a S n) (hb : s.heap.SetOf (intKind prog w) b T m) (hnm : n = m)
    (h : ∀ r : Bool, (r = true ↔ ∀ k, S k = true → T k = true) → Q r s) : wpAny (model prog w) A (Builtin.Frozenset.subsetOf nm a b) Q E s := by
  obtain ⟨oa, ea, epa, ta, hoa, hxa, hda, hea, hma, hba, hfa, hna⟩ := id ha
  obtain ⟨ob, eb, epb, tb, hob, hxb, hdb, heb, hmb, hbb, hfb, hnb⟩ := id hb
  unfold Builtin.Frozenset.subsetOf Builtin.Frozenset.sizeOf
  refine wpAny_bind (wpAny_bind (wpAny_setEntries_of hoa hda hfa (wpAny_pure ?_)))
  refine wpAny_bind (wpAny_bind (wpAny_setEntries_of hob hdb hfb (wpAny_pure ?_)))
  rw [if_neg (by omega)]
  refine wpAny_bind (wpAny_setEpoch_of hoa hda hfa ?_)
  have hints : ∀ e ∈ ea.toList ++ eb.toList, ∃ k t, e.2 = Value.int k t := fun e he => by
    rcases List.mem_append.mp he with h | h
    · obtain ⟨⟨k, hk, _⟩, _⟩ := hea e h
      obtain ⟨t, z⟩ := int_elem hk
      exact ⟨k, t, z⟩
    · obtain ⟨⟨k, hk, _⟩, _⟩ := heb e h
      obtain ⟨t, z⟩ := int_elem hk
      exact ⟨k, t, z⟩
  unfold Builtin.Frozenset.walkUnseen
  refine wpAny_bind (wpAny_bind (wpAny_setEntries_of hoa hda hfa ?_))
  refine wpAny_bind (wpAny_setEntries_of hob hdb hfb ?_)
  refine wpAny_bind ?_
  refine wpAny_forIn_list _ (fun rest q s' => s' = s ∧ q = (none, ()) ∧ ∀ e ∈ rest, ∃ k t, e.2 = Value.int k t) _ ?_ ?_ _ _ ⟨rfl, rfl, hints⟩
  · rintro ⟨hh, x⟩ rest q s' ⟨rfl, rfl, hk⟩
    obtain ⟨k, t, ex⟩ := hk _ List.mem_cons_self
    dsimp only at ex
    subst ex
    refine wpAny_bind (quiet_int ?_)
    rw [if_neg (by decide)]
    exact wpAny_pure ⟨rfl, rfl, fun e he => hk e (List.mem_cons_of_mem _ he)⟩
  · rintro q s' ⟨e0, rfl, _⟩
    obtain rfl : s = s' := e0.symm
    refine wpAny_pure ?_
    refine wpAny_bind ?_
    refine wpAny_forIn_list _ (fun rest q s' => s' = s ∧ q = (none, ()) ∧ (∀ e ∈ rest, e ∈ ea.toList) ∧ (∀ e ∈ ea.toList, e ∉ rest → ∀ k, (intKind prog w).is k e.2 = true → T k = true)) _ ?_ ?_ _ _ ⟨rfl, rfl, fun _ h => h, fun e h h2 => absurd h h2⟩
    · rintro ⟨hh, x⟩ rest q s' ⟨e1, rfl, hin, hdone⟩
      obtain rfl : s = s' := e1.symm
      have hmem := hin _ List.mem_cons_self
      obtain ⟨⟨k, hk, hhash⟩, hsc⟩ := hea _ hmem
      have hhash' : hh = (intKind prog w).hash k := hhash
      subst hhash'
      refine wpAny_bind (wpAny_holding (wpAny_setFind_of hk hsc hb fun r hr => ?_))
      have hSk : S k = true := (hma k).mpr ⟨_, hmem, hk⟩
      cases r with
      | none =>
        rw [if_pos (by rfl)]
        refine wpAny_pure (wpAny_pure (h false ⟨fun z => absurd z (by decide), fun z => ?_⟩))
        have := z k hSk
        rw [← hr] at this
        cases this
      | some i =>
        rw [if_neg (by simp)]
        unfold Builtin.Frozenset.unchanged
        refine wpAny_bind (wpAny_bind (wpAny_setEpoch_of hoa hda hfa ?_))
        rw [if_neg (by simp)]
        refine wpAny_pure (wpAny_pure ⟨rfl, rfl, fun e he => hin e (List.mem_cons_of_mem _ he), fun e he hn j hj => ?_⟩)
        by_cases hx : e = ((intKind prog w).hash k, x)
        · subst hx
          have : j = k := (intKind prog w).inj _ _ _ hj hk
          rw [this, ← hr]
          rfl
        · exact hdone e he (fun z => by rcases List.mem_cons.mp z with z | z; exact hx z; exact hn z) j hj
    · rintro q s' ⟨e1, rfl, _, hdone⟩
      obtain rfl : s = s' := e1.symm
      refine wpAny_pure (h true ⟨fun _ k hk => ?_, fun _ => rfl⟩)
      obtain ⟨e, he, hk'⟩ := (hma k).mp hk
      exact hdone e he (by simp) k hk'
theorem seteq_ok {a b : Addr} {S T : Int → Bool} {n m : Nat} {Q : Value → Shared → Prop} (hu : A.units < cLine) (ha : s.heap.SetOf (intKind prog w) a S n) (hb : s.heap.SetOf (intKind prog w) b T m)
    (h : ∀ r : Bool, (r = true ↔ n = m ∧ ∀ k, S k = true → T k = true) → Q (.bool r) s) : wpAny (model prog w) A (compareOp .Eq (.ref a) (.ref b)) Q E s := by
  refine wpAny_richCompare_same_room (op := .Eq) ha.typeIs hb.typeIs PySem.F.slot_set_eq (wpAny_call_entry PySem.F.slot_set_eq ha.typeIs entry_seteq ?_ (PySem.F.args_set_eq_2 _ _)) hu
  obtain ⟨oa, ea, epa, ta, hoa, hxa, hda, hea, hma, hba, hfa, hna⟩ := id ha
  obtain ⟨ob, eb, epb, tb, hob, hxb, hdb, heb, hmb, hbb, hfb, hnb⟩ := id hb
  unfold Builtin.«frozenset.__eq__»
  show wpAny _ _ (Builtin.Frozenset.slot1 "__eq__" ⟨[.ref a, .ref b], []⟩ >>= _) _ _ s
  refine wpAny_bind (wpAny_pure ?_)
  dsimp only
  refine wpAny_bind ?_
  unfold Builtin.Frozenset.isAnySet
  refine wpAny_bind (wpAny_isInstance hb.typeIs sub_set_self ?_)
  refine wpAny_pure ?_
  rw [if_neg (by decide)]
  refine wpAny_bind (wpAny_pure ?_)
  refine wpAny_bind (wpAny_pure ?_)
  unfold Builtin.Frozenset.sizeOf
  refine wpAny_bind (wpAny_bind (wpAny_setEntries_of hoa hda hfa (wpAny_pure ?_)))
  refine wpAny_bind (wpAny_bind (wpAny_setEntries_of hob hdb hfb (wpAny_pure ?_)))
  refine wpAny_bind ?_
  by_cases hnm : n = m
  · rw [if_neg (by simp; omega)]
    refine wpAny_bind (wpAny_bind (wpAny_isInstance ha.typeIs sub_set_frozen (wpAny_pure ?_)))
    rw [if_neg (by decide)]
    refine subset_ok ha hb hnm fun r hr => ?_
    refine wpAny_pure ⟨_, rfl, by simp, h r ?_⟩
    rw [hr]
    exact ⟨fun z => ⟨hnm, z⟩, fun z => z.2⟩
  · rw [if_pos (by simp; omega)]
    refine wpAny_pure (wpAny_pure ⟨_, rfl, by simp, h false ?_⟩)
    exact ⟨fun z => absurd z (by decide), fun z => absurd z.1 hnm⟩
end

/-! ### a display of two ints -/
section
variable {P : Program} {w : World} {A : Around} {E : Value → Shared → Prop} {s : Shared} {D : Addr}
theorem unledI {S : Int → Bool} {n : Nat} {Q : Unit → Shared → Prop} (hS : s.heap.SetOf (intKind P w) D S n) (h : ∀ h', h'.SetOf (intKind P w) D S n → Heap.SameBut D s.heap h' → Q () { s with heap := h' }) :
    wpAny (model P w) A (setUnled D) Q E s := by
  obtain ⟨o, es, ep, t, ho, hex, hd, hel, hmem, hb, hf, hn⟩ := hS
  have hf' : ({ t with led := false } : SetTable).fits es.size = true := by cases t; exact hf
  unfold setUnled
  refine wpAny_bind (wpAny_setState_of ho hd hf ?_)
  dsimp only
  refine wpAny_storeSet_of ho hd ?_ (fits_of_scanBound hb)
  obtain ⟨_, hS⟩ := SetOf_store (knd := intKind P w) ho hex hd hel hmem hb hf'
  rw [hn] at hS
  exact h _ hS (Heap.SameBut.update s.heap D _)
theorem addI {S : Int → Bool} {n : Nat} {k : Int} {t : Tok} {Q : Bool → Shared → Prop} (hS : s.heap.SetOf (intKind P w) D S n) (hn : n < 1000)
    (h : ∀ h', h'.SetOf (intKind P w) D (fun j => S j || decide (j = k)) (if S k = true then n else n + 1) → Heap.SameBut D s.heap h' → Q (!S k) { s with heap := h', toks := s.toks + 1 }) : wpAny (model P w) A (setAdd D (.int k t)) Q E s := by
  unfold setAdd
  refine wpAny_holding (wpAny_bind ((intKind P w).pyHash (k := k) (intKind_is _ _ _ _) ?_))
  exact wpAny_setAddHashed_of (knd := intKind P w) (s := { s with toks := s.toks + 1 }) (intKind_is _ _ _ _) rfl hS (by unfold scanBound; omega) fun h' sb hS' => h h' hS' sb
end
section
variable {X : Cx}
/-- {a, b}: a new set -/
theorem display2 {pins : List (Addr × Obj)} {σ : L2.St} {H : Hp} {s : Shared} {pos : Pos} {a b : Expr} {ta tb : TE} {R : Int → Int → Hp → Prop} {Q : Value → Shared → Prop} (I : L2.Inv X pins σ H s) (ha : PE X a ta) (hb : PE X b tb) (hcd : PySem.W.kdsCode X.K X.env.code = true)
    (hp : PySem.W.kdsPlain a = true ∧ PySem.W.kdsPlain b = true) (h : ta σ H fun x H1 => tb σ H1 fun y H2 => ∃ i j, x = .int i ∧ y = .int j ∧ R i j H2) (hq : ∀ i j H2 D s', R i j H2 → L2.Inv X pins σ H2 s' → FpOk X pins H2 D → s'.heap.SetOf (intKind X.prog X.w) D (fun k => decide (k = i) || decide (k = j)) (if i = j then 1 else 2) → Q (.ref D) s') :
    wpAny (model X.prog X.w) X.A (eval (.Set [a, b] 0 pos) X.env) Q X.xe s := by
  rw [arm_eval_Set]
  refine wpAny_bind (wpAny_standAt ?_)
  refine wpAny_bind (PySem.W.kds_main I.kIn hcd fun bb => ?_)
  rw [PySem.W.kds_star [a, b] (by rw [List.all_cons, List.all_cons, hp.1, hp.2]; rfl), List.map_map]
  refine PySem.W.kds_core (ts := (evalEach [a, b] X.env).map fun t => do let v ← t; standAt pos; pure v) (road0 [a, b]) ?_ ?_ ?_ fun led => ?_
  · refine List.findIdx?_eq_none_iff.mpr fun x hx => ?_
    obtain ⟨t, _, rfl⟩ := List.mem_map.mp hx
    rfl
  · rw [List.length_map, PySem.W.kds_len]
    show 2 ≤ 30
    decide
  · rw [List.map_map]
    try rfl
  · refine PySem.W.kds_all pos [a, b] _ _ ?_
    have hn := I.hok.fresh (Nat.le_refl s.heap.objs.size)
    have fp := I.fpOk (Nat.le_refl _) hn
    generalize hob : ({ cls := .type "set", dict := none, data := .set #[] 0 (.fresh 0 0 led) } : Obj) = ob
    have hfree : ob.isFreed = false := by rw [← hob]; rfl
    have hset : ob.SetObjOf (intKind X.prog X.w) (fun _ => false) 0 := by rw [← hob]; exact setObjOf_fresh led
    have hcell : ∀ v, ob.data ≠ .cell v := fun v => by rw [← hob]; exact fun z => nomatch z
    generalize hD : s.heap.objs.size = D at hn fp ⊢
    have I0 : L2.Inv X pins σ H { s with heap := s.heap.push ob } := I.kept (t' := s.toks) fun b o e => Heap.get?_push_of_some _ e
    have hget : (s.heap.push ob).get? D = some ob := by rw [← hD]; exact Heap.get?_push_size _ hfree
    have I1 : L2.Inv X (pins ++ [(D, ob)]) σ H { s with heap := s.heap.push ob } := I0.pins_of fun p hp => by
      rcases List.mem_append.mp hp with hp | hp
      · exact I0.pin p (List.mem_append_right _ hp)
      · rcases List.mem_singleton.mp hp with rfl
        exact ⟨hget, fp.1, fp.2.1, fp.2.2.1, hcell⟩
    refine thn (ha.run _ _ σ _ _ I1 h) fun u s1 ⟨x, H1, I2, r1, q1⟩ => thn (hb.run _ s1 σ H1 _ I2 q1) fun v s2 ⟨y, H2, I3, r2, i, j, ex, ey, q⟩ => ?_
    subst ex ey
    obtain ⟨t1, rfl⟩ := r1
    obtain ⟨t2, rfl⟩ := r2
    obtain ⟨pg, ph, _, _, _⟩ := I3.pin (D, ob) (by simp)
    have S0 : s2.heap.SetOf (intKind X.prog X.w) D (fun _ => false) 0 := hset.setOf pg (by decide)
    have I4 : L2.Inv X pins σ H2 s2 := I3.unpinned
    refine PySem.W.kds_fill_cons (addI S0 (by decide) fun h1 S1 sb1 => ?_)
    refine PySem.W.kds_fill_cons (addI (s := { s2 with heap := h1, toks := s2.toks + 1 }) S1 (by simp) fun h2 S2 sb2 => ?_)
    have S3 : h2.SetOf (intKind X.prog X.w) D (fun k => decide (k = i) || decide (k = j)) (if i = j then 1 else 2) := by
      refine SetOf_congr S2 (fun k => by simp) ?_
      simp only [Bool.false_or, Bool.false_eq_true, if_false, decide_eq_true_eq]
      by_cases e : i = j
      · rw [if_pos e, if_pos e.symm]
      · rw [if_neg e, if_neg (fun z => e z.symm)]
    have go : ∀ h' : Heap, Heap.SameBut D s2.heap h' → L2.Inv X pins σ H2 { s2 with heap := h', toks := s2.toks + 1 + 1 } := fun h' sb =>
      I4.turned (it := D) (fun b o hb e => (sb.2 b hb).trans e) ph fp.2.1 fp.2.2.2.1 fp.2.2.2.2.1 fp.2.2.2.2.2
    cases hu : (displayRoad 0 [a, b] == DisplayRoad.unsure) with
    | false => exact PySem.W.kds_fill_nil rfl (hq i j H2 D _ q (go h2 (sb1.trans sb2)) ⟨ph, fp.2⟩ S3)
    | true => exact PySem.W.kds_fill_unled rfl (unledI (s := { s2 with heap := h2, toks := s2.toks + 1 + 1 }) S3 fun h3 S4 sb3 => hq i j H2 D _ q (go h3 ((sb1.trans sb2).trans sb3)) ⟨ph, fp.2⟩ S4)
/-- {a, b} == {c, d} of ints -/
def tSetEq (ta tb tc td : TE) : TE := fun σ H Q => ta σ H fun x H1 => tb σ H1 fun y H2 => ∃ i j, x = .int i ∧ y = .int j ∧ tc σ H2 fun z H3 => td σ H3 fun w H4 => ∃ k l, z = .int k ∧ w = .int l ∧
  Q (.bl (decide ((i = k ∧ j = l) ∨ (i = l ∧ j = k)))) H4
theorem pe_setEq {a b c d : Expr} {ta tb tc td : TE} {p1 p2 pos : Pos} (hu : X.A.units < cLine) (ha : PE X a ta) (hb : PE X b tb) (hc : PE X c tc) (hd : PE X d td) (hcd : PySem.W.kdsCode X.K X.env.code = true)
    (hp : PySem.W.kdsPlain a = true ∧ PySem.W.kdsPlain b = true) (hp2 : PySem.W.kdsPlain c = true ∧ PySem.W.kdsPlain d = true) :
    PE X (.Compare (.Set [a, b] 0 p1) [.Eq] [.Set [c, d] 0 p2] pos) (tSetEq ta tb tc td) := by
  refine ⟨fun pins s σ H Q I h => ?_⟩
  refine wpAny_Compare1 (display2 I ha hb hcd hp h fun i j H2 D s1 r1 I1 f1 S1 => ?_) (nobehind _ (by decide) (by decide))
  obtain ⟨o, es, ep, t, ho, hex, hdt, hel, hmem, hbd, hf, hn⟩ := id S1
  have I2 : L2.Inv X (pins ++ [(D, o)]) σ H2 s1 := I1.pins_of fun p hp => by
    rcases List.mem_append.mp hp with hp | hp
    · exact I1.pin p (List.mem_append_right _ hp)
    · rcases List.mem_singleton.mp hp with rfl
      exact ⟨ho, f1.1, f1.2.1, f1.2.2.1, fun v z => by rw [hdt] at z; cases z⟩
  refine display2 I2 hc hd hcd hp2 r1 fun k l H4 D2 s2 r2 I3 f2 S2 => ?_
  obtain ⟨pg, _⟩ := I3.pin (D, o) (by simp)
  have S3 : s2.heap.SetOf (intKind X.prog X.w) D (fun z => decide (z = i) || decide (z = j)) (if i = j then 1 else 2) := ⟨o, es, ep, t, pg, hex, hdt, hel, hmem, hbd, hf, hn⟩
  refine seteq_ok hu S3 S2 fun r hr => ⟨.bl r, H4, I3.unpinned, rfl, ?_⟩
  have er : decide ((i = k ∧ j = l) ∨ (i = l ∧ j = k)) = r := by
    have hS : (∀ z : Int, (decide (z = i) || decide (z = j)) = true → (decide (z = k) || decide (z = l)) = true) ↔ (i = k ∨ i = l) ∧ (j = k ∨ j = l) := by
      simp only [Bool.or_eq_true, decide_eq_true_eq]
      exact ⟨fun z => ⟨z i (.inl rfl), z j (.inr rfl)⟩, fun z y hy => by rcases hy with rfl | rfl; exact z.1; exact z.2⟩
    rw [hS] at hr
    have hh : ((i = k ∧ j = l) ∨ (i = l ∧ j = k)) ↔ r = true := by
      rw [hr]
      by_cases e1 : i = j <;> by_cases e2 : k = l <;> simp only [e1, e2, if_true, if_false, true_and] <;> omega
    cases r with
    | true => exact decide_eq_true (hh.mpr rfl)
    | false => exact decide_eq_false fun z => by cases hh.mp z
  rw [← er]
  exact r2
end
end Fb

/-! FbE -/
set_option maxHeartbeats 8000000
/-! Own rules of the layer: set(list of ints), f(k = v) without positional arguments, defs that show data (FnG). -/
namespace Fb
open PySem PySem.Spec PyProof.Rows L2

/-! ### set(xs), xs a list of ints -/
abbrev eSet (w : World) : Obj := { cls := .type "set", dict := none, data := .set #[] 0 (.fresh 0 0 (!w.params.followText "set-order")) }
section
variable {P : Program} {w : World} {A : Around} {E : Value → Shared → Prop} {s : Shared}
theorem set_of_list {l : Addr} {items : Array Value} (ns : List Int) {Q : Value → Shared → Prop} (hh : A.handled = none) (hl : s.heap.IsList l items) (hit : IntsAre items.toList ns) (hb : ns.length + 1 < scanBound)
    (h : ∀ (h' : Heap) (tk c : Nat), SetR w h' s.heap.objs.size (fun j => decide (j ∈ ns)) c → c ≤ ns.length → (∀ b o, s.heap.get? b = some o → h'.get? b = some o) → Q (.ref s.heap.objs.size) { s with heap := h', toks := tk }) :
    wpAny (model P w) A (call (.type "set") [.ref l]) Q E s := by
  have hn : items.size = ns.length := by
    have q := IntsAre.length hit
    rw [Array.length_toList] at q
    exact q
  have hval : ∀ (i : Nat) (v : Value), items[i]? = some v → ∃ k t, ns[i]? = some k ∧ v = .int k t := fun i v hv => by
    have hi : i < ns.length := by rw [← hn]; exact (Array.getElem?_eq_some_iff.mp hv).1
    obtain ⟨t, e⟩ := IntsAre.int_at hit i v (by rw [Array.getElem?_toList]; exact hv)
    exact ⟨ns[i], t, List.getElem?_eq_getElem hi, by rw [e, List.getD_eq_getElem?_getD, List.getElem?_eq_getElem hi]; rfl⟩
  obtain ⟨cc, tl, hmro⟩ := F.called_set.mro
  have q1 := F.called_set.made
  have q2 := F.called_set.sub
  refine wpAny_call (codeAny_of_tree ?_)
  show wpAny _ _ (callAny (.type "set") _) _ _ _
  refine wpAny_pure ⟨Code.quiet_builtin _ (by decide +kernel), codeAny_builtin F.entry_type_call ?_⟩
  rw [Around.under_plain (weight_type_call_type "set" [.ref l] []) rfl]
  have q3 := F.called_set.notType
  have q4 := F.called_set.canCreate
  have q5 := F.typeCall_set_1 (.ref l)
  repeat (any_goals (first | assumption | wp_step))
  generalize hS0 : s.heap.objs.size = S
  have hget : (s.heap.push (eSet w)).get? S = some (eSet w) := by rw [← hS0]; exact Heap.get?_push_size _ rfl
  refine codeAny_mono (code_set_led1 (.ref l) (E := E) (Q₁ := fun obj s₁ => obj = .ref S ∧ s₁ = { s with heap := s.heap.push (eSet w) }) ⟨by rw [hS0], rfl⟩) fun r s₁ hr => ?_
  cases r with
  | error e => exact hr
  | ok fl =>
    cases fl with
    | ret obj =>
      obtain ⟨rfl, rfl⟩ := hr
      have hT : Shared.TypeIs { s with heap := s.heap.push (eSet w) } (.ref S) "set" := ⟨_, hget, rfl⟩
      have hli := F.called_set.init.lookup
      have hbi := F.called_set.init.bind (.ref S)
      repeat (any_goals (first | assumption | wp_step))
      refine codeAny_mono (codeAny_call_builtin (R := wants (fun r s₂ => r = .none ∧ ∃ h' tk c, s₂ = { s with heap := h', toks := tk } ∧ SetR w h' S (fun j => decide (j ∈ ns)) c ∧ c ≤ ns.length ∧
          (∀ b o, s.heap.get? b = some o → h'.get? b = some o)) E) F.called_set.init.plain F.entry_set_init (check_set_init_1 hT ?_)) fun r₂ s₂ hr₂ => ?_
      · obtain ⟨ol, hol, hcl, nl, hdl⟩ := hl
        obtain ⟨ocls, odict, odata, oslots⟩ := ol
        simp only at hcl hdl
        subst hcl; subst hdl
        have hol' := Heap.get?_push_of_some (eSet w) hol
        have f1 := F.sub_list_set
        have f2 := F.sub_list_frozenset
        have f3 : (Value.type "list" == Value.type "dict") = false := by decide
        have hl1 : (s.heap.push (eSet w)).IsList l items := ⟨_, hol', rfl, nl, rfl⟩
        unfold Builtin.«set.__init__» noKeywords Builtin.Frozenset.updateFrom
        generalize hPI : pyIter = PI
        wp_walk
        subst hPI
        refine wpAny_pyIter_list hl1 ?_
        refine wpAny_bind (wpAny_runValue ?_)
        have hlS : l < S := by rw [← hS0]; exact Heap.lt_size hol
        have hh3 : A.in1.in1.in1.handled = none := hh
        generalize hI : (s.heap.push (eSet w)).objs.size = I
        have hIS : I = S + 1 := by rw [← hI, Heap.size_push, hS0]
        have hSf : S ∉ [I, l] := by
          simp only [List.mem_cons, List.not_mem_nil, or_false, not_or]
          exact ⟨by rw [hIS]; exact Nat.ne_of_lt (Nat.lt_succ_self _), Nat.ne_of_gt hlS⟩
        have hst : ((s.heap.push (eSet w)).push { cls := .type "list_iterator", data := .fields #[.ref l, .int 0 0] }).IsListIter I l 0 := ⟨_, by rw [← hI]; exact Heap.get?_push_size _ rfl, rfl, rfl⟩
        have hg2 := Heap.get?_push_of_some { cls := .type "list_iterator", data := .fields #[.ref l, .int 0 0] } hget
        generalize hit2 : ({ cls := .type "list_iterator", data := .fields #[.ref l, .int 0 0] } : Obj) = iob at hst hg2
        have hI' : (Shared.heap { s with heap := s.heap.push (eSet w) }).objs.size = I := hI
        refine set_update_ints (I := I) ((Walks.list hh3 I l (by rw [hIS]; exact Nat.ne_of_lt (Nat.lt_succ_of_lt hlS)) items).toS) S hSf ns hn hb hval (items.size - 0) 0 _ (by omega) (Nat.zero_le _) ⟨hst, hl1.push _⟩ ⟨0, Nat.le_refl 0, setR_new_at hg2⟩ fun s' c' hm hc' hS' => ?_
        obtain ⟨h', g2, d', tk', os'⟩ := s'
        have eg : g2 = s.gens := hm.gens
        have ed : d' = s.drawn := hm.drawn
        have eo : os' = s.os := hm.os
        subst eg; subst ed; subst eo
        refine wpAny_pure (wpAny_pure ⟨rfl, h', tk', c', rfl, hS', by rw [← hn]; exact hc', fun b o e => ?_⟩)
        have hb0 : b < S := by rw [← hS0]; exact Heap.lt_size e
        exact hm.heap b o (by simp only [List.mem_cons, List.not_mem_nil, or_false, not_or]; exact ⟨Nat.ne_of_lt hb0, by rw [hIS]; exact Nat.ne_of_lt (Nat.lt_succ_of_lt hb0)⟩) (Heap.get?_push_of_some _ (Heap.get?_push_of_some _ e))
      · cases r₂ with
        | error e => exact hr₂
        | ok fl₂ =>
          cases fl₂ with
          | ret r =>
            obtain ⟨rfl, h', tk, c', rfl, hS', hc', hk'⟩ := hr₂
            repeat (any_goals (first | assumption | wp_step))
            have z := h h' tk c' (by rw [hS0]; exact hS') hc' hk'
            rw [hS0] at z
            exact z
          | _ => exact hr₂.elim
    | _ => exact hr.elim
end
section
variable {X : Cx}
/-- set(xs) of a list of ints -/
def rSetL (w : World) (K : PySem.W.Frag) : List V → Hp → VK → Prop := fun vs H Q => ∃ (a : Addr) (ns : List Int), vs = [V.ref a] ∧ SqL K H a (ns.map V.int) ∧ ns.length ≤ 1000 ∧
  ∀ (p : Addr) (c : Nat), c ≤ ns.length → H p = none → Q (.ref p) (upd H p (SetO w p (fun j => decide (j ∈ ns)) c))
theorem cr_setL (hc : X.calm = true) : CallR X (.type "set") (rSetL X.w X.K) := by
  intro pins s σ H vs us Q I r h
  obtain ⟨a, ns, rfl, hs, hz, q⟩ := h
  obtain ⟨its, rv, hl, _⟩ := I.list hs
  rw [Vals.ref1 r]
  have hi := rv.ints
  refine set_of_list (s := s) ns (I.ok.hd hc) hl.isList (by simpa using hi) (by unfold scanBound; omega) fun h' tk c R hcn kp => ?_
  have hn := I.hok.fresh (Nat.le_refl s.heap.objs.size)
  exact ⟨.ref s.heap.objs.size, _, I.laid (t' := tk) kp (Nat.le_refl _) (setO_new R), rfl, q _ c hcn hn⟩
end

/-! ### f(k = v, ..) without positional arguments -/
section
variable {X : Cx} {CX : CXT} {k : Nat} {f : Addr} {fd : FuncData} {ps ks : List Str} {sp : Sp} {E : XK} {x : Str} {p pos : Pos} {kws : List Keyword} {tk : TA}
variable {g : List Value → List Value → List Value} {gV : List V → List V → List V}
theorem pe_callKw (F : FnOk X.prog X.w X.K X.mg X.base CX k f fd ps sp) (hr : Room k X.A) (hg : Gl X x) (hm : X.mg x = some (.ref f)) (hk : PySem.W.keepIn X.K (.ref f) = true) (hb : KBinds X.K fd ps ks g gV) (hx : Passes CX X E)
    (hkw : PK X kws tk) (hall : (backToKw pos (keywordEach kws X.env)).all (·.1.isSome) = true := by rfl) (hks : (backToKw pos (keywordEach kws X.env)).filterMap (·.1) = ks := by rfl)
    (hdb : (x == ("__debug__" : Str)) = false := by decide)
    (hpl : ((backTo pos (starEach [] X.env)).any (·.1) || (backToKw pos (keywordEach kws X.env)).any (·.1.isNone)) = false := by rfl) :
    PE X (.Call (.Name x p) [] kws pos) (tCallK sp gV E tNil tk) := by
  refine ⟨fun pins s σ H Q I h => ?_⟩
  refine wpAny_Call_Name_kw (ld_glob I hg hm ?_ hdb)
  refine PySem.W.callWith_KW0 (h₀ := X.base) I.ok.mod.kin hk hall (thn (hkw.run pos pins s σ H _ I h) fun ws s2 ⟨zs, H2, I2, rz, q2⟩ => ⟨I2.kIn, ?_⟩) hpl
  rw [hks]
  exact run_fnk F hr hb hx I2 .nil rz q2
end
end Fb

/-! FbF -/
set_option maxHeartbeats 4000000
/-! Defs that show data (repr): called where nothing is being shown. -/
namespace Fb
open PySem PySem.Spec PyProof.Rows L2
/-- as FnOk, where nothing is being shown -/
structure FnG (P : Program) (w : World) (K : PySem.W.Frag) (mg : Str → Option Value) (base : Heap) (CX : CXT) (k : Nat) (f : Addr) (fd : FuncData) (ps : List Str) (sp : Sp) : Prop where
  len : ∀ vs H Q E, sp vs H Q E → vs.length = ps.length
  run : ∀ (A : Around) (outer : List Env) (s : Shared) (H : Hp) (args : Args) (us : List Value) (vs : List V) (Q : VK) (E : XK), A.guards = some [] → Room k A → Env0 P w K mg base A outer s H → BindsTo s fd args (ps.zip us) → Vals vs us → sp vs H Q E →
    codeAny (model P w) A (.call (.ref f) args) (CR CX outer P w H s Q E) s
section
variable {P : Program} {w : World} {K : PySem.W.Frag} {mg : Str → Option Value} {base : Heap}
theorem okG {x qual : Str} {st : Stmt} {f : Addr} {fd : FuncData} {N ps : List Str} {k : Nat} {sp : Sp} (F : Fun K x qual st f fd) (S : FnScope N ps (defScope st)) (len : ∀ vs H Q E, sp vs H Q E → vs.length = ps.length)
    (hbody : ∀ (cdv : Value) (A : Around) (outer : List Env) (s : Shared) (H : Hp) (vs : List V) (Q : VK) (E : XK), A.guards = some [] → Room k (A.deeper (envOfC qual (defScope st) s.heap.objs.size f cdv)) → PySem.W.codeIn K cdv qual = true → sp vs H Q E →
      ∃ t, PSs (cxOf CX0 P w K mg base N qual (defScope st) f cdv A outer s H E).nox (defBody st) t ∧ t { nx := fun _ H' => Q .non H', rt := Q } (start N vs) H) : FnG P w K mg base CX0 (k + 1) f fd ps sp := by
  obtain ⟨oc, od, kV, doc, pm, an, cdv, ct, osl, rfl, lk, hcd⟩ := F.ex
  refine ⟨len, fun A outer s H args us vs Q E hgu hr e0 hb r hsp => ?_⟩
  have hkp : ∀ b o, base.get? b = some o → s.heap.get? b = some o := fun b o e => (e0.bs b o e).1
  have KX := e0.mod.kin.keeps hkp
  refine codeAny_call_function hr.depth (KX _ _ lk) rfl S.co S.gen rfl (PySem.W.codeRec_of KX hcd) (hb _ _ _ _ ?_)
  refine wpAny_newFunctionEnv_cells S.kind (fun ⟨n, v⟩ hy => (S.par n (List.of_mem_zip hy).1).imp id fun q => ⟨q, PySem.W.cellsFrom_some _ _ _ (.inl q)⟩) fun env he s1 x => ?_
  subst he
  refine ⟨(e0.mod.nolimit.keeps hkp).keeps x.toInCall.keep, codeAny_func ?_⟩
  obtain ⟨t, ht, hq⟩ := hbody cdv A outer s H vs Q E hgu (hr.deeper _) hcd hsp
  refine wpAny_mono (ht.nox.run [] s1 (start N vs) H _ (inv_start S hr.hd e0 (len _ _ _ _ hsp) r x) hq) (fun fl s' hs => ?_) fun e s' hs => hs
  cases fl with
  | ret u =>
    obtain ⟨v, σ', H', J, rv, q⟩ := hs
    exact ⟨v, H', J.os, J.bare, J.base, J.hok, rv, q⟩
  | next =>
    obtain ⟨σ', H', J, q⟩ := hs
    exact ⟨V.non, H', J.os, J.bare, J.base, J.hok, rfl, q⟩
  | brk =>
    obtain ⟨_, _, _, q⟩ := hs
    exact q.elim
  | cont =>
    obtain ⟨_, _, _, q⟩ := hs
    exact q.elim
/-- the layer's rule, the code object told besides -/
theorem okC {x qual : Str} {st : Stmt} {f : Addr} {fd : FuncData} {N ps : List Str} {k : Nat} {sp : Sp} (F : Fun K x qual st f fd) (S : FnScope N ps (defScope st)) (len : ∀ vs H Q E, sp vs H Q E → vs.length = ps.length)
    (hbody : ∀ (cdv : Value) (A : Around) (outer : List Env) (s : Shared) (H : Hp) (vs : List V) (Q : VK) (E : XK), Room k (A.deeper (envOfC qual (defScope st) s.heap.objs.size f cdv)) → PySem.W.codeIn K cdv qual = true → sp vs H Q E →
      ∃ t, PSs (cxOf CX0 P w K mg base N qual (defScope st) f cdv A outer s H E).nox (defBody st) t ∧ t { nx := fun _ H' => Q .non H', rt := Q } (start N vs) H) : FnOk P w K mg base CX0 (k + 1) f fd ps sp := by
  obtain ⟨oc, od, kV, doc, pm, an, cdv, ct, osl, rfl, lk, hcd⟩ := F.ex
  refine fn_of lk hcd S len fun A outer s H vs Q E hr hsp => ?_
  obtain ⟨t, h, q⟩ := hbody cdv A outer s H vs Q E hr hcd hsp
  exact ⟨t, h.nox, q⟩
end
section
variable {X : Cx} {CX : CXT} {k : Nat} {f : Addr} {fd : FuncData} {ps : List Str} {sp : Sp} {dvs : List V} {ds : List Value} {E : XK} {x : Str} {p pos : Pos} {e : Expr} {es : List Expr} {t : TA}
theorem pe_callG (F : FnG X.prog X.w X.K X.mg X.base CX k f fd ps sp) (hgu : X.A.guards = some []) (hr : Room k X.A) (hg : Gl X x) (hm : X.mg x = some (.ref f)) (hk : PySem.W.keepIn X.K (.ref f) = true) (hb : Binds X.K fd ps ds) (hd : Vals dvs ds) (hx : Passes CX X E)
    (ha : PA X (e :: es) t) (hdb : (x == ("__debug__" : Str)) = false := by decide) (he : starEach (e :: es) X.env = (false, eval e X.env) :: starEach es X.env := by rfl) (hpl : (backTo pos (starEach es X.env)).any (·.1) = false := by rfl) :
    PE X (.Call (.Name x p) (e :: es) [] pos) (tCall sp dvs E t) := by
  refine ⟨fun pins s σ H Q I h => ?_⟩
  refine wpAny_Call_Name_kw (ld_glob I hg hm ?_ hdb)
  refine PySem.W.callWith_K (h₀ := X.base) I.ok.mod.kin hk (thn (ha.run pos pins s σ H _ I h) fun us s1 ⟨vs, H1, I1, r, q⟩ => ⟨I1.kIn, ?_⟩) he hpl
  have r2 : Vals (vs ++ dvs) (us ++ ds) := r.append hd
  have hl : (us ++ ds).length = ps.length := by rw [← r2.length]; exact F.len _ _ _ _ q
  refine wpAny_call (codeAny_mono (F.run X.A X.stack s1 H1 ⟨us, []⟩ (us ++ ds) (vs ++ dvs) Q E hgu hr I1.env0 (hb s1 us I1.kIn hl) r2 q) fun r s' hq => ?_)
  cases r with
  | error e => exact hx pins σ H1 s1 e s' I1 hq
  | ok fl =>
    cases fl with
    | ret u => exact I1.after hq
    | next => exact False.elim hq
    | brk => exact False.elim hq
    | cont => exact False.elim hq
end
theorem law_callG {P : Program} {w : World} {K : PySem.W.Frag} {mg mb : Str → Option Value} {CX : CXT} {k : Nat} {fa a : Addr} {fd : FuncData} {x : Str} {sp : Sp} {s₁ : Shared} {vs : List Value} {ns : List Int}
    (KX : K.In s₁.heap) (hns : s₁.heap.Ns mainGlobals mg) (hb : s₁.heap.Ns builtinsNs mb) (hbb : ∀ x : Str, x ≠ "__name__" → mb x = bootBuiltins x) (hlim : s₁.heap.NoLimit) (hg : s₁.gens = #[])
    (ha : s₁.heap.get? a = some { cls := .type "list", data := .seq vs.toArray }) (hi : IntsAre vs ns) (hl : ns.length ≤ sizeLine) (hr : Room k callerA)
    (F : ∀ base : Heap, K.In base → base.Ns mainGlobals mg → FnG P w K mg base CX k fa fd [x] sp) (hbind : ∀ (s : Shared) (u : Value), BindsTo s fd ⟨[u], []⟩ [(x, u)])
    (hsp : ∀ H : Hp, Only H → SqL K H a (ns.map V.int) → sp [.ref a] H (fun v _ => v = .bl true) fun _ _ _ => False)
    (hCX : ∀ H e s', CX [] H s₁ (fun _ _ _ => False) e s' → False) :
    codeAny (model P w) callerA (.call (.ref fa) ⟨[.ref a], []⟩) (fun r s' => r = .ok (.ret (.bool true)) ∧ OldK s₁.heap s'.heap ∧ s'.os = s₁.os ∧ AllBare s'.gens) s₁ := by
  have rv := vals_ints hi
  have lenV := hi.length
  -- from an abstract heap in which nothing but the script may be tracked
  have core : ∀ H : Hp, Only H → SqL K H a (ns.map V.int) → HOk P w H s₁.heap → (∀ b, H b ≠ none → b = a) → (H a ≠ none → K.lookup a = none) →
      codeAny (model P w) callerA (.call (.ref fa) ⟨[.ref a], []⟩) (fun r s' => r = .ok (.ret (.bool true)) ∧ OldK s₁.heap s'.heap ∧ s'.os = s₁.os ∧ AllBare s'.gens) s₁ := by
    intro H hO hS hok hA hK
    have base_of : ∀ {b : Addr} {o : Obj}, s₁.heap.get? b = some o → H b = none → (hidT s₁.heap H).get? b = some o := fun e n => hidT_get e n
    have noA : ∀ {b : Addr} {o : Obj} {es : Array DictEntry} {ep : Nat}, s₁.heap.get? b = some o → o.data = .dict es ep → H b = none := fun {b o es ep} e d => by
      cases q : H b with
      | none => rfl
      | some u =>
        have e' : b = a := hA b (by rw [q]; simp)
        subst e'
        rw [ha] at e; cases e
        have d' : Data.seq vs.toArray _ = Data.dict es ep := d
        cases d'
    have nsK : ∀ {b : Addr} {m : Str → Option Value}, s₁.heap.Ns b m → (hidT s₁.heap H).Ns b m := fun {b m} ⟨o, es, ep, e, d, r⟩ => ⟨o, es, ep, base_of e (noA e d), d, r⟩
    have hKb : K.In (hidT s₁.heap H) := fun b o e => base_of (KX b o e) (by
      cases q : H b with
      | none => rfl
      | some u =>
        have e' : b = a := hA b (by rw [q]; simp)
        subst e'
        rw [hK (by rw [q]; simp)] at e; cases e)
    have hM : Mod K mg (hidT s₁.heap H) := ⟨hKb, nsK hns, ⟨mb, nsK hb, hbb⟩, let ⟨mc, h1, h2⟩ := hlim; ⟨mc, nsK h1, h2⟩⟩
    have e0 : Env0 P w K mg (hidT s₁.heap H) callerA [] s₁ H := ⟨rfl, hM, fun b o e => of_hidT e, Nat.le_of_eq (hidT_size _ _), trivial, fun b hb => absurd (show b ∈ ([] : List Addr) from hb) (by simp), hok, .of_eq hg⟩
    refine codeAny_mono ((F _ hKb (nsK hns)).run callerA [] s₁ H ⟨[.ref a], []⟩ [.ref a] [.ref a] _ _ rfl hr e0 (hbind s₁ (.ref a)) (.cons rfl .nil) (hsp H hO hS)) fun r s' h => ?_
    cases r with
    | error e => exact (hCX H e s' h).elim
    | ok fl =>
      cases fl with
      | next => exact False.elim h
      | brk => exact False.elim h
      | cont => exact False.elim h
      | ret u =>
        obtain ⟨v, H', os, bare, un, hok', r', q⟩ := h
        have q' : v = .bl true := q
        subst q'
        obtain rfl : u = Value.bool true := r'
        refine ⟨rfl, OldK.of_keep fun b o e => ?_, os, bare⟩
        cases q : H b with
        | none => exact un.keep b o e q (by intro z; exact absurd (show b ∈ ([] : List Addr) from z) (by simp)) (by simp)
        | some u =>
          rcases hO b with z | ⟨ob, xs, z⟩
          · rw [q] at z; cases z
          · have z2 := un.frzs b ob _ z
            obtain ⟨e1, _⟩ := hok b _ z
            obtain ⟨e2, _⟩ := hok' b _ z2
            rw [e] at e1; cases e1
            exact e2
  cases hk : K.lookup a with
  | some o =>
    -- the script is one of the module's own objects
    have e := KX a o hk
    rw [ha] at e
    cases e
    refine core (fun _ => none) (fun _ => .inl rfl) (.inr ⟨_, vs.toArray, _, hk, rfl, rfl, rfl, by rw [List.size_toArray, lenV]; exact hl, by simpa using rv⟩) (fun b u z => by have z' : (none : Option HO) = some u := z; cases z') (fun b z => absurd rfl z) fun z => absurd rfl z
  | none =>
    refine core (fun b => if b = a then some (.frz { cls := .type "list", data := .seq vs.toArray } (.lst (ns.map V.int))) else none) (fun b => ?_) (.inl (.inr ⟨{ cls := .type "list", data := .seq vs.toArray }, if_pos rfl⟩)) (fun b u z => ?_) (fun b z => ?_) fun _ => hk
    · by_cases hb : b = a
      · exact .inr ⟨_, _, if_pos hb⟩
      · exact .inl (if_neg hb)
    · by_cases hb : b = a
      · have z' := (if_pos hb).symm.trans z
        cases z'
        subst hb
        exact ⟨ha, by rw [List.length_map]; exact hl, vs, _, rv, ha⟩
      · have z' := (if_neg hb).symm.trans z
        cases z'
    · by_cases hb : b = a
      · exact hb
      · exact absurd (if_neg hb) z

theorem walk_ofBG {l : PySem.W.OpenLaw} {n k : Nat} {q : Program} {loose : List Str} {XP : (Str → Option Value) → Heap → Prop} {YP : World → Heap → Prop} {d : DefRec} {K : Params → PySem.W.Frag} {CX : World → CXT} {sp : World → Sp} {x : Str}
    (hn : l.most = some n) (hn2 : n ≤ sizeLine) (hdf : d.params.defaults = []) (hr : Room k callerA)
    (hY : ∀ (w : World) (h : Heap), YP w h → (K w.params).In h)
    (F : ∀ (w : World) (mg : Str → Option Value) (fa : Addr) (h : Heap), (K w.params).In h → h.Ns mainGlobals mg → mg d.name = some (.ref fa) →
      ∃ fd : FuncData, (∀ (s : Shared) (u : Value), BindsTo s fd ⟨[u], []⟩ [(x, u)]) ∧
        ∀ base : Heap, (K w.params).In base → base.Ns mainGlobals mg → FnG l.prog w (K w.params) mg base (CX w) k fa fd [x] (sp w))
    (hsp : ∀ (w : World) (H : Hp) (a : Addr) (ns : List Int), ns.length ≤ n → (∀ z ∈ ns, Builtin.Int.intBits z ≤ 1048576) → Only H → SqL (K w.params) H a (ns.map V.int) → sp w [.ref a] H (fun v _ => v = .bl true) fun _ _ _ => False)
    (hCX : ∀ (w : World) (H : Hp) (s : Shared) (e : Value) (s' : Shared), CX w [] H s (fun _ _ _ => False) e s' → False) :
    PySem.W.WalkO q loose XP YP l.row.toRowW d [] (fun f vs => PySem.call f vs) := by
  refine Att.attach_callB hn hdf fun w s₀ s₁ mg mb fa o pm cd doc a vs ns G Y ho hd hcd hmg hobj hints hlen hbits hg => ?_
  obtain ⟨fd, hb, hF⟩ := F w mg fa _ (hY w _ Y) G.T.g hmg
  exact law_callG (hY w _ Y) G.T.g G.T.b G.T.builtins G.T.nolimit hg hobj hints (Nat.le_trans hlen hn2) hr hF hb (fun H hO hS => hsp w H a ns hlen hbits hO hS) fun H e s' => hCX w H s₁ e s'
end Fb

/-! FbG -/
set_option maxHeartbeats 4000000
/-! sorted(pairs, reverse=True); repr of a datum or None. -/
namespace Fb
open PySem PySem.Spec PyProof.Rows L2
/-- sorted(xs, reverse=True), xs pairs of ints (k says which): falling -/
def rSortedPR (K : PySem.W.Frag) : List V → List V → Hp → VK → Prop := fun vs zs H Q => ∃ (a : Addr) (xs : List V) (k : V → Int × Int), vs = [V.ref a] ∧ zs = [.bl true] ∧ SqL K H a xs ∧ (∀ x ∈ xs, ∃ t, x = V.ref t ∧ H t = some (.tup [.int (k x).1, .int (k x).2])) ∧
  ∀ ys p, ys.Perm xs → ys.Pairwise (fun x y => ltP k x y = false) → H p = none → Q (.ref p) (upd H p (.lst ys))
section
variable {X : Cx}
theorem cr_sortedPR : CallRK X (.builtin "sorted") [Str.ofString "reverse"] (rSortedPR X.K) := by
  intro pins s σ H vs zs us ws Q I r rz h
  obtain ⟨a, xs, k, rfl, rfl, hs, hx, q⟩ := h
  obtain ⟨its, rv, hl, hz⟩ := I.list hs
  obtain rfl := Vals.ref1 r
  obtain ⟨w1, rfl, e1⟩ := vals1 rz
  obtain rfl : w1 = Value.bool true := e1
  obtain ⟨e1, e2⟩ := refs_back rv fun x m => by
    obtain ⟨t, e, _⟩ := hx x m
    exact ⟨t, e⟩
  have hp : ∀ v ∈ its, Srt.IsPair s.heap v (k (backV v)).1 (k (backV v)).2 := fun v hv => by
    obtain ⟨t, rfl⟩ := e2 v hv
    have hm : V.ref t ∈ xs := by rw [e1]; exact List.mem_map.mpr ⟨_, hv, rfl⟩
    obtain ⟨t', e, ht⟩ := hx _ hm
    cases e
    obtain ⟨_, its2, r2, o, ho, hc, n, hd⟩ := I.hok _ _ ht
    obtain ⟨u1, u2, rfl, ri, rj⟩ := vals2 r2
    obtain ⟨t1, rfl⟩ := ri
    obtain ⟨t2, rfl⟩ := rj
    exact ⟨t, o, t1, t2, n, rfl, ho, hc, hd⟩
  refine SrtR.sorted_ordK (b := true) (fun _ => rfl) (PyProof.Rows.args_sorted_rev _ _) (fun _ => PyProof.Rows.args_list_sort_rev _ _) (SrtO.swo_lex fun u => k (backV u)) hl.isList (by rw [← rv.length]; exact hz)
    (fun h2 h₁ a' ha kk => SrtO.pairs_sortableO (s := { s with heap := h₁ }) (by omega) (fun v hm => (hp v hm).keeps fun b o e _ => (kk b o e).2) fun o e => ?_) fun out h1 h2 => ?_
  · have e' : some o = some (seqObj "list" its.toArray 0) := e.symm.trans ha
    cases e'
    intro c
    exact absurd (Value.type.inj c) (by decide)
  · have h2p : out.Perm its := h2.perm.trans (List.reverse_perm _)
    have h3 : ∀ u ∈ out.reverse, ∃ a, u = Value.ref a := fun u hu => e2 u (h2p.mem_iff.mp (List.mem_reverse.mp hu))
    have hb : (out.reverse.map backV).Perm xs := by
      rw [e1]
      exact ((List.reverse_perm _).trans h2p).map backV
    obtain ⟨ep, he'⟩ := PyProof.Rows.sortedAll_at s.heap its out.toArray.reverse
    have ea : out.reverse.toArray = out.toArray.reverse := by
      apply Array.ext'
      rw [Array.toList_reverse]
    have hsr : (out.reverse.map backV).Pairwise (fun x y => ltP k x y = false) := by
      rw [List.pairwise_map, List.pairwise_reverse]
      exact h1
    exact ⟨.ref _, upd H (s.heap.objs.size + 1) (.lst (out.reverse.map backV)), I.laid (t' := s.toks) (fun _ _ => PyProof.Rows.sortedAll_old) (Nat.le_succ _) ⟨by rw [hb.length_eq]; exact hz, out.reverse, ep, vals_back h3, by rw [ea]; exact he'⟩, rfl, q _ _ hb hsr (I.hok.fresh (Nat.le_succ _))⟩
/-- the text of None or of a list or tuple of data -/
def showV : PyData → Str
  | .none => Str.ofString "None"
  | d => d.shown
def rRep (K : PySem.W.Frag) : List V → Hp → VK → Prop := fun vs H Q => ∃ (v : V) (d : PyData), vs = [v] ∧ Dp K H v d ∧ (v = .non ∨ (∃ a, v = .ref a)) ∧ d.showable = true ∧ d.hasDict = false ∧ d.depth ≤ 30 ∧ d.shown.length ≤ sizeLine ∧ Q (.str (showV d)) H
theorem call_rep (hg : X.A.guards = some []) (hu : X.A.units + 64 < cLine) : CallR X (.builtin "repr") (rRep X.K) := by
  intro pins s σ H vs us Q I r h
  obtain ⟨v, d, rfl, hd, hv, h1, h2, h3, h4, q⟩ := h
  rcases hv with rfl | ⟨a, rfl⟩
  · cases hd
    exact call_reprNone pins s σ H _ us Q I r ⟨rfl, q⟩
  · refine call_reprD hg hu pins s σ H _ us Q I r ⟨a, d, rfl, hd, h1, h2, h3, h4, ?_⟩
    cases hd <;> exact q
end
end Fb

/-! FbH -/
set_option maxHeartbeats 4000000
/-! The row's text by places; the names that the top leaves to the builtins; calls of defs that show data, calls by name. -/
namespace Fb
open PySem PySem.Spec PyProof.Rows L2
def topS (i : Nat) : Stmt := PySem.Challenge.pw_flatbonds_k12_whole_summands.main.body.getD i (.Pass ⟨0, 0, 0, 0⟩)
/-- names that stand for the builtins -/
structure Bi (mg : Str → Option Value) (mt : Nat) : Prop where
  len : mg "len" = none
  sum : mg "sum" = none
  range : mg "range" = none
  enumerate : mg "enumerate" = none
  sorted : mg "sorted" = none
  tuple : mg "tuple" = none
  list : mg "list" = none
  set : mg "set" = none
  all : mg "all" = none
  any : mg "any" = none
  abs : mg "abs" = none
  min : mg "min" = none
  max : mg "max" = none
  int : mg "int" = none
  bool : mg "bool" = none
  repr : mg "repr" = none
  isinstance : mg "isinstance" = none
  maxl : mg "MAX_LISTED" = some (.int 1000 mt)
/-- a def that shows data and may be called by its name -/
structure CalG (P : Program) (w : World) (K : PySem.W.Frag) (mg : Str → Option Value) (base : Heap) (k : Nat) (x : Str) (sp : Sp) : Prop where
  ex : ∃ (f : Addr) (fd : FuncData) (ps : List Str), FnG P w K mg base CX0 k f fd ps sp ∧ mg x = some (.ref f) ∧ PySem.W.keepIn K (.ref f) = true ∧ Binds K fd ps []
/-- a def that may be called by its name with keywords alone -/
structure CalK (P : Program) (w : World) (K : PySem.W.Frag) (mg : Str → Option Value) (base : Heap) (k : Nat) (x : Str) (ks : List Str) (gV : List V → List V → List V) (sp : Sp) : Prop where
  ex : ∃ (f : Addr) (fd : FuncData) (ps : List Str) (g : List Value → List Value → List Value), FnOk P w K mg base CX0 k f fd ps sp ∧ mg x = some (.ref f) ∧ PySem.W.keepIn K (.ref f) = true ∧ KBinds K fd ps ks g gV
section
variable {X : Cx} {k j : Nat} {x : Str} {sp : Sp} {p pos : Pos} {e : Expr} {es : List Expr} {t : TA}
theorem pe_cG (c : CalG X.prog X.w X.K X.mg X.base k x sp) (hgu : X.A.guards = some []) (hr : Room j X.A) (hk : k ≤ j) (hg : Gl X x) (ha : PA X (e :: es) t)
    (hdb : (x == ("__debug__" : Str)) = false := by decide) (he : starEach (e :: es) X.env = (false, eval e X.env) :: starEach es X.env := by rfl) (hpl : (backTo pos (starEach es X.env)).any (·.1) = false := by rfl) :
    PE X (.Call (.Name x p) (e :: es) [] pos) (tCall sp [] C8.E0 t) := by
  obtain ⟨f, fd, ps, F, hm, kp, b⟩ := c.ex
  exact pe_callG F hgu (hr.mono hk) hg hm kp b .nil pass0 ha hdb he hpl
theorem pe_callKwC {kws : List Keyword} {tk : TA} {ks : List Str} {gV : List V → List V → List V} (c : CalK X.prog X.w X.K X.mg X.base k x ks gV sp) (hr : Room j X.A) (hk : k ≤ j) (hg : Gl X x)
    (hkw : PK X kws tk) (hall : (backToKw pos (keywordEach kws X.env)).all (·.1.isSome) = true := by rfl) (hks : (backToKw pos (keywordEach kws X.env)).filterMap (·.1) = ks := by rfl)
    (hdb : (x == ("__debug__" : Str)) = false := by decide)
    (hpl : ((backTo pos (starEach [] X.env)).any (·.1) || (backToKw pos (keywordEach kws X.env)).any (·.1.isNone)) = false := by rfl) :
    PE X (.Call (.Name x p) [] kws pos) (tCallK sp gV C8.E0 tNil tk) := by
  obtain ⟨f, fd, ps, g, F, hm, kp, b⟩ := c.ex
  exact pe_callKw F (hr.mono hk) hg hm kp b pass0 hkw hall hks hdb hpl
end
/-! the rules whose readings name the frame, the frame given: a comprehension's own world hides it -/
section
variable {X : Cx}
theorem pg_tupK (K : PySem.W.Frag) {es : List Expr} {k : Nat} {t : TGs} {n : Nat} {pos : Pos} (hc : X.calm = true) (h : PGs X es t) (hK : X.K = K := by rfl)
    (hn : (assignEach es X.env).length = n := by rfl) (hst : (assignEach es X.env).findIdx? (·.1) = none := by rfl) : PG X (.Tuple es k pos) (gTup K n t) := by
  subst hK
  exact pg_tup hc h hn hst
theorem ix_listK (K : PySem.W.Frag) (hK : X.K = K := by rfl) : IxR X (rIxL K) := by subst hK; exact ix_list
theorem ix_tupK (K : PySem.W.Frag) (hK : X.K = K := by rfl) : IxR X (rIxT K) := by subst hK; exact ix_tup
theorem op_in_seqK (K : PySem.W.Frag) (hK : X.K = K := by rfl) : OpR X (compareOp .In) (rIn K false) := by subst hK; exact op_in_seq
theorem op_notIn_seqK (K : PySem.W.Frag) (hK : X.K = K := by rfl) : OpR X (compareOp .NotIn) (rIn K true) := by subst hK; exact op_notIn_seq
theorem cr_anyK (K : PySem.W.Frag) (hc : X.calm = true) (hK : X.K = K := by rfl) : CallR X (.builtin "any") (rAny K) := by subst hK; exact cr_any hc
theorem cr_allK (K : PySem.W.Frag) (hc : X.calm = true) (hK : X.K = K := by rfl) : CallR X (.builtin "all") (rAll K) := by subst hK; exact cr_all hc
def tTru (K : PySem.W.Frag) (ta : TE) : TT := fun σ H Q => ta σ H fun x H' => ∃ k, TruV K x H' k ∧ Q k H'
theorem pt_truthK (K : PySem.W.Frag) {a : Expr} {ta : TE} (ha : PE X a ta) (he : ∀ whole, isTrue a X.env whole = (do let v ← whole; standAt a.pos; holding [v] (truthy v))) (hK : X.K = K := by rfl) :
    PT X a (tTru K ta) := by
  subst hK
  exact pt_truth ha he
theorem pi_listK (K : PySem.W.Frag) {tg l : Expr} {tl : TE} (hl : PE X l tl) (hK : X.K = K := by rfl) : PI X tg l (iList K tl) := by
  subst hK
  exact pi_list hl
end
section
variable {X : Cx}
theorem pt_setEq {a b c d : Expr} {ta tb tc td : TE} {p1 p2 pos : Pos} (hu : X.A.units < cLine) (ha : PE X a ta) (hb : PE X b tb) (hc : PE X c tc) (hd : PE X d td) (hcd : PySem.W.kdsCode X.K X.env.code = true)
    (hp : PySem.W.kdsPlain a = true ∧ PySem.W.kdsPlain b = true) (hp2 : PySem.W.kdsPlain c = true ∧ PySem.W.kdsPlain d = true) :
    PT X (.Compare (.Set [a, b] 0 p1) [.Eq] [.Set [c, d] 0 p2] pos) (tTest (tSetEq ta tb tc td)) := by
  refine ⟨fun pins s σ H Q I h => ?_⟩
  refine wpAny_isTrue_Compare1 (display2 I ha hb hcd hp h fun i j H2 D s1 r1 I1 f1 S1 => ?_) (nobehind _ (by decide) (by decide))
  obtain ⟨o, es, ep, t, ho, hex, hdt, hel, hmem, hbd, hf, hn⟩ := id S1
  have I2 : L2.Inv X (pins ++ [(D, o)]) σ H2 s1 := I1.pins_of fun p hp => by
    rcases List.mem_append.mp hp with hp | hp
    · exact I1.pin p (List.mem_append_right _ hp)
    · rcases List.mem_singleton.mp hp with rfl
      exact ⟨ho, f1.1, f1.2.1, f1.2.2.1, fun v z => by rw [hdt] at z; cases z⟩
  refine display2 I2 hc hd hcd hp2 r1 fun k l H4 D2 s2 r2 I3 f2 S2 => ?_
  obtain ⟨pg, _⟩ := I3.pin (D, o) (by simp)
  have S3 : s2.heap.SetOf (intKind X.prog X.w) D (fun z => decide (z = i) || decide (z = j)) (if i = j then 1 else 2) := ⟨o, es, ep, t, pg, hex, hdt, hel, hmem, hbd, hf, hn⟩
  obtain ⟨kk, ek, r3⟩ := r2
  refine seteq_ok hu S3 S2 fun r hr => wpAny_truthy_bool ⟨H4, I3.unpinned, ?_⟩
  have er : decide ((i = k ∧ j = l) ∨ (i = l ∧ j = k)) = r := by
    have hS : (∀ z : Int, (decide (z = i) || decide (z = j)) = true → (decide (z = k) || decide (z = l)) = true) ↔ (i = k ∨ i = l) ∧ (j = k ∨ j = l) := by
      simp only [Bool.or_eq_true, decide_eq_true_eq]
      exact ⟨fun z => ⟨z i (.inl rfl), z j (.inr rfl)⟩, fun z y hy => by rcases hy with rfl | rfl; exact z.1; exact z.2⟩
    rw [hS] at hr
    have hh : ((i = k ∧ j = l) ∨ (i = l ∧ j = k)) ↔ r = true := by
      rw [hr]
      by_cases e1 : i = j <;> by_cases e2 : k = l <;> simp only [e1, e2, if_true, if_false, true_and] <;> omega
    cases r with
    | true => exact decide_eq_true (hh.mpr rfl)
    | false => exact decide_eq_false fun z => by cases hh.mp z
  cases ek
  rw [← er]
  exact r3
end
theorem cal_of {P : Program} {w : World} {K : PySem.W.Frag} {mg : Str → Option Value} {base : Heap} {k : Nat} {x : Str} {sp : Sp} {f : Addr} {fd : FuncData} {ps : List Str}
    (F : FnOk P w K mg base CX0 k f fd ps sp) (hm : mg x = some (.ref f)) (kp : PySem.W.keepIn K (.ref f) = true) (b : Binds K fd ps []) : C8.Cal P w K mg base k x sp [] := ⟨f, fd, ps, [], F, hm, kp, b, .nil⟩
/-- parts of statements -/
abbrev lcSc : Stmt → Scope
  | .Assign _ (.ListComp _ _ sc _) _ => sc
  | st => defScope st
abbrev whBody : Stmt → List Stmt
  | .While _ b _ _ => b
  | _ => []
def gv1 : List V → List V → List V
  | [], zs => zs
  | _ :: _, _ => []
def gv2 : List V → List V → List V
  | [], zs => zs.reverse
  | _ :: _, _ => []
end Fb

/-! FbI -/
set_option maxHeartbeats 4000000
/-! Heaps without some addresses; naturals, picks and webs as they lie in a heap; comprehensions over them. -/
namespace Fb
open PySem PySem.Spec PyProof.Rows L2
/-! ### heaps -/
/-- the heap without these addresses -/
def wol (ds : List Addr) (H : Hp) : Hp := fun b => if b ∈ ds then none else H b
theorem wol_in {ds : List Addr} {H : Hp} {b : Addr} (h : b ∈ ds) : wol ds H b = none := if_pos h
theorem wol_out {ds : List Addr} {H : Hp} {b : Addr} (h : b ∉ ds) : wol ds H b = H b := if_neg h
theorem wol_le {ds : List Addr} {H : Hp} : Same (wol ds H) H := fun b o e => by
  unfold wol at e
  split at e
  · cases e
  · exact e
theorem le_wol {ds : List Addr} {G H : Hp} (h : Same G H) (hn : ∀ d ∈ ds, G d = none) : Same G (wol ds H) := fun b o e => by
  rw [wol_out]
  · exact h b o e
  · intro m
    rw [hn b m] at e
    cases e
theorem wol_mono {ds : List Addr} {G H : Hp} (h : Same G H) : Same (wol ds G) (wol ds H) := fun b o e => by
  unfold wol at e ⊢
  split at e
  · cases e
  · rename_i hb
    rw [if_neg hb]
    exact h b o e
theorem wol_upd {ds : List Addr} {H : Hp} {d : Addr} {o : HO} (h : d ∈ ds) : wol ds (upd H d o) = wol ds H := by
  funext b
  by_cases hb : b ∈ ds
  · rw [wol_in hb, wol_in hb]
  · rw [wol_out hb, wol_out hb, upd_ne (fun e => hb (by rw [e]; exact h))]
theorem wol_some {ds : List Addr} {H : Hp} {b : Addr} {o : HO} (e : wol ds H b = some o) : H b = some o ∧ b ∉ ds := by
  unfold wol at e
  split at e
  · cases e
  · rename_i hb
    exact ⟨e, hb⟩
theorem same_new {H : Hp} {q : Addr} {o : HO} (h : H q = none) : Same H (upd H q o) := fun b x e => by
  rw [upd_ne (ne_of_none e h)]
  exact e
/-- a change at an address that the smaller heap does not know -/
theorem same_at {G H : Hp} {q : Addr} {o : HO} (h : Same G H) (hn : G q = none) : Same G (upd H q o) := fun b x e => by
  rw [upd_ne (ne_of_none e hn)]
  exact h b x e
theorem _root_.L2.Same.seqT {K : PySem.W.Frag} {H H' : Hp} {a : Addr} {xs : List V} (e : Same H H') (h : SqT K H a xs) : SqT K H' a xs := by
  rcases h with (h | ⟨o, h⟩) | h
  · exact .inl (.inl (e _ _ h))
  · exact .inl (.inr ⟨o, e _ _ h⟩)
  · exact .inr h
theorem ne_lt {H : Hp} {a b : Addr} {o u : HO} (h : H a = some o) (h' : H b = some u) (d : o ≠ u) : a ≠ b := ne_of h h' d
/-! ### what lies in a heap -/
/-- naturals as ints -/
def iv (ns : List Nat) : List Int := ns.map fun n : Nat => (n : Int)
def nv (ns : List Nat) : List V := (iv ns).map V.int
theorem iv_len (ns : List Nat) : (iv ns).length = ns.length := by simp [iv]
theorem nv_len (ns : List Nat) : (nv ns).length = ns.length := by simp [nv, iv]
theorem nv_get {ns : List Nat} {i : Nat} {v : V} (h : (nv ns)[i]? = some v) : ∃ n, ns[i]? = some n ∧ v = .int (n : Int) := by
  unfold nv iv at h
  rw [List.getElem?_map, List.getElem?_map] at h
  cases e : ns[i]? with
  | none =>
    rw [e] at h
    cases h
  | some n =>
    rw [e] at h
    cases h
    exact ⟨n, rfl, rfl⟩
theorem nv_at {ns : List Nat} {i n : Nat} (h : ns[i]? = some n) : (nv ns)[i]? = some (.int (n : Int)) := by
  unfold nv iv
  rw [List.getElem?_map, List.getElem?_map, h]
  rfl
theorem iv_snoc (ns : List Nat) (n : Nat) : iv (ns ++ [n]) = iv ns ++ [(n : Int)] := by simp [iv]
theorem nv_snoc (ns : List Nat) (n : Nat) : nv (ns ++ [n]) = nv ns ++ [V.int (n : Int)] := by simp [nv, iv]
/-- things that stand by references, each with what it is -/
def rf {α : Type} (ps : List (Addr × α)) : List V := ps.map fun p => V.ref p.1
def sn {α : Type} (ps : List (Addr × α)) : List α := ps.map (·.2)
def Tg {α : Type} (R : Hp → Addr → α → Prop) (H : Hp) (ps : List (Addr × α)) : Prop := ∀ p ∈ ps, R H p.1 p.2
/-- it stays as the heap grows -/
def Mo {α : Type} (R : Hp → Addr → α → Prop) : Prop := ∀ H H' a x, Same H H' → R H a x → R H' a x
theorem Tg.mono {α : Type} {R : Hp → Addr → α → Prop} (m : Mo R) {H H' : Hp} {ps : List (Addr × α)} (e : Same H H') (h : Tg R H ps) : Tg R H' ps := fun p hp => m H H' _ _ e (h p hp)
theorem rf_len {α : Type} (ps : List (Addr × α)) : (rf ps).length = ps.length := by simp [rf]
theorem sn_len {α : Type} (ps : List (Addr × α)) : (sn ps).length = ps.length := by simp [sn]
theorem rf_get {α : Type} {ps : List (Addr × α)} {i : Nat} {v : V} (h : (rf ps)[i]? = some v) : ∃ p, ps[i]? = some p ∧ v = .ref p.1 := by
  unfold rf at h
  rw [List.getElem?_map] at h
  cases e : ps[i]? with
  | none =>
    rw [e] at h
    cases h
  | some p =>
    rw [e] at h
    cases h
    exact ⟨p, rfl, rfl⟩
theorem rf_at {α : Type} {ps : List (Addr × α)} {i : Nat} {p : Addr × α} (h : ps[i]? = some p) : (rf ps)[i]? = some (.ref p.1) := by
  unfold rf
  rw [List.getElem?_map, h]
  rfl
theorem sn_at {α : Type} {ps : List (Addr × α)} {i : Nat} {x : α} (h : (sn ps)[i]? = some x) : ∃ p, ps[i]? = some p ∧ p.2 = x := by
  unfold sn at h
  rw [List.getElem?_map] at h
  cases e : ps[i]? with
  | none =>
    rw [e] at h
    cases h
  | some p =>
    rw [e] at h
    cases h
    exact ⟨p, rfl, rfl⟩
theorem sn_get {α : Type} {ps : List (Addr × α)} {i : Nat} {p : Addr × α} (h : ps[i]? = some p) : (sn ps)[i]? = some p.2 := by
  unfold sn
  rw [List.getElem?_map, h]
  rfl
theorem rf_snoc {α : Type} (ps : List (Addr × α)) (p : Addr × α) : rf (ps ++ [p]) = rf ps ++ [V.ref p.1] := by simp [rf]
theorem sn_snoc {α : Type} (ps : List (Addr × α)) (p : Addr × α) : sn (ps ++ [p]) = sn ps ++ [p.2] := by simp [sn]
theorem mem_at {α : Type} {l : List α} {i : Nat} {x : α} (h : l[i]? = some x) : x ∈ l := List.mem_of_getElem? h
def TupOf {α : Type} (K : PySem.W.Frag) (R : Hp → Addr → α → Prop) (H : Hp) (a : Addr) (L : List α) : Prop := ∃ ps, sn ps = L ∧ SqT K H a (rf ps) ∧ Tg R H ps
def LstOf {α : Type} (K : PySem.W.Frag) (R : Hp → Addr → α → Prop) (H : Hp) (a : Addr) (L : List α) : Prop := ∃ ps, sn ps = L ∧ SqL K H a (rf ps) ∧ Tg R H ps
theorem mo_tup {α : Type} {K : PySem.W.Frag} {R : Hp → Addr → α → Prop} (m : Mo R) : Mo (TupOf K R) := fun _ _ _ _ e ⟨ps, h1, h2, h3⟩ => ⟨ps, h1, e.seqT h2, h3.mono m e⟩
theorem mo_lst {α : Type} {K : PySem.W.Frag} {R : Hp → Addr → α → Prop} (m : Mo R) : Mo (LstOf K R) := fun _ _ _ _ e ⟨ps, h1, h2, h3⟩ => ⟨ps, h1, e.seq h2, h3.mono m e⟩
/-- a tuple, a list of naturals -/
def Nts (K : PySem.W.Frag) (H : Hp) (a : Addr) (ns : List Nat) : Prop := SqT K H a (nv ns)
def Nls (K : PySem.W.Frag) (H : Hp) (a : Addr) (ns : List Nat) : Prop := SqL K H a (nv ns)
theorem mo_nts {K : PySem.W.Frag} : Mo (Nts K) := fun _ _ _ _ e h => e.seqT h
theorem mo_nls {K : PySem.W.Frag} : Mo (Nls K) := fun _ _ _ _ e h => e.seq h
/-- a pair of naturals -/
def Prs (K : PySem.W.Frag) (H : Hp) (a : Addr) (e : Nat × Nat) : Prop := SqT K H a [.int (e.1 : Int), .int (e.2 : Int)]
theorem mo_prs {K : PySem.W.Frag} : Mo (Prs K) := fun _ _ _ _ e h => e.seqT h
def Pks (K : PySem.W.Frag) := TupOf K (Nts K)
def PksL (K : PySem.W.Frag) := LstOf K (Nts K)
theorem mo_pks {K : PySem.W.Frag} : Mo (Pks K) := mo_tup mo_nts
theorem mo_pksL {K : PySem.W.Frag} : Mo (PksL K) := mo_lst mo_nts
def Web (K : PySem.W.Frag) (H : Hp) (p : Addr) (x : Nat × List (Nat × Nat)) : Prop := ∃ a, SqT K H p [.int (x.1 : Int), .ref a] ∧ TupOf K (Prs K) H a x.2
theorem mo_web {K : PySem.W.Frag} : Mo (Web K) := fun _ _ _ _ e ⟨a, h1, h2⟩ => ⟨a, e.seqT h1, mo_tup mo_prs _ _ _ _ e h2⟩
/-! ### comprehensions: what the new list holds, and the rest of the heap -/
/-- the new list at D holds acc, and Rv holds of the rest of the heap -/
def LP (D : Addr) (Rv : Nat → List V → Hp → Prop) (i : Nat) (H : Hp) : Prop := ∃ acc, H D = some (.lst acc) ∧ acc.length ≤ i ∧ Rv i acc (wol [D] H)
theorem lp_start {D : Addr} {Rv : Nat → List V → Hp → Prop} {H : Hp} (h : Rv 0 [] (wol [D] H)) : LP D Rv 0 (upd H D (.lst [])) :=
  ⟨[], upd_same, Nat.le_refl _, by rw [wol_upd (List.mem_singleton.mpr rfl)]; exact h⟩
theorem lp_put {D : Addr} {Rv : Nat → List V → Hp → Prop} {H : Hp} {i : Nat} {acc : List V} {y : V} (hD : H D = some (.lst acc)) (hl : acc.length ≤ i) (hi : i ≤ 100000) (h : Rv (i + 1) (acc ++ [y]) (wol [D] H)) :
    ∃ acc, H D = some (.lst acc) ∧ acc.length < sizeLine ∧ LP D Rv (i + 1) (upd H D (.lst (acc ++ [y]))) :=
  ⟨acc, hD, by rw [sizeLine_eq]; omega, acc ++ [y], upd_same, by rw [List.length_append]; exact Nat.succ_le_succ hl, by rw [wol_upd (List.mem_singleton.mpr rfl)]; exact h⟩
theorem lp_skip {D : Addr} {Rv : Nat → List V → Hp → Prop} {H : Hp} {i : Nat} {acc : List V} (hD : H D = some (.lst acc)) (hl : acc.length ≤ i) (h : Rv (i + 1) acc (wol [D] H)) : LP D Rv (i + 1) H :=
  ⟨acc, hD, Nat.le_succ_of_le hl, h⟩
section
variable {J : It} {n : Nat} {G : Hp → Prop} {Y : Nat → Hp → V → Hp → Prop}
/-- a comprehension whose items are told by the turn alone -/
theorem lc_acc (w : Walk J n G Y) {g : TG} {tt : TT} {te : TE} {vs : List Nat} {σ : L2.St} {H1 : Hp} {D : Addr} {Qd : Hp → Prop} (F : Nat → Option V) (hn : n ≤ 100000) (hD : H1 D = none) (hG : ∀ H, Same H1 H → G H)
    (hs : ∀ i x H H' (Ky : V → Hp → Prop) (Kn : Hp → Prop), i < n → Same H1 H → Y i H x H' → (∀ y H4, F i = some y → Same H H4 → Ky y H4) → (F i = none → ∀ H3, Same H H3 → Kn H3) →
      g x (wipe σ vs) H' fun σ2 H2 => wipe σ2 vs = wipe σ vs ∧ tt σ2 H2 fun b H3 => if b = true then te σ2 H3 Ky else Kn H3)
    (hd : ∀ H, Same H1 H → H D = some (.lst ((List.range n).filterMap F)) → Qd H) :
    ∃ W : Nat → Nat → Hp → Prop, (∃ m, W 0 m (upd H1 D (.lst []))) ∧ ∀ i m H, W i m H →
      (J.stop i H ∧ Qd H) ∨ (J.go i H ∧ ∃ Nx : Hp → Prop, (∀ H', Nx H' → ∃ m', m' < m ∧ W (i + 1) m' H') ∧ ∀ x H', J.yld i H x H' → g x (wipe σ vs) H' fun σ2 H2 => wipe σ2 vs = wipe σ vs ∧ tt σ2 H2 fun b H3 =>
        if b = true then te σ2 H3 fun y H4 => ∃ acc, H4 D = some (.lst acc) ∧ acc.length < sizeLine ∧ Nx (upd H4 D (.lst (acc ++ [y]))) else Nx H3) := by
  refine lc_it w (fun i H => Same H1 H ∧ H D = some (.lst ((List.range i).filterMap F))) ⟨same_new hD, upd_same⟩ (fun i H hi h => hG H h.1) (fun i x H H' hi ⟨s, e⟩ y => ?_) fun H h => hd H h.1 h.2
  have hl : ((List.range i).filterMap F).length < sizeLine := by
    refine Nat.lt_of_le_of_lt (List.length_filterMap_le _ _) ?_
    rw [List.length_range, sizeLine_eq]
    omega
  have es : (List.range (i + 1)).filterMap F = (List.range i).filterMap F ++ (F i).toList := by
    rw [List.range_succ, List.filterMap_append]
    cases hF : F i with
    | none => simp [hF]
    | some v => simp [hF]
  refine hs i x H H' _ _ hi s y (fun z H4 hF s4 => ⟨_, s4 _ _ e, hl, ?_, ?_⟩) (fun hF H3 s3 => ⟨s.trans s3, ?_⟩)
  · exact same_at (s.trans s4) hD
  · rw [upd_same, es, hF]
    rfl
  · rw [es, hF]
    show H3 D = some (.lst (_ ++ []))
    rw [List.append_nil]
    exact s3 _ _ e
end
theorem walk_rngN {n : Nat} : Walk (Itr 0 ((n : Nat) : Int).toNat) n (fun _ => True) (YFn fun i => .int ((i : Nat) : Int)) := by
  rw [Int.toNat_natCast]
  refine (walk_range (lo := 0) (n := n)).mono (fun _ h => h) fun i H x H' _ _ y => ⟨y.1, ?_⟩
  rw [y.2]
  show V.int (0 + (i : Int)) = V.int (i : Int)
  rw [Int.zero_add]
/-! ### operators on naturals -/
theorem shl_one (n : Nat) : (1 : Int) * 2 ^ ((n : Nat) : Int).toNat = ((2 ^ n : Nat) : Int) := by
  rw [Int.toNat_natCast, Int.one_mul]
  push_cast
  rfl
theorem xor_and_add : ∀ a b : Nat, (a ^^^ b) + 2 * (a &&& b) = a + b := by
  intro a
  induction a using Nat.strongRecOn with
  | _ a ih =>
    intro b
    by_cases h0 : a = 0
    · subst h0
      simp
    · have h := ih (a / 2) (by omega) (b / 2)
      have e1 : (a ^^^ b) / 2 = a / 2 ^^^ b / 2 := Nat.eq_of_testBit_eq fun i => by simp [← Nat.testBit_succ]
      have e2 : (a &&& b) / 2 = a / 2 &&& b / 2 := Nat.eq_of_testBit_eq fun i => by simp [← Nat.testBit_succ]
      have m1 : (a ^^^ b) % 2 = (a % 2 + b % 2) % 2 := by
        have e : (a ^^^ b) % 2 = if (a ^^^ b).testBit 0 then 1 else 0 := by
          rw [Nat.testBit_zero]
          by_cases h : (a ^^^ b) % 2 = 1
          · simp [h]
          · have : (a ^^^ b) % 2 = 0 := by omega
            simp [this]
        rw [e, Nat.testBit_xor, Nat.testBit_zero, Nat.testBit_zero]
        rcases Nat.mod_two_eq_zero_or_one a with h1 | h1 <;> rcases Nat.mod_two_eq_zero_or_one b with h2 | h2 <;> simp [h1, h2]
      have m2 : (a &&& b) % 2 = (a % 2) * (b % 2) := by
        have e : (a &&& b) % 2 = if (a &&& b).testBit 0 then 1 else 0 := by
          rw [Nat.testBit_zero]
          by_cases h : (a &&& b) % 2 = 1
          · simp [h]
          · have : (a &&& b) % 2 = 0 := by omega
            simp [this]
        rw [e, Nat.testBit_and, Nat.testBit_zero, Nat.testBit_zero]
        rcases Nat.mod_two_eq_zero_or_one a with h1 | h1 <;> rcases Nat.mod_two_eq_zero_or_one b with h2 | h2 <;> simp [h1, h2]
      rcases Nat.mod_two_eq_zero_or_one a with h1 | h1 <;> rcases Nat.mod_two_eq_zero_or_one b with h2 | h2 <;> simp only [h1, h2] at m1 m2 <;> omega
theorem xor_nat (a b : Nat) : Builtin.bitXor (a : Int) (b : Int) = ((a ^^^ b : Nat) : Int) := by
  have h := xor_and_add a b
  rw [bitXor_and, bitAnd_pp (Int.natCast_nonneg a) (Int.natCast_nonneg b), Int.toNat_natCast, Int.toNat_natCast]
  omega
section
variable {X : Cx}
def rAddN : R2 := fun x y H Q => ∃ a b : Nat, x = .int (a : Int) ∧ y = .int (b : Int) ∧ Q (.int ((a + b : Nat) : Int)) H
def rSubN : R2 := fun x y H Q => ∃ a b : Nat, x = .int (a : Int) ∧ y = .int (b : Int) ∧ b ≤ a ∧ Q (.int ((a - b : Nat) : Int)) H
def rMulN : R2 := fun x y H Q => ∃ a b k l : Nat, x = .int (a : Int) ∧ y = .int (b : Int) ∧ a < 2 ^ k ∧ b < 2 ^ l ∧ k + l ≤ 134217000 ∧ Q (.int ((a * b : Nat) : Int)) H
def rDivN : R2 := fun x y H Q => ∃ a b : Nat, x = .int (a : Int) ∧ y = .int (b : Int) ∧ 0 < b ∧ b < 2 ^ 100 ∧ Q (.int ((a / b : Nat) : Int)) H
def rModN : R2 := fun x y H Q => ∃ a b : Nat, x = .int (a : Int) ∧ y = .int (b : Int) ∧ 0 < b ∧ Q (.int ((a % b : Nat) : Int)) H
def rXorN : R2 := fun x y H Q => ∃ a b : Nat, x = .int (a : Int) ∧ y = .int (b : Int) ∧ Q (.int ((a ^^^ b : Nat) : Int)) H
def rAndN : R2 := fun x y H Q => ∃ a b : Nat, x = .int (a : Int) ∧ y = .int (b : Int) ∧ Q (.int ((a &&& b : Nat) : Int)) H
def rShrN : R2 := fun x y H Q => ∃ a b : Nat, x = .int (a : Int) ∧ y = .int (b : Int) ∧ Q (.int ((a / 2 ^ b : Nat) : Int)) H
def rShl1 : R2 := fun x y H Q => ∃ b : Nat, x = .int 1 ∧ y = .int (b : Int) ∧ b ≤ 1000000 ∧ Q (.int ((2 ^ b : Nat) : Int)) H
def rLtN : R2 := fun x y H Q => ∃ a b : Nat, x = .int (a : Int) ∧ y = .int (b : Int) ∧ Q (.bl (decide (a < b))) H
def rLeN : R2 := fun x y H Q => ∃ a b : Nat, x = .int (a : Int) ∧ y = .int (b : Int) ∧ Q (.bl (decide (a ≤ b))) H
def rEqN : R2 := fun x y H Q => ∃ a b : Nat, x = .int (a : Int) ∧ y = .int (b : Int) ∧ Q (.bl (decide (a = b))) H
def rNeN : R2 := fun x y H Q => ∃ a b : Nat, x = .int (a : Int) ∧ y = .int (b : Int) ∧ Q (.bl (!decide (a = b))) H
def rGtN : R2 := fun x y H Q => ∃ a b : Nat, x = .int (a : Int) ∧ y = .int (b : Int) ∧ Q (.bl (decide (b < a))) H
def rGeN : R2 := fun x y H Q => ∃ a b : Nat, x = .int (a : Int) ∧ y = .int (b : Int) ∧ Q (.bl (decide (b ≤ a))) H
theorem dec_congr {p q : Prop} [Decidable p] [Decidable q] (h : p ↔ q) : decide p = decide q := by
  by_cases hp : p
  · rw [decide_eq_true hp, decide_eq_true (h.mp hp)]
  · rw [decide_eq_false hp, decide_eq_false fun z => hp (h.mpr z)]
theorem bits_lt {a k : Nat} (h : a < 2 ^ k) : Builtin.Int.intBits (a : Int) ≤ k := by
  unfold Builtin.Int.intBits
  by_cases h0 : a = 0
  · simp [h0]
  · have h1 : a.log2 < k := (Nat.log2_lt h0).mpr h
    simp [h0]
    omega
theorem op_addN : OpR X (binaryOp .Add) rAddN := fun pins s σ H x y v u Q I rx ry ⟨a, b, e1, e2, q⟩ => op_add pins s σ H x y v u Q I rx ry ⟨a, b, e1, e2, (by
  show Q (.int ((a : Int) + (b : Int))) H
  rw [← Int.natCast_add]
  exact q)⟩
theorem op_subN : OpR X (binaryOp .Sub) rSubN := fun pins s σ H x y v u Q I rx ry ⟨a, b, e1, e2, h, q⟩ => op_sub pins s σ H x y v u Q I rx ry ⟨a, b, e1, e2, (by
  show Q (.int ((a : Int) - (b : Int))) H
  rw [← Int.natCast_sub h]
  exact q)⟩
theorem op_mulN : OpR X (binaryOp .Mult) rMulN := fun pins s σ H x y v u Q I rx ry ⟨a, b, k, l, e1, e2, h1, h2, h3, q⟩ => op_mulX pins s σ H x y v u Q I rx ry ⟨a, b, e1, e2, (by
  have b1 := bits_lt h1
  have b2 := bits_lt h2
  show (Builtin.Int.intBits (a : Int) : Int) + (Builtin.Int.intBits (b : Int) : Int) ≤ 134217728
  omega), (by
  show Q (.int ((a : Int) * (b : Int))) H
  rw [← Int.natCast_mul]
  exact q)⟩
theorem op_divN : OpR X (binaryOp .FloorDiv) rDivN := fun pins s σ H x y v u Q I rx ry ⟨a, b, e1, e2, h, h2, q⟩ => op_fdivW pins s σ H x y v u Q I rx ry ⟨a, b, e1, e2, ⟨by omega, by
  rw [Int.natAbs_natCast]
  exact Nat.lt_of_lt_of_le ((Nat.log2_lt (by omega)).mpr h2) (by decide)⟩, (by
  show Q (.int ((a : Int) / (b : Int))) H
  rw [← Int.natCast_ediv]
  exact q)⟩
theorem op_modNat : OpR X (binaryOp .Mod) rModN := fun pins s σ H x y v u Q I rx ry ⟨a, b, e1, e2, h, q⟩ => op_modN pins s σ H x y v u Q I rx ry ⟨a, b, e1, e2, by omega, (by
  show Q (.int ((a : Int).fmod (b : Int))) H
  rw [Int.fmod_eq_emod_of_nonneg _ (Int.natCast_nonneg b), ← Int.natCast_emod]
  exact q)⟩
theorem op_xorN : OpR X (binaryOp .BitXor) rXorN := fun pins s σ H x y v u Q I rx ry ⟨a, b, e1, e2, q⟩ => op_xor pins s σ H x y v u Q I rx ry ⟨a, b, e1, e2, (by
  show Q (.int (Builtin.bitXor (a : Int) (b : Int))) H
  rw [xor_nat]
  exact q)⟩
theorem op_andN : OpR X (binaryOp .BitAnd) rAndN := fun pins s σ H x y v u Q I rx ry ⟨a, b, e1, e2, q⟩ => op_and pins s σ H x y v u Q I rx ry ⟨a, b, e1, e2, (by
  show Q (.int (Builtin.bitAnd (a : Int) (b : Int))) H
  rw [bitAnd_pp (Int.natCast_nonneg a) (Int.natCast_nonneg b), Int.toNat_natCast, Int.toNat_natCast]
  exact q)⟩
theorem op_shrN : OpR X (binaryOp .RShift) rShrN := fun pins s σ H x y v u Q I rx ry ⟨a, b, e1, e2, q⟩ => op_shr pins s σ H x y v u Q I rx ry ⟨a, b, e1, e2, Int.natCast_nonneg b, (by
  show Q (.int ((a : Int) / 2 ^ ((b : Nat) : Int).toNat)) H
  rw [Int.toNat_natCast]
  have : (a : Int) / 2 ^ b = ((a / 2 ^ b : Nat) : Int) := by
    rw [Int.natCast_ediv]
    push_cast
    rfl
  rw [this]
  exact q)⟩
theorem op_shl1 : OpR X (binaryOp .LShift) rShl1 := fun pins s σ H x y v u Q I rx ry ⟨b, e1, e2, h, q⟩ => op_shl pins s σ H x y v u Q I rx ry ⟨1, b, e1, e2, ⟨by omega, by omega, by decide⟩, (by
  show Q (.int (1 * 2 ^ ((b : Nat) : Int).toNat)) H
  rw [shl_one]
  exact q)⟩
theorem op_ltN : OpR X (compareOp .Lt) rLtN := fun pins s σ H x y v u Q I rx ry ⟨a, b, e1, e2, q⟩ => op_lt pins s σ H x y v u Q I rx ry ⟨a, b, e1, e2, (by
  show Q (.bl (decide ((a : Int) < (b : Int)))) H
  rw [dec_congr (show (a : Int) < (b : Int) ↔ a < b by omega)]
  exact q)⟩
theorem op_leN : OpR X (compareOp .LtE) rLeN := fun pins s σ H x y v u Q I rx ry ⟨a, b, e1, e2, q⟩ => op_le pins s σ H x y v u Q I rx ry ⟨a, b, e1, e2, (by
  show Q (.bl (decide ((a : Int) ≤ (b : Int)))) H
  rw [dec_congr (show (a : Int) ≤ (b : Int) ↔ a ≤ b by omega)]
  exact q)⟩
theorem op_gtN : OpR X (compareOp .Gt) rGtN := fun pins s σ H x y v u Q I rx ry ⟨a, b, e1, e2, q⟩ => op_gt pins s σ H x y v u Q I rx ry ⟨a, b, e1, e2, (by
  show Q (.bl (decide ((b : Int) < (a : Int)))) H
  rw [dec_congr (show (b : Int) < (a : Int) ↔ b < a by omega)]
  exact q)⟩
theorem op_geN : OpR X (compareOp .GtE) rGeN := fun pins s σ H x y v u Q I rx ry ⟨a, b, e1, e2, q⟩ => op_ge pins s σ H x y v u Q I rx ry ⟨a, b, e1, e2, (by
  show Q (.bl (decide ((b : Int) ≤ (a : Int)))) H
  rw [dec_congr (show (b : Int) ≤ (a : Int) ↔ b ≤ a by omega)]
  exact q)⟩
theorem op_eqN : OpR X (compareOp .Eq) rEqN := fun pins s σ H x y v u Q I rx ry ⟨a, b, e1, e2, q⟩ => op_eq pins s σ H x y v u Q I rx ry (by
  subst e1 e2
  refine ⟨rfl, ?_⟩
  rw [dec_congr (show V.int (a : Int) = V.int (b : Int) ↔ a = b from ⟨fun z => Int.ofNat.inj (V.int.inj z), fun z => by rw [z]⟩)]
  exact q)
theorem op_neN : OpR X (compareOp .NotEq) rNeN := fun pins s σ H x y v u Q I rx ry ⟨a, b, e1, e2, q⟩ => op_ne pins s σ H x y v u Q I rx ry (by
  subst e1 e2
  refine ⟨rfl, ?_⟩
  rw [dec_congr (show V.int (a : Int) = V.int (b : Int) ↔ a = b from ⟨fun z => Int.ofNat.inj (V.int.inj z), fun z => by rw [z]⟩)]
  exact q)
theorem call_minN (hc : X.calm = true) : CallR X (.builtin "min") (fun xs H Q => ∃ a b : Nat, xs = [.int (a : Int), .int (b : Int)] ∧ Q (.int ((min a b : Nat) : Int)) H) := fun pins s σ H xs us Q I r ⟨a, b, e, q⟩ => call_min2 hc pins s σ H xs us Q I r ⟨a, b, e, (by
  have : (if (b : Int) < (a : Int) then (b : Int) else (a : Int)) = ((min a b : Nat) : Int) := by
    split <;> omega
  rw [this]
  exact q)⟩
theorem call_maxN (hc : X.calm = true) : CallR X (.builtin "max") (fun xs H Q => ∃ a b : Nat, xs = [.int (a : Int), .int (b : Int)] ∧ Q (.int ((max a b : Nat) : Int)) H) := fun pins s σ H xs us Q I r ⟨a, b, e, q⟩ => call_max2 hc pins s σ H xs us Q I r ⟨a, b, e, (by
  have : (if (b : Int) > (a : Int) then (b : Int) else (a : Int)) = ((max a b : Nat) : Int) := by
    split <;> omega
  rw [this]
  exact q)⟩
theorem call_absN : CallR X (.builtin "abs") (fun xs H Q => ∃ i : Int, xs = [.int i] ∧ Q (.int ((i.natAbs : Nat) : Int)) H) := fun pins s σ H xs us Q I r ⟨i, e, q⟩ => call_abs pins s σ H xs us Q I r ⟨i, e, (by
  have : (if i < 0 then -i else i) = ((i.natAbs : Nat) : Int) := by
    split <;> omega
  rw [this]
  exact q)⟩
def rInN (K : PySem.W.Frag) (neg : Bool) : R2 := fun x y H Q => ∃ (p : Addr) (ns : List Nat) (n : Nat), y = .ref p ∧ x = .int (n : Int) ∧ (SqL K H p (nv ns) ∨ SqT K H p (nv ns)) ∧ Q (.bl (if neg then !decide (n ∈ ns) else decide (n ∈ ns))) H
theorem inV_nv (n : Nat) : ∀ ns : List Nat, inV (.int (n : Int)) (nv ns) = decide (n ∈ ns)
  | [] => rfl
  | m :: ns => by
    have ih := inV_nv n ns
    unfold inV at ih ⊢
    show (((m : Int) == (n : Int)) || (nv ns).any fun y => eqV y (.int (n : Int))) = _
    rw [ih]
    by_cases e : n = m
    · subst e
      simp
    · have : ¬ (m : Int) = (n : Int) := fun z => e (Int.ofNat.inj z).symm
      simp [e, this]
theorem flat_nv (ns : List Nat) : (nv ns).all flatV = true := by
  unfold nv
  rw [List.all_map]
  exact List.all_eq_true.mpr fun _ _ => rfl
theorem op_inN (K : PySem.W.Frag) (hK : X.K = K := by rfl) : OpR X (compareOp .In) (rInN K false) := by
  subst hK
  exact fun pins s σ H x y v u Q I rx ry ⟨p, ns, n, e1, e2, h, q⟩ => op_in_seq pins s σ H x y v u Q I rx ry ⟨p, _, e1, h, by rw [e2]; rfl, flat_nv ns, by
    rw [e2, inV_nv]
    exact q⟩
theorem op_notinN (K : PySem.W.Frag) (hK : X.K = K := by rfl) : OpR X (compareOp .NotIn) (rInN K true) := by
  subst hK
  exact fun pins s σ H x y v u Q I rx ry ⟨p, ns, n, e1, e2, h, q⟩ => op_notIn_seq pins s σ H x y v u Q I rx ry ⟨p, _, e1, h, by rw [e2]; rfl, flat_nv ns, by
    rw [e2, inV_nv]
    exact q⟩
/-- a list or a tuple, walked; it is as G knows it -/
def iSeq (K : PySem.W.Frag) (tl : TE) : TI := fun σ H R => tl σ H fun x H1 => ∃ a xs G, x = .ref a ∧ Same G H1 ∧ (SqL K G a xs ∨ SqT K G a xs) ∧ ∀ J Gd, Walk J xs.length Gd (YAt xs) → (∀ H', Same G H' → Gd H') → R J H1
theorem pi_seq {tg l : Expr} {tl : TE} (hl : PE X l tl) : PI X tg l (iSeq X.K tl) := by
  refine ⟨fun pins s σ H R I h => ?_⟩
  refine thn (hl.run pins s σ H _ I h) fun v s1 ⟨x, H1, I1, r1, q1⟩ => ?_
  obtain ⟨a, xs, G, e, sm, hq, q⟩ := q1
  subst e
  cases r1
  rcases hq with hq | hq
  · obtain ⟨its, rv, p, hz⟩ := I1.list (sm.seq hq)
    refine wpAny_pyIter_list p.isList ?_
    refine ⟨s1.heap.objs.size, [s1.heap.objs.size], _, _, H1, rfl, I1.kept (t' := s1.toks) fun b o e => Heap.get?_push_of_some _ e, turn_list a _, ⟨_, Heap.get?_push_size _ rfl, rfl, rfl⟩, fun b hb => ?_, q _ _ walk_list fun H' s => s.seq hq⟩
    have e : b = s1.heap.objs.size := by simpa using hb
    subst e
    exact I1.fpOk (Nat.le_refl _) (I1.hok.fresh (Nat.le_refl _))
  · obtain ⟨its, rv, p, hz⟩ := I1.tuple (sm.seqT hq)
    refine wpAny_pyIter_tuple (show s1.heap.IsTuple a its.toArray from p) ?_
    refine ⟨s1.heap.objs.size, [s1.heap.objs.size], _, _, H1, rfl, I1.kept (t' := s1.toks) fun b o e => Heap.get?_push_of_some _ e, turn_tuple a _, ⟨_, Heap.get?_push_size _ rfl, rfl, rfl⟩, fun b hb => ?_, q _ _ walk_tup fun H' s => s.seqT hq⟩
    have e : b = s1.heap.objs.size := by simpa using hb
    subst e
    exact I1.fpOk (Nat.le_refl _) (I1.hok.fresh (Nat.le_refl _))
/-- t + u of tuples; t[lo:hi]: a tuple with these items, new or not -/
def rCatN (K : PySem.W.Frag) : R2 := fun x y H Q => ∃ a b xs ys, x = .ref a ∧ y = .ref b ∧ SqT K H a xs ∧ SqT K H b ys ∧ xs.length + ys.length ≤ sizeLine ∧ ∀ p H', Same H H' → SqT K H' p (xs ++ ys) → Q (.ref p) H'
theorem op_catN : OpR X (binaryOp .Add) (rCatN X.K) := fun pins s σ H x y v u Q I rx ry ⟨a, b, xs, ys, e1, e2, h1, h2, hz, q⟩ => op_catA pins s σ H x y v u Q I rx ry ⟨a, b, xs, ys, e1, e2, h1, h2, hz,
  (fun e => by subst e; exact q b H (Same.refl _) h2), (fun _ e => by subst e; exact q a H (Same.refl _) (by rw [List.append_nil]; exact h1)), fun _ _ p hp => q p _ (same_new hp) (SqT.of upd_same)⟩
def rSlN (K : PySem.W.Frag) : V → Option Int → Option Int → Hp → VK → Prop := fun x lo hi H Q => ∃ a xs, x = .ref a ∧ SqT K H a xs ∧ ∀ p H', Same H H' → SqT K H' p (cutV xs lo hi) → Q (.ref p) H'
theorem sl_tupN : SlR X (rSlN X.K) := by
  intro pins s σ H x v vl vu lo hi sl Q I rx hs pl pu h
  obtain ⟨a, xs, e, hx, q⟩ := h
  refine sl_tupA pins s σ H x v vl vu lo hi sl Q I rx hs pl pu ⟨a, xs, e, hx, fun hw => ?_, fun _ p hp => q p _ (same_new hp) (SqT.of upd_same)⟩
  refine q a H (Same.refl _) ?_
  have : cutV xs lo hi = xs := by
    unfold cutV
    rw [hw.1, hw.2, List.drop_zero, Nat.sub_zero, List.take_length]
  rw [this]
  exact hx
/-- xs[j] read, set, raised; j a natural -/
def rGetNN (K : PySem.W.Frag) : V → V → Hp → VK → Prop := fun x y H Q => ∃ (p : Addr) (xs : List V) (j : Nat) (v : V), x = .ref p ∧ y = .int (j : Int) ∧ SqL K H p xs ∧ xs[j]? = some v ∧ Q v H
theorem get_listN : PGet X (rGetNN X.K) := fun pins s σ H x y v u Q I rx ry ⟨p, xs, j, z, e1, e2, h, g, q⟩ => get_list pins s σ H x y v u Q I rx ry ⟨p, xs, (j : Int), z, e1, e2, h, Int.natCast_nonneg j, by rw [Int.toNat_natCast]; exact g, q⟩
def rSetLN : V → V → V → Hp → (Hp → Prop) → Prop := fun o i v H Q => ∃ (p : Addr) (xs : List V) (j : Nat), o = .ref p ∧ i = .int (j : Int) ∧ H p = some (.lst xs) ∧ j < xs.length ∧ Q (upd H p (.lst (xs.set j v)))
theorem set_listN : PSet X rSetLN := fun pins s σ H o i v ov iv u Q I ro ri rv ⟨p, xs, j, e1, e2, h, hl, q⟩ => set_list pins s σ H o i v ov iv u Q I ro ri rv ⟨p, xs, (j : Int), j, e1, e2, h, (by
  unfold ixN
  rw [if_pos (by omega), if_pos (by omega)]
  simp), q⟩
def ipAddN : TIp := fun x y H Q => ∃ a b : Nat, x = .int (a : Int) ∧ y = .int (b : Int) ∧ Q (.int ((a + b : Nat) : Int)) H
theorem ip_addN : PIp X .Add ipAddN := by
  intro pins s σ H x y v u Q I r1 r2 h
  obtain ⟨a, b, e1, e2, q⟩ := h
  refine ip_add pins s σ H x y v u Q I r1 r2 ⟨a, b, e1, e2, ?_⟩
  show Q (.int ((a : Int) + (b : Int))) H
  rw [← Int.natCast_add]
  exact q
end
end Fb

/-! FbJ -/
set_option maxHeartbeats 4000000
/-! pick_mask, _law_mark -/
namespace Fb
open PySem PySem.Spec PyProof.Rows L2
/-- the mask of a pick -/
def mk (ns : List Nat) : Nat := (ns.map fun n => 2 ^ n).sum
theorem iv_sum (ns : List Nat) : (iv ns).sum = (ns.sum : Int) := by
  induction ns with
  | nil => rfl
  | cons n ns ih =>
    show ((n : Int) :: iv ns).sum = _
    rw [List.sum_cons, List.sum_cons, ih]
    omega
theorem range_fm {α β : Type} (f : α → β) : ∀ l : List α, (List.range l.length).filterMap (fun i => (l[i]?).map f) = l.map f
  | [] => rfl
  | x :: l => by
    rw [List.length_cons, List.range_succ_eq_map, List.filterMap_cons, List.filterMap_map]
    show f x :: _ = f x :: _
    congr 1
    exact range_fm f l
-- pick_mask: slots 0=pick 1=tie; cells 
abbrev spick_mask : Stmt := topS 26
abbrev Npick_mask : List Str := ["pick", "tie"]
theorem scpick_mask : FnScope Npick_mask ["pick"] (defScope spick_mask) := ⟨rfl, rfl, rfl, by decide +kernel, rfl, by decide +kernel, by decide +kernel⟩
-- _law_mark: slots 0=_law_some 1=_law_at; cells 
abbrev s_law_mark : Stmt := topS 36
abbrev N_law_mark : List Str := ["_law_some", "_law_at"]
theorem sc_law_mark : FnScope N_law_mark ["_law_some"] (defScope s_law_mark) := ⟨rfl, rfl, rfl, by decide +kernel, rfl, by decide +kernel, by decide +kernel⟩
section
variable {P : Program} {w : World} {K : PySem.W.Frag} {mg : Str → Option Value} {base : Heap} {mt : Nat}
def sp_mask (K : PySem.W.Frag) : Sp := fun vs H Q _ => ∃ (a : Addr) (ns : List Nat), vs = [.ref a] ∧ Nts K H a ns ∧ ns.length ≤ 2000 ∧ (∀ n ∈ ns, n ≤ 1000) ∧ ∀ H', Same H H' → Q (.int (mk ns : Nat)) H'
abbrev sp_pick_mask := sp_mask
abbrev sp_law_mark := sp_mask
theorem ok_pick_mask {f : Addr} {fd : FuncData} (F : Fun K "pick_mask" "pick_mask" spick_mask f fd) (T : Bi mg mt) : FnOk P w K mg base CX0 1 f fd ["pick"] (sp_pick_mask K) := by
  refine okC F scpick_mask (fun vs H Q E h => ?_) (fun cdv A outer s H vs Q E hr hcd h => ?_)
  · obtain ⟨a, ns, rfl, _⟩ := h
    rfl
  · obtain ⟨a, ns, rfl, hS, hl, hn, k⟩ := h
    refine ⟨_, (pss_one (ps_ret (pe_callB (cr_sum rfl) (by rfl) T.sum (by decide +kernel) (pa_cons (pe_lc (own := [("tie", 1)]) rfl scpick_mask.nd (pi_tup (pv 0)) (blkOk_by (N := Npick_mask) (sc := (defScope spick_mask)) (by decide +kernel)) (fun _ _ _ _ _ => (pg_name (i := 1) scpick_mask.nd rfl (Or.inl rfl))) (fun _ _ _ _ _ => pts_nil) (fun _ _ _ _ _ => (pe_op op_shl1 pe_int (pv 1)))) pa_nil)))), ?_⟩
    refine ⟨.ref a, rfl, a, rfl, ⟨_, hS⟩, fun D hD => ?_⟩
    refine lc_acc walk_tup (fun i => (ns[i]?).map fun n => V.int ((2 ^ n : Nat) : Int)) (by rw [nv_len]; omega) hD (fun _ s => s.seqT hS) (fun i x H1 H2 Ky Kn hi s y ky kn => ?_) fun H1 s e => ?_
    · obtain ⟨rfl, hx⟩ := y
      obtain ⟨n, hn1, rfl⟩ := nv_get hx
      have hle := hn n (mem_at hn1)
      refine ⟨rfl, _, rfl, n, rfl, rfl, by omega, ?_⟩
      refine ky _ _ ?_ (Same.refl _)
      rw [hn1]
      rfl
    · have ee : (List.range (nv ns).length).filterMap (fun i => (ns[i]?).map fun n => V.int ((2 ^ n : Nat) : Int)) = nv (ns.map fun n => 2 ^ n) := by
        rw [nv_len, range_fm]
        simp [nv, iv]
      rw [ee] at e
      refine ⟨D, iv (ns.map fun n => 2 ^ n), rfl, SqL.of e, ?_⟩
      rw [iv_sum]
      exact k _ s
theorem ok_law_mark {f : Addr} {fd : FuncData} (F : Fun K "_law_mark" "_law_mark" s_law_mark f fd) (T : Bi mg mt) : FnOk P w K mg base CX0 1 f fd ["_law_some"] (sp_law_mark K) := by
  refine okC F sc_law_mark (fun vs H Q E h => ?_) (fun cdv A outer s H vs Q E hr hcd h => ?_)
  · obtain ⟨a, ns, rfl, _⟩ := h
    rfl
  · obtain ⟨a, ns, rfl, hS, hl, hn, k⟩ := h
    refine ⟨_, (pss_one (ps_ret (pe_callB (cr_sum rfl) (by rfl) T.sum (by decide +kernel) (pa_cons (pe_lc (own := [("_law_at", 1)]) rfl sc_law_mark.nd (pi_tup (pv 0)) (blkOk_by (N := N_law_mark) (sc := (defScope s_law_mark)) (by decide +kernel)) (fun _ _ _ _ _ => (pg_name (i := 1) sc_law_mark.nd rfl (Or.inl rfl))) (fun _ _ _ _ _ => pts_nil) (fun _ _ _ _ _ => (pe_op op_shl1 pe_int (pv 1)))) pa_nil)))), ?_⟩
    refine ⟨.ref a, rfl, a, rfl, ⟨_, hS⟩, fun D hD => ?_⟩
    refine lc_acc walk_tup (fun i => (ns[i]?).map fun n => V.int ((2 ^ n : Nat) : Int)) (by rw [nv_len]; omega) hD (fun _ s => s.seqT hS) (fun i x H1 H2 Ky Kn hi s y ky kn => ?_) fun H1 s e => ?_
    · obtain ⟨rfl, hx⟩ := y
      obtain ⟨n, hn1, rfl⟩ := nv_get hx
      have hle := hn n (mem_at hn1)
      refine ⟨rfl, _, rfl, n, rfl, rfl, by omega, ?_⟩
      refine ky _ _ ?_ (Same.refl _)
      rw [hn1]
      rfl
    · have ee : (List.range (nv ns).length).filterMap (fun i => (ns[i]?).map fun n => V.int ((2 ^ n : Nat) : Int)) = nv (ns.map fun n => 2 ^ n) := by
        rw [nv_len, range_fm]
        simp [nv, iv]
      rw [ee] at e
      refine ⟨D, iv (ns.map fun n => 2 ^ n), rfl, SqL.of e, ?_⟩
      rw [iv_sum]
      exact k _ s
end
end Fb

/-! FbM1 -/
set_option maxHeartbeats 4000000
/-! Masks: picks that ascend, sums of chosen masks, clearing. -/
namespace Fb
/-- ascending, no tie twice -/
abbrev Asc (ns : List Nat) : Prop := ns.Pairwise (· < ·)
theorem mk_nil : mk [] = 0 := rfl
theorem mk_cons (n : Nat) (ns : List Nat) : mk (n :: ns) = 2 ^ n + mk ns := by
  unfold mk
  rw [List.map_cons, List.sum_cons]
theorem mk_dvd (k : Nat) : ∀ ns : List Nat, (∀ x ∈ ns, k ≤ x) → ∃ q, mk ns = 2 ^ k * q
  | [], _ => ⟨0, rfl⟩
  | n :: ns, h => by
    obtain ⟨q, e⟩ := mk_dvd k ns fun x hx => h x (List.mem_cons_of_mem _ hx)
    have hk := h n (List.mem_cons_self ..)
    refine ⟨2 ^ (n - k) + q, ?_⟩
    rw [mk_cons, e, Nat.mul_add, ← Nat.pow_add, Nat.add_sub_cancel' hk]
theorem mk_bit : ∀ {ns : List Nat}, Asc ns → ∀ j, (mk ns).testBit j = decide (j ∈ ns)
  | [], _, j => by simp [mk_nil]
  | n :: ns, h, j => by
    obtain ⟨h1, h2⟩ := List.pairwise_cons.mp h
    obtain ⟨q, e⟩ := mk_dvd (n + 1) ns fun x hx => h1 x hx
    have ih := mk_bit h2 j
    have hp : 2 ^ n < 2 ^ (n + 1) := Nat.pow_lt_pow_right (by decide) (Nat.lt_succ_self n)
    rw [mk_cons, Nat.add_comm, e, Nat.testBit_two_pow_mul_add q hp]
    rw [e, Nat.testBit_two_pow_mul] at ih
    by_cases hj : j < n + 1
    · rw [if_pos hj, Nat.testBit_two_pow]
      have hn : j ∉ ns := fun m => by
        have := h1 j m
        omega
      by_cases hjn : n = j
      · simp [hjn]
      · have : ¬ j = n := fun z => hjn z.symm
        simp [hjn, this, hn]
    · rw [if_neg hj]
      have h3 : n + 1 ≤ j := by omega
      simp only [ge_iff_le, h3, decide_true, Bool.true_and] at ih
      rw [ih]
      have : ¬ j = n := by omega
      simp [this]
theorem asc_ext : ∀ {xs ys : List Nat}, Asc xs → Asc ys → (∀ i, i ∈ xs ↔ i ∈ ys) → xs = ys
  | [], [], _, _, _ => rfl
  | [], y :: ys, _, _, h => by
    have := (h y).mpr (List.mem_cons_self ..)
    simp at this
  | x :: xs, [], _, _, h => by
    have := (h x).mp (List.mem_cons_self ..)
    simp at this
  | x :: xs, y :: ys, hx, hy, h => by
    obtain ⟨a1, a2⟩ := List.pairwise_cons.mp hx
    obtain ⟨b1, b2⟩ := List.pairwise_cons.mp hy
    have e : x = y := by
      rcases List.mem_cons.mp ((h x).mp (List.mem_cons_self ..)) with e | m
      · exact e
      · rcases List.mem_cons.mp ((h y).mpr (List.mem_cons_self ..)) with e | m'
        · exact e.symm
        · have := b1 x m
          have := a1 y m'
          omega
    subst e
    congr 1
    refine asc_ext a2 b2 fun i => ⟨fun m => ?_, fun m => ?_⟩
    · rcases List.mem_cons.mp ((h i).mp (List.mem_cons_of_mem _ m)) with e | m'
      · have := a1 i m
        omega
      · exact m'
    · rcases List.mem_cons.mp ((h i).mpr (List.mem_cons_of_mem _ m)) with e | m'
      · have := b1 i m
        omega
      · exact m'
theorem mk_inj {xs ys : List Nat} (hx : Asc xs) (hy : Asc ys) (h : mk xs = mk ys) : xs = ys :=
  asc_ext hx hy fun i => by
    have e : decide (i ∈ xs) = decide (i ∈ ys) := by rw [← mk_bit hx, ← mk_bit hy, h]
    simpa using e
theorem mk_lt {k : Nat} {ns : List Nat} (h : Asc ns) (hk : ∀ x ∈ ns, x < k) : mk ns < 2 ^ k :=
  Nat.lt_pow_two_of_testBit _ fun i hi => by
    rw [mk_bit h]
    exact decide_eq_false fun m => by
      have := hk i m
      omega
/-- exclusive or of all -/
def xl (ms : List Nat) : Nat := ms.foldr (· ^^^ ·) 0
theorem xl_cons (m : Nat) (ms : List Nat) : xl (m :: ms) = m ^^^ xl ms := rfl
theorem xl_append (xs ys : List Nat) : xl (xs ++ ys) = xl xs ^^^ xl ys := by
  induction xs with
  | nil => simp [xl]
  | cons x xs ih => rw [List.cons_append, xl_cons, xl_cons, ih, Nat.xor_assoc]
theorem xl_perm {xs ys : List Nat} (h : xs.Perm ys) : xl xs = xl ys := by
  induction h with
  | nil => rfl
  | cons x _ ih => rw [xl_cons, xl_cons, ih]
  | swap x y l => rw [xl_cons, xl_cons, xl_cons, xl_cons, ← Nat.xor_assoc, ← Nat.xor_assoc, Nat.xor_comm y x]
  | trans _ _ h1 h2 => exact h1.trans h2
/-- the sum of the masks that u chooses -/
def sel : List Nat → Nat → Nat
  | [], _ => 0
  | a :: ms, u => (if u.testBit 0 then a else 0) ^^^ sel ms (u / 2)
theorem sel_xor : ∀ (ms : List Nat) (u v : Nat), sel ms (u ^^^ v) = sel ms u ^^^ sel ms v
  | [], _, _ => by
    show (0 : Nat) = 0 ^^^ 0
    simp
  | a :: ms, u, v => by
    show (if (u ^^^ v).testBit 0 then a else 0) ^^^ sel ms ((u ^^^ v) / 2) = _
    have h2 : (u ^^^ v) / 2 = u / 2 ^^^ v / 2 := by
      apply Nat.eq_of_testBit_eq
      intro i
      rw [Nat.testBit_xor, ← Nat.testBit_succ, ← Nat.testBit_succ, ← Nat.testBit_succ, Nat.testBit_xor]
    rw [h2, sel_xor ms, Nat.testBit_xor]
    show _ = ((if u.testBit 0 then a else 0) ^^^ sel ms (u / 2)) ^^^ ((if v.testBit 0 then a else 0) ^^^ sel ms (v / 2))
    generalize sel ms (u / 2) = p
    generalize sel ms (v / 2) = q
    have lc : ∀ x y z : Nat, x ^^^ (y ^^^ z) = y ^^^ (x ^^^ z) := fun x y z => by rw [← Nat.xor_assoc, Nat.xor_comm x, Nat.xor_assoc]
    cases u.testBit 0 <;> cases v.testBit 0
    · simp
    · simp [lc]
    · simp [Nat.xor_assoc]
    · simp only [if_true]
      rw [Bool.xor_self, if_neg Bool.false_ne_true, Nat.zero_xor, Nat.xor_assoc, lc p, ← Nat.xor_assoc a, Nat.xor_self, Nat.zero_xor]
theorem sel_zero : ∀ ms : List Nat, sel ms 0 = 0
  | [] => rfl
  | a :: ms => by
    show (if Nat.testBit 0 0 then a else 0) ^^^ sel ms (0 / 2) = 0
    rw [Nat.zero_div, sel_zero ms]
    simp
theorem sel_snoc : ∀ (ms : List Nat) (a u : Nat), sel (ms ++ [a]) u = sel ms u ^^^ (if u.testBit ms.length then a else 0)
  | [], a, u => by
    show (if u.testBit 0 then a else 0) ^^^ 0 = 0 ^^^ (if u.testBit 0 then a else 0)
    rw [Nat.xor_zero, Nat.zero_xor]
  | b :: ms, a, u => by
    show (if u.testBit 0 then b else 0) ^^^ sel (ms ++ [a]) (u / 2) = ((if u.testBit 0 then b else 0) ^^^ sel ms (u / 2)) ^^^ (if u.testBit (ms.length + 1) then a else 0)
    rw [sel_snoc ms a, Nat.testBit_succ, Nat.xor_assoc]
theorem sel_low {ms : List Nat} : ∀ {u : Nat}, (∀ i, i < ms.length → u.testBit i = false) → sel ms u = 0 := by
  induction ms with
  | nil => intros; rfl
  | cons a ms ih =>
    intro u h
    show (if u.testBit 0 then a else 0) ^^^ sel ms (u / 2) = 0
    rw [h 0 (Nat.succ_pos _), ih fun i hi => by rw [← Nat.testBit_succ]; exact h (i + 1) (Nat.succ_lt_succ hi)]
    simp
theorem sel_one : ∀ {ms : List Nat} {i a : Nat}, ms[i]? = some a → sel ms (2 ^ i) = a
  | [], _, _, h => by simp at h
  | b :: ms, 0, a, h => by
    have e : b = a := Option.some.inj h
    show (if Nat.testBit (2 ^ 0) 0 then b else 0) ^^^ sel ms (2 ^ 0 / 2) = a
    have : (2 ^ 0 : Nat) / 2 = 0 := by decide
    rw [this, sel_zero]
    simp [e]
  | b :: ms, i + 1, a, h => by
    show (if Nat.testBit (2 ^ (i + 1)) 0 then b else 0) ^^^ sel ms (2 ^ (i + 1) / 2) = a
    have e : (2 ^ (i + 1)) / 2 = 2 ^ i := by
      rw [Nat.pow_succ]
      omega
    have e2 : (2 ^ (i + 1)).testBit 0 = false := by
      rw [Nat.testBit_two_pow]
      simp
    rw [e, e2, sel_one (ms := ms) h]
    simp
/-- m is the sum of some of them -/
def Span (ms : List Nat) (m : Nat) : Prop := ∃ u, sel ms u = m
theorem span_zero (ms : List Nat) : Span ms 0 := ⟨0, sel_zero ms⟩
theorem span_xor {ms : List Nat} {a b : Nat} (ha : Span ms a) (hb : Span ms b) : Span ms (a ^^^ b) := by
  obtain ⟨u, rfl⟩ := ha
  obtain ⟨v, rfl⟩ := hb
  exact ⟨u ^^^ v, sel_xor ms u v⟩
theorem span_mem {ms : List Nat} {a : Nat} (h : a ∈ ms) : Span ms a := by
  obtain ⟨i, hi⟩ := List.getElem?_of_mem h
  exact ⟨2 ^ i, sel_one hi⟩
theorem xor_cancel {a b : Nat} : a ^^^ b ^^^ b = a := by rw [Nat.xor_assoc, Nat.xor_self, Nat.xor_zero]
theorem span_snoc (ms : List Nat) (a m : Nat) : Span (ms ++ [a]) m ↔ Span ms m ∨ Span ms (m ^^^ a) := by
  constructor
  · rintro ⟨u, rfl⟩
    rw [sel_snoc]
    cases u.testBit ms.length with
    | false => exact .inl ⟨u, by simp⟩
    | true => exact .inr ⟨u, by simp [xor_cancel]⟩
  · have cl : ∀ u, ∃ v, v.testBit ms.length = false ∧ sel ms v = sel ms u := fun u => by
      refine ⟨u % 2 ^ ms.length, by simp, ?_⟩
      have e : u = u % 2 ^ ms.length ^^^ (u ^^^ u % 2 ^ ms.length) := by
        rw [Nat.xor_comm u, ← Nat.xor_assoc, Nat.xor_self, Nat.zero_xor]
      conv => rhs; rw [e, sel_xor]
      rw [sel_low (u := u ^^^ u % 2 ^ ms.length) fun i hi => by simp [Nat.testBit_xor, Nat.testBit_mod_two_pow, hi], Nat.xor_zero]
    rintro (⟨u, hu⟩ | ⟨u, hu⟩)
    · obtain ⟨v, h1, h2⟩ := cl u
      exact ⟨v, by rw [sel_snoc, h1, h2, hu]; simp⟩
    · obtain ⟨v, h1, h2⟩ := cl u
      refine ⟨v ^^^ 2 ^ ms.length, ?_⟩
      rw [sel_snoc, Nat.testBit_xor, h1, Nat.testBit_two_pow, sel_xor, h2, hu, sel_low (u := 2 ^ ms.length) fun i hi => by rw [Nat.testBit_two_pow]; exact decide_eq_false (by omega)]
      simp [xor_cancel]
theorem span_nil (m : Nat) : Span [] m ↔ m = 0 := ⟨fun ⟨_, e⟩ => e.symm, fun e => ⟨0, e.symm⟩⟩
theorem span_cons (a : Nat) (ms : List Nat) (m : Nat) : Span (a :: ms) m ↔ Span ms m ∨ Span ms (m ^^^ a) := by
  constructor
  · rintro ⟨u, rfl⟩
    show _ ∨ _
    cases h : u.testBit 0 with
    | false => exact .inl ⟨u / 2, by show _ = (if u.testBit 0 then a else 0) ^^^ _; rw [h]; simp⟩
    | true => exact .inr ⟨u / 2, by show _ = ((if u.testBit 0 then a else 0) ^^^ _) ^^^ a; rw [h, if_pos rfl, Nat.xor_comm a, xor_cancel]⟩
  · have hd : ∀ v b, (2 * v + (if b = true then 1 else 0)) / 2 = v := fun v b => by split <;> omega
    have ht : ∀ v b, (2 * v + (if b = true then 1 else 0)).testBit 0 = b := fun v b => by
      rw [Nat.testBit_zero]
      cases b <;> simp <;> omega
    rintro (⟨v, rfl⟩ | ⟨v, hv⟩)
    · exact ⟨2 * v + (if false = true then 1 else 0), by show (if (2 * v + (if false = true then 1 else 0)).testBit 0 then a else 0) ^^^ sel ms _ = _; rw [ht, hd]; simp⟩
    · exact ⟨2 * v + (if true = true then 1 else 0), by show (if (2 * v + (if true = true then 1 else 0)).testBit 0 then a else 0) ^^^ sel ms _ = _; rw [ht, hd, hv, if_pos rfl, Nat.xor_comm a, xor_cancel]⟩
/-- the same things lie in the spans of two lists if each member of one does in the other's -/
theorem span_le {xs ys : List Nat} (h : ∀ a ∈ xs, Span ys a) : ∀ {m : Nat}, Span xs m → Span ys m := by
  induction xs with
  | nil =>
    intro m hm
    rw [(span_nil m).mp hm]
    exact span_zero _
  | cons a xs ih =>
    intro m hm
    have ih' := @ih fun b hb => h b (List.mem_cons_of_mem _ hb)
    rcases (span_cons a xs m).mp hm with e | e
    · exact ih' e
    · have := span_xor (ih' e) (h a (List.mem_cons_self ..))
      rwa [xor_cancel] at this
/-! ### clearing -/
/-- one step of clearing -/
def cl1 (m o : Nat) : Nat := if m ^^^ o < m then m ^^^ o else m
theorem lt_bit {m n k : Nat} (hn : n.testBit k = false) (hm : m.testBit k = true) (h : ∀ j, k < j → n.testBit j = m.testBit j) : n < m := by
  have q : n / 2 ^ (k + 1) = m / 2 ^ (k + 1) := Nat.eq_of_testBit_eq fun i => by
    rw [Nat.testBit_div_two_pow, Nat.testBit_div_two_pow]
    exact h _ (by omega)
  have a : n % 2 ^ (k + 1) < 2 ^ k := Nat.lt_pow_two_of_testBit _ fun i hi => by
    rw [Nat.testBit_mod_two_pow]
    by_cases e : i < k + 1
    · have : i = k := by omega
      rw [this, hn, Bool.and_false]
    · simp [e]
  have b : 2 ^ k ≤ m % 2 ^ (k + 1) := by
    refine Nat.ge_two_pow_of_testBit ?_
    rw [Nat.testBit_mod_two_pow, hm]
    simp
  have e1 := Nat.div_add_mod n (2 ^ (k + 1))
  have e2 := Nat.div_add_mod m (2 ^ (k + 1))
  rw [q] at e1
  omega
theorem xor_lt_iff {m o : Nat} (ho : o ≠ 0) : m ^^^ o < m ↔ m.testBit o.log2 = true := by
  have hbo : o.testBit o.log2 = true := Nat.testBit_log2 ho
  have hhi : ∀ j, o.log2 < j → o.testBit j = false := fun j hj => Nat.testBit_lt_two_pow (Nat.lt_of_lt_of_le ((Nat.log2_lt ho).mp (Nat.lt_succ_self _)) (Nat.pow_le_pow_right (by decide) hj))
  constructor
  · intro h
    cases hb : m.testBit o.log2 with
    | true => rfl
    | false =>
      exact absurd h (Nat.not_lt.mpr (Nat.le_of_lt (lt_bit (k := o.log2) hb (by rw [Nat.testBit_xor, hb, hbo]; rfl) fun j hj => by rw [Nat.testBit_xor, hhi j hj]; simp)))
  · intro h
    exact lt_bit (k := o.log2) (by rw [Nat.testBit_xor, h, hbo]; rfl) h fun j hj => by rw [Nat.testBit_xor, hhi j hj]; simp
theorem cl1_min (m o : Nat) : cl1 m o = min m (m ^^^ o) := by
  unfold cl1
  split <;> omega
def cl (L : List Nat) (m : Nat) : Nat := L.foldl cl1 m
theorem cl1_bit {m o : Nat} (ho : o ≠ 0) : (cl1 m o).testBit o.log2 = false := by
  unfold cl1
  split
  · rename_i h
    rw [Nat.testBit_xor, (xor_lt_iff ho).mp h, Nat.testBit_log2 ho]
    rfl
  · rename_i h
    cases hb : m.testBit o.log2 with
    | false => rfl
    | true => exact absurd ((xor_lt_iff ho).mpr hb) h
theorem cl1_keep {m o k : Nat} (hm : m.testBit k = false) (ho : o.testBit k = false) : (cl1 m o).testBit k = false := by
  unfold cl1
  split
  · rw [Nat.testBit_xor, hm, ho]
    rfl
  · exact hm
theorem cl_keep {k : Nat} : ∀ {L : List Nat} {m : Nat}, m.testBit k = false → (∀ o ∈ L, o.testBit k = false) → (cl L m).testBit k = false
  | [], _, hm, _ => hm
  | o :: L, m, hm, h => cl_keep (L := L) (m := cl1 m o) (cl1_keep hm (h o (List.mem_cons_self ..))) fun p hp => h p (List.mem_cons_of_mem _ hp)
/-- a later one lacks the greatest tie of each earlier one -/
abbrev Ech (L : List Nat) : Prop := L.Pairwise fun a b => b.testBit a.log2 = false
theorem cl_bits : ∀ {L : List Nat} {m : Nat}, Ech L → (∀ o ∈ L, o ≠ 0) → ∀ o ∈ L, (cl L m).testBit o.log2 = false
  | [], _, _, _, _, ho => by simp at ho
  | p :: L, m, h, h0, o, ho => by
    obtain ⟨h1, h2⟩ := List.pairwise_cons.mp h
    rcases List.mem_cons.mp ho with rfl | ho
    · exact cl_keep (L := L) (m := cl1 m o) (cl1_bit (h0 o (List.mem_cons_self ..))) h1
    · exact cl_bits (L := L) (m := cl1 m p) h2 (fun q hq => h0 q (List.mem_cons_of_mem _ hq)) o ho
theorem cl_span : ∀ (L : List Nat) (m : Nat), Span L (m ^^^ cl L m)
  | [], m => by
    show Span [] (m ^^^ m)
    rw [Nat.xor_self]
    exact span_zero _
  | o :: L, m => by
    have ih := cl_span L (cl1 m o)
    show Span (o :: L) (m ^^^ cl L (cl1 m o))
    have h1 : Span (o :: L) (m ^^^ cl1 m o) := by
      unfold cl1
      split
      · rw [← Nat.xor_assoc, Nat.xor_self, Nat.zero_xor]
        exact span_mem (List.mem_cons_self ..)
      · rw [Nat.xor_self]
        exact span_zero _
    have h2 : Span (o :: L) (cl1 m o ^^^ cl L (cl1 m o)) := span_le (fun a ha => span_mem (List.mem_cons_of_mem _ ha)) ih
    have := span_xor h1 h2
    rw [Nat.xor_assoc, ← Nat.xor_assoc (cl1 m o), Nat.xor_self, Nat.zero_xor] at this
    exact this
theorem bare_zero : ∀ {L : List Nat} {m : Nat}, Ech L → (∀ o ∈ L, o ≠ 0) → Span L m → (∀ o ∈ L, m.testBit o.log2 = false) → m = 0
  | [], _, _, _, h, _ => (span_nil _).mp h
  | p :: L, m, h, h0, hs, hb => by
    obtain ⟨h1, h2⟩ := List.pairwise_cons.mp h
    have hp := h0 p (List.mem_cons_self ..)
    have low : ∀ {x : Nat}, Span L x → x.testBit p.log2 = false := by
      rintro x ⟨u, rfl⟩
      clear hs hb h h2 h0
      induction L generalizing u with
      | nil => exact Nat.zero_testBit _
      | cons a L ih =>
        show ((if u.testBit 0 then a else 0) ^^^ sel L (u / 2)).testBit _ = false
        rw [Nat.testBit_xor, ih (fun b hb => h1 b (List.mem_cons_of_mem _ hb)) (u / 2)]
        cases u.testBit 0 with
        | true => simp [h1 a (List.mem_cons_self ..)]
        | false => simp
    rcases (span_cons p L m).mp hs with e | e
    · exact bare_zero h2 (fun q hq => h0 q (List.mem_cons_of_mem _ hq)) e fun o ho => hb o (List.mem_cons_of_mem _ ho)
    · have := low e
      rw [Nat.testBit_xor, hb p (List.mem_cons_self ..), Nat.testBit_log2 hp] at this
      cases this
theorem cl_zero {L : List Nat} {m : Nat} (h : Ech L) (h0 : ∀ o ∈ L, o ≠ 0) : cl L m = 0 ↔ Span L m := by
  constructor
  · intro e
    have := cl_span L m
    rw [e, Nat.xor_zero] at this
    exact this
  · intro hs
    refine bare_zero h h0 ?_ (cl_bits h h0)
    have := span_xor hs (cl_span L m)
    rwa [← Nat.xor_assoc, Nat.xor_self, Nat.zero_xor] at this
/-- a cleared mask put behind the others -/
theorem ech_snoc {L : List Nat} {m : Nat} (h : Ech L) (h0 : ∀ o ∈ L, o ≠ 0) : Ech (L ++ [cl L m]) :=
  List.pairwise_append.mpr ⟨h, List.pairwise_singleton _ _, fun a ha b hb => by rw [List.mem_singleton.mp hb]; exact cl_bits h h0 a ha⟩
/-- what is put behind spans what was there, with the mask itself -/
theorem span_put {L ms : List Nat} {m : Nat} (h : ∀ x, Span L x ↔ Span ms x) (x : Nat) : Span (L ++ [cl L m]) x ↔ Span (ms ++ [m]) x := by
  rw [span_snoc, span_snoc, h, h]
  have e : Span ms (m ^^^ cl L m) := (h _).mp (cl_span L m)
  refine or_congr Iff.rfl ⟨fun a => ?_, fun a => ?_⟩
  · have := span_xor a e
    rwa [Nat.xor_assoc, Nat.xor_comm m, ← Nat.xor_assoc (cl L m), Nat.xor_self, Nat.zero_xor] at this
  · have := span_xor a e
    rwa [Nat.xor_assoc, ← Nat.xor_assoc m, Nat.xor_self, Nat.zero_xor] at this
theorem span_skip {L ms : List Nat} {m : Nat} (h : ∀ x, Span L x ↔ Span ms x) (hz : cl L m = 0) (x : Nat) : Span L x ↔ Span (ms ++ [m]) x := by
  have e : Span ms m := by
    have := (h _).mp (cl_span L m)
    rwa [hz, Nat.xor_zero] at this
  rw [span_snoc, h]
  refine ⟨.inl, fun a => a.elim id fun a => ?_⟩
  have := span_xor a e
  rwa [xor_cancel] at this
end Fb

/-! FbK -/
set_option maxHeartbeats 4000000
/-! Dicts with natural keys; sum_of, _law_sum. -/
namespace Fb
open PySem PySem.Spec PyProof.Rows L2
/-- these pairs are a dict with natural keys that answers as F -/
structure ND (kvs : List (Key × V)) (F : Nat → Option V) : Prop where
  nd : (kvs.map (·.1)).Nodup
  ks : ∀ p ∈ kvs, ∃ n : Nat, p.1 = .inl (n : Int)
  get : ∀ n : Nat, valV kvs (.inl (n : Int)) = F n
theorem ND.nil : ND [] fun _ => none := ⟨List.nodup_nil, fun _ h => by simp at h, fun _ => rfl⟩
theorem put_keys {kvs : List (Key × V)} {k : Key} {v w : V} (h : valV kvs k = some w) : (putK kvs k v).map (·.1) = kvs.map (·.1) := by
  unfold putK
  have e : (kvs.any fun kv => decide (kv.1 = k)) = true := by rw [valV_any, h]; rfl
  rw [if_pos e, List.map_map]
  refine List.map_congr_left fun p _ => ?_
  show (if p.1 = k then (p.1, v) else p).1 = p.1
  split <;> rfl
theorem ND.put {kvs : List (Key × V)} {F : Nat → Option V} (h : ND kvs F) (n : Nat) (v : V) : ND (putK kvs (.inl (n : Int)) v) fun m => if m = n then some v else F m := by
  refine ⟨?_, fun p hp => ?_, fun m => ?_⟩
  · cases e : valV kvs (.inl (n : Int)) with
    | none => exact nd_putK v h.nd e
    | some w =>
      rw [put_keys e]
      exact h.nd
  · have hm : p.1 ∈ (putK kvs (.inl (n : Int)) v).map (·.1) := List.mem_map.mpr ⟨p, hp, rfl⟩
    have old : p.1 ∈ kvs.map (·.1) → ∃ n : Nat, p.1 = .inl (n : Int) := fun m => by
      obtain ⟨q, hq, e⟩ := List.mem_map.mp m
      obtain ⟨j, ej⟩ := h.ks q hq
      exact ⟨j, by rw [← e, ej]⟩
    cases e : valV kvs (.inl (n : Int)) with
    | none =>
      rw [putK_new v e, List.map_append] at hm
      rcases List.mem_append.mp hm with hm | hm
      · exact old hm
      · exact ⟨n, List.mem_singleton.mp hm⟩
    | some w =>
      rw [put_keys e] at hm
      exact old hm
  · show valV (putK kvs (.inl (n : Int)) v) (.inl (m : Int)) = _
    rw [valV_put, h.get]
    by_cases e : m = n
    · subst e
      rw [if_pos rfl, if_pos rfl]
    · rw [if_neg e, if_neg]
      intro z
      exact e (Int.ofNat.inj (Sum.inl.inj z))
theorem valV_mem : ∀ {kvs : List (Key × V)} {k : Key} {v : V}, (kvs.map (·.1)).Nodup → (k, v) ∈ kvs → valV kvs k = some v
  | [], _, _, _, h => by simp at h
  | p :: r, k, v, nd, h => by
    rw [List.map_cons] at nd
    obtain ⟨n1, n2⟩ := List.nodup_cons.mp nd
    rcases List.mem_cons.mp h with e | m
    · subst e
      exact valV_pos rfl
    · have : ¬ p.1 = k := fun z => n1 (by rw [z]; exact List.mem_map.mpr ⟨_, m, rfl⟩)
      rw [valV_neg this]
      exact valV_mem n2 m
theorem ND.at {kvs : List (Key × V)} {F : Nat → Option V} (h : ND kvs F) {i : Nat} {k : Key} {v : V} (e : kvs[i]? = some (k, v)) : ∃ n : Nat, k = .inl (n : Int) ∧ F n = some v := by
  have m := mem_at e
  obtain ⟨n, en⟩ := h.ks _ m
  have en' : k = .inl (n : Int) := en
  subst en'
  exact ⟨n, rfl, by rw [← h.get]; exact valV_mem h.nd m⟩
theorem nat_nodup : ∀ (B : Nat) (ns : List Nat), ns.Nodup → (∀ n ∈ ns, n < B) → ns.length ≤ B
  | 0, ns, _, h => by
    cases ns with
    | nil => exact Nat.le_refl _
    | cons n _ => exact absurd (h n (List.mem_cons_self ..)) (Nat.not_lt_zero _)
  | B + 1, ns, nd, h => by
    by_cases m : B ∈ ns
    · have h1 := nat_nodup B (ns.erase B) (nd.erase B) fun n hn => by
        have h2 := h n (List.mem_of_mem_erase hn)
        have h3 : n ≠ B := fun e => by
          subst e
          exact (List.Nodup.mem_erase_iff nd).mp hn |>.1 rfl
        omega
      rw [List.length_erase_of_mem m] at h1
      omega
    · exact Nat.le_succ_of_le (nat_nodup B ns nd fun n hn => by
        have := h n hn
        have : n ≠ B := fun e => m (e ▸ hn)
        omega)
/-- its keys -/
theorem ND.keys {kvs : List (Key × V)} {F : Nat → Option V} (h : ND kvs F) : ∃ ns : List Nat, kvs.map (·.1) = ns.map (fun n : Nat => (Sum.inl (n : Int) : Key)) ∧ ns.Nodup ∧ ∀ n, n ∈ ns ↔ (F n).isSome = true := by
  have inj : ∀ {a b : Nat}, (Sum.inl (a : Int) : Key) = .inl (b : Int) → a = b := fun z => Int.ofNat.inj (Sum.inl.inj z)
  have ex : ∀ l : List (Key × V), (∀ p ∈ l, ∃ n : Nat, p.1 = .inl (n : Int)) → ∃ ns : List Nat, l.map (·.1) = ns.map (fun n : Nat => (Sum.inl (n : Int) : Key)) := by
    intro l
    induction l with
    | nil => exact fun _ => ⟨[], rfl⟩
    | cons p l ih =>
      intro hl
      obtain ⟨n, en⟩ := hl p (List.mem_cons_self ..)
      obtain ⟨ns, e⟩ := ih fun q hq => hl q (List.mem_cons_of_mem _ hq)
      exact ⟨n :: ns, by rw [List.map_cons, List.map_cons, e, en]⟩
  obtain ⟨ns, e⟩ := ex kvs h.ks
  refine ⟨ns, e, ?_, fun n => ?_⟩
  · have nd := h.nd
    rw [e] at nd
    exact (List.pairwise_map.mp nd).imp fun hab z => hab (by rw [z])
  · have hm : n ∈ ns ↔ (Sum.inl (n : Int) : Key) ∈ kvs.map (·.1) := by
      rw [e]
      refine ⟨fun m => List.mem_map.mpr ⟨n, m, rfl⟩, fun m => ?_⟩
      obtain ⟨k, hk, ek⟩ := List.mem_map.mp m
      rw [← inj ek]
      exact hk
    rw [hm, ← h.get]
    cases q : valV kvs (.inl (n : Int)) with
    | none => exact ⟨fun m => absurd m (valV_not q), fun z => by cases z⟩
    | some v => exact ⟨fun _ => rfl, fun _ => valV_in q⟩
theorem ND.len {kvs : List (Key × V)} {F : Nat → Option V} (h : ND kvs F) {B : Nat} (hB : ∀ n, B ≤ n → F n = none) : kvs.length ≤ B := by
  obtain ⟨ns, e, nd, hm⟩ := h.keys
  have hl : kvs.length = ns.length := by
    have := congrArg List.length e
    simpa using this
  rw [hl]
  refine nat_nodup B ns nd fun n hn => Nat.lt_of_not_le fun hb => ?_
  have := (hm n).mp hn
  rw [hB n hb] at this
  cases this
theorem ND.fn {kvs : List (Key × V)} {F G : Nat → Option V} (h : ND kvs F) (e : ∀ n, F n = G n) : ND kvs G := ⟨h.nd, h.ks, fun n => (h.get n).trans (e n)⟩
/-- a dict with natural keys, as it is read -/
theorem dg {H : Hp} {a : Addr} {kvs : List (Key × V)} {F : Nat → Option V} (h : ND kvs F) (e : Rd H a (.dK kvs)) (n : Nat) : DGet H a (.int (n : Int)) (F n) := .inl ⟨kvs, .inl (n : Int), e, rfl, (h.get n).symm⟩
theorem dpu {H : Hp} {a : Addr} {kvs : List (Key × V)} (e : H a = some (.dK kvs)) (hl : kvs.length ≤ 1000000) (n : Nat) (v : V) : DPut H a (.int (n : Int)) v (upd H a (.dK (putK kvs (.inl (n : Int)) v))) :=
  DPut.k (k := .inl (n : Int)) e (by rw [sizeLine_eq]; omega)
/-! ### sums -/
theorem two_bit (n i : Nat) : (2 ^ n).testBit i = decide (i = n) := by
  rw [Nat.testBit_two_pow]
  by_cases e : n = i
  · simp [e]
  · rw [decide_eq_false e, decide_eq_false fun z => e z.symm]
theorem mk_xl {ns : List Nat} (h : Asc ns) : mk ns = xl (ns.map fun n => 2 ^ n) := by
  apply Nat.eq_of_testBit_eq
  intro i
  rw [mk_bit h]
  induction ns with
  | nil => simp [xl]
  | cons n ns ih =>
    obtain ⟨h1, h2⟩ := List.pairwise_cons.mp h
    rw [List.map_cons, xl_cons, Nat.testBit_xor, ← ih h2, two_bit]
    by_cases e : i = n
    · subst e
      have : i ∉ ns := fun m => absurd (h1 i m) (Nat.lt_irrefl _)
      simp [this]
    · simp [e]
theorem xl_snoc (xs : List Nat) (y : Nat) : xl (xs ++ [y]) = xl xs ^^^ y := by
  rw [xl_append, xl_cons]
  show xl xs ^^^ (y ^^^ 0) = _
  rw [Nat.xor_zero]
/-- all of one pick, one after another -/
theorem xl_take {α : Type} {ns : List α} {i : Nat} {n : α} (h : ns[i]? = some n) (f : α → Nat) : xl ((ns.take (i + 1)).map f) = xl ((ns.take i).map f) ^^^ f n := by
  rw [List.take_add_one, h, Option.toList_some, List.map_append]
  exact xl_snoc _ _
theorem xl_bound {B : Nat} : ∀ {l : List Nat}, (∀ m ∈ l, ∀ i, B ≤ i → m.testBit i = false) → ∀ i, B ≤ i → (xl l).testBit i = false
  | [], _, i, _ => Nat.zero_testBit _
  | m :: l, h, i, hi => by
    rw [xl_cons, Nat.testBit_xor, h m (List.mem_cons_self ..) i hi, xl_bound (fun q hq => h q (List.mem_cons_of_mem _ hq)) i hi]
    rfl
theorem asc_of {ns : List Int} (h : ns.Pairwise (· ≤ ·)) {xs : List Nat} (hp : ns.Perm (iv xs)) (nd : xs.Nodup) : ∃ ys : List Nat, ns = iv ys ∧ Asc ys ∧ ∀ i, i ∈ ys ↔ i ∈ xs := by
  have ex : ∀ l : List Int, (∀ z ∈ l, ∃ n : Nat, z = (n : Int)) → ∃ ys : List Nat, l = iv ys := by
    intro l
    induction l with
    | nil => exact fun _ => ⟨[], rfl⟩
    | cons z l ih =>
      intro hl
      obtain ⟨n, rfl⟩ := hl z (List.mem_cons_self ..)
      obtain ⟨ys, rfl⟩ := ih fun q hq => hl q (List.mem_cons_of_mem _ hq)
      exact ⟨n :: ys, rfl⟩
  obtain ⟨ys, rfl⟩ := ex ns fun z hz => by
    obtain ⟨n, _, e⟩ := List.mem_map.mp (hp.mem_iff.mp hz)
    exact ⟨n, e.symm⟩
  have mem : ∀ (l : List Nat) (i : Nat), (i : Int) ∈ iv l ↔ i ∈ l := fun l i => by
    refine ⟨fun m => ?_, fun m => List.mem_map.mpr ⟨i, m, rfl⟩⟩
    obtain ⟨k, hk, e⟩ := List.mem_map.mp m
    have e' : k = i := Int.ofNat.inj e
    rw [← e']
    exact hk
  refine ⟨ys, rfl, ?_, fun i => ?_⟩
  · have ndi : (iv xs).Nodup := List.pairwise_map.mpr (nd.imp fun h z => h (Int.ofNat.inj z))
    have ndy : (iv ys).Nodup := hp.nodup_iff.mpr ndi
    have h1 : ys.Pairwise fun a b : Nat => (a : Int) ≤ (b : Int) := List.pairwise_map.mp h
    have h2 : ys.Pairwise fun a b : Nat => (a : Int) ≠ (b : Int) := List.pairwise_map.mp ndy
    exact (h1.and h2).imp fun ⟨p, q⟩ => by omega
  · rw [← mem ys, ← mem xs]
    exact hp.mem_iff
-- sum_of: slots 0=picks 1=odd 2=pick 3=tie; cells odd
abbrev ssum_of : Stmt := topS 21
abbrev Nsum_of : List Str := ["picks", "odd", "pick", "tie"]
theorem scsum_of : FnScope Nsum_of ["picks"] (defScope ssum_of) := ⟨rfl, rfl, rfl, by decide +kernel, rfl, by decide +kernel, by decide +kernel⟩
-- _law_sum: slots 0=_law_some 1=_law_found 2=_law_own 3=_law_at; cells _law_found
abbrev s_law_sum : Stmt := topS 37
abbrev N_law_sum : List Str := ["_law_some", "_law_found", "_law_own", "_law_at"]
theorem sc_law_sum : FnScope N_law_sum ["_law_some"] (defScope s_law_sum) := ⟨rfl, rfl, rfl, by decide +kernel, rfl, by decide +kernel, by decide +kernel⟩
section
variable {P : Program} {w : World} {K : PySem.W.Frag} {mg : Str → Option Value} {base : Heap} {mt : Nat}
/-- the sum of picks: from picks that ascend, few and small -/
def sp_sums (S : PySem.W.Frag → Hp → Addr → List (List Nat) → Prop) (K : PySem.W.Frag) : Sp := fun vs H Q _ => ∃ (a : Addr) (L : List (List Nat)), vs = [.ref a] ∧ S K H a L ∧ L.length ≤ 1000 ∧ (∀ l ∈ L, Asc l ∧ ∀ n ∈ l, n ≤ 1000) ∧
  ∀ p H' t, Same H H' → Nts K H' p t → Asc t → mk t = xl (L.map mk) → (∀ n ∈ t, n ≤ 1000) → Q (.ref p) H'
abbrev sp_sum_of := sp_sums Pks
/-- a list or tuple of picks -/
def PksS (K : PySem.W.Frag) (H : Hp) (a : Addr) (L : List (List Nat)) : Prop := PksL K H a L ∨ Pks K H a L
abbrev sp_law_sum := sp_sums PksS
theorem flip_bit (M n m : Nat) : (M ^^^ 2 ^ n).testBit m = if m = n then !(M.testBit n) else M.testBit m := by
  rw [Nat.testBit_xor, two_bit]
  by_cases e : m = n
  · subst e
    simp
  · simp [e]
/-- the dict in the midst of the sum -/
structure OddAt (B : Nat → V) (H0 H : Hp) (d : Addr) (M : Nat) : Prop where
  sm : Same H0 (wol [d] H)
  no : H0 d = none
  ex : ∃ kvs F, H d = some (.dK kvs) ∧ ND kvs F ∧ (∀ n v, F n = some v → v = B ((M.testBit n).toNat)) ∧ (∀ n, F n = none → M.testBit n = false) ∧ (∀ n, 1001 ≤ n → F n = none)
  lo : ∀ i, 1001 ≤ i → M.testBit i = false
theorem OddAt.start {B : Nat → V} {H : Hp} {d : Addr} (hd : H d = none) : OddAt B H (upd H d (.dK [])) d 0 :=
  ⟨by rw [wol_upd (List.mem_singleton.mpr rfl)]; exact le_wol (Same.refl H) fun b hb => by rw [List.mem_singleton.mp hb]; exact hd, hd, ⟨[], fun _ => none, upd_same, ND.nil, (fun _ _ z => by cases z), fun _ _ => Nat.zero_testBit _, fun _ _ => rfl⟩, fun _ _ => Nat.zero_testBit _⟩
theorem OddAt.len {B : Nat → V} {H0 H : Hp} {d : Addr} {M : Nat} (o : OddAt B H0 H d M) {kvs : List (Key × V)} {F : Nat → Option V} (h : ND kvs F) (hb : ∀ n, 1001 ≤ n → F n = none) : kvs.length ≤ 1000000 := Nat.le_trans (h.len hb) (by decide)
/-- what the walk of the dict makes -/
theorem range_fmb {α β : Type} (g : α → Option β) : ∀ l : List α, (List.range l.length).filterMap (fun i => (l[i]?).bind g) = l.filterMap g
  | [] => rfl
  | x :: l => by
    rw [List.length_cons, List.range_succ_eq_map, List.filterMap_cons, List.filterMap_map, List.filterMap_cons]
    have ih := range_fmb g l
    show (match g x with
      | none => _
      | some y => y :: _) = _
    cases g x with
    | none => exact ih
    | some y => exact congrArg (y :: ·) ih
theorem fm_if (p : Nat → Bool) : ∀ ns : List Nat, ns.filterMap (fun n => if p n = true then some (V.int (n : Int)) else none) = nv (ns.filter p)
  | [] => rfl
  | n :: ns => by
    rw [List.filterMap_cons, List.filter_cons]
    cases e : p n with
    | true =>
      simp only [if_true]
      rw [fm_if p ns]
      rfl
    | false =>
      simp only [Bool.false_eq_true, if_false]
      exact fm_if p ns
theorem xor_low {M n : Nat} (h : ∀ i, 1001 ≤ i → M.testBit i = false) (hn : n ≤ 1000) : ∀ i, 1001 ≤ i → (M ^^^ 2 ^ n).testBit i = false := fun i hi => by
  rw [flip_bit, if_neg (by omega)]
  exact h i hi
/-- the values: whether it is odd; how odd it is -/
def bl01 (k : Nat) : V := .bl (k == 1)
def in01 (k : Nat) : V := .int (k : Int)
theorem OddAt.put {B : Nat → V} {H0 H : Hp} {d : Addr} {M n : Nat} {kvs : List (Key × V)} {F : Nat → Option V} (o : OddAt B H0 H d M) (hk : H d = some (.dK kvs)) (hF : ND kvs F) (h1 : ∀ n v, F n = some v → v = B ((M.testBit n).toNat)) (h2 : ∀ n, F n = none → M.testBit n = false)
    (h3 : ∀ n, 1001 ≤ n → F n = none) (hn : n ≤ 1000) {v : V} (hv : v = B ((!(M.testBit n)).toNat)) : OddAt B H0 (upd H d (.dK (putK kvs (.inl (n : Int)) v))) d (M ^^^ 2 ^ n) := by
  refine ⟨by rw [wol_upd (List.mem_singleton.mpr rfl)]; exact o.sm, o.no, ⟨_, _, upd_same, hF.put n v, fun m w e => ?_, fun m e => ?_, fun m hm => ?_⟩, xor_low o.lo hn⟩
  · rw [flip_bit]
    by_cases z : m = n
    · rw [if_pos z] at e ⊢
      rw [← Option.some.inj e]
      exact hv
    · rw [if_neg z] at e ⊢
      exact h1 m w e
  · rw [flip_bit]
    by_cases z : m = n
    · rw [if_pos z] at e
      cases e
    · rw [if_neg z] at e ⊢
      exact h2 m e
  · show (if m = n then some v else F m) = none
    rw [if_neg (by omega)]
    exact h3 m hm
theorem ok_sum_of {f : Addr} {fd : FuncData} (F : Fun K "sum_of" "sum_of" ssum_of f fd) (T : Bi mg mt) : FnOk P w K mg base CX0 1 f fd ["picks"] (sp_sum_of K) := by
  refine okC F scsum_of (fun vs H Q E h => ?_) (fun cdv A outer s H vs Q E hr hcd h => ?_)
  · obtain ⟨a, L, rfl, _⟩ := h
    rfl
  · obtain ⟨a, L, rfl, hS, hL, hA, k⟩ := h
    have hu := hu_of hr
    obtain ⟨ps, rfl, hT, hg⟩ := hS
    refine ⟨_, (pss_cons (ps_set (i := 1) scsum_of.nd rfl (Or.inr rfl) pe_dnewK)
      (pss_cons (ps_for PassesOwn.never rfl (pi_tup (pv 0)) (pg_name (i := 2) scsum_of.nd rfl (Or.inl rfl))
        (pss_one (ps_for PassesOwn.never rfl (pi_tup (pv 2)) (pg_name (i := 3) scsum_of.nd rfl (Or.inl rfl))
          (pss_one (ps_dput hu (pv 1) (pv 3) (pe_not (pe_dget2 hu (pv 1) (pv 3) pe_bl ⟨by rfl, by rfl, by rfl, by rfl⟩)) rfl)))))
      (pss_one (ps_ret (pe_tupleOf (by rfl) T.tuple (pe_callB cr_sortedI (by rfl) T.sorted (by decide +kernel) (pa_cons (pe_lock (pe_lc (own := [("tie", 3)]) rfl scsum_of.nd (pi_keys (pv 1)) (blkOk_by (N := Nsum_of) (sc := (defScope ssum_of)) (by decide +kernel)) (fun _ _ _ _ _ => (pg_name (i := 3) scsum_of.nd rfl (Or.inl rfl))) (fun _ _ _ _ _ => (pts_one (pt_val (pe_dget hu (pv 1) (pv 3) (fun _ _ => rfl))))) (fun _ _ _ _ _ => (pv 3)))) pa_nil))))))), ?_⟩
    intro d hd
    -- for pick in picks
    refine ⟨.ref a, rfl, a, rfl, ⟨_, (same_new hd).seqT hT⟩, for_tup (xs := rf ps) (fun i σ H' => ∃ v2 v3, σ = [some (.ref a), some (.ref d), v2, v3] ∧ OddAt bl01 H H' d (xl (((sn ps).take i).map mk)))
      ⟨none, none, rfl, OddAt.start hd⟩ (fun i σ H' _ ⟨_, _, _, o⟩ => (o.sm.trans wol_le).seqT hT) ?_ ?_⟩
    · rintro i y σ H1 hi ⟨v2, v3, rfl, o⟩
      obtain ⟨p, hp, rfl⟩ := rf_get hi
      have hpm := mem_at hp
      have hpa := hA p.2 (List.mem_map.mpr ⟨p, hpm, rfl⟩)
      -- for tie in pick
      refine ⟨.ref p.1, rfl, p.1, rfl, ⟨_, (o.sm.trans wol_le).seqT (hg p hpm)⟩, for_tup (xs := nv p.2) (fun j σ H' => ∃ v3, σ = [some (.ref a), some (.ref d), some (.ref p.1), v3] ∧ OddAt bl01 H H' d (xl (((sn ps).take i).map mk) ^^^ xl ((p.2.take j).map fun n => 2 ^ n)))
        ⟨v3, rfl, by simpa [xl] using o⟩ (fun i σ H' _ ⟨_, _, o⟩ => (o.sm.trans wol_le).seqT (hg p hpm)) ?_ ?_⟩
      · rintro j y σ H2 hj ⟨v3, rfl, o⟩
        obtain ⟨n, hn, rfl⟩ := nv_get hj
        have hn1 := hpa.2 n (mem_at hn)
        obtain ⟨kvs, F, hk, hF, h1, h2, h3⟩ := o.ex
        rw [xl_take hn, ← Nat.xor_assoc]
        generalize xl (((sn ps).take i).map mk) ^^^ xl ((p.2.take j).map fun n => 2 ^ n) = M at o h1 h2 ⊢
        have eg : (F n).getD (bl01 0) = bl01 (M.testBit n).toNat := by
          cases e : F n with
          | none =>
            rw [h2 n e]
            rfl
          | some v => exact h1 n v e
        refine ⟨.ref d, rfl, d, rfl, .inl ⟨kvs, .inl hk⟩, .int (n : Int), rfl, F n, dg hF (.inl hk) n, M.testBit n, ?_, .ref d, rfl, .int (n : Int), rfl, d, _, rfl, dpu hk (Nat.le_trans (hF.len h3) (by decide)) n _, ?_⟩
        · refine eg.trans ?_
          cases M.testBit n <;> rfl
        refine ⟨_, rfl, o.put hk hF h1 h2 h3 hn1 (by cases M.testBit n <;> rfl)⟩
      · rintro σ H2 ⟨v3, rfl, o⟩
        refine ⟨_, v3, rfl, ?_⟩
        rw [nv_len, List.take_length, ← mk_xl hpa.1] at o
        rw [xl_take (sn_get hp) mk]
        exact o
    · rintro σ H1 ⟨v2, v3, rfl, o⟩
      rw [rf_len, ← sn_len, List.take_length] at o
      generalize hM : xl ((sn ps).map mk) = M at o k
      obtain ⟨kvs, F, hk, hF, h1, h2, h3⟩ := o.ex
      obtain ⟨ns, en, nd, hns⟩ := hF.keys
      have hlen : kvs.length = ns.length := by
        have := congrArg List.length en
        simpa using this
      -- tuple(sorted([.. for .. in odd if ..]))
      refine ⟨d, .dK kvs, hk, True.intro, fun od => ⟨.ref d, rfl, d, od, rfl, .inl ⟨kvs, upd_same, fun D hD => ?_⟩⟩⟩
      have hDd : D ≠ d := fun e => by
        rw [e, upd_same] at hD
        cases hD
      have hD1 : H1 D = none := by
        rw [upd_ne hDd] at hD
        exact hD
      refine lc_acc walk_keys (fun i => (ns[i]?).bind fun n => if M.testBit n = true then some (V.int (n : Int)) else none) (Nat.le_trans (hF.len h3) (by decide)) hD (fun _ s => s _ _ upd_same) (fun i x G1 G2 Ky Kn hi s y ky kn => ?_) fun G1 s e => ?_
      · obtain ⟨rfl, kk, v, hkv, rfl⟩ := y
        obtain ⟨n, rfl, hn⟩ := hF.at hkv
        have hni : ns[i]? = some n := by
          have e1 : (kvs.map (·.1))[i]? = some (.inl (n : Int)) := by
            rw [List.getElem?_map, hkv]
            rfl
          rw [en, List.getElem?_map] at e1
          cases e : ns[i]? with
          | none =>
            rw [e] at e1
            cases e1
          | some m =>
            rw [e] at e1
            have := Int.ofNat.inj (Sum.inl.inj (Option.some.inj e1))
            rw [this]
        have hv := h1 n v hn
        have hdG : Rd G2 d (.dK kvs) := .inr ⟨od, s _ _ upd_same⟩
        have key : DGet G2 d (.int (n : Int)) (some (bl01 (M.testBit n).toNat)) := by
          rw [← hv, ← hn]
          exact dg hF hdG n
        rw [hni] at ky kn
        simp only [Option.bind_some] at ky kn
        refine ⟨rfl, .ref d, rfl, .int (n : Int), rfl, d, _, rfl, key, M.testBit n, ?_, ?_⟩
        · cases M.testBit n <;> rfl
        cases hb : M.testBit n with
        | true =>
          rw [hb] at ky
          exact iteT ⟨_, rfl, ky _ _ rfl (Same.refl _)⟩
        | false =>
          rw [hb] at kn
          exact iteF (kn rfl _ (Same.refl _))
      · rw [hlen, range_fmb, fm_if] at e
        refine ⟨s _ _ upd_same, D, iv (ns.filter M.testBit), rfl, SqL.of (by rw [upd_ne hDd]; exact e), fun ns' q hp hpw hq => .inl ⟨q, _, rfl, SqL.of upd_same, fun r hr => ?_⟩⟩
        obtain ⟨ys, rfl, ha, hy⟩ := asc_of hpw hp (nd.filter _)
        have mem : ∀ i, i ∈ ys ↔ M.testBit i = true := fun i => by
          rw [hy, List.mem_filter, hns]
          refine ⟨fun z => z.2, fun z => ⟨?_, z⟩⟩
          cases e : F i with
          | none =>
            rw [h2 i e] at z
            cases z
          | some v => rfl
        refine k r _ ys ?_ (SqT.of upd_same) ha ?_ fun n hn => ?_
        · -- what was there is there
          intro b o' hb
          have hbd : b ≠ d := fun e => by
            rw [e, o.no] at hb
            cases hb
          have b1 : H1 b = some o' := wol_le _ _ (o.sm _ _ hb)
          have b2 : G1 b = some o' := s _ _ (by rw [upd_ne hbd]; exact b1)
          have b3 : (upd G1 d (.dK kvs)) b = some o' := by
            rw [upd_ne hbd]
            exact b2
          exact same_new hr _ _ (same_new hq _ _ b3)
        · apply Nat.eq_of_testBit_eq
          intro i
          rw [mk_bit ha]
          cases hb : M.testBit i with
          | true => exact decide_eq_true ((mem i).mpr hb)
          | false => exact decide_eq_false fun m => by rw [(mem i).mp m] at hb; cases hb
        · refine Nat.le_of_not_lt fun hlt => ?_
          have := (mem n).mp hn
          rw [o.lo n (by omega)] at this
          cases this
theorem ok_law_sum {f : Addr} {fd : FuncData} (F : Fun K "_law_sum" "_law_sum" s_law_sum f fd) (T : Bi mg mt) : FnOk P w K mg base CX0 1 f fd ["_law_some"] (sp_law_sum K) := by
  refine okC F sc_law_sum (fun vs H Q E h => ?_) (fun cdv A outer s H vs Q E hr hcd h => ?_)
  · obtain ⟨a, L, rfl, _⟩ := h
    rfl
  · obtain ⟨a, L, rfl, hS, hL, hA, k⟩ := h
    have hu := hu_of hr
    obtain ⟨ps, rfl, hT, hg⟩ : ∃ ps, sn ps = L ∧ (SqL K H a (rf ps) ∨ SqT K H a (rf ps)) ∧ Tg (Nts K) H ps := by
      rcases hS with ⟨ps, h1, h2, h3⟩ | ⟨ps, h1, h2, h3⟩
      · exact ⟨ps, h1, .inl h2, h3⟩
      · exact ⟨ps, h1, .inr h2, h3⟩
    refine ⟨_, (pss_cons (ps_set (i := 1) sc_law_sum.nd rfl (Or.inr rfl) pe_dnewK)
      (pss_cons (ps_for PassesOwn.never rfl (pi_seq (pv 0)) (pg_name (i := 2) sc_law_sum.nd rfl (Or.inl rfl))
        (pss_one (ps_for PassesOwn.never rfl (pi_tup (pv 2)) (pg_name (i := 3) sc_law_sum.nd rfl (Or.inl rfl))
          (pss_one (ps_dput hu (pv 1) (pv 3) (pe_op op_subN pe_int (pe_dget2 hu (pv 1) (pv 3) pe_int ⟨by rfl, by rfl, by rfl, by rfl⟩)) rfl)))))
      (pss_one (ps_ret (pe_tupleOf (by rfl) T.tuple (pe_callB cr_sortedI (by rfl) T.sorted (by decide +kernel) (pa_cons (pe_lock (pe_lc (own := [("_law_at", 3)]) rfl sc_law_sum.nd (pi_keys (pv 1)) (blkOk_by (N := N_law_sum) (sc := (defScope s_law_sum)) (by decide +kernel)) (fun _ _ _ _ _ => (pg_name (i := 3) sc_law_sum.nd rfl (Or.inl rfl))) (fun _ _ _ _ _ => (pts_one (pt_cmpR op_eqN (pe_dget hu (pv 1) (pv 3) (fun _ _ => rfl)) pe_int (nomark _)))) (fun _ _ _ _ _ => (pv 3)))) pa_nil))))))), ?_⟩
    intro d hd
    -- for pick in picks
    refine ⟨.ref a, rfl, a, rf ps, H, rfl, same_new hd, hT, fun J Gd wk hgd => for_it wk (fun i σ H' => ∃ v2 v3, σ = [some (.ref a), some (.ref d), v2, v3] ∧ OddAt in01 H H' d (xl (((sn ps).take i).map mk)))
      ⟨none, none, rfl, OddAt.start hd⟩ (fun i σ H' _ ⟨_, _, _, o⟩ => hgd _ (o.sm.trans wol_le)) ?_ ?_⟩
    · rintro i y σ H0 H1 _ ⟨v2, v3, rfl, o⟩ ⟨rfl, hi⟩
      obtain ⟨p, hp, rfl⟩ := rf_get hi
      have hpm := mem_at hp
      have hpa := hA p.2 (List.mem_map.mpr ⟨p, hpm, rfl⟩)
      -- for tie in pick
      refine ⟨.ref p.1, rfl, p.1, rfl, ⟨_, (o.sm.trans wol_le).seqT (hg p hpm)⟩, for_tup (xs := nv p.2) (fun j σ H' => ∃ v3, σ = [some (.ref a), some (.ref d), some (.ref p.1), v3] ∧ OddAt in01 H H' d (xl (((sn ps).take i).map mk) ^^^ xl ((p.2.take j).map fun n => 2 ^ n)))
        ⟨v3, rfl, by simpa [xl] using o⟩ (fun i σ H' _ ⟨_, _, o⟩ => (o.sm.trans wol_le).seqT (hg p hpm)) ?_ ?_⟩
      · rintro j y σ H2 hj ⟨v3, rfl, o⟩
        obtain ⟨n, hn, rfl⟩ := nv_get hj
        have hn1 := hpa.2 n (mem_at hn)
        obtain ⟨kvs, F, hk, hF, h1, h2, h3⟩ := o.ex
        rw [xl_take hn, ← Nat.xor_assoc]
        generalize xl (((sn ps).take i).map mk) ^^^ xl ((p.2.take j).map fun n => 2 ^ n) = M at o h1 h2 ⊢
        have eg : (F n).getD (in01 0) = in01 (M.testBit n).toNat := by
          cases e : F n with
          | none =>
            rw [h2 n e]
            rfl
          | some v => exact h1 n v e
        refine ⟨.ref d, rfl, d, rfl, .inl ⟨kvs, .inl hk⟩, .int (n : Int), rfl, F n, dg hF (.inl hk) n, 1, (M.testBit n).toNat, rfl, eg, by cases M.testBit n <;> decide, .ref d, rfl, .int (n : Int), rfl, d, _, rfl, dpu hk (Nat.le_trans (hF.len h3) (by decide)) n _, ?_⟩
        refine ⟨_, rfl, o.put hk hF h1 h2 h3 hn1 (by cases M.testBit n <;> rfl)⟩
      · rintro σ H2 ⟨v3, rfl, o⟩
        refine ⟨_, v3, rfl, ?_⟩
        rw [nv_len, List.take_length, ← mk_xl hpa.1] at o
        rw [xl_take (sn_get hp) mk]
        exact o
    · rintro σ H1 ⟨v2, v3, rfl, o⟩
      rw [rf_len, ← sn_len, List.take_length] at o
      generalize hM : xl ((sn ps).map mk) = M at o k
      obtain ⟨kvs, F, hk, hF, h1, h2, h3⟩ := o.ex
      obtain ⟨ns, en, nd, hns⟩ := hF.keys
      have hlen : kvs.length = ns.length := by
        have := congrArg List.length en
        simpa using this
      -- tuple(sorted([.. for .. in odd if ..]))
      refine ⟨d, .dK kvs, hk, True.intro, fun od => ⟨.ref d, rfl, d, od, rfl, .inl ⟨kvs, upd_same, fun D hD => ?_⟩⟩⟩
      have hDd : D ≠ d := fun e => by
        rw [e, upd_same] at hD
        cases hD
      have hD1 : H1 D = none := by
        rw [upd_ne hDd] at hD
        exact hD
      refine lc_acc walk_keys (fun i => (ns[i]?).bind fun n => if M.testBit n = true then some (V.int (n : Int)) else none) (Nat.le_trans (hF.len h3) (by decide)) hD (fun _ s => s _ _ upd_same) (fun i x G1 G2 Ky Kn hi s y ky kn => ?_) fun G1 s e => ?_
      · obtain ⟨rfl, kk, v, hkv, rfl⟩ := y
        obtain ⟨n, rfl, hn⟩ := hF.at hkv
        have hni : ns[i]? = some n := by
          have e1 : (kvs.map (·.1))[i]? = some (.inl (n : Int)) := by
            rw [List.getElem?_map, hkv]
            rfl
          rw [en, List.getElem?_map] at e1
          cases e : ns[i]? with
          | none =>
            rw [e] at e1
            cases e1
          | some m =>
            rw [e] at e1
            have := Int.ofNat.inj (Sum.inl.inj (Option.some.inj e1))
            rw [this]
        have hv := h1 n v hn
        have hdG : Rd G2 d (.dK kvs) := .inr ⟨od, s _ _ upd_same⟩
        have key : DGet G2 d (.int (n : Int)) (some (in01 (M.testBit n).toNat)) := by
          rw [← hv, ← hn]
          exact dg hF hdG n
        rw [hni] at ky kn
        simp only [Option.bind_some] at ky kn
        refine ⟨rfl, .ref d, rfl, .int (n : Int), rfl, d, _, rfl, key, (M.testBit n).toNat, 1, rfl, rfl, M.testBit n, ?_, ?_⟩
        · cases M.testBit n <;> rfl
        cases hb : M.testBit n with
        | true =>
          rw [hb] at ky
          exact iteT ⟨_, rfl, ky _ _ rfl (Same.refl _)⟩
        | false =>
          rw [hb] at kn
          exact iteF (kn rfl _ (Same.refl _))
      · rw [hlen, range_fmb, fm_if] at e
        refine ⟨s _ _ upd_same, D, iv (ns.filter M.testBit), rfl, SqL.of (by rw [upd_ne hDd]; exact e), fun ns' q hp hpw hq => .inl ⟨q, _, rfl, SqL.of upd_same, fun r hr => ?_⟩⟩
        obtain ⟨ys, rfl, ha, hy⟩ := asc_of hpw hp (nd.filter _)
        have mem : ∀ i, i ∈ ys ↔ M.testBit i = true := fun i => by
          rw [hy, List.mem_filter, hns]
          refine ⟨fun z => z.2, fun z => ⟨?_, z⟩⟩
          cases e : F i with
          | none =>
            rw [h2 i e] at z
            cases z
          | some v => rfl
        refine k r _ ys ?_ (SqT.of upd_same) ha ?_ fun n hn => ?_
        · -- what was there is there
          intro b o' hb
          have hbd : b ≠ d := fun e => by
            rw [e, o.no] at hb
            cases hb
          have b1 : H1 b = some o' := wol_le _ _ (o.sm _ _ hb)
          have b2 : G1 b = some o' := s _ _ (by rw [upd_ne hbd]; exact b1)
          have b3 : (upd G1 d (.dK kvs)) b = some o' := by
            rw [upd_ne hbd]
            exact b2
          exact same_new hr _ _ (same_new hq _ _ b3)
        · apply Nat.eq_of_testBit_eq
          intro i
          rw [mk_bit ha]
          cases hb : M.testBit i with
          | true => exact decide_eq_true ((mem i).mpr hb)
          | false => exact decide_eq_false fun m => by rw [(mem i).mp m] at hb; cases hb
        · refine Nat.le_of_not_lt fun hlt => ?_
          have := (mem n).mp hn
          rw [o.lo n (by omega)] at this
          cases this
end
end Fb

/-! FbL -/
set_option maxHeartbeats 4000000
/-! summands -/
namespace Fb
open PySem PySem.Spec PyProof.Rows L2
/-! ### the steps -/
def st1 (p o : Nat × Nat) : Nat × Nat := if p.1 ^^^ o.1 < p.1 then (p.1 ^^^ o.1, p.2 ^^^ o.2) else p
def stL (S : List (Nat × Nat)) (p : Nat × Nat) : Nat × Nat := S.foldl st1 p
theorem st1_fst (p o : Nat × Nat) : (st1 p o).1 = cl1 p.1 o.1 := by
  unfold st1 cl1
  split <;> rfl
theorem stL_fst : ∀ (S : List (Nat × Nat)) (p : Nat × Nat), (stL S p).1 = cl (S.map (·.1)) p.1
  | [], _ => rfl
  | s :: S, p => by
    show (stL S (st1 p s)).1 = cl (S.map (·.1)) (cl1 p.1 s.1)
    rw [stL_fst S, st1_fst]
theorem stL_sel {ms : List Nat} {c : Nat} : ∀ {S : List (Nat × Nat)} {p : Nat × Nat}, (∀ s ∈ S, sel ms s.2 = s.1) → sel ms p.2 ^^^ c = p.1 → sel ms (stL S p).2 ^^^ c = (stL S p).1
  | [], _, _, h => h
  | s :: S, p, hS, h => by
    refine stL_sel (S := S) (p := st1 p s) (fun q hq => hS q (List.mem_cons_of_mem _ hq)) ?_
    unfold st1
    split
    · show sel ms (p.2 ^^^ s.2) ^^^ c = p.1 ^^^ s.1
      rw [sel_xor, hS s (List.mem_cons_self ..), ← h, Nat.xor_assoc, Nat.xor_comm s.1 c, Nat.xor_assoc]
    · exact h
theorem stL_lt {k : Nat} : ∀ {S : List (Nat × Nat)} {p : Nat × Nat}, (∀ s ∈ S, s.2 < 2 ^ k) → p.2 < 2 ^ k → (stL S p).2 < 2 ^ k
  | [], _, _, h => h
  | s :: S, p, hS, h => by
    refine stL_lt (S := S) (p := st1 p s) (fun q hq => hS q (List.mem_cons_of_mem _ hq)) ?_
    unfold st1
    split
    · exact Nat.xor_lt_two_pow h (hS s (List.mem_cons_self ..))
    · exact h
theorem stL_take {S : List (Nat × Nat)} {j : Nat} {s : Nat × Nat} (h : S[j]? = some s) (p : Nat × Nat) : stL (S.take (j + 1)) p = st1 (stL (S.take j) p) s := by
  unfold stL
  rw [List.take_add_one, h, Option.toList_some, List.foldl_append]
  rfl
structure Stp (ms : List Nat) (S : List (Nat × Nat)) : Prop where
  nz : ∀ s ∈ S, s.1 ≠ 0
  dist : S.Pairwise fun a b => a.1.log2 ≠ b.1.log2
  desc : S.Pairwise fun a b => b.1 ≤ a.1
  us : ∀ s ∈ S, sel ms s.2 = s.1 ∧ s.2 < 2 ^ ms.length
  sp : ∀ x, Span (S.map (·.1)) x ↔ Span ms x
theorem Stp.nil : Stp [] [] := ⟨fun _ h => by simp at h, List.Pairwise.nil, List.Pairwise.nil, fun _ h => by simp at h, fun _ => Iff.rfl⟩
theorem Stp.ech {ms : List Nat} {S : List (Nat × Nat)} (h : Stp ms S) : Ech (S.map (·.1)) := by
  refine List.pairwise_map.mpr ?_
  have h2 : ∀ {a b : Nat × Nat}, [a, b].Sublist S → a.1.log2 ≠ b.1.log2 := List.pairwise_iff_forall_sublist.mp h.dist
  have h3 : ∀ {a b : Nat × Nat}, [a, b].Sublist S → b.1 ≤ a.1 := List.pairwise_iff_forall_sublist.mp h.desc
  refine List.pairwise_iff_forall_sublist.mpr fun {a b} hs => ?_
  have ha : a.1 ≠ 0 := h.nz a (hs.subset (List.mem_cons_self ..))
  have hb : b.1 ≠ 0 := h.nz b (hs.subset (List.mem_cons_of_mem _ (List.mem_cons_self ..)))
  have d := h2 hs
  have e := h3 hs
  refine Nat.testBit_lt_two_pow ?_
  have hl : b.1.log2 ≤ a.1.log2 := (Nat.le_log2 ha).mpr (Nat.le_trans (Nat.log2_self_le hb) e)
  exact (Nat.log2_lt hb).mp (Nat.lt_of_le_of_ne hl (Ne.symm d))
theorem Stp.nz' {ms : List Nat} {S : List (Nat × Nat)} (h : Stp ms S) : ∀ o ∈ S.map (·.1), o ≠ 0 := fun o ho => by
  obtain ⟨s, hs, rfl⟩ := List.mem_map.mp ho
  exact h.nz s hs
theorem lt_bits {u k : Nat} (h : u < 2 ^ k) : u.testBit k = false := Nat.testBit_lt_two_pow h
theorem Stp.us' {ms : List Nat} {S : List (Nat × Nat)} (h : Stp ms S) (m : Nat) : ∀ s ∈ S, sel (ms ++ [m]) s.2 = s.1 ∧ s.2 < 2 ^ (ms ++ [m]).length := fun s hs => by
  obtain ⟨h1, h2⟩ := h.us s hs
  rw [sel_snoc, lt_bits h2, h1, List.length_append]
  refine ⟨by simp, Nat.lt_of_lt_of_le h2 (Nat.pow_le_pow_right (by decide) (Nat.le_add_right _ _))⟩
theorem Stp.skip {ms : List Nat} {S : List (Nat × Nat)} (h : Stp ms S) {m : Nat} (hz : (stL S (m, 2 ^ ms.length)).1 = 0) : Stp (ms ++ [m]) S :=
  ⟨h.nz, h.dist, h.desc, h.us' m, span_skip h.sp (by rw [← hz, stL_fst])⟩
theorem perm_span {xs ys : List Nat} (h : xs.Perm ys) (x : Nat) : Span xs x ↔ Span ys x :=
  ⟨span_le fun a ha => span_mem (h.mem_iff.mp ha), span_le fun a ha => span_mem (h.mem_iff.mpr ha)⟩
theorem Stp.put {ms : List Nat} {S S' : List (Nat × Nat)} (h : Stp ms S) {m : Nat} (hz : (stL S (m, 2 ^ ms.length)).1 ≠ 0) (hp : S'.Perm (S ++ [stL S (m, 2 ^ ms.length)])) (hd : S'.Pairwise fun a b => b.1 ≤ a.1) : Stp (ms ++ [m]) S' := by
  have sone : sel (ms ++ [m]) (2 ^ ms.length) = m := sel_one (by simp)
  have nsel := stL_sel (ms := ms ++ [m]) (c := 0) (S := S) (p := (m, 2 ^ ms.length)) (fun s hs => (h.us' m s hs).1) (by rw [Nat.xor_zero]; exact sone)
  have nlt := stL_lt (k := (ms ++ [m]).length) (S := S) (p := (m, 2 ^ ms.length)) (fun s hs => (h.us' m s hs).2) (Nat.pow_lt_pow_right (by decide) (by simp))
  rw [Nat.xor_zero] at nsel
  generalize hn : stL S (m, 2 ^ ms.length) = n at *
  have n1 : n.1 = cl (S.map (·.1)) m := by rw [← hn, stL_fst]
  have mem : ∀ s, s ∈ S' ↔ s ∈ S ∨ s = n := fun s => by rw [hp.mem_iff, List.mem_append, List.mem_singleton]
  refine ⟨fun s hs => ?_, ?_, hd, fun s hs => ?_, fun x => ?_⟩
  · rcases (mem s).mp hs with e | e
    · exact h.nz s e
    · rw [e]
      exact hz
  · refine (hp.pairwise_iff fun {a b} e => e.symm).mpr (List.pairwise_append.mpr ⟨h.dist, List.pairwise_singleton _ _, fun a ha b hb => ?_⟩)
    rw [List.mem_singleton.mp hb]
    intro e
    have h1 := cl_bits (m := m) h.ech h.nz' a.1 (List.mem_map.mpr ⟨a, ha, rfl⟩)
    rw [← n1, e, Nat.testBit_log2 hz] at h1
    cases h1
  · rcases (mem s).mp hs with e | e
    · exact h.us' m s e
    · rw [e]
      exact ⟨nsel, nlt⟩
  · rw [perm_span (hp.map (·.1)), List.map_append]
    show Span (S.map (·.1) ++ [n.1]) x ↔ _
    rw [n1]
    exact span_put h.sp x
/-- put where the masks fall -/
def insD (n : Nat × Nat) : List (Nat × Nat) → List (Nat × Nat)
  | [] => [n]
  | s :: S => if s.1 < n.1 then n :: s :: S else s :: insD n S
theorem insD_perm (n : Nat × Nat) : ∀ S, (insD n S).Perm (S ++ [n])
  | [] => List.Perm.refl _
  | s :: S => by
    unfold insD
    split
    · exact (List.perm_append_singleton n (s :: S)).symm
    · exact (insD_perm n S).cons s
theorem insD_desc (n : Nat × Nat) : ∀ {S : List (Nat × Nat)}, (S.Pairwise fun a b => b.1 ≤ a.1) → (insD n S).Pairwise fun a b => b.1 ≤ a.1
  | [], _ => List.pairwise_singleton _ _
  | s :: S, h => by
    obtain ⟨h1, h2⟩ := List.pairwise_cons.mp h
    unfold insD
    split
    · rename_i hlt
      refine List.pairwise_cons.mpr ⟨fun b hb => ?_, h⟩
      rcases List.mem_cons.mp hb with rfl | hb
      · omega
      · have := h1 b hb
        omega
    · rename_i hlt
      refine List.pairwise_cons.mpr ⟨fun b hb => ?_, insD_desc n h2⟩
      rcases List.mem_append.mp ((insD_perm n S).mem_iff.mp hb) with hb | hb
      · exact h1 b hb
      · rw [List.mem_singleton.mp hb]
        omega
theorem desc_one : ∀ {A B : List (Nat × Nat)}, A.Perm B → (A.Pairwise fun a b => b.1 ≤ a.1) → (B.Pairwise fun a b => b.1 ≤ a.1) → (B.Pairwise fun a b => a.1.log2 ≠ b.1.log2) → A = B
  | [], B, hp, _, _, _ => (List.nil_perm.mp hp).symm
  | a :: A, [], hp, _, _, _ => absurd hp.length_eq (by simp)
  | a :: A, b :: B, hp, hA, hB, hd => by
    obtain ⟨a1, a2⟩ := List.pairwise_cons.mp hA
    obtain ⟨b1, b2⟩ := List.pairwise_cons.mp hB
    obtain ⟨d1, d2⟩ := List.pairwise_cons.mp hd
    have e : a = b := by
      rcases List.mem_cons.mp (hp.mem_iff.mp (List.mem_cons_self ..)) with e | m
      · exact e
      · rcases List.mem_cons.mp (hp.mem_iff.mpr (List.mem_cons_self ..)) with e | m'
        · exact e.symm
        · have h1 := b1 a m
          have h2 := a1 b m'
          have h3 : a.1 = b.1 := by omega
          exact absurd (by rw [h3]) (d1 a m)
    subst e
    rw [desc_one (List.Perm.cons_inv hp) a2 b2 d2]
/-- the steps of such masks, one after another -/
def stepS (p : List (Nat × Nat) × Nat) (m : Nat) : List (Nat × Nat) × Nat := (if (stL p.1 (m, 2 ^ p.2)).1 = 0 then p.1 else insD (stL p.1 (m, 2 ^ p.2)) p.1, p.2 + 1)
def runP (ms : List Nat) : List (Nat × Nat) × Nat := ms.foldl stepS ([], 0)
def runM (ms : List Nat) : List (Nat × Nat) := (runP ms).1
theorem runP_snoc (ms : List Nat) (m : Nat) : runP (ms ++ [m]) = stepS (runP ms) m := by
  unfold runP
  rw [List.foldl_append]
  rfl
theorem foldl_two : ∀ (ms : List Nat) (p : List (Nat × Nat) × Nat), (ms.foldl stepS p).2 = p.2 + ms.length
  | [], _ => rfl
  | m :: ms, p => by
    rw [List.foldl_cons, foldl_two ms, List.length_cons]
    show p.2 + 1 + ms.length = _
    omega
theorem runP_two (ms : List Nat) : (runP ms).2 = ms.length := by
  have := foldl_two ms ([], 0)
  rw [Nat.zero_add] at this
  exact this
theorem runM_snoc (ms : List Nat) (m : Nat) : runM (ms ++ [m]) = if (stL (runM ms) (m, 2 ^ ms.length)).1 = 0 then runM ms else insD (stL (runM ms) (m, 2 ^ ms.length)) (runM ms) := by
  unfold runM
  rw [runP_snoc]
  unfold stepS
  rw [runP_two]
/-- what summands tells -/
def sumT (ms : List Nat) (g : Nat) : Option (List Nat) := if (stL (runM ms) (g, 0)).1 = 0 then some ((List.range ms.length).filter (stL (runM ms) (g, 0)).2.testBit) else none
/-! ### in the heap -/
def PrT (H : Hp) (t : Addr) (e : Nat × Nat) : Prop := H t = some (.tup [.int (e.1 : Int), .int (e.2 : Int)])
theorem mo_prt : Mo PrT := fun _ _ _ _ e h => e _ _ h
/-- a list changes, pairs do not -/
theorem prt_list {H : Hp} {l : Addr} {xs ys : List V} {ps : List (Addr × (Nat × Nat))} (h : Tg PrT H ps) (hl : H l = some (.lst xs)) : Tg PrT (upd H l (.lst ys)) ps := fun p hp => by
  have := h p hp
  unfold PrT at this ⊢
  rw [upd_ne (ne_of this hl (by intro z; cases z))]
  exact this
theorem perm_lift {α β : Type} (f : α → β) {ys : List β} {zs : List β} (h : ys.Perm zs) : ∀ {xs : List α}, zs = xs.map f → ∃ xs' : List α, xs'.Perm xs ∧ xs'.map f = ys := by
  induction h with
  | nil =>
    intro xs e
    cases xs with
    | nil => exact ⟨[], List.Perm.refl _, rfl⟩
    | cons _ _ => cases e
  | cons x _ ih =>
    intro xs e
    cases xs with
    | nil => cases e
    | cons a xs =>
      rw [List.map_cons] at e
      injection e with e1 e2
      obtain ⟨xs', h1, h2⟩ := ih e2
      exact ⟨a :: xs', h1.cons a, by rw [List.map_cons, h2, e1]⟩
  | swap x y l =>
    intro xs e
    match xs, e with
    | a :: b :: xs, e =>
      rw [List.map_cons, List.map_cons] at e
      injection e with e1 e2
      injection e2 with e2 e3
      exact ⟨b :: a :: xs, List.Perm.swap _ _ _, by rw [List.map_cons, List.map_cons, e1, e2, e3]⟩
  | trans _ _ ih1 ih2 =>
    intro xs e
    obtain ⟨x2, p2, e2⟩ := ih2 e
    obtain ⟨x1, p1, e1⟩ := ih1 e2.symm
    exact ⟨x1, p1.trans p2, e1⟩
/-- the pair that stands at a reference -/
def kf (ps : List (Addr × (Nat × Nat))) : V → Int × Int
  | .ref a => match ps.find? fun p => decide (p.1 = a) with
    | some p => ((p.2.1 : Int), (p.2.2 : Int))
    | none => (0, 0)
  | _ => (0, 0)
theorem kf_at {H : Hp} {ps : List (Addr × (Nat × Nat))} (h : Tg PrT H ps) {p : Addr × (Nat × Nat)} (hp : p ∈ ps) : kf ps (.ref p.1) = ((p.2.1 : Int), (p.2.2 : Int)) := by
  show (match ps.find? fun q => decide (q.1 = p.1) with
    | some p => ((p.2.1 : Int), (p.2.2 : Int))
    | none => (0, 0)) = _
  cases e : ps.find? fun q => decide (q.1 = p.1) with
  | none =>
    have := List.find?_eq_none.mp e p hp
    simp at this
  | some q =>
    have h1 := List.mem_of_find?_eq_some e
    have h2 : q.1 = p.1 := by simpa using List.find?_some e
    have h3 := h q h1
    have h4 := h p hp
    unfold PrT at h3 h4
    rw [h2] at h3
    have h5 := Option.some.inj (h3.symm.trans h4)
    injection h5 with h5
    injection h5 with h6 h7
    injection h7 with h7 _
    injection h6 with h6
    injection h7 with h7
    show ((q.2.1 : Int), (q.2.2 : Int)) = _
    rw [h6, h7]
-- summands: slots 0=picks 1=pick 2=steps 3=place 4=own 5=mask 6=used 7=other 8=others 9=rest; cells used
abbrev ssummands : Stmt := topS 27
abbrev Nsummands : List Str := ["picks", "pick", "steps", "place", "own", "mask", "used", "other", "others", "rest"]
theorem scsummands : FnScope Nsummands ["picks", "pick"] (defScope ssummands) := ⟨rfl, rfl, rfl, by decide +kernel, rfl, by decide +kernel, by decide +kernel⟩
section
variable {P : Program} {w : World} {K : PySem.W.Frag} {mg : Str → Option Value} {base : Heap} {mt : Nat}
/-- what is asked of picks -/
def Small (L : List (List Nat)) : Prop := ∀ l ∈ L, Asc l ∧ ∀ n ∈ l, n ≤ 1000
def sp_summands (K : PySem.W.Frag) : Sp := fun vs H Q _ => ∃ (a b : Addr) (L : List (List Nat)) (g : List Nat), vs = [.ref a, .ref b] ∧ Pks K H a L ∧ L.length ≤ 1000 ∧ Small L ∧ Nts K H b g ∧ Asc g ∧ (∀ n ∈ g, n ≤ 1000) ∧
  (¬ Span (L.map mk) (mk g) → sumT (L.map mk) (mk g) = none → ∀ H', Same H H' → Q .non H') ∧ ∀ p H' t, Same H H' → Nts K H' p t → Asc t → (∀ i ∈ t, i < L.length) → sel (L.map mk) (mk t) = mk g → sumT (L.map mk) (mk g) = some t → Q (.ref p) H'
theorem small_len {B : Nat} {l : List Nat} (h : Asc l) (hn : ∀ n ∈ l, n ≤ B) : l.length ≤ B + 1 :=
  nat_nodup (B + 1) l (h.imp fun h => Nat.ne_of_lt h) fun n hn' => Nat.lt_succ_of_le (hn n hn')
/-- the loop in the midst of picks: the steps stand at st -/
structure StAt (H0 H : Hp) (st : Addr) (ms : List Nat) : Prop where
  sm : Same H0 H
  no : H0 st = none
  ex : ∃ ps : List (Addr × (Nat × Nat)), H st = some (.lst (rf ps)) ∧ Tg PrT H ps ∧ Stp ms (sn ps) ∧ ps.length ≤ ms.length ∧ sn ps = runM ms
theorem ok_summands {f : Addr} {fd : FuncData} (F : Fun K "summands" "summands" ssummands f fd) (T : Bi mg mt) (cpick_mask : C8.Cal P w K mg base 1 "pick_mask" (sp_pick_mask K) []) : FnOk P w K mg base CX0 2 f fd ["picks", "pick"] (sp_summands K) := by
  refine okC F scsummands (fun vs H Q E h => ?_) (fun cdv A outer s H vs Q E hr hcd h => ?_)
  · obtain ⟨a, b, L, g, rfl, _⟩ := h
    rfl
  · obtain ⟨a, b, L, g, rfl, hS, hL, hA, hG, hg1, hg2, kN, kT⟩ := h
    have hu := hu_of hr
    obtain ⟨qs, rfl, hT, hg⟩ := hS
    refine ⟨_, (pss_cons (ps_set (i := 2) scsummands.nd rfl (Or.inl rfl) (pe_lst pa_nil))
      (pss_cons (ps_for PassesOwn.never rfl (pi_enumT (by rfl) T.enumerate (pa_cons (pv 0) pa_nil)) (pg_tup (n := 2) rfl (pgs_cons (pg_name (i := 3) scsummands.nd rfl (Or.inl rfl)) (pgs_cons (pg_name (i := 4) scsummands.nd rfl (Or.inl rfl)) pgs_nil)))
        (pss_cons (ps_asg (pe_tup (pa_cons (C8.pe_c cpick_mask hr (by decide) (by rfl) (pa_cons (pv 4) pa_nil)) (pa_cons (pe_op op_shl1 pe_int (pv 3)) pa_nil))) (pg_tup (n := 2) rfl (pgs_cons (pg_name (i := 5) scsummands.nd rfl (Or.inl rfl)) (pgs_cons (pg_name (i := 6) scsummands.nd rfl (Or.inr rfl)) pgs_nil))))
        (pss_cons (ps_for PassesOwn.never rfl (pi_list (pv 2)) (pg_tup (n := 2) rfl (pgs_cons (pg_name (i := 7) scsummands.nd rfl (Or.inl rfl)) (pgs_cons (pg_name (i := 8) scsummands.nd rfl (Or.inl rfl)) pgs_nil)))
          (pss_one (ps_if (pt_cmpR op_ltN (pe_op op_xorN (pv 5) (pv 7)) (pv 5) (nomark _))
            (pss_one (ps_asg (pe_tup (pa_cons (pe_op op_xorN (pv 5) (pv 7)) (pa_cons (pe_op op_xorN (pv 6) (pv 8)) pa_nil))) (pg_tup (n := 2) rfl (pgs_cons (pg_name (i := 5) scsummands.nd rfl (Or.inl rfl)) (pgs_cons (pg_name (i := 6) scsummands.nd rfl (Or.inr rfl)) pgs_nil)))))
            pss_nil)))
        (pss_one (ps_if (pt_truthK K (pv 5) (by intro _; rfl))
          (pss_cons (ps_expr (pe_bm PySem.F.plainAttrs_list PySem.F.slot_list_append PySem.F.type_list_append mt_append (pv 2) (pa_cons (pe_tup (pa_cons (pv 5) (pa_cons (pv 6) pa_nil))) pa_nil)))
          (pss_one (ps_set (i := 2) scsummands.nd rfl (Or.inl rfl) (pe_callBK cr_sortedPR (by rfl) T.sorted (by decide +kernel) (pa_cons (pv 2) pa_nil) (pk_cons pe_bl pk_nil)))))
          pss_nil)))))
      (pss_cons (ps_asg (pe_tup (pa_cons (C8.pe_c cpick_mask hr (by decide) (by rfl) (pa_cons (pv 1) pa_nil)) (pa_cons pe_int pa_nil))) (pg_tup (n := 2) rfl (pgs_cons (pg_name (i := 9) scsummands.nd rfl (Or.inl rfl)) (pgs_cons (pg_name (i := 6) scsummands.nd rfl (Or.inr rfl)) pgs_nil))))
      (pss_cons (ps_for PassesOwn.never rfl (pi_list (pv 2)) (pg_tup (n := 2) rfl (pgs_cons (pg_name (i := 7) scsummands.nd rfl (Or.inl rfl)) (pgs_cons (pg_name (i := 8) scsummands.nd rfl (Or.inl rfl)) pgs_nil)))
        (pss_one (ps_if (pt_cmpR op_ltN (pe_op op_xorN (pv 9) (pv 7)) (pv 9) (nomark _))
          (pss_one (ps_asg (pe_tup (pa_cons (pe_op op_xorN (pv 9) (pv 7)) (pa_cons (pe_op op_xorN (pv 6) (pv 8)) pa_nil))) (pg_tup (n := 2) rfl (pgs_cons (pg_name (i := 9) scsummands.nd rfl (Or.inl rfl)) (pgs_cons (pg_name (i := 6) scsummands.nd rfl (Or.inr rfl)) pgs_nil)))))
          pss_nil)))
      (pss_cons (ps_if (pt_truthK K (pv 9) (by intro _; rfl))
        (pss_one (ps_ret pe_non))
        pss_nil)
      (pss_one (ps_ret (pe_tupleOf (by rfl) T.tuple (pe_lc (own := [("place", 3)]) rfl scsummands.nd (pi_range1 (by rfl) T.range (pa_cons (pe_callB call_len_seq (by rfl) T.len (by decide +kernel) (pa_cons (pv 0) pa_nil)) pa_nil)) (blkOk_by (N := Nsummands) (sc := (defScope ssummands)) (by decide +kernel)) (fun _ _ _ _ _ => (pg_name (i := 3) scsummands.nd rfl (Or.inl rfl))) (fun _ _ _ _ _ => (pts_one (pt_truthK K (pe_op op_andN (pe_op op_shrN (pv 6) (pv 3)) pe_int) (by intro _; rfl)))) (fun _ _ _ _ _ => (pv 3))))))))))), ?_⟩
    -- steps = []
    refine ⟨Nat.zero_le _, fun st0 hst0 => ?_⟩
    refine ⟨.ref a, rfl, a, _, rfl, (same_new hst0).seqT hT, for_it walk_enumT (fun i σ H' => ∃ st v3 v4 v5 v6 v7 v8 v9, σ = [some (.ref a), some (.ref b), some (.ref st), v3, v4, v5, v6, v7, v8, v9] ∧ StAt H H' st (((sn qs).take i).map mk))
      ⟨st0, none, none, none, none, none, none, none, rfl, same_new hst0, hst0, [], upd_same, fun _ h => by simp at h, Stp.nil, Nat.zero_le _, rfl⟩ (fun i σ H' _ ⟨_, _, _, _, _, _, _, _, _, o⟩ => o.sm.seqT hT) ?_ ?_⟩
    · rintro i y σ H1 H2 hi ⟨st, v3, v4, v5, v6, v7, v8, v9, rfl, o⟩ ⟨T, x, z, rfl, hTn, rfl, hx, hz⟩
      cases hx
      obtain ⟨q, hq, rfl⟩ := rf_get hz
      have hqm := mem_at hq
      have hqa := hA q.2 (List.mem_map.mpr ⟨q, hqm, rfl⟩)
      have sT : Same H1 (upd H1 T (.tup [.int (i : Int), .ref q.1])) := same_new hTn
      refine ⟨T, _, rfl, SqT.of upd_same, rfl, _, _, rfl, _, _, rfl, rfl, ?_⟩
      -- mask, used = pick_mask(own), 1 << place
      refine ⟨.ref q.1, rfl, q.1, q.2, rfl, mo_nts _ _ _ _ (o.sm.trans sT) (hg q hqm), Nat.le_trans (small_len hqa.1 hqa.2) (by decide), fun n hn => Nat.le_trans (hqa.2 n hn) (by decide), fun H3 s3 => ?_⟩
      refine ⟨.int (i : Int), rfl, i, rfl, rfl, by rw [rf_len, ← sn_len] at hi; omega, by show 2 ≤ sizeLine; decide, fun U hU => ?_⟩
      refine ⟨U, _, rfl, SqT.of upd_same, rfl, _, _, rfl, _, _, rfl, rfl, ?_⟩
      have s4 : Same H (upd H3 U (.tup [.int (mk q.2 : Nat), .int ((2 ^ i : Nat) : Int)])) := (o.sm.trans (sT.trans s3)).trans (same_new hU)
      obtain ⟨ss, hst, hgs, hstp, hle, hrun⟩ := o.ex
      have g4 : Same H1 (upd H3 U (.tup [.int (mk q.2 : Nat), .int ((2 ^ i : Nat) : Int)])) := (sT.trans s3).trans (same_new hU)
      generalize upd H3 U (.tup [.int (mk q.2 : Nat), .int ((2 ^ i : Nat) : Int)]) = H4 at s4 g4 ⊢
      have hst4 := g4 _ _ hst
      have hgs4 := hgs.mono mo_prt g4
      have hlen : (((sn qs).take i).map mk).length = i := by
        rw [List.length_map, List.length_take, sn_len]
        rw [rf_len] at hi
        omega
      -- for other, others in steps
      refine ⟨.ref st, rfl, st, rfl, ⟨_, SqL.of hst4⟩, for_list (xs := rf ss) (fun j σ H' => ∃ v7 v8, σ = [some (.ref a), some (.ref b), some (.ref st), some (.int (i : Int)), some (.ref q.1), some (.int ((stL ((sn ss).take j) (mk q.2, 2 ^ i)).1 : Nat)), some (.int ((stL ((sn ss).take j) (mk q.2, 2 ^ i)).2 : Nat)), v7, v8, v9] ∧ Same H4 H')
        ⟨v7, v8, rfl, Same.refl _⟩ (fun j σ H' _ ⟨_, _, _, s⟩ => s.seq (SqL.of hst4)) ?_ ?_⟩
      · rintro j y σ H5 hj ⟨v7, v8, rfl, s5⟩
        obtain ⟨e, he, rfl⟩ := rf_get hj
        have hem := mem_at he
        have het := s5 _ _ (hgs4 e hem)
        rw [stL_take (sn_get he)]
        generalize stL ((sn ss).take j) (mk q.2, 2 ^ i) = m at *
        refine ⟨e.1, _, rfl, SqT.of het, rfl, _, _, rfl, _, _, rfl, rfl, ?_⟩
        refine ⟨_, rfl, _, rfl, _, _, rfl, rfl, _, rfl, _, _, rfl, rfl, _, rfl, ?_⟩
        refine ite2 (fun hlt => ?_) (fun hlt => ?_)
        · have hlt' : m.1 ^^^ e.2.1 < m.1 := by
            exact of_decide_eq_true hlt
          refine ⟨_, rfl, _, rfl, _, _, rfl, rfl, _, rfl, _, rfl, _, _, rfl, rfl, by show 2 ≤ sizeLine; decide, fun W hW => ?_⟩
          refine ⟨W, _, rfl, SqT.of upd_same, rfl, _, _, rfl, _, _, rfl, rfl, ?_⟩
          refine ⟨some (.int (e.2.1 : Int)), some (.int (e.2.2 : Int)), ?_, s5.trans (same_new hW)⟩
          have e1 : st1 m e.2 = (m.1 ^^^ e.2.1, m.2 ^^^ e.2.2) := if_pos hlt'
          rw [e1]
          rfl
        · have hlt' : ¬ m.1 ^^^ e.2.1 < m.1 := by
            intro z
            exact hlt (decide_eq_true z)
          refine ⟨some (.int (e.2.1 : Int)), some (.int (e.2.2 : Int)), ?_, s5⟩
          have e1 : st1 m e.2 = m := if_neg hlt'
          rw [e1]
          rfl
      · rintro σ H5 ⟨v7, v8, rfl, s5⟩
        rw [rf_len, ← sn_len, List.take_length]
        have hst5 := s5 _ _ hst4
        have hgs5 := hgs4.mono mo_prt s5
        have sH5 : Same H H5 := s4.trans s5
        have hpre : ((sn qs).take (i + 1)).map mk = ((sn qs).take i).map mk ++ [mk q.2] := by
          rw [List.take_add_one, sn_get hq, Option.toList_some, List.map_append]
          rfl
        have hm : stL (sn ss) (mk q.2, 2 ^ i) = stL (sn ss) (mk q.2, 2 ^ (((sn qs).take i).map mk).length) := by rw [hlen]
        have hput := fun S' => hstp.put (m := mk q.2) (S' := S')
        have hskip := hstp.skip (m := mk q.2)
        have hrs := runM_snoc (((sn qs).take i).map mk) (mk q.2)
        rw [← hrun, hlen] at hrs
        rw [← hm] at hskip
        simp only [← hm] at hput
        generalize hmm : stL (sn ss) (mk q.2, 2 ^ i) = m at hput hskip hrs ⊢
        -- if mask
        refine ⟨_, rfl, (m.1 : Int) != 0, rfl, ?_⟩
        by_cases hz : m.1 = 0
        · rw [hz]
          refine iteF ?_
          refine ⟨st, _, _, _, _, _, _, _, rfl, sH5, o.no, ss, hst5, hgs5, ?_, ?_, ?_⟩
          · rw [hpre]
            exact hskip hz
          · rw [hpre, List.length_append]
            exact Nat.le_succ_of_le hle
          · rw [hpre, hrs, if_pos hz]
        · have hb : ((m.1 : Int) != 0) = true := by
            rw [bne_iff_ne]
            omega
          rw [hb]
          refine iteT ?_
          -- steps.append((mask, used)); steps = sorted(steps, reverse=True)
          refine ⟨.ref st, rfl, .inl ⟨rfl, _, SqL.of hst5⟩, _, rfl, _, rfl, by show 2 ≤ sizeLine; decide, fun W hW => ?_⟩
          have sW : Same H5 (upd H5 W (.tup [.int (m.1 : Nat), .int (m.2 : Nat)])) := same_new hW
          have hstW := sW _ _ hst5
          have hps : ss.length ≤ 1000 := by
            rw [hlen] at hle
            rw [rf_len, ← sn_len] at hi
            omega
          refine ⟨st, _, _, rfl, rfl, hstW, by rw [rf_len, sizeLine_eq]; omega, ?_⟩
          have hlst : (upd (upd H5 W (.tup [.int (m.1 : Nat), .int (m.2 : Nat)])) st (.lst (rf ss ++ [V.ref W]))) st = some (.lst (rf (ss ++ [(W, m)]))) := by
            rw [upd_same, rf_snoc]
          have hgW : Tg PrT (upd (upd H5 W (.tup [.int (m.1 : Nat), .int (m.2 : Nat)])) st (.lst (rf ss ++ [V.ref W]))) (ss ++ [(W, m)]) := by
            refine prt_list (fun p hp => ?_) hstW
            rcases List.mem_append.mp hp with hp | hp
            · exact (hgs5.mono mo_prt sW) p hp
            · rw [List.mem_singleton.mp hp]
              exact upd_same
          have sWH : Same H (upd (upd H5 W (.tup [.int (m.1 : Nat), .int (m.2 : Nat)])) st (.lst (rf ss ++ [V.ref W]))) := same_at (sH5.trans sW) o.no
          generalize upd (upd H5 W (.tup [.int (m.1 : Nat), .int (m.2 : Nat)])) st (.lst (rf ss ++ [V.ref W])) = H6 at hlst hgW sWH ⊢
          refine ⟨.ref st, rfl, st, _, kf (ss ++ [(W, m)]), rfl, rfl, SqL.of hlst, fun x hx => ?_, fun ys r hperm hdesc hr' => ?_⟩
          · obtain ⟨p, hp, rfl⟩ := List.mem_map.mp hx
            refine ⟨p.1, rfl, ?_⟩
            rw [kf_at hgW hp]
            exact hgW p hp
          · obtain ⟨ss', hp', rfl⟩ := perm_lift (fun p : Addr × (Nat × Nat) => V.ref p.1) hperm (xs := ss ++ [(W, m)]) rfl
            have hgs' : Tg PrT H6 ss' := fun p hp => hgW p (hp'.mem_iff.mp hp)
            have hper : (sn ss').Perm (sn ss ++ [m]) := by
              have := hp'.map (·.2)
              rw [List.map_append] at this
              exact this
            have hdes : (sn ss').Pairwise fun a b => b.1 ≤ a.1 := ?hdes
            refine ⟨r, _, _, _, _, _, _, _, rfl, sWH.trans (same_new hr'), ?_, ss', upd_same, hgs'.mono mo_prt (same_new hr'), ?_, ?_, ?_⟩
            · exact sWH.free hr'
            · rw [hpre]
              exact hput (sn ss') hz hper hdes
            · rw [hp'.length_eq, hpre, List.length_append, List.length_append]
              exact Nat.succ_le_succ hle
            · rw [hpre, hrs, if_neg hz]
              have hi1 := hput (insD m (sn ss)) hz (insD_perm m (sn ss)) (insD_desc m hstp.desc)
              exact desc_one (hper.trans (insD_perm m (sn ss)).symm) hdes hi1.desc hi1.dist
            case hdes =>
                have h1 := List.pairwise_map.mp hdesc
                refine List.pairwise_map.mpr ?_
                have h2 : ∀ {x y : Addr × (Nat × Nat)}, [x, y].Sublist ss' → ltP (kf (ss ++ [(W, m)])) (V.ref x.1) (V.ref y.1) = false := List.pairwise_iff_forall_sublist.mp h1
                refine List.pairwise_iff_forall_sublist.mpr fun {x y} hs => ?_
                have hx := hp'.mem_iff.mp (hs.subset (List.mem_cons_self ..))
                have hy := hp'.mem_iff.mp (hs.subset (List.mem_cons_of_mem _ (List.mem_cons_self ..)))
                have h3 := h2 hs
                unfold ltP at h3
                rw [kf_at hgW hx, kf_at hgW hy] at h3
                refine Nat.le_of_not_lt fun hlt => ?_
                rw [SrtO.lexB_iff.mpr (.inl (by show (x.2.1 : Int) < (y.2.1 : Int); omega))] at h3
                cases h3
    · rintro σ H1 ⟨st, v3, v4, v5, v6, v7, v8, v9, rfl, o⟩
      rw [rf_len, ← sn_len, List.take_length] at o
      obtain ⟨ss, hst, hgs, hstp, hle, hrun⟩ := o.ex
      -- rest, used = pick_mask(pick), 0
      refine ⟨.ref b, rfl, b, g, rfl, mo_nts _ _ _ _ o.sm hG, Nat.le_trans (small_len hg1 hg2) (by decide), hg2, fun H3 s3 => ?_⟩
      refine ⟨by show 2 ≤ sizeLine; decide, fun U hU => ?_⟩
      refine ⟨U, _, rfl, SqT.of upd_same, rfl, _, _, rfl, _, _, rfl, rfl, ?_⟩
      have g4 : Same H1 (upd H3 U (.tup [.int (mk g : Nat), .int 0])) := s3.trans (same_new hU)
      have s4 := o.sm.trans g4
      generalize upd H3 U (.tup [.int (mk g : Nat), .int 0]) = H4 at s4 g4 ⊢
      have hst4 := g4 _ _ hst
      have hgs4 := hgs.mono mo_prt g4
      refine ⟨.ref st, rfl, st, rfl, ⟨_, SqL.of hst4⟩, for_list (xs := rf ss) (fun j σ H' => ∃ v7 v8, σ = [some (.ref a), some (.ref b), some (.ref st), v3, v4, v5, some (.int ((stL ((sn ss).take j) (mk g, 0)).2 : Nat)), v7, v8, some (.int ((stL ((sn ss).take j) (mk g, 0)).1 : Nat))] ∧ Same H4 H')
        ⟨v7, v8, rfl, Same.refl _⟩ (fun j σ H' _ ⟨_, _, _, s⟩ => s.seq (SqL.of hst4)) ?_ ?_⟩
      · rintro j y σ H5 hj ⟨v7, v8, rfl, s5⟩
        obtain ⟨e, he, rfl⟩ := rf_get hj
        have hem := mem_at he
        have het := s5 _ _ (hgs4 e hem)
        rw [stL_take (sn_get he)]
        generalize stL ((sn ss).take j) (mk g, 0) = m at *
        refine ⟨e.1, _, rfl, SqT.of het, rfl, _, _, rfl, _, _, rfl, rfl, ?_⟩
        refine ⟨_, rfl, _, rfl, _, _, rfl, rfl, _, rfl, _, _, rfl, rfl, _, rfl, ?_⟩
        refine ite2 (fun hlt => ?_) (fun hlt => ?_)
        · have hlt' : m.1 ^^^ e.2.1 < m.1 := of_decide_eq_true hlt
          refine ⟨_, rfl, _, rfl, _, _, rfl, rfl, _, rfl, _, rfl, _, _, rfl, rfl, by show 2 ≤ sizeLine; decide, fun W hW => ?_⟩
          refine ⟨W, _, rfl, SqT.of upd_same, rfl, _, _, rfl, _, _, rfl, rfl, ?_⟩
          refine ⟨some (.int (e.2.1 : Int)), some (.int (e.2.2 : Int)), ?_, s5.trans (same_new hW)⟩
          have e1 : st1 m e.2 = (m.1 ^^^ e.2.1, m.2 ^^^ e.2.2) := if_pos hlt'
          rw [e1]
          rfl
        · have hlt' : ¬ m.1 ^^^ e.2.1 < m.1 := fun z => hlt (decide_eq_true z)
          refine ⟨some (.int (e.2.1 : Int)), some (.int (e.2.2 : Int)), ?_, s5⟩
          have e1 : st1 m e.2 = m := if_neg hlt'
          rw [e1]
          rfl
      · rintro σ H5 ⟨v7, v8, rfl, s5⟩
        rw [rf_len, ← sn_len, List.take_length]
        have sH5 : Same H H5 := s4.trans s5
        have hsel := stL_sel (ms := (sn qs).map mk) (c := mk g) (S := sn ss) (p := (mk g, 0)) (fun s hs => (hstp.us s hs).1) (by rw [sel_zero, Nat.zero_xor])
        have hult := stL_lt (k := ((sn qs).map mk).length) (S := sn ss) (p := (mk g, 0)) (fun s hs => (hstp.us s hs).2) (Nat.two_pow_pos _)
        have hfst := stL_fst (sn ss) (mk g, 0)
        have hz := cl_zero (m := mk g) hstp.ech hstp.nz'
        have hT0 : sumT ((sn qs).map mk) (mk g) = if (stL (sn ss) (mk g, 0)).1 = 0 then some ((List.range ((sn qs).map mk).length).filter (stL (sn ss) (mk g, 0)).2.testBit) else none := by
          unfold sumT
          rw [← hrun]
        rw [List.length_map] at hult hT0
        generalize stL (sn ss) (mk g, 0) = m at *
        -- if rest: return None
        refine ⟨_, rfl, (m.1 : Int) != 0, rfl, ?_⟩
        by_cases h0 : m.1 = 0
        · rw [h0]
          refine iteF ?_
          rw [h0] at hsel
          -- return tuple([..])
          have hn : (rf qs).length ≤ 1000 := by rw [rf_len, ← sn_len]; exact hL
          refine ⟨.ref a, rfl, a, _, rfl, .inr (sH5.seqT hT), ((rf qs).length : Int), rfl, by omega, by omega, fun D hD => ?_⟩
          refine lc_acc walk_rngN (fun i => if m.2.testBit i = true then some (V.int (i : Int)) else none) (by omega) hD (fun _ _ => True.intro) (fun i x H6 H7 Ky Kn hi s6 y ky kn => ?_) fun H6 s6 e => ?_
          · obtain ⟨rfl, rfl⟩ := y
            have hbit : m.2 / 2 ^ i &&& 1 = (m.2.testBit i).toNat := by
              rw [Nat.and_one_is_mod, Nat.testBit_eq_decide_div_mod_eq]
              rcases Nat.mod_two_eq_zero_or_one (m.2 / 2 ^ i) with h | h <;> simp [h]
            refine ⟨rfl, _, rfl, _, rfl, _, _, rfl, rfl, _, 1, rfl, rfl, m.2.testBit i, ?_, ?_⟩
            · show m.2.testBit i = (((m.2 / 2 ^ i &&& 1 : Nat) : Int) != 0)
              rw [hbit]
              cases m.2.testBit i <;> rfl
            · cases hb : m.2.testBit i with
              | true =>
                rw [hb] at ky
                exact iteT ⟨_, rfl, ky _ _ rfl (Same.refl _)⟩
              | false =>
                rw [hb] at kn
                exact iteF (kn rfl _ (Same.refl _))
          · rw [fm_if] at e
            refine .inl ⟨D, _, rfl, SqL.of e, fun r hr' => ?_⟩
            have hasc : Asc ((List.range (rf qs).length).filter m.2.testBit) := List.Pairwise.filter _ List.pairwise_lt_range
            have hmk : mk ((List.range (rf qs).length).filter m.2.testBit) = m.2 := by
              apply Nat.eq_of_testBit_eq
              intro i
              rw [mk_bit hasc]
              cases hb : m.2.testBit i with
              | true =>
                refine decide_eq_true (List.mem_filter.mpr ⟨List.mem_range.mpr ?_, hb⟩)
                rw [rf_len, ← sn_len]
                refine Nat.lt_of_not_le fun hle => ?_
                rw [Nat.testBit_lt_two_pow (Nat.lt_of_lt_of_le hult (Nat.pow_le_pow_right (by decide) hle))] at hb
                cases hb
              | false =>
                refine decide_eq_false fun hm => ?_
                rw [(List.mem_filter.mp hm).2] at hb
                cases hb
            refine kT r _ _ ((sH5.trans s6).trans (same_new hr')) (SqT.of upd_same) hasc (fun i hi => ?_) ?_ (by rw [hT0, if_pos h0, rf_len, ← sn_len])
            · have := List.mem_range.mp (List.mem_filter.mp hi).1
              rw [rf_len, ← sn_len] at this
              exact this
            · rw [hmk]
              have := congrArg (· ^^^ mk g) hsel
              simp only [xor_cancel, Nat.zero_xor] at this
              exact this
        · have hb : ((m.1 : Int) != 0) = true := by
            rw [bne_iff_ne]
            omega
          rw [hb]
          refine iteT ?_
          refine kN (fun hsp => h0 ?_) (by rw [hT0, if_neg h0]) H5 sH5
          rw [hfst]
          exact hz.mpr ((hstp.sp _).mpr hsp)
end
end Fb

/-! FbN -/
set_option maxHeartbeats 4000000
/-! _law_is_met, _law_is_any, _law_holds -/
namespace Fb
open PySem PySem.Spec PyProof.Rows L2
theorem cl_take {L : List Nat} {j o : Nat} (h : L[j]? = some o) (m : Nat) : cl (L.take (j + 1)) m = cl1 (cl (L.take j) m) o := by
  unfold cl
  rw [List.take_add_one, h, Option.toList_some, List.foldl_append]
  rfl
theorem map_take1 {α β : Type} {l : List α} {i : Nat} {x : α} (h : l[i]? = some x) (f : α → β) : (l.take (i + 1)).map f = (l.take i).map f ++ [f x] := by
  rw [List.take_add_one, h, Option.toList_some, List.map_append]
  rfl
/-- a tuple, as it is shown and compared -/
theorem dp_ints {K : PySem.W.Frag} {H : Hp} : ∀ ns : List Nat, DpAll K H (nv ns) (ns.map fun n : Nat => PyData.int (n : Int))
  | [] => .nil
  | n :: ns => .cons (.int _) (dp_ints ns)
theorem dp_nts {K : PySem.W.Frag} {H : Hp} {a : Addr} {ns : List Nat} (h : Nts K H a ns) : Dp K H (.ref a) (.tuple (ns.map fun n : Nat => PyData.int (n : Int))) := .tup h (dp_ints ns)
def pd (ns : List Nat) : PyData := .tuple (ns.map fun n : Nat => PyData.int (n : Int))
theorem pd_shaped (ns : List Nat) : SeqAt.shaped (pd ns) = true := by
  have h1 : PyData.canLayAll0 (ns.map fun n : Nat => PyData.int (n : Int)) = true := by
    induction ns with
    | nil => rfl
    | cons n ns ih => simpa [PyData.canLayAll0, PyData.canLay0] using ih
  have h2 : PyData.depthAll (ns.map fun n : Nat => PyData.int (n : Int)) = 0 := by
    clear h1
    induction ns with
    | nil => rfl
    | cons n ns ih => simpa [PyData.depthAll, PyData.depth] using ih
  unfold SeqAt.shaped pd
  rw [PyData.canLay0, PyData.depth, h1, h2]
  rfl
theorem pd_eqv (ns : List Nat) : PyData.eqv (pd ns) (pd ns) = true := by
  unfold pd
  rw [PyData.eqv]
  induction ns with
  | nil => rfl
  | cons n ns ih =>
    rw [List.map_cons, PyData.eqvAll, ih]
    simp [PyData.eqv]
theorem tyx_tup {K : PySem.W.Frag} {H : Hp} {a : Addr} {xs : List V} (h : SqT K H a xs) : TyX K H (.ref a) (.type "tuple") := by
  rcases h with (h | ⟨o, h⟩) | ⟨o, its, n, hl, hc, _⟩
  · exact .base (.tup h)
  · exact .fTuple h
  · exact .kTuple hl hc
-- _law_is_met: slots 0=_law_heap_here 1=_law_goal_here 2=_law_known 3=_law_rest 4=_law_own 5=_law_mark_here 6=_law_old; cells 
abbrev s_law_is_met : Stmt := topS 41
abbrev N_law_is_met : List Str := ["_law_heap_here", "_law_goal_here", "_law_known", "_law_rest", "_law_own", "_law_mark_here", "_law_old"]
theorem sc_law_is_met : FnScope N_law_is_met ["_law_heap_here", "_law_goal_here"] (defScope s_law_is_met) := ⟨rfl, rfl, rfl, by decide +kernel, rfl, by decide +kernel, by decide +kernel⟩
-- _law_is_any: slots 0=_law_heap_here 1=_law_goal_here 2=_law_sums 3=_law_own 4=_law_mark_here 5=_law_old; cells _law_mark_here
abbrev s_law_is_any : Stmt := topS 42
abbrev N_law_is_any : List Str := ["_law_heap_here", "_law_goal_here", "_law_sums", "_law_own", "_law_mark_here", "_law_old"]
theorem sc_law_is_any : FnScope N_law_is_any ["_law_heap_here", "_law_goal_here"] (defScope s_law_is_any) := ⟨rfl, rfl, rfl, by decide +kernel, rfl, by decide +kernel, by decide +kernel⟩
-- _law_holds: slots 0=_law_heap_here 1=_law_goal_here 2=_law_thing 3=_law_before 4=_law_at; cells _law_heap_here
abbrev s_law_holds : Stmt := topS 43
abbrev N_law_holds : List Str := ["_law_heap_here", "_law_goal_here", "_law_thing", "_law_before", "_law_at"]
theorem sc_law_holds : FnScope N_law_holds ["_law_heap_here", "_law_goal_here", "_law_thing"] (defScope s_law_holds) := ⟨rfl, rfl, rfl, by decide +kernel, rfl, by decide +kernel, by decide +kernel⟩
section
variable {P : Program} {w : World} {K : PySem.W.Frag} {mg : Str → Option Value} {base : Heap} {mt : Nat}
/-- whether a pick is the sum of some: at most m picks -/
def sp_met (m : Nat) (K : PySem.W.Frag) : Sp := fun vs H Q _ => ∃ (a b : Addr) (L : List (List Nat)) (g : List Nat), vs = [.ref a, .ref b] ∧ Pks K H a L ∧ L.length ≤ m ∧ Small L ∧ Nts K H b g ∧ Asc g ∧ (∀ n ∈ g, n ≤ 1000) ∧
  ∀ (r : Bool) H', Same H H' → (r = true ↔ Span (L.map mk) (mk g)) → Q (.bl r) H'
abbrev sp_law_is_met := sp_met 1000
abbrev sp_law_is_any := sp_met 10
theorem ok_law_is_met {f : Addr} {fd : FuncData} (F : Fun K "_law_is_met" "_law_is_met" s_law_is_met f fd) (T : Bi mg mt) (c_law_mark : C8.Cal P w K mg base 1 "_law_mark" (sp_law_mark K) []) : FnOk P w K mg base CX0 2 f fd ["_law_heap_here", "_law_goal_here"] (sp_law_is_met K) := by
  refine okC F sc_law_is_met (fun vs H Q E h => ?_) (fun cdv A outer s H vs Q E hr hcd h => ?_)
  · obtain ⟨a, b, L, g, rfl, _⟩ := h
    rfl
  · obtain ⟨a, b, L, g, rfl, hS, hL, hA, hG, hg1, hg2, k⟩ := h
    obtain ⟨qs, rfl, hT, hg⟩ := hS
    refine ⟨_, (pss_cons (ps_par (i := 2) (j := 3) (by rfl) sc_law_is_met.nd rfl rfl (by decide) rfl rfl (pa_cons (pe_lst pa_nil) (pa_cons (C8.pe_c c_law_mark hr (by decide) (by rfl) (pa_cons (pv 1) pa_nil)) pa_nil)) (by rfl))
      (pss_cons (ps_for PassesOwn.never rfl (pi_tup (pv 0)) (pg_name (i := 4) sc_law_is_met.nd rfl (Or.inl rfl))
        (pss_cons (ps_set (i := 5) sc_law_is_met.nd rfl (Or.inl rfl) (C8.pe_c c_law_mark hr (by decide) (by rfl) (pa_cons (pv 4) pa_nil)))
        (pss_cons (ps_for PassesOwn.never rfl (pi_list (pv 2)) (pg_name (i := 6) sc_law_is_met.nd rfl (Or.inl rfl))
          (pss_one (ps_set (i := 5) sc_law_is_met.nd rfl (Or.inl rfl) (pe_callB (call_minN rfl) (by rfl) T.min (by decide +kernel) (pa_cons (pv 5) (pa_cons (pe_op op_xorN (pv 5) (pv 6)) pa_nil))))))
        (pss_one (ps_if (pt_cmpR op_gtN (pv 5) pe_int (nomark _))
          (pss_one (ps_expr (pe_bm PySem.F.plainAttrs_list PySem.F.slot_list_append PySem.F.type_list_append mt_append (pv 2) (pa_cons (pv 5) pa_nil))))
          pss_nil)))))
      (pss_cons (ps_for PassesOwn.never rfl (pi_list (pv 2)) (pg_name (i := 6) sc_law_is_met.nd rfl (Or.inl rfl))
        (pss_one (ps_set (i := 3) sc_law_is_met.nd rfl (Or.inl rfl) (pe_callB (call_minN rfl) (by rfl) T.min (by decide +kernel) (pa_cons (pv 3) (pa_cons (pe_op op_xorN (pv 3) (pv 6)) pa_nil))))))
      (pss_one (ps_ret (pe_cmpR op_eqN (pv 3) pe_int (nomark _))))))), ?_⟩
    refine ⟨Nat.zero_le _, fun kn hkn => ?_⟩
    refine ⟨.ref b, rfl, b, g, rfl, (same_new hkn).seqT hG, Nat.le_trans (small_len hg1 hg2) (by decide), hg2, fun H3 s3 => ?_⟩
    refine ⟨_, _, rfl, ?_⟩
    have k3 : H3 kn = some (.lst (nv [])) := s3 _ _ upd_same
    have s3' : Same H H3 := (same_new hkn).trans s3
    refine ⟨.ref a, rfl, a, rfl, ⟨_, s3'.seqT hT⟩, for_tup (xs := rf qs) (fun i σ H' => ∃ ks v4 v5 v6, σ = [some (.ref a), some (.ref b), some (.ref kn), some (.int (mk g : Nat)), v4, v5, v6] ∧ Same H H' ∧ H' kn = some (.lst (nv ks)) ∧ Ech ks ∧ (∀ o ∈ ks, o ≠ 0) ∧ (∀ x, Span ks x ↔ Span (((sn qs).take i).map mk) x) ∧ ks.length ≤ i)
      ⟨[], none, none, none, rfl, s3', k3, List.Pairwise.nil, fun _ h => by simp at h, fun _ => Iff.rfl, Nat.le_refl _⟩ (fun i σ H' _ ⟨_, _, _, _, _, s, _⟩ => s.seqT hT) ?_ ?_⟩
    · rintro i y σ H4 hi ⟨ks, v4, v5, v6, rfl, s4, hk, he, hz, hsp, hle⟩
      obtain ⟨q, hq, rfl⟩ := rf_get hi
      have hqm := mem_at hq
      have hqa := hA q.2 (List.mem_map.mpr ⟨q, hqm, rfl⟩)
      have hi1 : i < 1000 := by
        have := (List.getElem?_eq_some_iff.mp hq).1
        rw [sn_len] at hL
        omega
      refine ⟨.ref q.1, rfl, q.1, q.2, rfl, mo_nts _ _ _ _ s4 (hg q hqm), Nat.le_trans (small_len hqa.1 hqa.2) (by decide), hqa.2, fun H5 s5 => ?_⟩
      have hk5 := s5 _ _ hk
      -- for old in known
      refine ⟨.ref kn, rfl, kn, rfl, ⟨_, SqL.of hk5⟩, for_list (xs := nv ks) (fun j σ H' => ∃ v6, σ = [some (.ref a), some (.ref b), some (.ref kn), some (.int (mk g : Nat)), some (.ref q.1), some (.int ((cl (ks.take j) (mk q.2) : Nat) : Int)), v6] ∧ H' = H5)
        ⟨v6, rfl, rfl⟩ (fun j σ H' _ ⟨_, _, e⟩ => by rw [e]; exact SqL.of hk5) ?_ ?_⟩
      · rintro j y σ H6 hj ⟨v6, rfl, rfl⟩
        obtain ⟨o, ho, rfl⟩ := nv_get hj
        refine ⟨_, rfl, _, rfl, _, rfl, _, _, rfl, rfl, _, _, rfl, some (.int (o : Int)), ?_, rfl⟩
        rw [cl_take ho, cl1_min]
        rfl
      · rintro σ H6 ⟨v6, rfl, rfl⟩
        rw [nv_len, List.take_length]
        have hm1 := map_take1 (sn_get hq) mk
        generalize hc : cl ks (mk q.2) = m
        refine ⟨_, rfl, m, 0, rfl, rfl, _, rfl, ?_⟩
        refine ite2 (fun hlt => ?_) (fun hlt => ?_)
        · have hlt' : 0 < m := of_decide_eq_true hlt
          refine ⟨.ref kn, rfl, .inl ⟨rfl, _, SqL.of hk5⟩, _, rfl, kn, _, _, rfl, rfl, hk5, by rw [nv_len, sizeLine_eq]; omega, ?_⟩
          refine ⟨ks ++ [m], _, _, _, rfl, same_at (s4.trans s5) hkn, ?_, ?_, fun o ho => ?_, fun x => ?_, ?_⟩
          · rw [upd_same, nv_snoc]
          · rw [← hc]
            exact ech_snoc he hz
          · rcases List.mem_append.mp ho with ho | ho
            · exact hz o ho
            · rw [List.mem_singleton.mp ho]
              omega
          · rw [hm1, ← hc]
            exact span_put hsp x
          · rw [List.length_append]
            exact Nat.succ_le_succ hle
        · have hlt' : m = 0 := by
            have : ¬ 0 < m := fun z => hlt (decide_eq_true z)
            omega
          refine ⟨ks, _, _, _, rfl, s4.trans s5, hk5, he, hz, fun x => ?_, Nat.le_succ_of_le hle⟩
          rw [hm1]
          exact span_skip hsp (by rw [hc, hlt']) x
    · rintro σ H4 ⟨ks, v4, v5, v6, rfl, s4, hk, he, hz, hsp, hle⟩
      rw [rf_len, ← sn_len, List.take_length] at hsp
      refine ⟨.ref kn, rfl, kn, rfl, ⟨_, SqL.of hk⟩, for_list (xs := nv ks) (fun j σ H' => ∃ v6, σ = [some (.ref a), some (.ref b), some (.ref kn), some (.int ((cl (ks.take j) (mk g) : Nat) : Int)), v4, v5, v6] ∧ H' = H4)
        ⟨v6, rfl, rfl⟩ (fun j σ H' _ ⟨_, _, e⟩ => by rw [e]; exact SqL.of hk) ?_ ?_⟩
      · rintro j y σ H6 hj ⟨v6, rfl, rfl⟩
        obtain ⟨o, ho, rfl⟩ := nv_get hj
        refine ⟨_, rfl, _, rfl, _, rfl, _, _, rfl, rfl, _, _, rfl, some (.int (o : Int)), ?_, rfl⟩
        rw [cl_take ho, cl1_min]
        rfl
      · rintro σ H6 ⟨v6, rfl, rfl⟩
        rw [nv_len, List.take_length]
        refine ⟨_, rfl, cl ks (mk g), 0, rfl, rfl, k _ _ s4 ?_⟩
        rw [decide_eq_true_iff, cl_zero he hz]
        exact hsp _
/-- all sums -/
def allS : List Nat → List Nat
  | [] => [0]
  | m :: ms => allS ms
theorem ok_law_is_any {f : Addr} {fd : FuncData} (F : Fun K "_law_is_any" "_law_is_any" s_law_is_any f fd) (T : Bi mg mt) (c_law_mark : C8.Cal P w K mg base 1 "_law_mark" (sp_law_mark K) []) : FnOk P w K mg base CX0 2 f fd ["_law_heap_here", "_law_goal_here"] (sp_law_is_any K) := by
  refine okC F sc_law_is_any (fun vs H Q E h => ?_) (fun cdv A outer s H vs Q E hr hcd h => ?_)
  · obtain ⟨a, b, L, g, rfl, _⟩ := h
    rfl
  · obtain ⟨a, b, L, g, rfl, hS, hL, hA, hG, hg1, hg2, k⟩ := h
    obtain ⟨qs, rfl, hT, hg⟩ := hS
    refine ⟨_, (pss_cons (ps_set (i := 2) sc_law_is_any.nd rfl (Or.inl rfl) (pe_lst (pa_cons pe_int pa_nil)))
      (pss_cons (ps_for PassesOwn.never rfl (pi_tup (pv 0)) (pg_name (i := 3) sc_law_is_any.nd rfl (Or.inl rfl))
        (pss_cons (ps_set (i := 4) sc_law_is_any.nd rfl (Or.inr rfl) (C8.pe_c c_law_mark hr (by decide) (by rfl) (pa_cons (pv 3) pa_nil)))
        (pss_one (ps_set (i := 2) sc_law_is_any.nd rfl (Or.inl rfl) (pe_op op_cat (pv 2) (pe_lc (own := [("_law_old", 5)]) rfl sc_law_is_any.nd (pi_list (pv 2)) (blkOk_by (N := N_law_is_any) (sc := (defScope s_law_is_any)) (by decide +kernel)) (fun _ _ _ _ _ => (pg_name (i := 5) sc_law_is_any.nd rfl (Or.inl rfl))) (fun _ _ _ _ _ => pts_nil) (fun _ _ _ _ _ => (pe_op op_xorN (pv 5) (pv 4)))))))))
      (pss_one (ps_ret (pe_cmpR (op_inN K) (C8.pe_c c_law_mark hr (by decide) (by rfl) (pa_cons (pv 1) pa_nil)) (pv 2) (by with_unfolding_all rfl)))))), ?_⟩
    refine ⟨by show 1 ≤ sizeLine; decide, fun l0 hl0 => ?_⟩
    refine ⟨.ref a, rfl, a, rfl, ⟨_, (same_new hl0).seqT hT⟩, for_tup (xs := rf qs) (fun i σ H' => ∃ p ks v3 v4 v5, σ = [some (.ref a), some (.ref b), some (.ref p), v3, v4, v5] ∧ Same H H' ∧ H' p = some (.lst (nv ks)) ∧ (∀ x, x ∈ ks ↔ Span (((sn qs).take i).map mk) x) ∧ ks.length = 2 ^ i)
      ⟨l0, [0], none, none, none, rfl, same_new hl0, upd_same, fun x => ?_, rfl⟩ (fun i σ H' _ ⟨_, _, _, _, _, _, s, _⟩ => s.seqT hT) ?_ ?_⟩
    · rw [List.take_zero, List.map_nil, span_nil]
      exact List.mem_singleton
    · rintro i y σ H4 hi ⟨p, ks, v3, v4, v5, rfl, s4, hk, hsp, hle⟩
      obtain ⟨q, hq, rfl⟩ := rf_get hi
      have hqm := mem_at hq
      have hqa := hA q.2 (List.mem_map.mpr ⟨q, hqm, rfl⟩)
      have hi1 : i < 10 := by
        have := (List.getElem?_eq_some_iff.mp hq).1
        rw [sn_len] at hL
        omega
      have hks : ks.length ≤ 1024 := by
        rw [hle]
        exact Nat.le_trans (Nat.pow_le_pow_right (n := 2) (by decide) (show i ≤ 10 by omega)) (by decide)
      refine ⟨.ref q.1, rfl, q.1, q.2, rfl, mo_nts _ _ _ _ s4 (hg q hqm), Nat.le_trans (small_len hqa.1 hqa.2) (by decide), hqa.2, fun H5 s5 => ?_⟩
      have hk5 := s5 _ _ hk
      refine ⟨.ref p, rfl, .ref p, rfl, p, rfl, ⟨_, SqL.of hk5⟩, fun D hD => ?_⟩
      refine lc_acc walk_list (fun i => (ks[i]?).map fun o => V.int ((o ^^^ mk q.2 : Nat) : Int)) (by rw [nv_len]; omega) hD (fun _ s => s.seq (SqL.of hk5)) (fun i x H6 H7 Ky Kn hi s6 y ky kn => ?_) fun H6 s6 e => ?_
      · obtain ⟨rfl, hx⟩ := y
        obtain ⟨o, ho, rfl⟩ := nv_get hx
        refine ⟨rfl, _, rfl, _, rfl, _, _, rfl, rfl, ky _ _ ?_ (Same.refl _)⟩
        rw [ho]
        rfl
      · have ee : (List.range (nv ks).length).filterMap (fun i => (ks[i]?).map fun o => V.int ((o ^^^ mk q.2 : Nat) : Int)) = nv (ks.map fun o => o ^^^ mk q.2) := by
          rw [nv_len, range_fm]
          simp [nv, iv]
        rw [ee] at e
        refine ⟨p, D, _, _, rfl, rfl, s6 _ _ hk5, e, by rw [nv_len, nv_len, List.length_map, sizeLine_eq]; omega, fun r hr' => ?_⟩
        refine ⟨r, ks ++ ks.map (fun o => o ^^^ mk q.2), _, _, _, rfl, ((s4.trans s5).trans s6).trans (same_new hr'), ?_, fun x => ?_, ?_⟩
        · rw [upd_same]
          simp [nv, iv]
        · rw [map_take1 (sn_get hq) mk, span_snoc, List.mem_append, hsp]
          refine or_congr Iff.rfl ?_
          rw [List.mem_map]
          refine ⟨fun ⟨o, ho, e⟩ => ?_, fun h => ⟨_, (hsp _).mpr h, xor_cancel⟩⟩
          rw [← e, xor_cancel]
          exact (hsp o).mp ho
        · rw [List.length_append, List.length_map, hle, Nat.pow_succ]
          omega
    · rintro σ H4 ⟨p, ks, v3, v4, v5, rfl, s4, hk, hsp, hle⟩
      rw [rf_len, ← sn_len, List.take_length] at hsp
      refine ⟨.ref b, rfl, b, g, rfl, s4.seqT hG, Nat.le_trans (small_len hg1 hg2) (by decide), hg2, fun H5 s5 => ?_⟩
      refine ⟨.ref p, rfl, p, ks, mk g, rfl, rfl, .inl (SqL.of (s5 _ _ hk)), k _ _ (s4.trans s5) ?_⟩
      show decide (mk g ∈ ks) = true ↔ _
      rw [decide_eq_true_iff]
      exact hsp _
/-- asked only where it holds -/
def sp_law_holds (K : PySem.W.Frag) : Sp := fun vs H Q _ => ∃ (a b c : Addr) (L : List (List Nat)) (g t : List Nat), vs = [.ref a, .ref b, .ref c] ∧ Pks K H a L ∧ L.length ≤ 1000 ∧ Small L ∧ Nts K H b g ∧ Asc g ∧ Nts K H c t ∧ Asc t ∧ (∀ i ∈ t, i < L.length) ∧ sel (L.map mk) (mk t) = mk g ∧
  ∀ H', Same H H' → Q (.bl true) H'
theorem sel_xl (ms : List Nat) : ∀ l : List Nat, sel ms (xl l) = xl (l.map (sel ms))
  | [] => sel_zero ms
  | m :: l => by rw [xl_cons, sel_xor, sel_xl ms l, List.map_cons, xl_cons]
theorem sel_asc {ms t : List Nat} (h : Asc t) : sel ms (mk t) = xl (t.map fun i => sel ms (2 ^ i)) := by
  rw [mk_xl h, sel_xl, List.map_map]
  rfl
/-- what stood ahead of the i-th -/
def bf (t : List Nat) : Nat → Int
  | 0 => -1
  | i + 1 => ((t[i]?).getD 0 : Nat)
theorem bf_lt {t : List Nat} (h : Asc t) {i n : Nat} (hn : t[i]? = some n) : bf t i < (n : Int) := by
  cases i with
  | zero =>
    show (-1 : Int) < n
    omega
  | succ i =>
    obtain ⟨h1, h2⟩ := List.getElem?_eq_some_iff.mp hn
    have h3 : i < t.length := by omega
    show (((t[i]?).getD 0 : Nat) : Int) < n
    rw [List.getElem?_eq_getElem h3, Option.getD_some]
    have := (List.pairwise_iff_getElem.mp h) i (i + 1) h3 h1 (Nat.lt_succ_self i)
    omega
theorem ok_law_holds {f : Addr} {fd : FuncData} (F : Fun K "_law_holds" "_law_holds" s_law_holds f fd) (T : Bi mg mt) (c_law_sum : C8.Cal P w K mg base 1 "_law_sum" (sp_law_sum K) []) : FnOk P w K mg base CX0 2 f fd ["_law_heap_here", "_law_goal_here", "_law_thing"] (sp_law_holds K) := by
  refine okC F sc_law_holds (fun vs H Q E h => ?_) (fun cdv A outer s H vs Q E hr hcd h => ?_)
  · obtain ⟨a, b, c, L, g, t, rfl, _⟩ := h
    rfl
  · obtain ⟨a, b, c, L, g, t, rfl, hS, hL, hA, hG, hg1, hC, ht1, ht2, hsel, k⟩ := h
    have hu64 := hr.units
    obtain ⟨qs, rfl, hT, hg⟩ := hS
    have htl : t.length ≤ 1000 := by
      refine Nat.le_trans (nat_nodup (sn qs).length t (ht1.imp fun h => Nat.ne_of_lt h) ht2) hL
    refine ⟨_, (pss_cons (ps_if (pt_not (pt_val (pe_callB call_isi (by rfl) T.isinstance (by decide +kernel) (pa_cons (pv 2) (pa_cons (pe_bltn (v := .ty "tuple") (by rfl) T.tuple (by decide +kernel) rfl) pa_nil)))))
        (pss_one (ps_ret pe_bl))
        pss_nil)
      (pss_cons (ps_set (i := 3) sc_law_holds.nd rfl (Or.inl rfl) (pe_un un_neg pe_int))
      (pss_cons (ps_for PassesOwn.never rfl (pi_tup (pv 2)) (pg_name (i := 4) sc_law_holds.nd rfl (Or.inl rfl))
        (pss_cons (ps_if (PW.pt (pw_or (pt_val (pe_callB call_isi (by rfl) T.isinstance (by decide +kernel) (pa_cons (pv 4) (pa_cons (pe_bltn (v := .ty "bool") (by rfl) T.bool (by decide +kernel) rfl) pa_nil)))) (pw_or (pt_not (pt_val (pe_callB call_isi (by rfl) T.isinstance (by decide +kernel) (pa_cons (pv 4) (pa_cons (pe_bltn (v := .ty "int") (by rfl) T.int (by decide +kernel) rfl) pa_nil))))) (pw_or (pt_cmpR op_le (pv 4) (pv 3) (nomark _)) (pw_or1 (pt_cmpR op_geN (pv 4) (pe_callB call_len_seq (by rfl) T.len (by decide +kernel) (pa_cons (pv 0) pa_nil)) (nomark _)))))))
          (pss_one (ps_ret pe_bl))
          pss_nil)
        (pss_one (ps_set (i := 3) sc_law_holds.nd rfl (Or.inl rfl) (pv 4)))))
      (pss_one (ps_ret (pe_cmpR (op_eqD hu64) (C8.pe_c c_law_sum hr (by decide) (by rfl) (pa_cons (pe_lc (own := [("_law_at", 4)]) rfl sc_law_holds.nd (pi_tup (pv 2)) (blkOk_by (N := N_law_holds) (sc := (defScope s_law_holds)) (by decide +kernel)) (fun _ _ _ _ _ => (pg_name (i := 4) sc_law_holds.nd rfl (Or.inl rfl))) (fun _ _ _ _ _ => pts_nil) (fun _ _ _ _ _ => (pe_ix (ix_tupK K) (pv 0) (pv 4) (fun _ _ => rfl)))) pa_nil)) (pv 1) (nomark _))))))), ?_⟩
    refine ⟨_, rfl, _, _, _, _, true, rfl, ClsV.ty _, tyx_tup hC, kit_ty (by decide +kernel), true, rfl, iteF ?_⟩
    refine ⟨1, rfl, ?_⟩
    refine ⟨.ref c, rfl, c, rfl, ⟨_, hC⟩, for_tup (xs := nv t) (fun i σ H' => ∃ v4, σ = [some (.ref a), some (.ref b), some (.ref c), some (.int (bf t i)), v4] ∧ H' = H)
      ⟨none, rfl, rfl⟩ (fun i σ H' _ ⟨_, _, e⟩ => by rw [e]; exact hC) ?_ ?_⟩
    · rintro i y σ H1 hi ⟨v4, rfl, rfl⟩
      obtain ⟨n, hn, rfl⟩ := nv_get hi
      have hlt := bf_lt ht1 hn
      have hb := ht2 n (mem_at hn)
      rw [sn_len] at hb
      refine ⟨_, rfl, _, _, _, _, false, rfl, ClsV.ty _, .base (.int _), kit_ty (by decide +kernel), false, rfl, iteF ?_⟩
      refine ⟨_, rfl, _, _, _, _, true, rfl, ClsV.ty _, .base (.int _), kit_ty (by decide +kernel), true, rfl, iteF ?_⟩
      refine ⟨_, rfl, _, rfl, (n : Int), bf t i, rfl, rfl, _, rfl, ?_⟩
      rw [decide_eq_false (Int.not_le.mpr hlt)]
      refine iteF ?_
      refine ⟨_, rfl, .ref a, rfl, a, _, rfl, .inr hT, n, (rf qs).length, rfl, rfl, _, rfl, ?_⟩
      rw [rf_len, decide_eq_false (Nat.not_le.mpr hb)]
      refine iteF ?_
      refine ⟨_, rfl, some (.int (n : Int)), ?_, rfl⟩
      show _ = [some (V.ref a), some (V.ref b), some (V.ref c), some (V.int (((t[i]?).getD 0 : Nat) : Int)), _]
      rw [hn]
      rfl
    · rintro σ H1 ⟨v4, rfl, rfl⟩
      refine ⟨.ref c, rfl, c, rfl, ⟨_, hC⟩, fun D hD => ?_⟩
      refine lc_acc walk_tup (fun i => ((t[i]?).bind fun j => qs[j]?).map fun p => V.ref p.1) (by rw [nv_len]; omega) hD (fun _ s => s.seqT hC) (fun i x H6 H7 Ky Kn hi s6 y ky kn => ?_) fun H6 s6 e => ?_
      · obtain ⟨rfl, hx⟩ := y
        obtain ⟨n, hn, rfl⟩ := nv_get hx
        have hb := ht2 n (mem_at hn)
        rw [sn_len] at hb
        have hp : qs[n]? = some qs[n] := List.getElem?_eq_getElem hb
        refine ⟨rfl, .ref a, rfl, _, rfl, a, _, _, _, rfl, rfl, s6.seqT hT, atI_nat (rf_at hp), ky _ _ ?_ (Same.refl _)⟩
        rw [hn, Option.bind_some, hp]
        rfl
      · -- the chosen ones
        have hall : ∀ l : List Nat, (∀ i ∈ l, i < qs.length) → ∃ ps : List (Addr × List Nat), l.filterMap (fun j => (qs[j]?).map fun p => V.ref p.1) = rf ps ∧ (∀ p ∈ ps, p ∈ qs) ∧ ps.length = l.length ∧ (sn ps).map mk = l.map fun i => sel ((sn qs).map mk) (2 ^ i) := by
          intro l
          induction l with
          | nil => exact fun _ => ⟨[], rfl, fun _ h => by simp at h, rfl, rfl⟩
          | cons i l ih =>
            intro hl
            obtain ⟨ps, h1, h2, h3, h4⟩ := ih fun j hj => hl j (List.mem_cons_of_mem _ hj)
            have hb := hl i (List.mem_cons_self ..)
            have hp : qs[i]? = some qs[i] := List.getElem?_eq_getElem hb
            refine ⟨qs[i] :: ps, ?_, fun p hp' => ?_, by rw [List.length_cons, List.length_cons, h3], ?_⟩
            · rw [List.filterMap_cons, hp, h1]
              rfl
            · rcases List.mem_cons.mp hp' with rfl | h
              · exact List.getElem_mem hb
              · exact h2 p h
            · rw [List.map_cons, ← h4]
              have : ((sn qs).map mk)[i]? = some (mk qs[i].2) := by
                rw [List.getElem?_map, sn_get hp]
                rfl
              rw [sel_one this]
              rfl
        have ee : (List.range (nv t).length).filterMap (fun i => ((t[i]?).bind fun j => qs[j]?).map fun p => V.ref p.1) = t.filterMap (fun j => (qs[j]?).map fun p => V.ref p.1) := by
          rw [nv_len]
          refine Eq.trans ?_ (range_fmb (fun j => (qs[j]?).map fun p => V.ref p.1) t)
          congr 1
          funext i
          cases t[i]? with
          | none => rfl
          | some j => rfl
        obtain ⟨ps, h1, h2, h3, h4⟩ := hall t fun i hi => by
          rw [← sn_len]
          exact ht2 i hi
        rw [ee, h1] at e
        have hsm : Small (sn ps) := fun l hl => by
          obtain ⟨p, hp, rfl⟩ := List.mem_map.mp hl
          exact hA p.2 (List.mem_map.mpr ⟨p, h2 p hp, rfl⟩)
        refine ⟨D, sn ps, rfl, .inl ⟨ps, rfl, SqL.of e, fun p hp => mo_nts _ _ _ _ s6 (hg p (h2 p hp))⟩, by rw [sn_len, h3]; exact htl, hsm, fun q H7 u s7 hu7 hau hmk hub => ?_⟩
        have eu : u = g := mk_inj hau hg1 (by rw [hmk, h4, ← sel_asc ht1, hsel])
        subst eu
        refine ⟨.ref b, rfl, pd u, pd u, dp_nts hu7, dp_nts ((s6.trans s7).seqT hG), pd_shaped u, pd_shaped u, ?_⟩
        rw [pd_eqv]
        exact k _ (s6.trans s7)
end
end Fb

/-! FbO -/
set_option maxHeartbeats 4000000
/-! The law's own draws: _law_lake, _law_draw, _law_one, _law_mixed -/
namespace Fb
open PySem PySem.Spec PyProof.Rows L2
abbrev kFar : Key := .inr "far"
abbrev kWhole : Key := .inr "whole"
abbrev kAll : Key := .inr "all"
abbrev kTurn : Key := .inr "turn"
theorem far_whole : ¬ kFar = kWhole := by decide +kernel
theorem far_all : ¬ kFar = kAll := by decide +kernel
theorem far_turn : ¬ kFar = kTurn := by decide +kernel
theorem whole_all : ¬ kWhole = kAll := by decide +kernel
theorem whole_turn : ¬ kWhole = kTurn := by decide +kernel
theorem all_turn : ¬ kAll = kTurn := by decide +kernel
/-- the pairs of the lake -/
def lkv (f w : Addr) (al t : Nat) : List (Key × V) := [(kFar, .ref f), (kWhole, .ref w), (kAll, .int (al : Int)), (kTurn, .int (t : Int))]
theorem lk_far {f w : Addr} {al t : Nat} : valV (lkv f w al t) kFar = some (.ref f) := valV_pos rfl
theorem lk_whole {f w : Addr} {al t : Nat} : valV (lkv f w al t) kWhole = some (.ref w) := by
  unfold lkv
  rw [valV_neg far_whole]
  exact valV_pos rfl
theorem lk_all {f w : Addr} {al t : Nat} : valV (lkv f w al t) kAll = some (.int (al : Int)) := by
  unfold lkv
  rw [valV_neg far_all, valV_neg whole_all]
  exact valV_pos rfl
theorem lk_turn {f w : Addr} {al t : Nat} : valV (lkv f w al t) kTurn = some (.int (t : Int)) := by
  unfold lkv
  rw [valV_neg far_turn, valV_neg whole_turn, valV_neg all_turn]
  exact valV_pos rfl
theorem lk_put {f w : Addr} {al t u : Nat} : putK (lkv f w al t) kTurn (.int (u : Int)) = lkv f w al u := by
  have e : ((lkv f w al t).any fun kv => decide (kv.1 = kTurn)) = true := by
    rw [valV_any, lk_turn]
    rfl
  unfold putK
  rw [if_pos e]
  unfold lkv
  simp only [List.map_cons, List.map_nil]
  rw [if_neg far_turn, if_neg whole_turn, if_neg all_turn, if_pos trivial]
/-- the lake at p, its far numbers at f, all else as G knows it; so many turns at most -/
structure Lake (K : PySem.W.Frag) (G H : Hp) (p f : Addr) (T : Nat) : Prop where
  sm : Same G (wol [p, f] H)
  ex : ∃ (w : Addr) (far whole : List Nat) (al t : Nat), H p = some (.dK (lkv f w al t)) ∧ H f = some (.lst (nv far)) ∧ SqL K G w (nv whole) ∧ (∀ x ∈ far, x < 2 ^ 1100000) ∧ far.length ≤ 63 ∧ 0 < whole.length ∧ whole.length ≤ 64 ∧ (∀ x ∈ whole, x < 2 ^ 1100000) ∧ al < 2 ^ 1200000 ∧ t ≤ T
theorem Lake.mono {K : PySem.W.Frag} {G H : Hp} {p f : Addr} {T U : Nat} (h : Lake K G H p f T) (e : T ≤ U) : Lake K G H p f U := by
  obtain ⟨w, far, whole, al, t, h1, h2, h3, h4, h5, h6, h7, h8, h9, h10⟩ := h.ex
  exact ⟨h.sm, w, far, whole, al, t, h1, h2, h3, h4, h5, h6, h7, h8, h9, Nat.le_trans h10 e⟩
/-- what is made besides does not touch it -/
theorem Lake.new {K : PySem.W.Frag} {G H H' : Hp} {p f : Addr} {T : Nat} (h : Lake K G H p f T) (e : Same H H') : Lake K G H' p f T := by
  obtain ⟨w, far, whole, al, t, h1, h2, h3, h4⟩ := h.ex
  exact ⟨h.sm.trans (wol_mono e), w, far, whole, al, t, e _ _ h1, e _ _ h2, h3, h4⟩
theorem wol_put {ds : List Addr} {H : Hp} {q : Addr} {o : HO} (h : q ∉ ds) : wol ds (upd H q o) = upd (wol ds H) q o := by
  funext b
  by_cases hb : b = q
  · subst hb
    rw [wol_out h, upd_same, upd_same]
  · rw [upd_ne hb]
    by_cases hd : b ∈ ds
    · rw [wol_in hd, wol_in hd]
    · rw [wol_out hd, wol_out hd, upd_ne hb]
/-- a change at an own object -/
theorem Lake.put {K : PySem.W.Frag} {G H : Hp} {p f q : Addr} {T : Nat} {o : HO} (h : Lake K G H p f T) (hq : G q = none) (ho : q ∉ [p, f]) : Lake K G (upd H q o) p f T := by
  obtain ⟨w, far, whole, al, t, h1, h2, h3, h4⟩ := h.ex
  have hp : p ≠ q := fun e => ho (by rw [← e]; exact List.mem_cons_self ..)
  have hf : f ≠ q := fun e => ho (by rw [← e]; exact List.mem_cons_of_mem _ (List.mem_cons_self ..))
  exact ⟨by rw [wol_put ho]; exact same_at h.sm hq, w, far, whole, al, t, by rw [upd_ne hp]; exact h1, by rw [upd_ne hf]; exact h2, h3, h4⟩
theorem Lake.base {K : PySem.W.Frag} {G G' H : Hp} {p f : Addr} {T : Nat} (h : Lake K G H p f T) (e : Same G G') (e' : Same G' (wol [p, f] H)) : Lake K G' H p f T := by
  obtain ⟨w, far, whole, al, t, h1, h2, h3, h4⟩ := h.ex
  exact ⟨e', w, far, whole, al, t, h1, h2, e.seq h3, h4⟩
theorem Lake.here {K : PySem.W.Frag} {G H : Hp} {p f : Addr} {T : Nat} (h : Lake K G H p f T) : Lake K (wol [p, f] H) H p f T := h.base h.sm (Same.refl _)
theorem Lake.out {K : PySem.W.Frag} {G H : Hp} {p f q : Addr} {T : Nat} (h : Lake K G H p f T) (hq : H q = none) : q ∉ [p, f] := by
  obtain ⟨_, _, _, _, _, h1, h2, _⟩ := h.ex
  intro m
  rcases List.mem_cons.mp m with e | m
  · rw [e, h1] at hq
    cases hq
  · rw [List.mem_singleton.mp m, h2] at hq
    cases hq
theorem Lake.le {K : PySem.W.Frag} {G H : Hp} {p f : Addr} {T : Nat} (h : Lake K G H p f T) : Same G H := h.sm.trans wol_le
/-- what is free in the heap is free in the base -/
theorem Lake.free {K : PySem.W.Frag} {G H : Hp} {p f q : Addr} {T : Nat} (h : Lake K G H p f T) (hq : H q = none) : G q = none := h.le.free hq
theorem two_out {p f b : Addr} (h1 : b ≠ p) (h2 : b ≠ f) : b ∉ [p, f] := by
  intro h
  rcases List.mem_cons.mp h with h | h
  · exact h1 h
  · exact h2 (List.mem_singleton.mp h)
theorem dp_list {K : PySem.W.Frag} {H : Hp} {a : Addr} {ns : List Nat} (h : SqL K H a (nv ns)) : Dp K H (.ref a) (.list (ns.map fun n : Nat => PyData.int (n : Int))) := .lst h (dp_ints ns)
def ld (ns : List Nat) : PyData := .list (ns.map fun n : Nat => PyData.int (n : Int))
theorem ld_shaped (ns : List Nat) : SeqAt.shaped (ld ns) = true := by
  have h1 : PyData.canLayAll0 (ns.map fun n : Nat => PyData.int (n : Int)) = true := by
    induction ns with
    | nil => rfl
    | cons n ns ih => simpa [PyData.canLayAll0, PyData.canLay0] using ih
  have h2 : PyData.depthAll (ns.map fun n : Nat => PyData.int (n : Int)) = 0 := by
    clear h1
    induction ns with
    | nil => rfl
    | cons n ns ih => simpa [PyData.depthAll, PyData.depth] using ih
  unfold SeqAt.shaped ld
  rw [PyData.canLay0, PyData.depth, h1, h2]
  rfl
theorem ld_nil : ∀ ns : List Nat, PyData.eqv (ld ns) (ld []) = ns.isEmpty
  | [] => by
    unfold ld
    rw [PyData.eqv]
    rfl
  | n :: ns => by
    unfold ld
    rw [PyData.eqv, List.map_cons, List.map_nil, PyData.eqvAll]
    rfl
theorem seq_nat {r n : Nat} (h : r < n) : seqIndex? (r : Int) n = some r := by
  unfold seqIndex?
  have h1 : ¬ ((r : Int) < 0) := by omega
  simp only [h1, if_false]
  have h2 : (0 : Int) ≤ (r : Int) := by omega
  have h3 : (r : Int) < (n : Int) := by omega
  simp [h2, h3]
theorem snoc_of {α : Type} : ∀ {l : List α}, l ≠ [] → ∃ i x, l = i ++ [x]
  | l, h => ⟨l.dropLast, l.getLast h, (List.dropLast_concat_getLast h).symm⟩
theorem get_last {α : Type} (l : List α) (x : α) : (l ++ [x])[(l ++ [x]).length - 1]? = some x := by
  rw [List.length_append]
  simp
-- _law_draw: slots 0=_law_lake_here 1=_law_size 2=_law_far 3=_law_rest 4=_law_turn 5=_law_whole 6=_law_cell 7=_law_mixed_here; cells 
abbrev s_law_draw : Stmt := topS 30
abbrev N_law_draw : List Str := ["_law_lake_here", "_law_size", "_law_far", "_law_rest", "_law_turn", "_law_whole", "_law_cell", "_law_mixed_here"]
theorem sc_law_draw : FnScope N_law_draw ["_law_lake_here", "_law_size"] (defScope s_law_draw) := ⟨rfl, rfl, rfl, by decide +kernel, rfl, by decide +kernel, by decide +kernel⟩
-- _law_one: slots 0=_law_lake_here 1=_law_items; cells 
abbrev s_law_one : Stmt := topS 31
abbrev N_law_one : List Str := ["_law_lake_here", "_law_items"]
theorem sc_law_one : FnScope N_law_one ["_law_lake_here", "_law_items"] (defScope s_law_one) := ⟨rfl, rfl, rfl, by decide +kernel, rfl, by decide +kernel, by decide +kernel⟩
-- _law_mixed: slots 0=_law_lake_here 1=_law_items 2=_law_rest 3=_law_found 4=_law_turn; cells 
abbrev s_law_mixed : Stmt := topS 32
abbrev N_law_mixed : List Str := ["_law_lake_here", "_law_items", "_law_rest", "_law_found", "_law_turn"]
theorem sc_law_mixed : FnScope N_law_mixed ["_law_lake_here", "_law_items"] (defScope s_law_mixed) := ⟨rfl, rfl, rfl, by decide +kernel, rfl, by decide +kernel, by decide +kernel⟩
section
variable {P : Program} {w : World} {K : PySem.W.Frag} {mg : Str → Option Value} {base : Heap} {mt : Nat}
/-- a draw below n -/
def sp_law_draw (K : PySem.W.Frag) : Sp := fun vs H Q _ => ∃ (G : Hp) (p f : Addr) (n T : Nat), vs = [.ref p, .int (n : Int)] ∧ Lake K G H p f T ∧ n ≤ 2000 ∧ T ≤ 1000000000 ∧
  ∀ H' (r : Nat), Lake K G H' p f (T + 1) → Same (wol [p, f] H) (wol [p, f] H') → (r < n ∨ r = 0) → Q (.int ((r : Nat) : Int)) H'
theorem ok_law_draw {f : Addr} {fd : FuncData} (F : Fun K "_law_draw" "_law_draw" s_law_draw f fd) (T : Bi mg mt) : FnOk P w K mg base CX0 1 f fd ["_law_lake_here", "_law_size"] (sp_law_draw K) := by
  refine okC F sc_law_draw (fun vs H Q E h => ?_) (fun cdv A outer s H vs Q E hr hcd h => ?_)
  · obtain ⟨G, p, f, n, T, rfl, _⟩ := h
    rfl
  · obtain ⟨G, p, f, n, U, rfl, hL, hn, hU, k⟩ := h
    have hu := hu_of hr
    have hu64 := hr.units
    refine ⟨_, (pss_cons (ps_if (pt_cmpR op_ltN (pv 1) pe_int (nomark _))
        (pss_one (ps_ret pe_int))
        pss_nil)
      (pss_cons (ps_set (i := 2) sc_law_draw.nd rfl (Or.inl rfl) (pe_dget hu (pv 0) pe_str (fun _ _ => rfl)))
      (pss_cons (ps_if (pt_cmpR (op_neD hu64) (pv 2) (pe_lst pa_nil) (nomark _))
        (pss_cons (ps_set (i := 3) sc_law_draw.nd rfl (Or.inl rfl) (pe_bm0 PySem.F.plainAttrs_list PySem.F.slot_list_pop PySem.F.type_list_pop mt_pop (pv 2)))
        (pss_cons (ps_if (pt_cmpR op_geN (pv 3) (pv 1) (nomark _))
          (pss_one (ps_expr (pe_bm PySem.F.plainAttrs_list PySem.F.slot_list_append PySem.F.type_list_append mt_append (pv 2) (pa_cons (pe_op op_divN (pv 3) (pv 1)) pa_nil))))
          pss_nil)
        (pss_one (ps_ret (pe_op op_modNat (pe_callTy call_int1 (by rfl) T.int (by decide +kernel) (pa_cons (pv 3) pa_nil)) (pv 1))))))
        pss_nil)
      (pss_cons (ps_dput hu (pv 0) pe_str (pe_op op_addN (pe_dget hu (pv 0) pe_str (fun _ _ => rfl)) pe_int) rfl)
      (pss_cons (ps_set (i := 4) sc_law_draw.nd rfl (Or.inl rfl) (pe_dget hu (pv 0) pe_str (fun _ _ => rfl)))
      (pss_cons (ps_set (i := 5) sc_law_draw.nd rfl (Or.inl rfl) (pe_dget hu (pv 0) pe_str (fun _ _ => rfl)))
      (pss_cons (ps_set (i := 6) sc_law_draw.nd rfl (Or.inl rfl) (pe_callTy call_int1 (by rfl) T.int (by decide +kernel) (pa_cons (pe_ix ix_list (pv 5) (pe_op op_modNat (pe_callTy call_int1 (by rfl) T.int (by decide +kernel) (pa_cons (pv 4) pa_nil)) (pe_callB call_len_seq (by rfl) T.len (by decide +kernel) (pa_cons (pv 5) pa_nil))) (fun _ _ => rfl)) pa_nil)))
      (pss_cons (ps_set (i := 7) sc_law_draw.nd rfl (Or.inl rfl) (pe_callTy call_int1 (by rfl) T.int (by decide +kernel) (pa_cons (pe_op op_addN (pe_op op_addN (pe_op op_mulN (pv 6) pe_int) (pe_op op_mulN (pe_dget hu (pv 0) pe_str (fun _ _ => rfl)) pe_int)) (pe_op op_mulN (pv 4) pe_int)) pa_nil)))
      (pss_cons (ps_set (i := 7) sc_law_draw.nd rfl (Or.inl rfl) (pe_op op_modNat (pe_callTy call_int1 (by rfl) T.int (by decide +kernel) (pa_cons (pv 7) pa_nil)) pe_int))
      (pss_cons (ps_set (i := 7) sc_law_draw.nd rfl (Or.inl rfl) (pe_op op_modNat (pe_callTy call_int1 (by rfl) T.int (by decide +kernel) (pa_cons (pe_op op_addN (pe_op op_addN (pe_op op_mulN (pv 7) (pv 7)) (pe_op op_mulN (pv 4) pe_int)) pe_int) pa_nil)) pe_int))
      (pss_cons (ps_set (i := 7) sc_law_draw.nd rfl (Or.inl rfl) (pe_op op_modNat (pe_callTy call_int1 (by rfl) T.int (by decide +kernel) (pa_cons (pe_op op_addN (pe_op op_mulN (pv 7) (pv 7)) (pe_op op_mulN pe_int (pv 7))) pa_nil)) pe_int))
      (pss_one (ps_ret (pe_op op_modNat (pe_callTy call_int1 (by rfl) T.int (by decide +kernel) (pa_cons (pe_op op_divN (pv 7) pe_int) pa_nil)) (pv 1))))))))))))))), ?_⟩
    refine ⟨_, rfl, n, 2, rfl, rfl, _, rfl, ?_⟩
    by_cases h2 : n < 2
    · rw [decide_eq_true h2]
      exact iteT (k H 0 (hL.mono (Nat.le_succ _)) (Same.refl _) (.inr rfl))
    rw [decide_eq_false h2]
    refine iteF ?_
    obtain ⟨wl, far, whole, al, t, hp, hf, hw, hfar, hfl, hw0, hw64, hwh, hal, ht⟩ := hL.ex
    have hpf : p ≠ f := ne_of hp hf (by intro z; cases z)
    have hwp : SqL K H wl (nv whole) := hL.le.seq hw
    refine ⟨.ref p, rfl, p, _, rfl, .inl ⟨_, kFar, .inl hp, rfl, lk_far.symm⟩, ?_⟩
    refine ⟨.ref f, rfl, Nat.zero_le _, fun e he => ?_⟩
    have sE : Same H (upd H e (.lst [])) := same_new he
    have wE : Same (wol [p, f] H) (wol [p, f] (upd H e (.lst []))) := wol_mono sE
    refine ⟨ld far, ld [], dp_list (sE.seq (SqL.of hf)), dp_list (ns := []) (SqL.of upd_same), ld_shaped _, ld_shaped _, _, rfl, ?_⟩
    rw [ld_nil]
    have hpE := sE _ _ hp
    have hfE := sE _ _ hf
    have hwE := sE.seq hwp
    generalize upd H e (.lst []) = H1 at sE wE hpE hfE hwE ⊢
    by_cases hem : far = []
    · rw [hem]
      refine iteF ?_
      -- the turn
      refine ⟨.ref p, rfl, p, _, rfl, .inl ⟨_, kTurn, .inl hpE, rfl, lk_turn.symm⟩, t, 1, rfl, rfl, ?_⟩
      refine ⟨.ref p, rfl, p, _, rfl, DPut.k (k := kTurn) hpE (by show 4 < sizeLine; decide), ?_⟩
      rw [lk_put]
      have wP : Same (wol [p, f] H) (wol [p, f] (upd H1 p (.dK (lkv f wl al (t + 1))))) := by
        rw [wol_upd (List.mem_cons_self ..)]
        exact wE
      have hpP : (upd H1 p (.dK (lkv f wl al (t + 1)))) p = some (.dK (lkv f wl al (t + 1))) := upd_same
      have hfP : (upd H1 p (.dK (lkv f wl al (t + 1)))) f = some (.lst (nv far)) := by
        rw [upd_ne (Ne.symm hpf)]
        exact hfE
      generalize upd H1 p (.dK (lkv f wl al (t + 1))) = H2 at wP hpP hfP ⊢
      have hwP : SqL K H2 wl (nv whole) := ((hL.sm.trans wP).trans wol_le).seq hw
      have hLP : Lake K G H2 p f (U + 1) := ⟨hL.sm.trans wP, wl, far, whole, al, t + 1, hpP, hfP, hw, hfar, hfl, hw0, hw64, hwh, hal, Nat.succ_le_succ ht⟩
      refine ⟨.ref p, rfl, p, _, rfl, .inl ⟨_, kTurn, .inl hpP, rfl, lk_turn.symm⟩, ?_⟩
      refine ⟨.ref p, rfl, p, _, rfl, .inl ⟨_, kWhole, .inl hpP, rfl, lk_whole.symm⟩, ?_⟩
      have hix : (t + 1) % whole.length < whole.length := Nat.mod_lt _ hw0
      have hget : whole[(t + 1) % whole.length]? = some whole[(t + 1) % whole.length] := List.getElem?_eq_getElem hix
      have hcell := hwh _ (mem_at hget)
      generalize whole[(t + 1) % whole.length] = c at hget hcell
      refine ⟨.ref wl, rfl, _, rfl, .inl ⟨_, rfl, .ref wl, rfl, wl, nv whole, rfl, .inl hwP, t + 1, whole.length, rfl, by rw [nv_len], hw0, wl, nv whole, _, .int (c : Int), rfl, rfl, hwP, atI_nat (nv_at hget), .inl ⟨_, rfl, ?_⟩⟩⟩
      refine ⟨_, rfl, c, 5871781006564002453, 1100000, 64, rfl, rfl, hcell, by decide, by decide, ?_⟩
      refine ⟨.ref p, rfl, p, _, rfl, .inl ⟨_, kAll, .inl hpP, rfl, lk_all.symm⟩, al, 3202034522624059733, 1200000, 64, rfl, rfl, hal, by decide, by decide, ?_⟩
      refine ⟨_, _, rfl, rfl, _, rfl, t + 1, 8796714831421723037, 64, 64, rfl, rfl, Nat.lt_of_le_of_lt (show t + 1 ≤ 1000000001 by omega) (by decide), by decide, by decide, _, _, rfl, rfl, .inl ⟨_, rfl, ?_⟩⟩
      generalize c * 5871781006564002453 + al * 3202034522624059733 + (t + 1) * 8796714831421723037 = m0
      refine ⟨_, rfl, .inl ⟨_, rfl, m0, 618970019642690137449562111, rfl, rfl, by decide, ?_⟩⟩
      have hm1 : m0 % 618970019642690137449562111 < 2 ^ 90 := Nat.lt_of_lt_of_le (Nat.mod_lt _ (by decide)) (by decide)
      generalize m0 % 618970019642690137449562111 = m1 at hm1 ⊢
      refine ⟨_, rfl, _, rfl, m1, m1, 90, 90, rfl, rfl, hm1, hm1, by decide, _, rfl, t + 1, 2654435789, 64, 64, rfl, rfl, Nat.lt_of_le_of_lt (show t + 1 ≤ 1000000001 by omega) (by decide), by decide, by decide, _, _, rfl, rfl, _, 97, rfl, rfl, .inl ⟨_, rfl, _, 2305843009213693951, rfl, rfl, by decide, ?_⟩⟩
      generalize m1 * m1 + (t + 1) * 2654435789 + 97 = m2
      have hm3 : m2 % 2305843009213693951 < 2 ^ 90 := Nat.lt_of_lt_of_le (Nat.mod_lt _ (by decide)) (by decide)
      generalize m2 % 2305843009213693951 = m3 at hm3 ⊢
      refine ⟨_, rfl, _, rfl, m3, m3, 90, 90, rfl, rfl, hm3, hm3, by decide, _, rfl, 5, m3, 64, 90, rfl, rfl, by decide, hm3, by decide, _, _, rfl, rfl, .inl ⟨_, rfl, _, 618970019642690137449562111, rfl, rfl, by decide, ?_⟩⟩
      generalize (m3 * m3 + 5 * m3) % 618970019642690137449562111 = m4
      refine ⟨_, rfl, m4, 67108864, rfl, rfl, by decide, by decide, .inl ⟨_, rfl, _, rfl, _, n, rfl, rfl, by omega, ?_⟩⟩
      exact k H2 _ hLP wP (.inl (Nat.mod_lt _ (by omega)))
    · obtain ⟨fi, x, rfl⟩ := snoc_of hem
      have : (fi ++ [x]).isEmpty = false := by cases fi <;> rfl
      rw [this]
      refine iteT ?_
      have hx := hfar x (List.mem_append_right _ (List.mem_singleton.mpr rfl))
      refine ⟨.ref f, rfl, .inl ⟨rfl, _, SqL.of hfE⟩, f, _, .int (x : Int), rfl, rfl, hfE, by rw [nv_snoc]; exact get_last _ _, ?_⟩
      have hd : (nv (fi ++ [x])).dropLast = nv fi := by
        rw [nv_snoc]
        exact List.dropLast_concat
      rw [hd]
      have wP : Same (wol [p, f] H) (wol [p, f] (upd H1 f (.lst (nv fi)))) := by
        rw [wol_upd (List.mem_cons_of_mem _ (List.mem_cons_self ..))]
        exact wE
      have hpP : (upd H1 f (.lst (nv fi))) p = some (.dK (lkv f wl al t)) := by
        rw [upd_ne hpf]
        exact hpE
      have hfP : (upd H1 f (.lst (nv fi))) f = some (.lst (nv fi)) := upd_same
      generalize upd H1 f (.lst (nv fi)) = H2 at wP hpP hfP ⊢
      have hfi : ∀ y ∈ fi, y < 2 ^ 1100000 := fun y hy => hfar y (List.mem_append_left _ hy)
      have hfl' : fi.length ≤ 62 := by
        rw [List.length_append] at hfl
        have : fi.length + 1 ≤ 63 := hfl
        omega
      refine ⟨_, rfl, _, rfl, x, n, rfl, rfl, _, rfl, ?_⟩
      refine ite2 (fun hge => ?_) (fun hge => ?_)
      · refine ⟨.ref f, rfl, .inl ⟨rfl, _, SqL.of hfP⟩, _, rfl, _, rfl, x, n, rfl, rfl, by omega, Nat.lt_of_le_of_lt hn (by decide), f, _, _, rfl, rfl, hfP, by rw [nv_len, sizeLine_eq]; omega, ?_⟩
        have e1 : nv fi ++ [V.int ((x / n : Nat) : Int)] = nv (fi ++ [x / n]) := (nv_snoc _ _).symm
        rw [e1]
        refine ⟨_, rfl, .inl ⟨_, rfl, _, rfl, x, n, rfl, rfl, by omega, ?_⟩⟩
        refine k _ _ ⟨?_, wl, fi ++ [x / n], whole, al, t, ?_, upd_same, hw, fun y hy => ?_, ?_, hw0, hw64, hwh, hal, Nat.le_succ_of_le ht⟩ ?_ (.inl (Nat.mod_lt _ (by omega)))
        · rw [wol_upd (List.mem_cons_of_mem _ (List.mem_cons_self ..))]
          exact hL.sm.trans wP
        · rw [upd_ne hpf]
          exact hpP
        · rcases List.mem_append.mp hy with hy | hy
          · exact hfi y hy
          · rw [List.mem_singleton.mp hy]
            exact Nat.lt_of_le_of_lt (Nat.div_le_self _ _) hx
        · rw [List.length_append]
          show fi.length + 1 ≤ 63
          omega
        · rw [wol_upd (List.mem_cons_of_mem _ (List.mem_cons_self ..))]
          exact wP
      · refine ⟨_, rfl, .inl ⟨_, rfl, _, rfl, x, n, rfl, rfl, by omega, ?_⟩⟩
        exact k _ _ ⟨hL.sm.trans wP, wl, fi, whole, al, t, hpP, hfP, hw, hfi, by omega, hw0, hw64, hwh, hal, Nat.le_succ_of_le ht⟩ wP (.inl (Nat.mod_lt _ (by omega)))
theorem wol_none {ds : List Addr} {H : Hp} {b : Addr} (h : H b = none) : wol ds H b = none := by
  unfold wol
  split
  · rfl
  · exact h
/-- one of a list -/
def sp_law_one (K : PySem.W.Frag) : Sp := fun vs H Q _ => ∃ (G : Hp) (p f q : Addr) (xs : List V) (T : Nat), vs = [.ref p, .ref q] ∧ Lake K G H p f T ∧ SqL K (wol [p, f] H) q xs ∧ 0 < xs.length ∧ xs.length ≤ 2000 ∧ T ≤ 1000000000 ∧
  ∀ H' (i : Nat) x, xs[i]? = some x → Lake K G H' p f (T + 1) → Same (wol [p, f] H) (wol [p, f] H') → Q x H'
theorem ok_law_one {f : Addr} {fd : FuncData} (F : Fun K "_law_one" "_law_one" s_law_one f fd) (T : Bi mg mt) (c_law_draw : C8.Cal P w K mg base 1 "_law_draw" (sp_law_draw K) []) : FnOk P w K mg base CX0 2 f fd ["_law_lake_here", "_law_items"] (sp_law_one K) := by
  refine okC F sc_law_one (fun vs H Q E h => ?_) (fun cdv A outer s H vs Q E hr hcd h => ?_)
  · obtain ⟨G, p, f, q, xs, T, rfl, _⟩ := h
    rfl
  · obtain ⟨G, p, f, q, xs, U, rfl, hL, hq, h0, hl, hU, k⟩ := h
    refine ⟨_, (pss_one (ps_ret (pe_ix ix_list (pv 1) (C8.pe_c c_law_draw hr (by decide) (by rfl) (pa_cons (pv 0) (pa_cons (pe_callB call_len_seq (by rfl) T.len (by decide +kernel) (pa_cons (pv 1) pa_nil)) pa_nil))) (fun _ _ => rfl)))), ?_⟩
    refine ⟨.ref q, rfl, .ref p, rfl, .ref q, rfl, q, xs, rfl, .inl (wol_le.seq hq), G, p, f, xs.length, U, rfl, hL, hl, hU, fun H' r hL' s hr' => ?_⟩
    have hr2 : r < xs.length := by omega
    have hx : xs[r]? = some xs[r] := List.getElem?_eq_getElem hr2
    exact ⟨q, xs, r, _, rfl, rfl, wol_le.seq (s.seq hq), atI_nat hx, k H' r _ hx hL' s⟩
/-- all of a list or tuple, in some order -/
def sp_law_mixed (K : PySem.W.Frag) : Sp := fun vs H Q _ => ∃ (G : Hp) (p f q : Addr) (xs : List V) (T : Nat), vs = [.ref p, .ref q] ∧ Lake K G H p f T ∧ (SqL K (wol [p, f] H) q xs ∨ SqT K (wol [p, f] H) q xs) ∧ xs.length ≤ 1000 ∧ T + 1000 ≤ 1000000000 ∧
  ∀ H' r ys, ys.Perm xs → H' r = some (.lst ys) → r ∉ [p, f] → H r = none → Lake K G H' p f (T + xs.length) → Same (wol [p, f] H) (wol [p, f] H') → Q (.ref r) H'
theorem ok_law_mixed {f : Addr} {fd : FuncData} (F : Fun K "_law_mixed" "_law_mixed" s_law_mixed f fd) (T : Bi mg mt) (c_law_draw : C8.Cal P w K mg base 1 "_law_draw" (sp_law_draw K) []) : FnOk P w K mg base CX0 2 f fd ["_law_lake_here", "_law_items"] (sp_law_mixed K) := by
  refine okC F sc_law_mixed (fun vs H Q E h => ?_) (fun cdv A outer s H vs Q E hr hcd h => ?_)
  · obtain ⟨G, p, f, q, xs, T, rfl, _⟩ := h
    rfl
  · obtain ⟨G, p, f, q, xs, U, rfl, hL, hq, hl, hU, k⟩ := h
    refine ⟨_, (pss_cons (ps_par (i := 2) (j := 3) (by rfl) sc_law_mixed.nd rfl rfl (by decide) rfl rfl (pa_cons (pe_callTy call_list_of (by rfl) T.list (by decide +kernel) (pa_cons (pv 1) pa_nil)) (pa_cons (pe_lst pa_nil) pa_nil)) (by rfl))
      (pss_cons (ps_for PassesOwn.never rfl (pi_range1 (by rfl) T.range (pa_cons (pe_callB call_len_seq (by rfl) T.len (by decide +kernel) (pa_cons (pv 1) pa_nil)) pa_nil)) (pg_name (i := 4) sc_law_mixed.nd rfl (Or.inl rfl))
        (pss_one (ps_expr (pe_bm PySem.F.plainAttrs_list PySem.F.slot_list_append PySem.F.type_list_append mt_append (pv 3) (pa_cons (pe_bm PySem.F.plainAttrs_list PySem.F.slot_list_pop PySem.F.type_list_pop mt_popAt (pv 2) (pa_cons (C8.pe_c c_law_draw hr (by decide) (by rfl) (pa_cons (pv 0) (pa_cons (pe_callB call_len_seq (by rfl) T.len (by decide +kernel) (pa_cons (pv 2) pa_nil)) pa_nil))) pa_nil)) pa_nil)))))
      (pss_one (ps_ret (pv 3))))), ?_⟩
    have hq' : SqL K H q xs ∨ SqT K H q xs := hq.imp (fun h => wol_le.seq h) fun h => wol_le.seqT h
    refine ⟨.ref q, rfl, q, xs, rfl, hq', fun rl hrl => ⟨Nat.zero_le _, fun fl hfl => ⟨_, _, rfl, ?_⟩⟩⟩
    have hrf : rl ≠ fl := fun e => by
      rw [← e, upd_same] at hfl
      cases hfl
    have hfl' : H fl = none := by
      rw [upd_ne (Ne.symm hrf)] at hfl
      exact hfl
    have rlo := hL.out hrl
    have flo := hL.out hfl'
    have s0 : Same H (upd (upd H rl (.lst xs)) fl (.lst [])) := (same_new hrl).trans (same_new hfl)
    have gr : wol [p, f] H rl = none := wol_none hrl
    have gf : wol [p, f] H fl = none := wol_none hfl'
    refine ⟨.ref q, rfl, q, xs, rfl, hq'.imp (fun h => s0.seq h) (fun h => s0.seqT h), (xs.length : Int), rfl, by omega, by omega,
      for_it walk_rngN (fun i σ H' => ∃ v4 ys rs, σ = [some (.ref p), some (.ref q), some (.ref rl), some (.ref fl), v4] ∧ Lake K G H' p f (U + i) ∧ Same (wol [p, f] H) (wol [p, f] H') ∧ H' rl = some (.lst rs) ∧ H' fl = some (.lst ys) ∧ (ys ++ rs).Perm xs ∧ ys.length = i)
      ⟨none, [], xs, rfl, hL.new s0, wol_mono s0, by rw [upd_ne hrf, upd_same], upd_same, List.Perm.refl _, rfl⟩ (fun _ _ _ _ _ => True.intro) ?_ ?_⟩
    · rintro i y σ H1 H2 hi ⟨v4, ys, rs, rfl, hL1, s1, h1, h2, hp, hy⟩ ⟨rfl, rfl⟩
      have hrs : 0 < rs.length := by
        have := hp.length_eq
        rw [List.length_append] at this
        omega
      have hrs2 : rs.length ≤ 1000 := by
        have := hp.length_eq
        rw [List.length_append] at this
        omega
      refine ⟨.ref fl, rfl, .inl ⟨rfl, _, SqL.of h2⟩, .ref rl, rfl, .inl ⟨rfl, _, SqL.of h1⟩, .ref p, rfl, .ref rl, rfl, rl, rs, rfl, .inl (SqL.of h1), G, p, f, rs.length, U + i, rfl, hL1, by omega, by omega, fun H3 r hL3 s3 hr3 => ?_⟩
      have hr2 : r < rs.length := by omega
      have hx : rs[r]? = some rs[r] := List.getElem?_eq_getElem hr2
      have h13 : H3 rl = some (.lst rs) := wol_le _ _ (s3 _ _ (by rw [wol_out rlo]; exact h1))
      have h23 : H3 fl = some (.lst ys) := wol_le _ _ (s3 _ _ (by rw [wol_out flo]; exact h2))
      refine ⟨rl, rs, r, r, _, rfl, rfl, h13, by omega, by omega, seq_nat hr2, hx, fl, ys, _, rfl, rfl, by rw [upd_ne (Ne.symm hrf)]; exact h23, by rw [sizeLine_eq]; omega, ?_⟩
      refine ⟨_, ys ++ [rs[r]], rs.eraseIdx r, rfl, (hL3.put (hL.free hrl) rlo).put (hL.free hfl') flo, ?_, by rw [upd_ne hrf, upd_same], upd_same, ?_, by rw [List.length_append, hy]; rfl⟩
      · rw [wol_put flo, wol_put rlo]
        exact same_at (same_at (s1.trans s3) gr) gf
      · refine List.Perm.trans ?_ hp
        rw [List.append_assoc]
        refine List.Perm.append_left ys ?_
        have : rs = rs.take r ++ rs[r] :: rs.drop (r + 1) := by
          rw [← List.drop_eq_getElem_cons hr2, List.take_append_drop]
        conv => rhs; rw [this]
        rw [List.eraseIdx_eq_take_drop_succ]
        show (rs[r] :: (rs.take r ++ rs.drop (r + 1))).Perm _
        exact List.perm_middle.symm
    · rintro σ H1 ⟨v4, ys, rs, rfl, hL1, s1, h1, h2, hp, hy⟩
      have hrs : rs = [] := by
        have := hp.length_eq
        rw [List.length_append] at this
        exact List.eq_nil_of_length_eq_zero (by omega)
      subst hrs
      rw [List.append_nil] at hp
      exact ⟨.ref fl, rfl, k H1 fl ys hp h2 flo hfl' hL1 s1⟩
end
end Fb

/-! FbP -/
set_option maxHeartbeats 4000000
/-! _law_ground, _law_heap, _law_goal -/
namespace Fb
open PySem PySem.Spec PyProof.Rows L2
section
variable {K : PySem.W.Frag} {J : It} {n : Nat} {Gd : Hp → Prop} {Y : Nat → Hp → V → Hp → Prop}
/-- a comprehension that draws which items it keeps -/
theorem lc_dr (w : Walk J n Gd Y) {g : TG} {tt : TT} {te : TE} {vs : List Nat} {σ : L2.St} {G H1 : Hp} {D p f : Addr} {T : Nat} {Qd : Hp → Prop} (xs : List V) (hx : xs.length = n) (hn : n ≤ 100000) (hL : Lake K G H1 p f T) (hD : H1 D = none)
    (hG : ∀ H, Same (wol [p, f] H1) (wol [p, f] H) → Gd H) (hY : ∀ i x H H', Y i H x H' → H' = H ∧ xs[i]? = some x)
    (hs : ∀ i x H (Ky : V → Hp → Prop) (Kn : Hp → Prop), xs[i]? = some x → Lake K G H p f (T + i) → Same (wol [p, f] H1) (wol [p, f] H) → (∀ H4, Lake K G H4 p f (T + i + 1) → Same (wol [p, f] H) (wol [p, f] H4) → Ky x H4) →
      (∀ H3, Lake K G H3 p f (T + i + 1) → Same (wol [p, f] H) (wol [p, f] H3) → Kn H3) → g x (wipe σ vs) H fun σ2 H2 => wipe σ2 vs = wipe σ vs ∧ tt σ2 H2 fun b H3 => if b = true then te σ2 H3 Ky else Kn H3)
    (hd : ∀ H ys, List.Sublist ys xs → Lake K G H p f (T + n) → Same (wol [p, f] H1) (wol [p, f] H) → H D = some (.lst ys) → Qd H) :
    ∃ W : Nat → Nat → Hp → Prop, (∃ m, W 0 m (upd H1 D (.lst []))) ∧ ∀ i m H, W i m H →
      (J.stop i H ∧ Qd H) ∨ (J.go i H ∧ ∃ Nx : Hp → Prop, (∀ H', Nx H' → ∃ m', m' < m ∧ W (i + 1) m' H') ∧ ∀ x H', J.yld i H x H' → g x (wipe σ vs) H' fun σ2 H2 => wipe σ2 vs = wipe σ vs ∧ tt σ2 H2 fun b H3 =>
        if b = true then te σ2 H3 fun y H4 => ∃ acc, H4 D = some (.lst acc) ∧ acc.length < sizeLine ∧ Nx (upd H4 D (.lst (acc ++ [y]))) else Nx H3) := by
  have ho := hL.out hD
  have gD : wol [p, f] H1 D = none := wol_none hD
  refine lc_it w (fun i H => ∃ ys, List.Sublist ys (xs.take i) ∧ Lake K G H p f (T + i) ∧ Same (wol [p, f] H1) (wol [p, f] H) ∧ H D = some (.lst ys))
    ⟨[], List.Sublist.refl _, hL.new (same_new hD), wol_mono (same_new hD), upd_same⟩ (fun i H _ ⟨_, _, _, s, _⟩ => hG H s) (fun i x H H' hi ⟨ys, hy, hl, s, e⟩ y => ?_) fun H ⟨ys, hy, hl, s, e⟩ => hd H ys (by rw [← hx, List.take_length] at hy; exact hy) hl s e
  obtain ⟨rfl, hxi⟩ := hY i x H H' y
  have ht : xs.take (i + 1) = xs.take i ++ [x] := by rw [List.take_add_one, hxi]; rfl
  have hlen : ys.length < sizeLine := by
    have := hy.length_le
    rw [List.length_take] at this
    rw [sizeLine_eq]
    omega
  refine hs i x H' _ _ hxi hl s (fun H4 l4 s4 => ⟨ys, wol_le _ _ (s4 _ _ (by rw [wol_out ho]; exact e)), hlen, ys ++ [x], by rw [ht]; exact hy.append (List.Sublist.refl _), l4.put (hL.free hD) ho, ?_, upd_same⟩)
    (fun H3 l3 s3 => ⟨ys, by rw [ht]; exact hy.trans (List.sublist_append_left _ _), l3, s.trans s3, wol_le _ _ (s3 _ _ (by rw [wol_out ho]; exact e))⟩)
  rw [wol_put ho]
  exact same_at (s.trans s4) gD
end
theorem nv_sub {ns : List Nat} {ys : List V} (h : List.Sublist ys (nv ns)) : ∃ ms, ys = nv ms ∧ List.Sublist ms ns := by
  unfold nv iv at h
  rw [List.map_map] at h
  obtain ⟨ms, h1, h2⟩ := List.sublist_map_iff.mp h
  exact ⟨ms, by rw [h2]; simp [nv, iv], h1⟩
theorem rf_sub {α : Type} {ps : List (Addr × α)} {ys : List V} (h : List.Sublist ys (rf ps)) : ∃ qs, ys = rf qs ∧ List.Sublist qs ps := by
  obtain ⟨ms, h1, h2⟩ := List.sublist_map_iff.mp h
  exact ⟨ms, h2, h1⟩
theorem small1001 {n : Nat} (h : n ≤ 100000) : n < sizeLine := by
  rw [sizeLine_eq]
  omega
-- _law_ground: slots 0=_law_lake_here 1=_law_most 2=_law_start 3=_law_found 4=_law_turn; cells 
abbrev s_law_ground : Stmt := topS 38
abbrev N_law_ground : List Str := ["_law_lake_here", "_law_most", "_law_start", "_law_found", "_law_turn"]
theorem sc_law_ground : FnScope N_law_ground ["_law_lake_here", "_law_most"] (defScope s_law_ground) := ⟨rfl, rfl, rfl, by decide +kernel, rfl, by decide +kernel, by decide +kernel⟩
-- _law_heap: slots 0=_law_lake_here 1=_law_ground_here 2=_law_most 3=_law_found 4=_law_turn 5=_law_way 6=_law_share 7=_law_fresh 8=_law_at 9=_law_own; cells _law_lake_here _law_share
abbrev s_law_heap : Stmt := topS 39
abbrev N_law_heap : List Str := ["_law_lake_here", "_law_ground_here", "_law_most", "_law_found", "_law_turn", "_law_way", "_law_share", "_law_fresh", "_law_at", "_law_own"]
theorem sc_law_heap : FnScope N_law_heap ["_law_lake_here", "_law_ground_here", "_law_most"] (defScope s_law_heap) := ⟨rfl, rfl, rfl, by decide +kernel, rfl, by decide +kernel, by decide +kernel⟩
-- _law_goal: slots 0=_law_lake_here 1=_law_ground_here 2=_law_heap_here 3=_law_way 4=_law_at 5=_law_goal_here 6=_law_own; cells _law_lake_here
abbrev s_law_goal : Stmt := topS 40
abbrev N_law_goal : List Str := ["_law_lake_here", "_law_ground_here", "_law_heap_here", "_law_way", "_law_at", "_law_goal_here", "_law_own"]
theorem sc_law_goal : FnScope N_law_goal ["_law_lake_here", "_law_ground_here", "_law_heap_here"] (defScope s_law_goal) := ⟨rfl, rfl, rfl, by decide +kernel, rfl, by decide +kernel, by decide +kernel⟩
section
variable {P : Program} {w : World} {K : PySem.W.Frag} {mg : Str → Option Value} {base : Heap} {mt : Nat}
def sp_law_ground (K : PySem.W.Frag) : Sp := fun vs H Q _ => ∃ (G : Hp) (p f : Addr) (m T : Nat), vs = [.ref p, .int (m : Int)] ∧ Lake K G H p f T ∧ 1 ≤ m ∧ m ≤ 60 ∧ T + 1000 ≤ 1000000000 ∧
  ∀ H' r ns, H' r = some (.lst (nv ns)) → r ∉ [p, f] → H r = none → Asc ns → ns ≠ [] → (∀ n ∈ ns, n ≤ 99) → Lake K G H' p f (T + 200) → Same (wol [p, f] H) (wol [p, f] H') → Q (.ref r) H'
theorem nv_three (a b c : Nat) : nv [a, b, c] = [.int (a : Int), .int (b : Int), .int (c : Int)] := rfl
theorem ok_law_ground {f : Addr} {fd : FuncData} (F : Fun K "_law_ground" "_law_ground" s_law_ground f fd) (T : Bi mg mt) (c_law_one : C8.Cal P w K mg base 2 "_law_one" (sp_law_one K) []) (c_law_draw : C8.Cal P w K mg base 1 "_law_draw" (sp_law_draw K) []) : FnOk P w K mg base CX0 3 f fd ["_law_lake_here", "_law_most"] (sp_law_ground K) := by
  refine okC F sc_law_ground (fun vs H Q E h => ?_) (fun cdv A outer s H vs Q E hr hcd h => ?_)
  · obtain ⟨G, p, f, m, T, rfl, _⟩ := h
    rfl
  · obtain ⟨G, p, f, m, U, rfl, hL, hm1, hm2, hU, k⟩ := h
    refine ⟨_, (pss_cons (ps_par (i := 2) (j := 3) (by rfl) sc_law_ground.nd rfl rfl (by decide) rfl rfl (pa_cons (C8.pe_c c_law_one hr (by decide) (by rfl) (pa_cons (pv 0) (pa_cons (pe_lst (pa_cons pe_int (pa_cons (pe_op op_subN pe_int (pv 1)) (pa_cons (C8.pe_c c_law_draw hr (by decide) (by rfl) (pa_cons (pv 0) (pa_cons (pe_op op_subN pe_int (pv 1)) pa_nil))) pa_nil)))) pa_nil))) (pa_cons (pe_lst pa_nil) pa_nil)) (by rfl))
      (pss_cons (ps_for PassesOwn.never rfl (pi_range1 (by rfl) T.range (pa_cons (pv 1) pa_nil)) (pg_name (i := 4) sc_law_ground.nd rfl (Or.inl rfl))
        (pss_one (ps_expr (pe_bm PySem.F.plainAttrs_list PySem.F.slot_list_append PySem.F.type_list_append mt_append (pv 3) (pa_cons (C8.pe_c c_law_one hr (by decide) (by rfl) (pa_cons (pv 0) (pa_cons (pe_lst (pa_cons (pe_op op_addN (pv 2) (pv 4)) (pa_cons (C8.pe_c c_law_draw hr (by decide) (by rfl) (pa_cons (pv 0) (pa_cons pe_int pa_nil))) pa_nil))) pa_nil))) pa_nil)))))
      (pss_one (ps_ret (pe_callB (cr_sortedSet rfl) (by rfl) T.sorted (by decide +kernel) (pa_cons (pe_callTy (cr_setL rfl) (by rfl) T.set (by decide +kernel) (pa_cons (pv 3) pa_nil)) pa_nil)))))), ?_⟩
    refine ⟨.ref p, rfl, .int (m : Int), rfl, 100, m, rfl, rfl, by omega, .ref p, rfl, .int (m : Int), rfl, 101, m, rfl, rfl, by omega, G, p, f, 101 - m, U, rfl, hL, by omega, by omega, fun H1 r1 hL1 s1 hr1 => ?_⟩
    refine ⟨by show 3 ≤ sizeLine; decide, fun z hz => ?_⟩
    have zo := hL1.out hz
    have hL2 := hL1.new (same_new (o := .lst [.int 0, .int ((100 - m : Nat) : Int), .int (r1 : Int)]) hz)
    have hzl : wol [p, f] (upd H1 z (.lst [.int 0, .int ((100 - m : Nat) : Int), .int (r1 : Int)])) z = some (.lst (nv [0, 100 - m, r1])) := by
      rw [wol_put zo, upd_same]
      rfl
    have s2 : Same (wol [p, f] H) (wol [p, f] (upd H1 z (.lst [.int 0, .int ((100 - m : Nat) : Int), .int (r1 : Int)]))) := s1.trans (wol_mono (same_new hz))
    refine ⟨G, p, f, z, nv [0, 100 - m, r1], U + 1, rfl, hL2, SqL.of hzl, by show 0 < 3; decide, by show 3 ≤ 2000; decide, by omega, fun H3 i x hx hL3 s3 => ?_⟩
    obtain ⟨st, hst, rfl⟩ := nv_get hx
    have hst99 : st + m ≤ 100 := by
      have := mem_at hst
      rcases List.mem_cons.mp this with e | this
      · omega
      · rcases List.mem_cons.mp this with e | this
        · omega
        · have := List.mem_singleton.mp this
          omega
    have s3' := s2.trans s3
    refine ⟨Nat.zero_le _, fun fl hfl => ⟨_, _, rfl, ?_⟩⟩
    have flo := hL3.out hfl
    have hHfl : H fl = none := by
      cases e : H fl with
      | none => rfl
      | some o =>
        have := wol_le _ _ (s3' _ _ (by rw [wol_out flo]; exact e))
        rw [hfl] at this
        cases this
    have gf : wol [p, f] H fl = none := wol_none hHfl
    refine ⟨.int (m : Int), rfl, (m : Int), rfl, by omega, by omega,
      for_it walk_rngN (fun i σ H' => ∃ v4 ns, σ = [some (.ref p), some (.int (m : Int)), some (.int (st : Int)), some (.ref fl), v4] ∧ Lake K G H' p f (U + 2 + 2 * i) ∧ Same (wol [p, f] H) (wol [p, f] H') ∧ H' fl = some (.lst (nv ns)) ∧ ns.length = i ∧ (∀ n ∈ ns, n ≤ 99))
      ⟨none, [], rfl, hL3.new (same_new hfl), s3'.trans (wol_mono (same_new hfl)), upd_same, rfl, fun _ h => by simp at h⟩ (fun _ _ _ _ _ => True.intro) ?_ ?_⟩
    · rintro i y σ H4 H5 hi ⟨v4, ns, rfl, hL4, s4, h4, hn, hb⟩ ⟨rfl, rfl⟩
      refine ⟨.ref fl, rfl, .inl ⟨rfl, _, SqL.of h4⟩, .ref p, rfl, .int (st : Int), rfl, .int (i : Int), rfl, st, i, rfl, rfl, .ref p, rfl, G, p, f, 100, _, rfl, hL4, by decide, by omega, fun H6 r6 hL6 s6 hr6 => ?_⟩
      refine ⟨by show 2 ≤ sizeLine; decide, fun y hy => ?_⟩
      have yo := hL6.out hy
      have hL7 := hL6.new (same_new (o := .lst [.int ((st + i : Nat) : Int), .int (r6 : Int)]) hy)
      have hyl : wol [p, f] (upd H6 y (.lst [.int ((st + i : Nat) : Int), .int (r6 : Int)])) y = some (.lst (nv [st + i, r6])) := by
        rw [wol_put yo, upd_same]
        rfl
      have s7 : Same (wol [p, f] H5) (wol [p, f] (upd H6 y (.lst [.int ((st + i : Nat) : Int), .int (r6 : Int)]))) := s6.trans (wol_mono (same_new hy))
      refine ⟨G, p, f, y, nv [st + i, r6], _, rfl, hL7, SqL.of hyl, by show 0 < 2; decide, by show 2 ≤ 2000; decide, by omega, fun H8 j x hx hL8 s8 => ?_⟩
      obtain ⟨v, hv, rfl⟩ := nv_get hx
      have hv99 : v ≤ 99 := by
        rcases List.mem_cons.mp (mem_at hv) with e | this
        · omega
        · have := List.mem_singleton.mp this
          omega
      have s8' := s7.trans s8
      have h8 : H8 fl = some (.lst (nv ns)) := wol_le _ _ (s8' _ _ (by rw [wol_out flo]; exact h4))
      refine ⟨fl, _, _, rfl, rfl, h8, small1001 (by rw [nv_len]; omega), _, ns ++ [v], rfl, (hL8.put (hL.free hHfl) flo).mono (by omega), ?_, ?_, ?_, fun n hn' => ?_⟩
      · rw [wol_put flo]
        exact same_at (s4.trans s8') gf
      · rw [upd_same, nv_snoc]
      · rw [List.length_append, hn]
        rfl
      · rcases List.mem_append.mp hn' with h | h
        · exact hb n h
        · rw [List.mem_singleton.mp h]
          exact hv99
    · rintro σ H4 ⟨v4, ns, rfl, hL4, s4, h4, hn, hb⟩
      refine ⟨.ref fl, rfl, fl, iv ns, rfl, SqL.of h4, by rw [iv_len]; omega, fun q c hc hq => ?_⟩
      have sq := same_new (o := SetO w q (fun j => decide (j ∈ iv ns)) c) hq
      refine ⟨q, _, c, rfl, upd_same, by rw [iv_len] at hc; omega, fun ys r hy1 hy2 hy3 hr' => ?_⟩
      have sr := same_new (o := HO.lst (ys.map V.int)) hr'
      have ex : ∃ us : List Nat, ys = iv us ∧ Asc us ∧ ∀ i, i ∈ us ↔ i ∈ ns := by
        have e1 : ∀ l : List Int, (∀ z ∈ l, ∃ n : Nat, z = (n : Int)) → ∃ us : List Nat, l = iv us := by
          intro l
          induction l with
          | nil => exact fun _ => ⟨[], rfl⟩
          | cons z l ih =>
            intro hl
            obtain ⟨n, rfl⟩ := hl z (List.mem_cons_self ..)
            obtain ⟨us, rfl⟩ := ih fun q hq => hl q (List.mem_cons_of_mem _ hq)
            exact ⟨n :: us, rfl⟩
        obtain ⟨us, rfl⟩ := e1 ys fun z hz => by
          obtain ⟨n, _, e⟩ := List.mem_map.mp (of_decide_eq_true ((hy2 z).mp hz))
          exact ⟨n, e.symm⟩
        have mem : ∀ (l : List Nat) (i : Nat), (i : Int) ∈ iv l ↔ i ∈ l := fun l i => by
          refine ⟨fun m => ?_, fun m => List.mem_map.mpr ⟨i, m, rfl⟩⟩
          obtain ⟨k, hk, e⟩ := List.mem_map.mp m
          have e' : k = i := Int.ofNat.inj e
          rw [← e']
          exact hk
        refine ⟨us, rfl, (List.pairwise_map.mp hy1).imp fun h => by omega, fun i => ?_⟩
        rw [← mem us, hy2, decide_eq_true_iff, mem]
      obtain ⟨us, rfl, ha, hmem⟩ := ex
      have hr4 : H4 r = none := by
        rw [upd_ne (fun e => by rw [e, upd_same] at hr'; cases hr')] at hr'
        exact hr'
      refine k _ r us upd_same (hL4.out hr4) ?_ ha ?_ (fun n hn' => hb n ((hmem n).mp hn')) ((hL4.new (sq.trans sr)).mono (by omega)) (s4.trans (wol_mono (sq.trans sr)))
      · cases e : H r with
        | none => rfl
        | some o =>
          have := wol_le _ _ (s4 _ _ (by rw [wol_out (hL4.out hr4)]; exact e))
          rw [hr4] at this
          cases this
      · intro e
        subst e
        cases ns with
        | nil =>
          have : (0 : Nat) = m := hn
          omega
        | cons n ns =>
          have := (hmem n).mpr (List.mem_cons_self ..)
          simp at this
theorem wol3 {p f q : Addr} {H : Hp} : wol [p, f, q] H = wol [q] (wol [p, f] H) := by
  funext b
  by_cases hq : b = q
  · subst hq
    rw [wol_in (by simp), wol_in (by simp)]
  · rw [wol_out (ds := [q]) (by simpa using hq)]
    by_cases hb : b ∈ [p, f]
    · rw [wol_in hb, wol_in]
      rcases List.mem_cons.mp hb with e | h
      · rw [e]
        simp
      · rw [List.mem_singleton.mp h]
        simp
    · rw [wol_out hb, wol_out]
      intro h
      rcases List.mem_cons.mp h with e | h
      · exact hb (by rw [e]; simp)
      · rcases List.mem_cons.mp h with e | h
        · exact hb (by rw [e]; simp)
        · exact hq (List.mem_singleton.mp h)
/-- picks that are gathered in an own list at l -/
structure Fnd (K : PySem.W.Frag) (G H0 : Hp) (p f l : Addr) (T : Nat) (H : Hp) (ps : List (Addr × List Nat)) : Prop where
  lk : Lake K G H p f T
  sm : Same (wol [p, f] H0) (wol [p, f] H)
  no : H0 l = none
  ou : l ∉ [p, f]
  gn : G l = none
  li : H l = some (.lst (rf ps))
  tg : Tg (Nts K) (wol [p, f, l] H) ps
  sl : Small (sn ps)
theorem Fnd.step {K : PySem.W.Frag} {G H0 : Hp} {p f l : Addr} {T U : Nat} {H H' : Hp} {ps : List (Addr × List Nat)} (h : Fnd K G H0 p f l T H ps) (hl : Lake K G H' p f U) (s : Same (wol [p, f] H) (wol [p, f] H')) : Fnd K G H0 p f l U H' ps :=
  ⟨hl, h.sm.trans s, h.no, h.ou, h.gn, wol_le _ _ (s _ _ (by rw [wol_out h.ou]; exact h.li)), h.tg.mono mo_nts (by rw [wol3, wol3]; exact wol_mono s), h.sl⟩
theorem Fnd.new {K : PySem.W.Frag} {G H0 : Hp} {p f l : Addr} {T : Nat} {H H' : Hp} {ps : List (Addr × List Nat)} (h : Fnd K G H0 p f l T H ps) (s : Same H H') : Fnd K G H0 p f l T H' ps := h.step (h.lk.new s) (wol_mono s)
theorem Fnd.w3 {K : PySem.W.Frag} {G H0 : Hp} {p f l : Addr} {T : Nat} {H : Hp} {ps : List (Addr × List Nat)} (h : Fnd K G H0 p f l T H ps) : Same (wol [p, f] H0) (wol [p, f, l] H) := by
  rw [wol3]
  exact le_wol h.sm fun d hd => by
    rw [List.mem_singleton.mp hd]
    exact wol_none h.no
theorem Fnd.put {K : PySem.W.Frag} {G H0 : Hp} {p f l : Addr} {T : Nat} {H : Hp} {ps : List (Addr × List Nat)} (h : Fnd K G H0 p f l T H ps) {r : Addr} {t : List Nat} (hr : Nts K (wol [p, f, l] H) r t) (ha : Asc t ∧ ∀ n ∈ t, n ≤ 1000) :
    Fnd K G H0 p f l T (upd H l (.lst (rf ps ++ [V.ref r]))) (ps ++ [(r, t)]) := by
  have e : wol [p, f, l] (upd H l (.lst (rf ps ++ [V.ref r]))) = wol [p, f, l] H := wol_upd (by simp)
  refine ⟨h.lk.put h.gn h.ou, ?_, h.no, h.ou, h.gn, by rw [upd_same, rf_snoc], ?_, ?_⟩
  · rw [wol_put h.ou]
    exact same_at h.sm (wol_none h.no)
  · rw [e]
    intro x hx
    rcases List.mem_append.mp hx with hx | hx
    · exact h.tg x hx
    · rw [List.mem_singleton.mp hx]
      exact hr
  · rw [sn_snoc]
    intro l hl
    rcases List.mem_append.mp hl with hl | hl
    · exact h.sl l hl
    · rw [List.mem_singleton.mp hl]
      exact ha
theorem sqt_wol {K : PySem.W.Frag} {H : Hp} {ds : List Addr} {a : Addr} {xs : List V} (hd : ∀ d ∈ ds, ∀ ys, ¬ Rd H d (.tup ys)) (h : SqT K H a xs) : SqT K (wol ds H) a xs := by
  rcases h with h | h
  · refine .inl ?_
    have : a ∉ ds := fun m => hd a m xs h
    unfold Rd at h ⊢
    rw [wol_out this]
    exact h
  · exact .inr h
theorem Lake.tup {K : PySem.W.Frag} {G H : Hp} {p f : Addr} {T : Nat} (h : Lake K G H p f T) {a : Addr} {xs : List V} (hx : SqT K H a xs) : SqT K (wol [p, f] H) a xs := by
  obtain ⟨_, _, _, _, _, h1, h2, _⟩ := h.ex
  refine sqt_wol (fun d hd ys r => ?_) hx
  rcases List.mem_cons.mp hd with e | hd
  · rw [e] at r
    rcases r with r | ⟨o, r⟩ <;> (rw [h1] at r; cases r)
  · rw [List.mem_singleton.mp hd] at r
    rcases r with r | ⟨o, r⟩ <;> (rw [h2] at r; cases r)
theorem Fnd.tup {K : PySem.W.Frag} {G H0 : Hp} {p f l : Addr} {T : Nat} {H : Hp} {ps : List (Addr × List Nat)} (h : Fnd K G H0 p f l T H ps) {a : Addr} {xs : List V} (hx : SqT K H a xs) : SqT K (wol [p, f, l] H) a xs := by
  rw [wol3]
  refine sqt_wol (fun d hd ys r => ?_) (h.lk.tup hx)
  have h1 : wol [p, f] H l = some (.lst (rf ps)) := by
    rw [wol_out h.ou]
    exact h.li
  rw [List.mem_singleton.mp hd] at r
  rcases r with r | ⟨o, r⟩ <;> (rw [h1] at r; cases r)
theorem lpd_shaped (L : List (List Nat)) : SeqAt.shaped (.list (L.map pd)) = true := by
  have h0 : ∀ l : List Nat, PyData.canLayAll0 (l.map fun n : Nat => PyData.int (n : Int)) = true := fun l => by
    induction l with
    | nil => rfl
    | cons n ns ih => simpa [PyData.canLayAll0, PyData.canLay0] using ih
  have h00 : ∀ l : List Nat, PyData.depthAll (l.map fun n : Nat => PyData.int (n : Int)) = 0 := fun l => by
    induction l with
    | nil => rfl
    | cons n ns ih => simpa [PyData.depthAll, PyData.depth] using ih
  have h1 : PyData.canLayAll0 (L.map pd) = true := by
    induction L with
    | nil => rfl
    | cons l L ih =>
      rw [List.map_cons, PyData.canLayAll0, ih]
      unfold pd
      rw [PyData.canLay0, h0]
      rfl
  have h2 : PyData.depthAll (L.map pd) ≤ 1 := by
    clear h1
    induction L with
    | nil => exact Nat.zero_le _
    | cons l L ih =>
      rw [List.map_cons, PyData.depthAll]
      unfold pd at ih ⊢
      rw [PyData.depth, h00]
      omega
  unfold SeqAt.shaped
  rw [PyData.canLay0, PyData.depth, h1, Bool.true_and, decide_eq_true_iff]
  omega
theorem lpd_nil : ∀ L : List (List Nat), PyData.eqv (.list (L.map pd)) (.list []) = L.isEmpty
  | [] => by
    rw [PyData.eqv]
    rfl
  | l :: L => by
    rw [PyData.eqv, List.map_cons, PyData.eqvAll]
    rfl
theorem dp_tg {K : PySem.W.Frag} {H : Hp} : ∀ ps : List (Addr × List Nat), Tg (Nts K) H ps → DpAll K H (rf ps) ((sn ps).map pd)
  | [], _ => .nil
  | p :: ps, h => .cons (dp_nts (h p (List.mem_cons_self ..))) (dp_tg ps fun q hq => h q (List.mem_cons_of_mem _ hq))
theorem dp_lst {K : PySem.W.Frag} {H : Hp} {a : Addr} {ps : List (Addr × List Nat)} (h : SqL K H a (rf ps)) (t : Tg (Nts K) H ps) : Dp K H (.ref a) (.list ((sn ps).map pd)) := .lst h (dp_tg ps t)
def sp_law_heap (K : PySem.W.Frag) : Sp := fun vs H Q _ => ∃ (G : Hp) (p f q : Addr) (m T : Nat) (gs : List Nat), vs = [.ref p, .ref q, .int (m : Int)] ∧ Lake K G H p f T ∧ SqL K (wol [p, f] H) q (nv gs) ∧ Asc gs ∧ gs ≠ [] ∧ (∀ n ∈ gs, n ≤ 99) ∧ m ≤ 24 ∧ T + 10000 ≤ 1000000000 ∧
  ∀ H' r L, Pks K (wol [p, f] H') r L → L.length ≤ m → Small L → Lake K G H' p f (T + 5000) → Same (wol [p, f] H) (wol [p, f] H') → Q (.ref r) H'
theorem ok_law_heap {f : Addr} {fd : FuncData} (F : Fun K "_law_heap" "_law_heap" s_law_heap f fd) (T : Bi mg mt) (c_law_draw : C8.Cal P w K mg base 1 "_law_draw" (sp_law_draw K) []) (c_law_mixed : C8.Cal P w K mg base 2 "_law_mixed" (sp_law_mixed K) []) (c_law_one : C8.Cal P w K mg base 2 "_law_one" (sp_law_one K) []) (c_law_sum : C8.Cal P w K mg base 1 "_law_sum" (sp_law_sum K) []) : FnOk P w K mg base CX0 3 f fd ["_law_lake_here", "_law_ground_here", "_law_most"] (sp_law_heap K) := by
  refine okC F sc_law_heap (fun vs H Q E h => ?_) (fun cdv A outer s H vs Q E hr hcd h => ?_)
  · obtain ⟨G, p, f, q, m, T, gs, rfl, _⟩ := h
    rfl
  · obtain ⟨G, p, f, q, m, U, gs, rfl, hL, hq, hga, hgn, hgb, hm, hU, k⟩ := h
    have hu64 := hr.units
    have hgl : gs.length ≤ 100 := small_len hga hgb
    refine ⟨_, (pss_cons (ps_set (i := 3) sc_law_heap.nd rfl (Or.inl rfl) (pe_lst pa_nil))
      (pss_cons (ps_for PassesOwn.never rfl (pi_range1 (by rfl) T.range (pa_cons (C8.pe_c c_law_draw hr (by decide) (by rfl) (pa_cons (pv 0) (pa_cons (pe_op op_addN (pv 2) pe_int) pa_nil))) pa_nil)) (pg_name (i := 4) sc_law_heap.nd rfl (Or.inl rfl))
        (pss_cons (ps_asg (pe_tup (pa_cons (C8.pe_c c_law_draw hr (by decide) (by rfl) (pa_cons (pv 0) (pa_cons pe_int pa_nil))) (pa_cons (C8.pe_c c_law_one hr (by decide) (by rfl) (pa_cons (pv 0) (pa_cons (pe_lst (pa_cons pe_int (pa_cons pe_int (pa_cons pe_int pa_nil)))) pa_nil))) pa_nil))) (pg_tup (n := 2) rfl (pgs_cons (pg_name (i := 5) sc_law_heap.nd rfl (Or.inl rfl)) (pgs_cons (pg_name (i := 6) sc_law_heap.nd rfl (Or.inr rfl)) pgs_nil))))
        (pss_cons (ps_set (i := 7) sc_law_heap.nd rfl (Or.inl rfl) (pe_tupleOf (by rfl) T.tuple (pe_lc (own := [("_law_at", 8)]) rfl sc_law_heap.nd (pi_list (pv 1)) (blkOk_by (N := N_law_heap) (sc := (defScope s_law_heap)) (by decide +kernel)) (fun _ _ _ _ _ => (pg_name (i := 8) sc_law_heap.nd rfl (Or.inl rfl))) (fun _ _ _ _ _ => (pts_one (pt_cmpR op_ltN (C8.pe_c c_law_draw hr (by decide) (by rfl) (pa_cons (pv 0) (pa_cons pe_int pa_nil))) (pv 6) (nomark _)))) (fun _ _ _ _ _ => (pv 8)))))
        (C8.pss_cut (ps_if (PW.pt (pw_and (pt_cmpR op_eqN (pv 5) pe_int (nomark _)) (pw_and1 (pt_cmpR (op_neD hu64) (pv 3) (pe_lst pa_nil) (nomark _)))))
          (pss_one (ps_set (i := 7) sc_law_heap.nd rfl (Or.inl rfl) (C8.pe_c c_law_one hr (by decide) (by rfl) (pa_cons (pv 0) (pa_cons (pv 3) pa_nil)))))
          pss_nil)
        (C8.pss_cut (ps_if (pt_cmpR op_eqN (pv 5) pe_int (nomark _))
          (pss_one (ps_set (i := 7) sc_law_heap.nd rfl (Or.inl rfl) (C8.pe_c c_law_sum hr (by decide) (by rfl) (pa_cons (pe_lc (own := [("_law_own", 9)]) rfl sc_law_heap.nd (pi_list (pv 3)) (blkOk_by (N := N_law_heap) (sc := (defScope s_law_heap)) (by decide +kernel)) (fun _ _ _ _ _ => (pg_name (i := 9) sc_law_heap.nd rfl (Or.inl rfl))) (fun _ _ _ _ _ => (pts_one (pt_cmpR op_eqN (C8.pe_c c_law_draw hr (by decide) (by rfl) (pa_cons (pv 0) (pa_cons pe_int pa_nil))) pe_int (nomark _)))) (fun _ _ _ _ _ => (pv 9))) pa_nil))))
          pss_nil)
        (C8.pss_cut (ps_if (pt_cmpR op_eqN (pv 5) pe_int (nomark _))
          (pss_one (ps_set (i := 7) sc_law_heap.nd rfl (Or.inl rfl) (C8.pe_c c_law_one hr (by decide) (by rfl) (pa_cons (pv 0) (pa_cons (pe_lst (pa_cons (pe_tup pa_nil) (pa_cons (pe_tup (pa_cons (pe_ix ix_list (pv 1) pe_int (fun _ _ => rfl)) pa_nil)) (pa_cons (pe_tup (pa_cons (pe_ix ix_list (pv 1) (pe_un un_neg pe_int) (fun _ _ => rfl)) pa_nil)) (pa_cons (pe_tupleOf (by rfl) T.tuple (pv 1)) pa_nil))))) pa_nil)))))
          pss_nil)
        (pss_one (ps_expr (pe_bm PySem.F.plainAttrs_list PySem.F.slot_list_append PySem.F.type_list_append mt_append (pv 3) (pa_cons (pv 7) pa_nil))))))))))
      (pss_one (ps_ret (pe_tupleOf (by rfl) T.tuple (C8.pe_c c_law_mixed hr (by decide) (by rfl) (pa_cons (pv 0) (pa_cons (pv 3) pa_nil)))))))), ?_⟩
    refine ⟨Nat.zero_le _, fun fl hfl => ?_⟩
    have s0 := same_new (o := .lst []) hfl
    have hL0 := hL.new s0
    refine ⟨.ref p, rfl, .int (m : Int), rfl, m, 1, rfl, rfl, G, p, f, m + 1, U, rfl, hL0, by omega, by omega, fun H1 r1 hL1 s1 hr1 => ?_⟩
    have flo : fl ∉ [p, f] := hL.out hfl
    have F1 : Fnd K G H p f fl (U + 1) H1 [] := Fnd.step (T := U) (H := upd H fl (.lst [])) ⟨hL0, wol_mono s0, hfl, flo, hL.free hfl, upd_same, fun _ h => by simp at h, fun _ h => by simp [sn] at h⟩ hL1 s1
    refine ⟨(r1 : Int), rfl, by omega, by omega,
      for_it walk_rngN (fun i σ H' => ∃ v4 v5 v6 v7 v8 v9 ps, σ = [some (.ref p), some (.ref q), some (.int (m : Int)), some (.ref fl), v4, v5, v6, v7, v8, v9] ∧ Fnd K G H p f fl (U + 1 + 150 * i) H' ps ∧ ps.length = i)
      ⟨none, none, none, none, none, none, [], rfl, F1, rfl⟩ (fun _ _ _ _ _ => True.intro) ?_ ?_⟩
    · rintro i y σ H2 H3 hi ⟨v4, v5, v6, v7, v8, v9, ps, rfl, F3, hn⟩ ⟨rfl, rfl⟩
      have hi24 : i < 24 := by omega
      -- way, share
      refine ⟨.ref p, rfl, G, p, f, 8, _, rfl, F3.lk, by decide, by omega, fun H4 way hL4 s4 hw => ?_⟩
      have F4 := F3.step hL4 s4
      refine ⟨.ref p, rfl, by show 3 ≤ sizeLine; decide, fun z hz => ?_⟩
      have F5 := F4.new (same_new (o := .lst [.int 1, .int 3, .int 5]) hz)
      have hzl : wol [p, f] (upd H4 z (.lst [.int 1, .int 3, .int 5])) z = some (.lst (nv [1, 3, 5])) := by
        rw [wol_put (hL4.out hz), upd_same]
        rfl
      refine ⟨G, p, f, z, nv [1, 3, 5], _, rfl, F5.lk, SqL.of hzl, by decide, by decide, by omega, fun H6 j x hx hL6 s6 => ?_⟩
      obtain ⟨sh, hsh, rfl⟩ := nv_get hx
      have F6 := F5.step hL6 s6
      refine ⟨by show 2 ≤ sizeLine; decide, fun W hW => ?_⟩
      have F7 := F6.new (same_new (o := .tup [.int (way : Int), .int (sh : Int)]) hW)
      refine ⟨W, _, rfl, SqT.of upd_same, rfl, _, _, rfl, _, _, rfl, rfl, ?_⟩
      generalize upd H6 W (.tup [.int (way : Int), .int (sh : Int)]) = H7 at F7 ⊢
      -- fresh
      have hq7 : SqL K (wol [p, f] H7) q (nv gs) := F7.sm.seq hq
      refine ⟨.ref q, rfl, q, rfl, ⟨_, wol_le.seq hq7⟩, fun D hD => ?_⟩
      refine lc_dr (walk_list (K := K) (a := q) (xs := nv gs)) (nv gs) rfl (by rw [nv_len]; omega) F7.lk hD (fun H s => wol_le.seq (s.seq hq7)) (fun i x H H' y => y) (fun j x H8 Ky Kn hx hL8 s8 ky kn => ?_) fun H8 ys hsub hL8 s8 e => ?_
      · refine ⟨rfl, .ref p, rfl, G, p, f, 6, _, rfl, hL8, by decide, by rw [← nv_len] at hgl; have := (List.getElem?_eq_some_iff.mp hx).1; omega, fun H9 r9 hL9 s9 hr9 => ⟨_, rfl, r9, sh, rfl, rfl, _, rfl, ?_⟩⟩
        refine ite2 (fun _ => ⟨_, rfl, ky _ hL9 s9⟩) (fun _ => kn _ hL9 s9)
      · obtain ⟨ms, rfl, hms⟩ := nv_sub hsub
        rw [nv_len] at hL8
        have F8 := F7.step hL8 s8
        refine .inl ⟨D, _, rfl, SqL.of e, fun t ht => ?_⟩
        have F9 := F8.new (same_new (o := .tup (nv ms)) ht)
        have ht9 : Nts K (wol [p, f, fl] (upd H8 t (.tup (nv ms)))) t ms := F9.tup (SqT.of upd_same)
        have hta : Asc ms ∧ ∀ n ∈ ms, n ≤ 1000 := ⟨hga.sublist hms, fun n hn => Nat.le_trans (hgb n (hms.subset hn)) (by decide)⟩
        generalize upd H8 t (.tup (nv ms)) = H9 at F9 ht9 ⊢
        have F9' : Fnd K G H p f fl (U + 1 + 150 * i + 102) H9 ps := F9.step (F9.lk.mono (by omega)) (Same.refl _)
        -- if way == 0 and found != []
        refine ⟨fun σ' H' => ∃ r t, σ' = [some (.ref p), some (.ref q), some (.int (m : Int)), some (.ref fl), some (.int (i : Int)), some (.int (way : Int)), some (.int (sh : Int)), some (.ref r), v8, v9] ∧ Fnd K G H p f fl (U + 1 + 150 * i + 103) H' ps ∧ Nts K (wol [p, f, fl] H') r t ∧ Asc t ∧ ∀ n ∈ t, n ≤ 1000, ?_, ?_⟩
        · refine ⟨_, rfl, way, 0, rfl, rfl, _, rfl, ?_⟩
          refine ite2 (fun _ => ?_) (fun _ => ?_)
          · refine ⟨.ref fl, rfl, Nat.zero_le _, fun e he => ?_⟩
            have F10 := F9'.new (same_new (o := .lst []) he)
            have s10 := same_new (o := .lst []) he
            have hl10 := F10.li
            have t10 : Tg (Nts K) (upd H9 e (.lst [])) ps := F10.tg.mono mo_nts wol_le
            refine ⟨_, .list [], dp_lst (SqL.of hl10) t10, .lst (SqL.of upd_same) .nil, lpd_shaped _, lpd_shaped [], _, rfl, ?_⟩
            have hn10 : Nts K (wol [p, f, fl] (upd H9 e (.lst []))) t ms := F10.tup (s10.seqT (wol_le.seqT ht9))
            rw [lpd_nil]
            by_cases hem : sn ps = []
            · rw [hem]
              refine iteF ?_
              exact ⟨t, ms, rfl, F10.step (F10.lk.mono (by omega)) (Same.refl _), hn10, hta⟩
            · have h0 : 0 < ps.length := by
                rw [← sn_len]
                exact List.length_pos_iff.mpr hem
              have : (sn ps).isEmpty = false := by
                cases hh : sn ps with
                | nil => exact absurd hh hem
                | cons _ _ => rfl
              rw [this]
              refine iteT ?_
              have hfl10 : SqL K (wol [p, f] (upd H9 e (.lst []))) fl (rf ps) := SqL.of (by rw [wol_out flo]; exact hl10)
              refine ⟨.ref p, rfl, .ref fl, rfl, G, p, f, fl, rf ps, _, rfl, F10.lk, hfl10, by rw [rf_len]; exact h0, by rw [rf_len]; omega, by omega, fun H11 j x hx hL11 s11 => ?_⟩
              obtain ⟨pp, hpp, rfl⟩ := rf_get hx
              have F11 := F10.step hL11 s11
              exact ⟨pp.1, pp.2, rfl, F11, F11.tg pp (mem_at hpp), F11.sl pp.2 (List.mem_map.mpr ⟨pp, mem_at hpp, rfl⟩)⟩
          · refine iteF ?_
            exact ⟨t, ms, rfl, F9'.step (F9'.lk.mono (by omega)) (Same.refl _), ht9, hta⟩
        · clear hta ht9 ht
          rintro σ1 H10 ⟨t1, m1, rfl, F10, hn10, hta⟩
          -- if way == 1
          refine ⟨fun σ' H' => ∃ r t, σ' = [some (.ref p), some (.ref q), some (.int (m : Int)), some (.ref fl), some (.int (i : Int)), some (.int (way : Int)), some (.int (sh : Int)), some (.ref r), v8, v9] ∧ Fnd K G H p f fl (U + 1 + 150 * i + 130) H' ps ∧ Nts K (wol [p, f, fl] H') r t ∧ Asc t ∧ ∀ n ∈ t, n ≤ 1000, ?_, ?_⟩
          · refine ⟨_, rfl, way, 1, rfl, rfl, _, rfl, ?_⟩
            refine ite2 (fun _ => ?_) (fun _ => ?_)
            · refine ⟨.ref fl, rfl, fl, rfl, ⟨_, SqL.of F10.li⟩, fun D hD => ?_⟩
              have hfl10 : SqL K (wol [p, f] H10) fl (rf ps) := SqL.of (by rw [wol_out flo]; exact F10.li)
              refine lc_dr (walk_list (K := K) (a := fl) (xs := rf ps)) (rf ps) rfl (by rw [rf_len]; omega) F10.lk hD (fun H s => wol_le.seq (s.seq hfl10)) (fun i x H H' y => y) (fun j x H8 Ky Kn hx hL8 s8 ky kn => ?_) fun H8 ys hsub hL8 s8 e => ?_
              · refine ⟨rfl, .ref p, rfl, G, p, f, 2, _, rfl, hL8, by decide, by have := (List.getElem?_eq_some_iff.mp hx).1; rw [rf_len] at this; omega, fun H9 r9 hL9 s9 hr9 => ⟨r9, 0, rfl, rfl, _, rfl, ?_⟩⟩
                refine ite2 (fun _ => ⟨_, rfl, ky _ hL9 s9⟩) (fun _ => kn _ hL9 s9)
              · obtain ⟨qs, rfl, hqs⟩ := rf_sub hsub
                rw [rf_len] at hL8
                have F11 := F10.step hL8 s8
                have hsm : Small (sn qs) := fun l hl => by
                  obtain ⟨x, hx, rfl⟩ := List.mem_map.mp hl
                  exact F10.sl x.2 (List.mem_map.mpr ⟨x, hqs.subset hx, rfl⟩)
                refine ⟨D, sn qs, rfl, .inl ⟨qs, rfl, SqL.of e, fun x hx => mo_nts _ _ _ _ wol_le (F11.tg x (hqs.subset hx))⟩, by rw [sn_len]; have := hqs.length_le; omega, hsm, fun r H12 u s12 hu12 hau _ hub => ?_⟩
                have F12 := F11.new s12
                exact ⟨r, u, rfl, F12.step (F12.lk.mono (by omega)) (Same.refl _), F12.tup hu12, hau, hub⟩
            · exact ⟨t1, m1, rfl, F10.step (F10.lk.mono (by omega)) (Same.refl _), hn10, hta⟩
          · clear hta hn10 F10
            rintro σ2 H11 ⟨t2, m2, rfl, F11, hn11, hta⟩
            -- if way == 2
            refine ⟨fun σ' H' => ∃ r t, σ' = [some (.ref p), some (.ref q), some (.int (m : Int)), some (.ref fl), some (.int (i : Int)), some (.int (way : Int)), some (.int (sh : Int)), some (.ref r), v8, v9] ∧ Fnd K G H p f fl (U + 1 + 150 * i + 140) H' ps ∧ Nts K (wol [p, f, fl] H') r t ∧ Asc t ∧ ∀ n ∈ t, n ≤ 1000, ?_, ?_⟩
            · refine ⟨_, rfl, way, 2, rfl, rfl, _, rfl, ?_⟩
              refine ite2 (fun _ => ?_) (fun _ => ?_)
              · obtain ⟨g0, gr, eg⟩ : ∃ g0 gr, gs = g0 :: gr := by
                  cases gs with
                  | nil => exact absurd rfl hgn
                  | cons a b => exact ⟨a, b, rfl⟩
                obtain ⟨gi, gl, eg2⟩ := snoc_of hgn
                have hq11 : SqL K H11 q (nv gs) := wol_le.seq (F11.sm.seq hq)
                refine ⟨.ref p, rfl, Nat.zero_le _, fun a ha => ?_⟩
                have sa := same_new (o := .tup []) ha
                refine ⟨.ref q, rfl, q, _, 0, .int (g0 : Int), rfl, rfl, sa.seq hq11, atI_nat (j := 0) (by rw [eg]; rfl), by show 1 ≤ sizeLine; decide, fun b hb => ?_⟩
                have sb := same_new (o := .tup [.int (g0 : Int)]) hb
                refine ⟨.ref q, rfl, 1, rfl, q, _, -1, .int (gl : Int), rfl, rfl, sb.seq (sa.seq hq11), by rw [eg2, nv_snoc]; exact atI_last _ _, by show 1 ≤ sizeLine; decide, fun c hc => ?_⟩
                have sc := same_new (o := .tup [.int (gl : Int)]) hc
                refine ⟨.ref q, rfl, .inl ⟨q, _, rfl, sc.seq (sb.seq (sa.seq hq11)), fun d hd => ?_⟩⟩
                have sd := same_new (o := .tup (nv gs)) hd
                have ta : SqT K (upd H11 a (.tup [])) a (nv []) := SqT.of upd_same
                have tb : SqT K (upd (upd H11 a (.tup [])) b (.tup [.int (g0 : Int)])) b (nv [g0]) := SqT.of upd_same
                have tc : SqT K (upd (upd (upd H11 a (.tup [])) b (.tup [.int (g0 : Int)])) c (.tup [.int (gl : Int)])) c (nv [gl]) := SqT.of upd_same
                have td : SqT K (upd (upd (upd (upd H11 a (.tup [])) b (.tup [.int (g0 : Int)])) c (.tup [.int (gl : Int)])) d (.tup (nv gs))) d (nv gs) := SqT.of upd_same
                have ta' := sd.seqT (sc.seqT (sb.seqT ta))
                have tb' := sd.seqT (sc.seqT tb)
                have tc' := sd.seqT tc
                have F12 := F11.new (((sa.trans sb).trans sc).trans sd)
                generalize upd (upd (upd (upd H11 a (.tup [])) b (.tup [.int (g0 : Int)])) c (.tup [.int (gl : Int)])) d (.tup (nv gs)) = H12 at F12 ta' tb' tc' td ⊢
                refine ⟨by show 4 ≤ sizeLine; decide, fun z hz => ?_⟩
                have sz := same_new (o := .lst (rf [(a, []), (b, [g0]), (c, [gl]), (d, gs)])) hz
                have F13 := F12.new sz
                have hzl : wol [p, f] (upd H12 z (.lst (rf [(a, []), (b, [g0]), (c, [gl]), (d, gs)]))) z = some (.lst (rf [(a, []), (b, [g0]), (c, [gl]), (d, gs)])) := by
                  rw [wol_put (F12.lk.out hz), upd_same]
                have g0m : g0 ∈ gs := by rw [eg]; exact List.mem_cons_self ..
                have glm : gl ∈ gs := by rw [eg2]; exact List.mem_append_right _ (List.mem_singleton.mpr rfl)
                have all4 : ∀ x ∈ [(a, ([] : List Nat)), (b, [g0]), (c, [gl]), (d, gs)], Nts K H12 x.1 x.2 ∧ Asc x.2 ∧ ∀ n ∈ x.2, n ≤ 1000 := by
                  intro x hx
                  rcases List.mem_cons.mp hx with rfl | hx
                  · exact ⟨ta', List.Pairwise.nil, fun _ h => by simp at h⟩
                  rcases List.mem_cons.mp hx with rfl | hx
                  · exact ⟨tb', List.pairwise_singleton _ _, fun n h => by rw [List.mem_singleton.mp h]; exact Nat.le_trans (hgb g0 g0m) (by decide)⟩
                  rcases List.mem_cons.mp hx with rfl | hx
                  · exact ⟨tc', List.pairwise_singleton _ _, fun n h => by rw [List.mem_singleton.mp h]; exact Nat.le_trans (hgb gl glm) (by decide)⟩
                  · rw [List.mem_singleton.mp hx]
                    exact ⟨td, hga, fun n h => Nat.le_trans (hgb n h) (by decide)⟩
                refine ⟨G, p, f, z, rf [(a, []), (b, [g0]), (c, [gl]), (d, gs)], _, rfl, F13.lk, SqL.of hzl, by show 0 < 4; decide, by show 4 ≤ 2000; decide, by omega, fun H14 j x hx hL14 s14 => ?_⟩
                obtain ⟨pp, hpp, rfl⟩ := rf_get hx
                obtain ⟨a1, a2⟩ := all4 pp (mem_at hpp)
                have F14 := F13.step hL14 s14
                have n13 : Nts K (wol [p, f] (upd H12 z (.lst (rf [(a, []), (b, [g0]), (c, [gl]), (d, gs)])))) pp.1 pp.2 := F13.lk.tup (sz.seqT a1)
                exact ⟨pp.1, pp.2, rfl, F14.step (F14.lk.mono (by omega)) (Same.refl _), F14.tup (wol_le.seqT (s14.seqT n13)), a2⟩
              · exact ⟨t2, m2, rfl, F11.step (F11.lk.mono (by omega)) (Same.refl _), hn11, hta⟩
            · clear hta hn11 F11
              rintro σ3 H12 ⟨t3, m3, rfl, F12, hn12, hta⟩
              refine ⟨.ref fl, rfl, .inl ⟨rfl, _, SqL.of F12.li⟩, .ref t3, rfl, fl, _, _, rfl, rfl, F12.li, small1001 (by rw [rf_len]; omega), ?_⟩
              have F13 := F12.put hn12 hta
              exact ⟨_, _, _, _, _, _, ps ++ [(t3, m3)], rfl, F13.step (F13.lk.mono (by omega)) (Same.refl _), by rw [List.length_append, hn]; rfl⟩
    · rintro σ H2 ⟨v4, v5, v6, v7, v8, v9, ps, rfl, F2, hn⟩
      have hfl2 : SqL K (wol [p, f] H2) fl (rf ps) := SqL.of (by rw [wol_out flo]; exact F2.li)
      refine ⟨.ref p, rfl, .ref fl, rfl, G, p, f, fl, rf ps, _, rfl, F2.lk, .inl hfl2, by rw [rf_len]; omega, by omega, fun H3 r ys hys h3 ho hno hL3 s3 => ?_⟩
      obtain ⟨qs, hqs, rfl⟩ := perm_lift (fun x : Addr × List Nat => V.ref x.1) hys rfl
      refine .inl ⟨r, _, rfl, SqL.of h3, fun t ht => ?_⟩
      have F3 := F2.step hL3 s3
      have st := same_new (o := .tup (rf qs)) ht
      have F4 := F3.new st
      have hsm : Small (sn qs) := fun l hl => by
        obtain ⟨x, hx, rfl⟩ := List.mem_map.mp hl
        exact F2.sl x.2 (List.mem_map.mpr ⟨x, hqs.mem_iff.mp hx, rfl⟩)
      refine k _ t (sn qs) ⟨qs, rfl, F4.lk.tup (SqT.of upd_same), fun x hx => F4.lk.tup (wol_le.seqT (F4.tg x (hqs.mem_iff.mp hx)))⟩ (by rw [sn_len, hqs.length_eq, hn]; omega) hsm (F4.lk.mono (by rw [rf_len]; omega)) F4.sm
def sp_law_goal (K : PySem.W.Frag) : Sp := fun vs H Q _ => ∃ (G : Hp) (p f q h : Addr) (T : Nat) (gs : List Nat) (L : List (List Nat)), vs = [.ref p, .ref q, .ref h] ∧ Lake K G H p f T ∧ SqL K (wol [p, f] H) q (nv gs) ∧ Asc gs ∧ gs ≠ [] ∧ (∀ n ∈ gs, n ≤ 99) ∧ Pks K (wol [p, f] H) h L ∧ L.length ≤ 100 ∧ Small L ∧ T + 10000 ≤ 1000000000 ∧
  ∀ H' r t, Nts K (wol [p, f] H') r t → (Asc t ∧ ∀ n ∈ t, n ≤ 1000) → Lake K G H' p f (T + 400) → Same (wol [p, f] H) (wol [p, f] H') → Q (.ref r) H'
theorem rgV_nat (n : Nat) : rgV 0 (n : Int) = nv (List.range n) := by
  unfold rgV nv iv
  rw [List.map_map]
  have : ((n : Int) - 0).toNat = n := by omega
  rw [this]
  refine List.map_congr_left fun i _ => ?_
  show V.int (0 + (i : Int)) = V.int (i : Int)
  rw [Int.zero_add]
theorem ok_law_goal {f : Addr} {fd : FuncData} (F : Fun K "_law_goal" "_law_goal" s_law_goal f fd) (T : Bi mg mt) (c_law_sum : C8.Cal P w K mg base 1 "_law_sum" (sp_law_sum K) []) (c_law_draw : C8.Cal P w K mg base 1 "_law_draw" (sp_law_draw K) []) (c_law_one : C8.Cal P w K mg base 2 "_law_one" (sp_law_one K) []) : FnOk P w K mg base CX0 3 f fd ["_law_lake_here", "_law_ground_here", "_law_heap_here"] (sp_law_goal K) := by
  refine okC F sc_law_goal (fun vs H Q E h => ?_) (fun cdv A outer s H vs Q E hr hcd h => ?_)
  · obtain ⟨G, p, f, q, h, T, gs, L, rfl, _⟩ := h
    rfl
  · obtain ⟨G, p, f, q, h, U, gs, L, rfl, hL, hq, hga, hgn, hgb, hP, hLl, hS, hU, k⟩ := h
    have hgl : gs.length ≤ 100 := small_len hga hgb
    obtain ⟨ps, rfl, hT, htg⟩ := hP
    refine ⟨_, (pss_cons (ps_par (i := 3) (j := 4) (by rfl) sc_law_goal.nd rfl rfl (by decide) rfl rfl (pa_cons (C8.pe_c c_law_draw hr (by decide) (by rfl) (pa_cons (pv 0) (pa_cons pe_int pa_nil))) (pa_cons (C8.pe_c c_law_one hr (by decide) (by rfl) (pa_cons (pv 0) (pa_cons (pv 1) pa_nil))) pa_nil)) (by rfl))
      (pss_cons (ps_set (i := 5) sc_law_goal.nd rfl (Or.inl rfl) (C8.pe_c c_law_sum hr (by decide) (by rfl) (pa_cons (pe_lc (own := [("_law_own", 6)]) rfl sc_law_goal.nd (pi_tup (pv 2)) (blkOk_by (N := N_law_goal) (sc := (defScope s_law_goal)) (by decide +kernel)) (fun _ _ _ _ _ => (pg_name (i := 6) sc_law_goal.nd rfl (Or.inl rfl))) (fun _ _ _ _ _ => (pts_one (pt_cmpR op_eqN (C8.pe_c c_law_draw hr (by decide) (by rfl) (pa_cons (pv 0) (pa_cons pe_int pa_nil))) pe_int (nomark _)))) (fun _ _ _ _ _ => (pv 6))) pa_nil)))
      (pss_cons (ps_if (pt_cmpR op_eqN (pv 3) pe_int (nomark _))
        (pss_one (ps_ret (C8.pe_c c_law_one hr (by decide) (by rfl) (pa_cons (pv 0) (pa_cons (pe_lst (pa_cons (pe_tup pa_nil) (pa_cons (pe_tup (pa_cons pe_int pa_nil)) (pa_cons (pe_tup (pa_cons pe_int pa_nil)) (pa_cons (pe_tupRg rfl (by rfl) T.tuple (prg_1 (by rfl) T.range pe_int)) (pa_cons (pe_tup (pa_cons pe_int (pa_cons pe_int pa_nil))) pa_nil)))))) pa_nil)))))
        pss_nil)
      (pss_cons (ps_if (pt_cmpR op_eqN (pv 3) pe_int (nomark _))
        (pss_one (ps_ret (pe_tupleOf (by rfl) T.tuple (pe_lc (own := [("_law_own", 6)]) rfl sc_law_goal.nd (pi_list (pv 1)) (blkOk_by (N := N_law_goal) (sc := (defScope s_law_goal)) (by decide +kernel)) (fun _ _ _ _ _ => (pg_name (i := 6) sc_law_goal.nd rfl (Or.inl rfl))) (fun _ _ _ _ _ => (pts_one (pt_cmpR op_eqN (C8.pe_c c_law_draw hr (by decide) (by rfl) (pa_cons (pv 0) (pa_cons pe_int pa_nil))) pe_int (nomark _)))) (fun _ _ _ _ _ => (pv 6))))))
        pss_nil)
      (pss_one (ps_ret (pe_ifExp (pt_cmpR op_ltN (pv 3) pe_int (nomark _)) (C8.pe_c c_law_sum hr (by decide) (by rfl) (pa_cons (pe_lst (pa_cons (pv 5) (pa_cons (pe_tup (pa_cons (pv 4) pa_nil)) pa_nil))) pa_nil)) (pv 5)))))))), ?_⟩
    refine ⟨.ref p, rfl, G, p, f, 8, U, rfl, hL, by decide, by omega, fun H1 way hL1 s1 hw => ?_⟩
    refine ⟨.ref p, rfl, .ref q, rfl, G, p, f, q, nv gs, _, rfl, hL1, s1.seq hq, by rw [nv_len]; exact List.length_pos_iff.mpr hgn, by rw [nv_len]; omega, by omega, fun H2 j x hx hL2 s2 => ?_⟩
    obtain ⟨a0, ha0, rfl⟩ := nv_get hx
    have ha0m := mem_at ha0
    refine ⟨_, _, rfl, ?_⟩
    have s2' := s1.trans s2
    have hT2 : SqT K (wol [p, f] H2) h (rf ps) := s2'.seqT hT
    -- goal = _law_sum([..])
    refine ⟨.ref h, rfl, h, rfl, ⟨_, wol_le.seqT hT2⟩, fun D hD => ?_⟩
    refine lc_dr (walk_tup (K := K) (a := h) (xs := rf ps)) (rf ps) rfl (by rw [rf_len, ← sn_len]; omega) hL2 hD (fun H s => wol_le.seqT (s.seqT hT2)) (fun i x H H' y => y) (fun j x H8 Ky Kn hx hL8 s8 ky kn => ?_) fun H3 ys hsub hL3 s3 e => ?_
    · refine ⟨rfl, .ref p, rfl, G, p, f, 2, _, rfl, hL8, by decide, by have := (List.getElem?_eq_some_iff.mp hx).1; rw [rf_len, ← sn_len] at this; omega, fun H9 r9 hL9 s9 hr9 => ⟨r9, 0, rfl, rfl, _, rfl, ?_⟩⟩
      refine ite2 (fun _ => ⟨_, rfl, ky _ hL9 s9⟩) (fun _ => kn _ hL9 s9)
    obtain ⟨qs, rfl, hqs⟩ := rf_sub hsub
    rw [rf_len, ← sn_len] at hL3
    have s3' := s2'.trans s3
    have hsm : Small (sn qs) := fun l hl => by
      obtain ⟨x, hx, rfl⟩ := List.mem_map.mp hl
      exact hS x.2 (List.mem_map.mpr ⟨x, hqs.subset hx, rfl⟩)
    refine ⟨D, sn qs, rfl, .inl ⟨qs, rfl, SqL.of e, fun x hx => mo_nts _ _ _ _ (s3'.trans wol_le) (htg x (hqs.subset hx))⟩, by rw [sn_len]; have := hqs.length_le; rw [← sn_len ps] at this; omega, hsm, fun gr H4 u s4 hu4 hau _ hub => ?_⟩
    have hL4 := hL3.new s4
    have s4' := s3'.trans (wol_mono s4)
    have hu4' := hL4.tup hu4
    -- if way == 0
    refine ⟨_, rfl, way, 0, rfl, rfl, _, rfl, ?_⟩
    refine ite2 (fun _ => ?_) (fun _ => ?_)
    · refine ⟨.ref p, rfl, Nat.zero_le _, fun a ha => ?_⟩
      have sa := same_new (o := .tup []) ha
      refine ⟨by show 1 ≤ sizeLine; decide, fun b hb => ?_⟩
      have sb := same_new (o := .tup [.int 99]) hb
      refine ⟨by show 1 ≤ sizeLine; decide, fun c hc => ?_⟩
      have sc := same_new (o := .tup [.int 0]) hc
      refine ⟨100, rfl, RgOk.of_le (by omega) (by omega) (by omega) (by omega), fun d hd => ?_⟩
      have sd := same_new (o := .tup (rgV 0 100)) hd
      refine ⟨by show 2 ≤ sizeLine; decide, fun e5 he5 => ?_⟩
      have se := same_new (o := .tup [.int 0, .int 99]) he5
      have ta : SqT K (upd H4 a (.tup [])) a (nv []) := SqT.of upd_same
      have tb : SqT K (upd (upd H4 a (.tup [])) b (.tup [.int 99])) b (nv [99]) := SqT.of upd_same
      have tc : SqT K (upd (upd (upd H4 a (.tup [])) b (.tup [.int 99])) c (.tup [.int 0])) c (nv [0]) := SqT.of upd_same
      have td : SqT K (upd (upd (upd (upd H4 a (.tup [])) b (.tup [.int 99])) c (.tup [.int 0])) d (.tup (rgV 0 100))) d (nv (List.range 100)) := by
        rw [← rgV_nat]
        exact SqT.of upd_same
      have te : SqT K (upd (upd (upd (upd (upd H4 a (.tup [])) b (.tup [.int 99])) c (.tup [.int 0])) d (.tup (rgV 0 100))) e5 (.tup [.int 0, .int 99])) e5 (nv [0, 99]) := SqT.of upd_same
      have ta' := se.seqT (sd.seqT (sc.seqT (sb.seqT ta)))
      have tb' := se.seqT (sd.seqT (sc.seqT tb))
      have tc' := se.seqT (sd.seqT tc)
      have td' := se.seqT td
      have s5 : Same H4 (upd (upd (upd (upd (upd H4 a (.tup [])) b (.tup [.int 99])) c (.tup [.int 0])) d (.tup (rgV 0 100))) e5 (.tup [.int 0, .int 99])) := (((sa.trans sb).trans sc).trans sd).trans se
      clear sa sb sc sd se ta tb tc td
      generalize upd (upd (upd (upd (upd H4 a (.tup [])) b (.tup [.int 99])) c (.tup [.int 0])) d (.tup (rgV 0 100))) e5 (.tup [.int 0, .int 99]) = H5 at *
      have hL5 := hL4.new s5
      have all5 : ∀ x ∈ [(a, ([] : List Nat)), (b, [99]), (c, [0]), (d, List.range 100), (e5, [0, 99])], Nts K H5 x.1 x.2 ∧ Asc x.2 ∧ ∀ n ∈ x.2, n ≤ 1000 := by
        intro x hx
        rcases List.mem_cons.mp hx with rfl | hx
        · exact ⟨ta', List.Pairwise.nil, fun _ h => by simp at h⟩
        rcases List.mem_cons.mp hx with rfl | hx
        · exact ⟨tb', List.pairwise_singleton _ _, fun n h => by rw [List.mem_singleton.mp h]; decide⟩
        rcases List.mem_cons.mp hx with rfl | hx
        · exact ⟨tc', List.pairwise_singleton _ _, fun n h => by rw [List.mem_singleton.mp h]; decide⟩
        rcases List.mem_cons.mp hx with rfl | hx
        · exact ⟨td', List.pairwise_lt_range, fun n h => by have := List.mem_range.mp h; omega⟩
        · rw [List.mem_singleton.mp hx]
          exact ⟨te, (by decide : Asc [0, 99]), (by decide : ∀ n ∈ [0, 99], n ≤ 1000)⟩
      refine ⟨by show 5 ≤ sizeLine; decide, fun z hz => ?_⟩
      have sz := same_new (o := .lst (rf [(a, ([] : List Nat)), (b, [99]), (c, [0]), (d, List.range 100), (e5, [0, 99])])) hz
      have hzl : wol [p, f] (upd H5 z (.lst (rf [(a, ([] : List Nat)), (b, [99]), (c, [0]), (d, List.range 100), (e5, [0, 99])]))) z = some (.lst (rf [(a, ([] : List Nat)), (b, [99]), (c, [0]), (d, List.range 100), (e5, [0, 99])])) := by
        rw [wol_put (hL5.out hz), upd_same]
      have hL6 := hL5.new sz
      refine ⟨G, p, f, z, rf [(a, ([] : List Nat)), (b, [99]), (c, [0]), (d, List.range 100), (e5, [0, 99])], _, rfl, hL6, SqL.of hzl, by show 0 < 5; decide, by show 5 ≤ 2000; decide, by omega, fun H7 i x hx hL7 s7 => ?_⟩
      obtain ⟨pp, hpp, rfl⟩ := rf_get hx
      obtain ⟨a1, a2⟩ := all5 pp (mem_at hpp)
      refine k H7 pp.1 pp.2 (s7.seqT (hL6.tup (sz.seqT a1))) a2 (hL7.mono (by omega)) ?_
      exact ((s4'.trans (wol_mono s5)).trans (wol_mono sz)).trans s7
    refine ⟨_, rfl, way, 1, rfl, rfl, _, rfl, ?_⟩
    refine ite2 (fun _ => ?_) (fun _ => ?_)
    · have hq4 : SqL K (wol [p, f] H4) q (nv gs) := s4'.seq hq
      refine ⟨.ref q, rfl, q, rfl, ⟨_, wol_le.seq hq4⟩, fun D2 hD2 => ?_⟩
      refine lc_dr (walk_list (K := K) (a := q) (xs := nv gs)) (nv gs) rfl (by rw [nv_len]; omega) hL4 hD2 (fun H s => wol_le.seq (s.seq hq4)) (fun i x H H' y => y) (fun j x H8 Ky Kn hx hL8 s8 ky kn => ?_) fun H5 ys hsub2 hL5 s5 e2 => ?_
      · refine ⟨rfl, .ref p, rfl, G, p, f, 2, _, rfl, hL8, by decide, by have := (List.getElem?_eq_some_iff.mp hx).1; rw [nv_len] at this; omega, fun H9 r9 hL9 s9 hr9 => ⟨r9, 0, rfl, rfl, _, rfl, ?_⟩⟩
        refine ite2 (fun _ => ⟨_, rfl, ky _ hL9 s9⟩) (fun _ => kn _ hL9 s9)
      obtain ⟨ms, rfl, hms⟩ := nv_sub hsub2
      rw [nv_len] at hL5
      refine .inl ⟨D2, _, rfl, SqL.of e2, fun t ht => ?_⟩
      have st := same_new (o := .tup (nv ms)) ht
      refine k _ t ms ((hL5.new st).tup (SqT.of upd_same)) ⟨hga.sublist hms, fun n hn => Nat.le_trans (hgb n (hms.subset hn)) (by decide)⟩ ((hL5.new st).mono (by omega)) ((s4'.trans s5).trans (wol_mono st))
    refine ⟨_, rfl, way, 4, rfl, rfl, _, rfl, ?_⟩
    refine ite2 (fun _ => ?_) (fun _ => ?_)
    · refine ⟨.ref gr, rfl, _, rfl, by show 1 ≤ sizeLine; decide, fun b hb => ?_⟩
      have sb := same_new (o := .tup [.int (a0 : Int)]) hb
      refine ⟨by show 2 ≤ sizeLine; decide, fun z hz => ?_⟩
      have sz := same_new (o := .lst (rf [(gr, u), (b, [a0])])) hz
      have tb : Nts K (upd H4 b (.tup [.int (a0 : Int)])) b [a0] := SqT.of upd_same
      have hA0 : ∀ n ∈ [a0], n ≤ 1000 := fun n h => by rw [List.mem_singleton.mp h]; exact Nat.le_trans (hgb a0 ha0m) (by decide)
      refine ⟨z, [u, [a0]], rfl, .inl ⟨[(gr, u), (b, [a0])], rfl, SqL.of upd_same, fun x hx => ?_⟩, by show 2 ≤ 1000; decide, fun l hl => ?_, fun r H5 v s5 hv5 hav _ hvb => ?_⟩
      · rcases List.mem_cons.mp hx with rfl | hx
        · exact sz.seqT (sb.seqT hu4)
        · rw [List.mem_singleton.mp hx]
          exact sz.seqT tb
      · rcases List.mem_cons.mp hl with rfl | hl
        · exact ⟨hau, hub⟩
        · rw [List.mem_singleton.mp hl]
          exact ⟨List.pairwise_singleton _ _, hA0⟩
      · have hL5 := hL4.new ((sb.trans sz).trans s5)
        exact k _ r v (hL5.tup hv5) ⟨hav, hvb⟩ (hL5.mono (by omega)) (s4'.trans (wol_mono ((sb.trans sz).trans s5)))
    · exact ⟨.ref gr, rfl, k _ gr u hu4' ⟨hau, hub⟩ (hL4.mono (by omega)) s4'⟩
end
end Fb

/-! FbQ -/
set_option maxHeartbeats 4000000
/-! _law_lake -/
namespace Fb
open PySem PySem.Spec PyProof.Rows L2
theorem cut_all {xs : List V} {k : Nat} (h : xs.length ≤ k) : cutV xs none (some ((k : Nat) : Int)) = xs := by
  unfold cutV
  rw [HT.sIx_none, HT.sIx_nat, List.drop_zero, Nat.min_eq_right h, Nat.sub_zero, List.take_length]
/-- what a number of the script becomes -/
def cellN (c : Int) : Nat := if c < 0 then 2 * c.natAbs + 1 else 2 * c.natAbs + 2
theorem abs_bits {c : Int} (h : Builtin.Int.intBits c ≤ 1048576) : c.natAbs < 2 ^ 1048576 := by
  unfold Builtin.Int.intBits at h
  by_cases h0 : c = 0
  · subst h0
    exact Nat.two_pow_pos _
  · have h1 : ¬ c.natAbs = 0 := by omega
    have h2 : (c == 0) = false := by simpa using h0
    rw [h2] at h
    refine (Nat.log2_lt h1).mp ?_
    generalize c.natAbs.log2 = k at h ⊢
    simp only [Bool.false_eq_true, if_false] at h
    omega
theorem pow_up {k l m : Nat} (h : k ≤ l) (hm : m < 2 ^ k) : m < 2 ^ l := Nat.lt_of_lt_of_le hm (Nat.pow_le_pow_right (by decide) h)
theorem cell_bits {c : Int} (h : c.natAbs < 2 ^ 1048576) : cellN c < 2 ^ 1048579 := by
  have e : ∀ B m : Nat, m < B → 2 * m + 2 < 8 * B := fun B m h => by omega
  have e2 : (8 : Nat) * 2 ^ 1048576 = 2 ^ 1048579 := by
    rw [show (1048579 : Nat) = 3 + 1048576 from rfl, Nat.pow_add]
  have h1 := e _ _ h
  rw [e2] at h1
  unfold cellN
  generalize (2 : Nat) ^ 1048579 = B at h1 ⊢
  split <;> omega
theorem sum_bound {B : Nat} : ∀ {l : List Nat}, (∀ x ∈ l, x < B) → l.sum ≤ l.length * B
  | [], _ => by simp
  | x :: l, h => by
    have h1 := sum_bound (B := B) (l := l) fun y hy => h y (List.mem_cons_of_mem _ hy)
    have h2 := h x (List.mem_cons_self ..)
    rw [List.sum_cons, List.length_cons, Nat.succ_mul]
    omega
theorem lk_new (f w : Addr) (al t : Nat) : mergeK [] (lkv f w al t) = lkv f w al t := by
  have e1 : putK [] kFar (.ref f) = [(kFar, V.ref f)] := putK_new _ rfl
  have e2 : putK [(kFar, V.ref f)] kWhole (.ref w) = [(kFar, V.ref f), (kWhole, V.ref w)] := putK_new _ (by rw [valV_neg far_whole]; rfl)
  have e3 : putK [(kFar, V.ref f), (kWhole, V.ref w)] kAll (.int (al : Int)) = [(kFar, V.ref f), (kWhole, V.ref w), (kAll, .int (al : Int))] := putK_new _ (by rw [valV_neg far_all, valV_neg whole_all]; rfl)
  have e4 : putK [(kFar, V.ref f), (kWhole, V.ref w), (kAll, .int (al : Int))] kTurn (.int (t : Int)) = lkv f w al t := putK_new _ (by rw [valV_neg far_turn, valV_neg whole_turn, valV_neg all_turn]; rfl)
  unfold mergeK
  unfold lkv at e4 ⊢
  simp only [List.foldl_cons, List.foldl_nil]
  rw [e1, e2, e3, e4]
-- _law_lake: slots 0=_law_script 1=_law_whole 2=_law_cell 3=_law_far; cells 
abbrev s_law_lake : Stmt := topS 29
abbrev N_law_lake : List Str := ["_law_script", "_law_whole", "_law_cell", "_law_far"]
theorem sc_law_lake : FnScope N_law_lake ["_law_script"] (defScope s_law_lake) := ⟨rfl, rfl, rfl, by decide +kernel, rfl, by decide +kernel, by decide +kernel⟩
section
variable {P : Program} {w : World} {K : PySem.W.Frag} {mg : Str → Option Value} {base : Heap} {mt : Nat}
def sp_law_lake (K : PySem.W.Frag) : Sp := fun vs H Q _ => ∃ (a : Addr) (ns : List Int), vs = [.ref a] ∧ SqL K H a (ns.map V.int) ∧ ns.length ≤ 63 ∧ (∀ z ∈ ns, Builtin.Int.intBits z ≤ 1048576) ∧
  ∀ H' p f, Lake K (wol [p, f] H') H' p f 0 → Same H (wol [p, f] H') → Q (.ref p) H'
theorem ok_law_lake {f : Addr} {fd : FuncData} (F : Fun K "_law_lake" "_law_lake" s_law_lake f fd) (T : Bi mg mt) : FnOk P w K mg base CX0 1 f fd ["_law_script"] (sp_law_lake K) := by
  refine okC F sc_law_lake (fun vs H Q E h => ?_) (fun cdv A outer s H vs Q E hr hcd h => ?_)
  · obtain ⟨a, ns, rfl, _⟩ := h
    rfl
  · obtain ⟨a, ns, rfl, hS, hl, hb, k⟩ := h
    refine ⟨_, (pss_cons (ps_setLc (i := 1) (own := [("_law_cell", 2)]) rfl sc_law_lake.nd rfl rfl (sw_true rfl rfl rfl (by decide +kernel)) (pi_list (pe_slice sl_list (pv 0) po_none (po_some pe_int))) (blkOk_by (N := N_law_lake) (sc := (defScope s_law_lake)) (by decide +kernel)) (fun _ _ _ _ _ => (pg_name (i := 2) sc_law_lake.nd rfl (Or.inl rfl))) (fun _ _ _ _ _ => pts_nil) (fun _ _ _ _ _ => (pe_ifExp (pt_cmpR op_lt (pv 2) pe_int (nomark _)) (pe_op op_addN (pe_op op_mulN pe_int (pe_callB call_absN (by rfl) T.abs (by decide +kernel) (pa_cons (pv 2) pa_nil))) pe_int) (pe_op op_addN (pe_op op_mulN pe_int (pe_callB call_absN (by rfl) T.abs (by decide +kernel) (pa_cons (pv 2) pa_nil))) pe_int))))
      (pss_cons (ps_setLc (i := 3) (own := [("_law_cell", 2)]) rfl sc_law_lake.nd rfl rfl (sw_true rfl rfl rfl (by decide +kernel)) (pi_list (pv 1)) (blkOk_by (N := N_law_lake) (sc := (defScope s_law_lake)) (by decide +kernel)) (fun _ _ _ _ _ => (pg_name (i := 2) sc_law_lake.nd rfl (Or.inl rfl))) (fun _ _ _ _ _ => (pts_one (pt_cmpR op_gt (pv 2) (pe_op op_pow pe_int pe_int) (nomark _)))) (fun _ _ _ _ _ => (pv 2)))
      (pss_one (ps_ret (pe_disp (pps_cons pe_str (pv 3) (pps_cons pe_str (pe_op op_cat (pv 1) (pe_lst (pa_cons (pe_op op_addN (pe_callB call_len_seq (by rfl) T.len (by decide +kernel) (pa_cons (pv 1) pa_nil)) pe_int) pa_nil))) (pps_cons pe_str (pe_callB (cr_sum rfl) (by rfl) T.sum (by decide +kernel) (pa_cons (pv 1) pa_nil)) (pps_cons pe_str pe_int pps_nil)))) (by rfl) (by rfl) (fun z => by cases z) (by decide)))))), ?_⟩
    refine ⟨.ref a, rfl, 63, rfl, a, _, rfl, hS, fun c hc => ?_⟩
    have e63 : cutV (ns.map V.int) none (some ((63 : Nat) : Int)) = ns.map V.int := cut_all (by rw [List.length_map]; exact hl)
    have e63' : cutV (ns.map V.int) none (some 63) = ns.map V.int := e63
    rw [e63']
    have sc := same_new (o := .lst (ns.map V.int)) hc
    have hC : SqL K (upd H c (.lst (ns.map V.int))) c (ns.map V.int) := SqL.of upd_same
    generalize upd H c (.lst (ns.map V.int)) = H1 at sc hC ⊢
    refine ⟨c, rfl, ⟨_, hC⟩, fun wl hwl => ?_⟩
    refine lc_acc walk_list (fun i => (ns[i]?).map fun c => V.int ((cellN c : Nat) : Int)) (by rw [List.length_map]; omega) hwl (fun _ s => s.seq hC) (fun i x H2 H3 Ky Kn hi s y ky kn => ?_) fun H2 s2 e2 => ?_
    · obtain ⟨rfl, hx⟩ := y
      rw [List.getElem?_map] at hx
      obtain ⟨z, hz, rfl⟩ := Option.map_eq_some_iff.mp hx
      have hzb := abs_bits (hb z (mem_at hz))
      have ky' : ∀ n : Nat, n = cellN z → Ky (.int (n : Int)) H3 := fun n e => by
        rw [e]
        exact ky _ _ (by rw [hz]; rfl) (Same.refl _)
      refine ⟨rfl, _, rfl, z, 0, rfl, rfl, _, rfl, ?_⟩
      refine ite2 (fun hlt => ?_) (fun hlt => ?_)
      · refine ⟨_, rfl, z, rfl, 2, z.natAbs, 2, 1048576, rfl, rfl, by decide, hzb, by omega, _, 1, rfl, rfl, ky' _ ?_⟩
        unfold cellN
        rw [if_pos (of_decide_eq_true hlt)]
      · refine ⟨_, rfl, z, rfl, 2, z.natAbs, 2, 1048576, rfl, rfl, by decide, hzb, by omega, _, 2, rfl, rfl, ky' _ ?_⟩
        unfold cellN
        rw [if_neg fun h => hlt (decide_eq_true h)]
    have ew : (List.range (ns.map V.int).length).filterMap (fun i => (ns[i]?).map fun c => V.int ((cellN c : Nat) : Int)) = nv (ns.map cellN) := by
      rw [List.length_map, range_fm]
      simp [nv, iv]
    rw [ew] at e2
    have hwb : ∀ x ∈ ns.map cellN, x < 2 ^ 1048579 := fun x hx => by
      obtain ⟨z, hz, rfl⟩ := List.mem_map.mp hx
      exact cell_bits (abs_bits (hb z hz))
    have hwlen : (ns.map cellN).length ≤ 63 := by rw [List.length_map]; exact hl
    generalize ns.map cellN = whole at e2 hwb hwlen
    -- far
    refine ⟨.ref wl, rfl, wl, rfl, ⟨_, SqL.of e2⟩, fun fl hfl => ?_⟩
    refine lc_acc walk_list (fun i => (whole[i]?).bind fun n => if decide ((10 : Int) ^ (18 : Int).toNat < (n : Int)) = true then some (V.int (n : Int)) else none) (by rw [nv_len]; omega) hfl (fun _ s => s.seq (SqL.of e2)) (fun i x H3 H4 Ky Kn hi s y ky kn => ?_) fun H3 s3 e3 => ?_
    · obtain ⟨rfl, hx⟩ := y
      obtain ⟨n, hn, rfl⟩ := nv_get hx
      rw [hn] at ky kn
      simp only [Option.bind_some] at ky kn
      refine ⟨rfl, _, rfl, 10, 18, rfl, rfl, ⟨by omega, by omega, by decide⟩, (n : Int), _, rfl, rfl, _, rfl, ?_⟩
      refine ite2 (fun h => ⟨_, rfl, ky _ _ (if_pos h) (Same.refl _)⟩) (fun h => kn (if_neg h) _ (Same.refl _))
    rw [nv_len, range_fmb, fm_if] at e3
    have hsub : List.Sublist (whole.filter fun n : Nat => decide ((10 : Int) ^ (18 : Int).toNat < (n : Int))) whole := List.filter_sublist
    generalize whole.filter (fun n : Nat => decide ((10 : Int) ^ (18 : Int).toNat < (n : Int))) = far at e3 hsub
    have h3w : H3 wl = some (.lst (nv whole)) := s3 _ _ e2
    have s13 : Same H H3 := (sc.trans s2).trans s3
    -- the dict
    intro p hp
    have sp := same_new (o := .dK []) hp
    refine ⟨_, rfl, .ref wl, rfl, .ref wl, rfl, wl, _, rfl, .inl (SqL.of (sp _ _ h3w)), (nv whole).length, 3571, rfl, rfl, by show 1 ≤ sizeLine; decide, fun b hb' => ?_⟩
    have sb := same_new (o := .lst [.int (((nv whole).length + 3571 : Nat) : Int)]) hb'
    refine ⟨wl, b, _, _, rfl, rfl, sb _ _ (sp _ _ h3w), upd_same, by rw [nv_len, sizeLine_eq]; show whole.length + 1 ≤ _; omega, fun w2 hw2 => ?_⟩
    have sw2 := same_new (o := .lst (nv whole ++ [.int (((nv whole).length + 3571 : Nat) : Int)])) hw2
    have s5 := (sp.trans sb).trans sw2
    have hw2' := upd_same (H := upd (upd H3 p (.dK [])) b (.lst [.int (((nv whole).length + 3571 : Nat) : Int)])) (a := w2) (o := .lst (nv whole ++ [.int (((nv whole).length + 3571 : Nat) : Int)]))
    have hp5 : (upd (upd (upd H3 p (.dK [])) b (.lst [.int (((nv whole).length + 3571 : Nat) : Int)])) w2 (.lst (nv whole ++ [.int (((nv whole).length + 3571 : Nat) : Int)]))) p = some (.dK []) := (sb.trans sw2) _ _ upd_same
    have hw2n : H3 w2 = none := (sp.trans sb).free hw2
    generalize upd (upd (upd H3 p (.dK [])) b (.lst [.int (((nv whole).length + 3571 : Nat) : Int)])) w2 (.lst (nv whole ++ [.int (((nv whole).length + 3571 : Nat) : Int)])) = H5 at s5 hw2' hp5 ⊢
    refine ⟨.ref wl, rfl, wl, iv whole, rfl, SqL.of (s5 _ _ h3w), hp5, lkv fl w2 whole.sum 0, ?_, by show 4 ≤ 15; decide, ?_⟩
    · rw [iv_sum]
      rfl
    rw [lk_new]
    have hfp : fl ≠ p := ne_of_none e3 hp
    have hwp : w2 ≠ p := fun e => by
      rw [e, hp5] at hw2'
      cases hw2'
    have hfH : H fl = none := (sc.trans s2).free hfl
    have hpH : H p = none := s13.free hp
    have hsum : whole.sum < 2 ^ 1200000 := by
      have h1 := sum_bound hwb
      have h2 : whole.length * 2 ^ 1048579 ≤ 63 * 2 ^ 1048579 := Nat.mul_le_mul_right _ hwlen
      have h3 : 63 * 2 ^ 1048579 < 2 ^ 6 * 2 ^ 1048579 := Nat.mul_lt_mul_of_pos_right (by decide) (Nat.two_pow_pos _)
      rw [← Nat.pow_add] at h3
      exact pow_up (k := 6 + 1048579) (by decide) (Nat.lt_of_le_of_lt h1 (Nat.lt_of_le_of_lt h2 h3))
    have ew2 : nv whole ++ [V.int (((nv whole).length + 3571 : Nat) : Int)] = nv (whole ++ [whole.length + 3571]) := by
      rw [nv_snoc, nv_len]
    rw [ew2] at hw2'
    have hwf : w2 ≠ fl := fun e => by
      rw [e, e3] at hw2n
      cases hw2n
    have ewl : wol [p, fl] (upd H5 p (.dK (lkv fl w2 whole.sum 0))) = wol [p, fl] H5 := wol_upd (List.mem_cons_self ..)
    refine k _ p fl ⟨Same.refl _, w2, far, whole ++ [whole.length + 3571], whole.sum, 0, upd_same, ?_, ?_, fun x hx => ?_, ?_, by simp, ?_, fun x hx => ?_, hsum, Nat.le_refl _⟩ ?_
    · rw [upd_ne hfp]
      exact s5 _ _ e3
    · rw [ewl]
      exact SqL.of (by rw [wol_out (two_out hwp hwf)]; exact hw2')
    · exact pow_up (by decide) (hwb x (hsub.subset hx))
    · exact Nat.le_trans hsub.length_le hwlen
    · rw [List.length_append]
      exact Nat.succ_le_succ hwlen
    · rcases List.mem_append.mp hx with hx | hx
      · exact pow_up (by decide) (hwb x hx)
      · rw [List.mem_singleton.mp hx]
        exact pow_up (k := 12) (by decide) (by show whole.length + 3571 < 4096; omega)
    · rw [ewl]
      exact le_wol (s13.trans s5) fun d hd => by
        rcases List.mem_cons.mp hd with e | hd
        · rw [e]
          exact hpH
        · rw [List.mem_singleton.mp hd]
          exact hfH
end
end Fb

/-! FbR -/
set_option maxHeartbeats 4000000
/-! _law_shape, _law_named, _law_net -/
namespace Fb
open PySem PySem.Spec PyProof.Rows L2
section
variable {J : It} {n : Nat} {Gd : Hp → Prop} {Y : Nat → Hp → V → Hp → Prop}
/-- a comprehension of new pairs -/
theorem lc_prs (w : Walk J n Gd Y) {g : TG} {tt : TT} {te : TE} {vs : List Nat} {σ : L2.St} {H1 : Hp} {D : Addr} {Qd : Hp → Prop} (E : Nat → Nat × Nat) (hn : n ≤ 100000) (hD : H1 D = none) (hG : ∀ H, Same H1 H → Gd H)
    (hs : ∀ i x H H' (Ky : V → Hp → Prop) (Kn : Hp → Prop), i < n → Same H1 H → Y i H x H' → (∀ H4 q, Same H H4 → PrT H4 q (E i) → Ky (.ref q) H4) →
      g x (wipe σ vs) H' fun σ2 H2 => wipe σ2 vs = wipe σ vs ∧ tt σ2 H2 fun b H3 => if b = true then te σ2 H3 Ky else Kn H3)
    (hd : ∀ H ps, Same H1 H → H D = some (.lst (rf ps)) → sn ps = (List.range n).map E → Tg PrT H ps → Qd H) :
    ∃ W : Nat → Nat → Hp → Prop, (∃ m, W 0 m (upd H1 D (.lst []))) ∧ ∀ i m H, W i m H →
      (J.stop i H ∧ Qd H) ∨ (J.go i H ∧ ∃ Nx : Hp → Prop, (∀ H', Nx H' → ∃ m', m' < m ∧ W (i + 1) m' H') ∧ ∀ x H', J.yld i H x H' → g x (wipe σ vs) H' fun σ2 H2 => wipe σ2 vs = wipe σ vs ∧ tt σ2 H2 fun b H3 =>
        if b = true then te σ2 H3 fun y H4 => ∃ acc, H4 D = some (.lst acc) ∧ acc.length < sizeLine ∧ Nx (upd H4 D (.lst (acc ++ [y]))) else Nx H3) := by
  refine lc_it w (fun i H => ∃ ps : List (Addr × (Nat × Nat)), H D = some (.lst (rf ps)) ∧ Same H1 H ∧ sn ps = (List.range i).map E ∧ Tg PrT H ps) ⟨[], upd_same, same_new hD, rfl, fun _ h => by simp at h⟩ (fun i H _ ⟨_, _, s, _⟩ => hG H s)
    (fun i x H H' hi ⟨ps, e, s, hE, t⟩ y => ?_) fun H ⟨ps, e, s, hE, t⟩ => hd H ps s e hE t
  refine hs i x H H' _ _ hi s y fun H4 q s4 hq => ⟨rf ps, s4 _ _ e, ?_, ps ++ [(q, E i)], by rw [upd_same, rf_snoc], same_at (s.trans s4) hD, ?_, ?_⟩
  · have := congrArg List.length hE
    rw [sn_len, List.length_map, List.length_range] at this
    rw [rf_len, sizeLine_eq]
    omega
  · rw [sn_snoc, hE, List.range_succ, List.map_append]
    rfl
  · refine prt_list (fun x hx => ?_) (s4 _ _ e)
    rcases List.mem_append.mp hx with hx | hx
    · exact (t.mono mo_prt s4) x hx
    · rw [List.mem_singleton.mp hx]
      exact hq
end
theorem Lake.prt {K : PySem.W.Frag} {G H : Hp} {p f : Addr} {T : Nat} (h : Lake K G H p f T) {t : Addr} {e : Nat × Nat} (ht : PrT H t e) : PrT (wol [p, f] H) t e := by
  obtain ⟨_, _, _, _, _, h1, h2, _⟩ := h.ex
  unfold PrT at ht ⊢
  rw [wol_out (two_out (ne_of ht h1 (by intro z; cases z)) (ne_of ht h2 (by intro z; cases z)))]
  exact ht
theorem Lake.prts {K : PySem.W.Frag} {G H : Hp} {p f : Addr} {T : Nat} (h : Lake K G H p f T) {ps : List (Addr × (Nat × Nat))} (ht : Tg PrT H ps) : Tg PrT (wol [p, f] H) ps := fun x hx => h.prt (ht x hx)
-- _law_shape: slots 0=_law_lake_here 1=_law_size 2=_law_way 3=_law_at 4=_law_found 5=_law_to; cells _law_at
abbrev s_law_shape : Stmt := topS 33
abbrev N_law_shape : List Str := ["_law_lake_here", "_law_size", "_law_way", "_law_at", "_law_found", "_law_to"]
theorem sc_law_shape : FnScope N_law_shape ["_law_lake_here", "_law_size"] (defScope s_law_shape) := ⟨rfl, rfl, rfl, by decide +kernel, rfl, by decide +kernel, by decide +kernel⟩
-- _law_named: slots 0=_law_lake_here 1=_law_many 2=_law_ties 3=_law_names 4=_law_found 5=_law_one_here 6=_law_two; cells _law_names
abbrev s_law_named : Stmt := topS 34
abbrev N_law_named : List Str := ["_law_lake_here", "_law_many", "_law_ties", "_law_names", "_law_found", "_law_one_here", "_law_two"]
theorem sc_law_named : FnScope N_law_named ["_law_lake_here", "_law_many", "_law_ties"] (defScope s_law_named) := ⟨rfl, rfl, rfl, by decide +kernel, rfl, by decide +kernel, by decide +kernel⟩
-- _law_net: slots 0=_law_lake_here 1=_law_most 2=_law_limit 3=_law_many 4=_law_ties 5=_law_turn 6=_law_way 7=_law_one_here 8=_law_two; cells 
abbrev s_law_net : Stmt := topS 35
abbrev N_law_net : List Str := ["_law_lake_here", "_law_most", "_law_limit", "_law_many", "_law_ties", "_law_turn", "_law_way", "_law_one_here", "_law_two"]
theorem sc_law_net : FnScope N_law_net ["_law_lake_here", "_law_most", "_law_limit"] (defScope s_law_net) := ⟨rfl, rfl, rfl, by decide +kernel, rfl, by decide +kernel, by decide +kernel⟩
section
variable {P : Program} {w : World} {K : PySem.W.Frag} {mg : Str → Option Value} {base : Heap} {mt : Nat}
/-- ties between so many spots -/
def Below (n : Nat) (E : List (Nat × Nat)) : Prop := ∀ e ∈ E, e.1 < n ∧ e.2 < n
def sp_law_shape (K : PySem.W.Frag) : Sp := fun vs H Q _ => ∃ (G : Hp) (p f : Addr) (n T : Nat), vs = [.ref p, .int (n : Int)] ∧ Lake K G H p f T ∧ 1 ≤ n ∧ n ≤ 20 ∧ T ≤ 100000000 ∧
  ∀ H' r ps, H' r = some (.lst (rf ps)) → H r = none → Tg PrT H' ps → Below n (sn ps) → ps.length ≤ 30 → Lake K G H' p f (T + 2) → Same (wol [p, f] H) (wol [p, f] H') → Q (.ref r) H'
theorem below_map {n k : Nat} {E : Nat → Nat × Nat} (h : ∀ i, i < k → (E i).1 < n ∧ (E i).2 < n) : Below n ((List.range k).map E) := fun e he => by
  obtain ⟨i, hi, rfl⟩ := List.mem_map.mp he
  exact h i (List.mem_range.mp hi)
theorem free_le {ds : List Addr} {H H' : Hp} {q : Addr} (s : Same (wol ds H) (wol ds H')) (ho : q ∉ ds) (h : H' q = none) : H q = none := by
  cases e : H q with
  | none => rfl
  | some o =>
    have := wol_le _ _ (s _ _ (by rw [wol_out ho]; exact e))
    rw [h] at this
    cases this
theorem ok_law_shape {f : Addr} {fd : FuncData} (F : Fun K "_law_shape" "_law_shape" s_law_shape f fd) (T : Bi mg mt) (c_law_draw : C8.Cal P w K mg base 1 "_law_draw" (sp_law_draw K) []) : FnOk P w K mg base CX0 2 f fd ["_law_lake_here", "_law_size"] (sp_law_shape K) := by
  refine okC F sc_law_shape (fun vs H Q E h => ?_) (fun cdv A outer s H vs Q E hr hcd h => ?_)
  · obtain ⟨G, p, f, n, T, rfl, _⟩ := h
    rfl
  · obtain ⟨G, p, f, n, U, rfl, hL, hn1, hn2, hU, k⟩ := h
    refine ⟨_, (pss_cons (ps_set (i := 2) sc_law_shape.nd rfl (Or.inl rfl) (C8.pe_c c_law_draw hr (by decide) (by rfl) (pa_cons (pv 0) (pa_cons pe_int pa_nil))))
      (pss_cons (ps_if (pt_cmpR op_eqN (pv 2) pe_int (nomark _))
        (pss_one (ps_ret (pe_lc (own := [("_law_at", 3)]) rfl sc_law_shape.nd (pi_range1 (by rfl) T.range (pa_cons (pe_op op_subN (pv 1) pe_int) pa_nil)) (blkOk_by (N := N_law_shape) (sc := (defScope s_law_shape)) (by decide +kernel)) (fun _ _ _ _ _ => (pg_name (i := 3) sc_law_shape.nd rfl (Or.inl rfl))) (fun _ _ _ _ _ => pts_nil) (fun _ _ _ _ _ => (pe_tup (pa_cons (pv 3) (pa_cons (pe_op op_addN (pv 3) pe_int) pa_nil)))))))
        pss_nil)
      (pss_cons (ps_if (pt_cmpR op_eqN (pv 2) pe_int (nomark _))
        (pss_one (ps_ret (pe_op op_cat (pe_lc (own := [("_law_at", 3)]) rfl sc_law_shape.nd (pi_range1 (by rfl) T.range (pa_cons (pe_op op_subN (pv 1) pe_int) pa_nil)) (blkOk_by (N := N_law_shape) (sc := (defScope s_law_shape)) (by decide +kernel)) (fun _ _ _ _ _ => (pg_name (i := 3) sc_law_shape.nd rfl (Or.inl rfl))) (fun _ _ _ _ _ => pts_nil) (fun _ _ _ _ _ => (pe_tup (pa_cons (pv 3) (pa_cons (pe_op op_addN (pv 3) pe_int) pa_nil))))) (pe_lst (pa_cons (pe_tup (pa_cons pe_int (pa_cons (pe_op op_subN (pv 1) pe_int) pa_nil))) pa_nil)))))
        pss_nil)
      (pss_cons (ps_if (pt_cmpR op_eqN (pv 2) pe_int (nomark _))
        (pss_one (ps_ret (pe_lc (own := [("_law_at", 3)]) rfl sc_law_shape.nd (pi_range2 (by rfl) T.range (pa_cons pe_int (pa_cons (pv 1) pa_nil))) (blkOk_by (N := N_law_shape) (sc := (defScope s_law_shape)) (by decide +kernel)) (fun _ _ _ _ _ => (pg_name (i := 3) sc_law_shape.nd rfl (Or.inl rfl))) (fun _ _ _ _ _ => pts_nil) (fun _ _ _ _ _ => (pe_tup (pa_cons pe_int (pa_cons (pv 3) pa_nil)))))))
        pss_nil)
      (pss_cons (ps_set (i := 4) sc_law_shape.nd rfl (Or.inl rfl) (pe_lst pa_nil))
      (C8.pss_cut (ps_if (pt_cmpR op_eqN (pv 2) pe_int (nomark _))
        (pss_one (ps_for PassesOwn.never rfl (pi_range1 (by rfl) T.range (pa_cons (pe_callB (call_minN rfl) (by rfl) T.min (by decide +kernel) (pa_cons (pv 1) (pa_cons pe_int pa_nil))) pa_nil)) (pg_name (i := 3) sc_law_shape.nd rfl (Or.inr rfl))
          (pss_one (ps_set (i := 4) sc_law_shape.nd rfl (Or.inl rfl) (pe_op op_cat (pv 4) (pe_lc (own := [("_law_to", 5)]) rfl sc_law_shape.nd (pi_range1 (by rfl) T.range (pa_cons (pv 3) pa_nil)) (blkOk_by (N := N_law_shape) (sc := (defScope s_law_shape)) (by decide +kernel)) (fun _ _ _ _ _ => (pg_name (i := 5) sc_law_shape.nd rfl (Or.inl rfl))) (fun _ _ _ _ _ => pts_nil) (fun _ _ _ _ _ => (pe_tup (pa_cons (pv 3) (pa_cons (pv 5) pa_nil))))))))))
        pss_nil)
      (C8.pss_cut (ps_if (pt_cmpR op_eqN (pv 2) pe_int (nomark _))
        (pss_one (ps_set (i := 4) sc_law_shape.nd rfl (Or.inl rfl) (pe_op op_rep (pe_lst (pa_cons (pe_tup (pa_cons pe_int (pa_cons (pe_op op_subN (pv 1) pe_int) pa_nil))) pa_nil)) (pe_op op_addN pe_int (C8.pe_c c_law_draw hr (by decide) (by rfl) (pa_cons (pv 0) (pa_cons pe_int pa_nil)))))))
        pss_nil)
      (pss_one (ps_ret (pv 4)))))))))), ?_⟩
    refine ⟨.ref p, rfl, G, p, f, 7, U, rfl, hL, by decide, by omega, fun H1 way hL1 s1 hw => ?_⟩
    have hL1' := hL1.mono (Nat.le_succ (U + 1))
    refine ⟨_, rfl, way, 1, rfl, rfl, _, rfl, ?_⟩
    refine ite2 (fun _ => ?_) (fun _ => ?_)
    · refine ⟨_, rfl, n, 1, rfl, rfl, hn1, ((n - 1 : Nat) : Int), rfl, by omega, by omega, fun D hD => ?_⟩
      refine lc_prs walk_rngN (fun i => (i, i + 1)) (by omega) hD (fun _ _ => True.intro) (fun i x H2 H3 Ky Kn hi s y ky => ?_) fun H2 ps s2 e2 hE ht => ?_
      · obtain ⟨rfl, rfl⟩ := y
        refine ⟨rfl, _, rfl, _, rfl, i, 1, rfl, rfl, by show 2 ≤ sizeLine; decide, fun q hq => ky _ q (same_new hq) upd_same⟩
      · refine k H2 D ps e2 (free_le s1 (hL1.out hD) hD) ht ?_ ?_ (hL1'.new s2) (s1.trans (wol_mono s2))
        · rw [hE]
          exact below_map fun i hi => by show i < n ∧ i + 1 < n; omega
        · rw [← sn_len, hE, List.length_map, List.length_range]
          omega
    refine ⟨_, rfl, way, 2, rfl, rfl, _, rfl, ?_⟩
    refine ite2 (fun _ => ?_) (fun _ => ?_)
    · refine ⟨_, rfl, n, 1, rfl, rfl, hn1, ((n - 1 : Nat) : Int), rfl, by omega, by omega, fun D hD => ?_⟩
      refine lc_prs walk_rngN (fun i => (i, i + 1)) (by omega) hD (fun _ _ => True.intro) (fun i x H2 H3 Ky Kn hi s y ky => ?_) fun H2 ps s2 e2 hE ht => ?_
      · obtain ⟨rfl, rfl⟩ := y
        refine ⟨rfl, _, rfl, _, rfl, i, 1, rfl, rfl, by show 2 ≤ sizeLine; decide, fun q hq => ky _ q (same_new hq) upd_same⟩
      · have hlen : ps.length = n - 1 := by rw [← sn_len, hE, List.length_map, List.length_range]
        refine ⟨_, rfl, n, 1, rfl, rfl, hn1, by show 2 ≤ sizeLine; decide, fun t ht' => ?_⟩
        have st := same_new (o := .tup [.int 0, .int ((n - 1 : Nat) : Int)]) ht'
        refine ⟨by show 1 ≤ sizeLine; decide, fun b hb => ?_⟩
        have sb := same_new (o := .lst [.ref t]) hb
        refine ⟨D, b, _, _, rfl, rfl, sb _ _ (st _ _ e2), upd_same, by rw [rf_len, sizeLine_eq]; show ps.length + 1 ≤ _; omega, fun r hr' => ?_⟩
        have sr := same_new (o := .lst (rf ps ++ [.ref t])) hr'
        have tt : PrT (upd H2 t (.tup [.int 0, .int ((n - 1 : Nat) : Int)])) t (0, n - 1) := upd_same
        have s3 := ((s2.trans st).trans sb).trans sr
        refine k _ r (ps ++ [(t, (0, n - 1))]) (by rw [upd_same, rf_snoc]) ?_ (fun x hx => ?_) (fun e he => ?_) ?_ (hL1'.new s3) (s1.trans (wol_mono s3))
        · exact free_le s1 (hL1.out (((s2.trans st).trans sb).free hr')) (((s2.trans st).trans sb).free hr')
        · rcases List.mem_append.mp hx with hx | hx
          · exact mo_prt _ _ _ _ ((st.trans sb).trans sr) (ht x hx)
          · rw [List.mem_singleton.mp hx]
            exact mo_prt _ _ _ _ (sb.trans sr) tt
        · rw [sn_snoc] at he
          rcases List.mem_append.mp he with he | he
          · rw [hE] at he
            exact below_map (E := fun i => (i, i + 1)) (fun i hi => by show i < n ∧ i + 1 < n; omega) e he
          · rw [List.mem_singleton.mp he]
            show 0 < n ∧ n - 1 < n
            omega
        · rw [List.length_append, hlen]
          show n - 1 + 1 ≤ 30
          omega
    refine ⟨_, rfl, way, 3, rfl, rfl, _, rfl, ?_⟩
    refine ite2 (fun _ => ?_) (fun _ => ?_)
    · refine ⟨_, rfl, 1, (n : Int), rfl, ⟨by omega, by omega, by omega, by omega⟩, fun D hD => ?_⟩
      have ew : ((n : Int) - 1).toNat = n - 1 := by omega
      rw [ew]
      refine lc_prs (walk_range (lo := 1) (n := n - 1)) (fun i => (0, i + 1)) (by omega) hD (fun _ _ => True.intro) (fun i x H2 H3 Ky Kn hi s y ky => ?_) fun H2 ps s2 e2 hE ht => ?_
      · obtain ⟨rfl, rfl⟩ := y
        refine ⟨rfl, _, rfl, by show 2 ≤ sizeLine; decide, fun q hq => ky _ q (same_new hq) ?_⟩
        refine upd_same.trans ?_
        show some (HO.tup [.int 0, .int (1 + (i : Int))]) = some (HO.tup [.int 0, .int ((i + 1 : Nat) : Int)])
        have : (1 : Int) + (i : Int) = ((i + 1 : Nat) : Int) := by omega
        rw [this]
      · refine k H2 D ps e2 (free_le s1 (hL1.out hD) hD) ht ?_ ?_ (hL1'.new s2) (s1.trans (wol_mono s2))
        · rw [hE]
          exact below_map fun i hi => by show 0 < n ∧ i + 1 < n; omega
        · rw [← sn_len, hE, List.length_map, List.length_range]
          omega
    refine ⟨Nat.zero_le _, fun l0 hl0 => ?_⟩
    have s0 := same_new (o := .lst []) hl0
    -- the fourth way
    refine ⟨fun σ' H' => ∃ r ps v3 v5, σ' = [some (.ref p), some (.int (n : Int)), some (.int (way : Int)), v3, some (.ref r), v5] ∧ Same H1 H' ∧ H1 r = none ∧ H' r = some (.lst (rf ps)) ∧ Tg PrT H' ps ∧ Below n (sn ps) ∧ ps.length ≤ 30, ?_, ?_⟩
    · refine ⟨_, rfl, way, 4, rfl, rfl, _, rfl, ?_⟩
      refine ite2 (fun _ => ?_) (fun _ => ?_)
      · refine ⟨_, rfl, n, 5, rfl, ((min n 5 : Nat) : Int), rfl, by omega, by omega,
          for_it walk_rngN (fun i σ H' => ∃ r ps v3 v5, σ = [some (.ref p), some (.int (n : Int)), some (.int (way : Int)), v3, some (.ref r), v5] ∧ Same H1 H' ∧ H1 r = none ∧ H' r = some (.lst (rf ps)) ∧ Tg PrT H' ps ∧ Below n (sn ps) ∧ ps.length ≤ 5 * i)
          ⟨l0, [], none, none, rfl, s0, hl0, upd_same, fun _ h => by simp at h, fun _ h => by simp [sn] at h, Nat.zero_le _⟩ (fun _ _ _ _ _ => True.intro) ?_ ?_⟩
        · rintro i y σ H2 H3 hi ⟨r, ps, v3, v5, rfl, s2, hr1, hr2, ht, hb, hl⟩ ⟨rfl, rfl⟩
          have hi5 : i < 5 ∧ i < n := by omega
          refine ⟨.ref r, rfl, .int (i : Int), rfl, (i : Int), rfl, by omega, by omega, fun D hD => ?_⟩
          refine lc_prs walk_rngN (fun j => (i, j)) (by omega) hD (fun _ _ => True.intro) (fun j x H4 H5 Ky Kn hj s y ky => ?_) fun H4 qs s4 e4 hE hq => ?_
          · obtain ⟨rfl, rfl⟩ := y
            refine ⟨rfl, _, rfl, _, rfl, by show 2 ≤ sizeLine; decide, fun q hq => ky _ q (same_new hq) upd_same⟩
          · have hql : qs.length = i := by rw [← sn_len, hE, List.length_map, List.length_range]
            refine ⟨r, D, _, _, rfl, rfl, s4 _ _ hr2, e4, by rw [rf_len, rf_len, sizeLine_eq]; omega, fun u hu' => ?_⟩
            have su := same_new (o := .lst (rf ps ++ rf qs)) hu'
            refine ⟨u, ps ++ qs, _, _, rfl, (s2.trans s4).trans su, (s2.trans s4).free hu', ?_, fun x hx => ?_, fun e he => ?_, ?_⟩
            · rw [upd_same]
              simp [rf]
            · rcases List.mem_append.mp hx with hx | hx
              · exact mo_prt _ _ _ _ (s4.trans su) (ht x hx)
              · exact mo_prt _ _ _ _ su (hq x hx)
            · have he' : e ∈ sn ps ++ sn qs := by simpa [sn] using he
              rcases List.mem_append.mp he' with he' | he'
              · exact hb e he'
              · rw [hE] at he'
                exact below_map (E := fun j => (i, j)) (fun j hj => by show i < n ∧ j < n; omega) e he'
            · rw [List.length_append]
              omega
        · rintro σ H2 ⟨r, ps, v3, v5, rfl, s2, hr1, hr2, ht, hb, hl⟩
          exact ⟨r, ps, _, _, rfl, s2, hr1, hr2, ht, hb, by omega⟩
      · exact ⟨l0, [], _, _, rfl, s0, hl0, upd_same, fun _ h => by simp at h, fun _ h => by simp [sn] at h, Nat.zero_le _⟩
    · rintro σ1 H2 ⟨r, ps, v3, v5, rfl, s2, hr1, hr2, ht, hb, hl⟩
      have hL2 := hL1.new s2
      have s2' := s1.trans (wol_mono s2)
      have hrH : H r = none := free_le s1 (hL1.out hr1) hr1
      refine ⟨fun σ' H' => ∃ r ps v3 v5, σ' = [some (.ref p), some (.int (n : Int)), some (.int (way : Int)), v3, some (.ref r), v5] ∧ Lake K G H' p f (U + 2) ∧ Same (wol [p, f] H) (wol [p, f] H') ∧ H r = none ∧ H' r = some (.lst (rf ps)) ∧ Tg PrT H' ps ∧ Below n (sn ps) ∧ ps.length ≤ 30, ?_, ?_⟩
      · refine ⟨_, rfl, way, 5, rfl, rfl, _, rfl, ?_⟩
        refine ite2 (fun _ => ?_) (fun _ => ?_)
        · refine ⟨_, rfl, n, 1, rfl, rfl, hn1, by show 2 ≤ sizeLine; decide, fun t ht' => ?_⟩
          have st := same_new (o := .tup [.int 0, .int ((n - 1 : Nat) : Int)]) ht'
          refine ⟨by show 1 ≤ sizeLine; decide, fun b hb' => ?_⟩
          have sb := same_new (o := .lst [.ref t]) hb'
          have tt : PrT (upd H2 t (.tup [.int 0, .int ((n - 1 : Nat) : Int)])) t (0, n - 1) := upd_same
          have hL3 := hL2.new (st.trans sb)
          have hbo := hL3
          have hbl : (upd (upd H2 t (.tup [.int 0, .int ((n - 1 : Nat) : Int)])) b (.lst [.ref t])) b = some (.lst (rf [(t, (0, n - 1))])) := upd_same
          have tt3 : PrT (upd (upd H2 t (.tup [.int 0, .int ((n - 1 : Nat) : Int)])) b (.lst [.ref t])) t (0, n - 1) := mo_prt _ _ _ _ sb tt
          have bo : b ∉ [p, f] := hL2.out (st.free hb')
          refine ⟨.ref p, rfl, G, p, f, 5, _, rfl, hL3, by decide, by omega, fun H4 j hL4 s4 hj => ?_⟩
          have hb4 : H4 b = some (.lst (rf [(t, (0, n - 1))])) := wol_le _ _ (s4 _ _ (by rw [wol_out bo]; exact hbl))
          have t4 : PrT H4 t (0, n - 1) := wol_le _ _ (s4 _ _ (hL3.prt tt3))
          refine ⟨1, j, rfl, rfl, b, ((1 + j : Nat) : Int), _, rfl, rfl, hb4, by omega, by omega, by show 1 * ((1 + j : Nat) : Int).toNat ≤ sizeLine; rw [Int.toNat_natCast, sizeLine_eq]; omega, fun r2 hr2' => ?_⟩
          have sr := same_new (o := .lst (List.replicate ((1 + j : Nat) : Int).toNat (rf [(t, (0, n - 1))])).flatten) hr2'
          have s5 : Same (wol [p, f] H) (wol [p, f] H4) := (s2'.trans (wol_mono (st.trans sb))).trans s4
          have er : (List.replicate ((1 + j : Nat) : Int).toNat (rf [(t, (0, n - 1))])).flatten = rf (List.replicate (1 + j) (t, (0, n - 1))) := by
            rw [Int.toNat_natCast]
            generalize 1 + j = m
            induction m with
            | zero => rfl
            | succ m ih =>
              rw [List.replicate_succ, List.flatten_cons, ih, List.replicate_succ]
              rfl
          refine ⟨r2, List.replicate (1 + j) (t, (0, n - 1)), _, _, rfl, hL4.new sr, s5.trans (wol_mono sr), free_le s5 (hL4.out hr2') hr2', by rw [upd_same, er], fun x hx => ?_, fun e he => ?_, ?_⟩
          · rw [(List.mem_replicate.mp hx).2]
            exact mo_prt _ _ _ _ sr t4
          · obtain ⟨x, hx, rfl⟩ := List.mem_map.mp he
            rw [(List.mem_replicate.mp hx).2]
            show 0 < n ∧ n - 1 < n
            omega
          · rw [List.length_replicate]
            omega
        · exact ⟨r, ps, _, _, rfl, hL2.mono (Nat.le_succ _), s2', hrH, hr2, ht, hb, hl⟩
      · rintro σ2 H3 ⟨r, ps, v3, v5, rfl, hL3, s3, hr0, hr3, ht, hb, hl⟩
        exact ⟨.ref r, rfl, k H3 r ps hr3 hr0 ht hb hl hL3 s3⟩
theorem nv_map (ns : List Nat) : nv ns = ns.map fun n : Nat => V.int (n : Int) := by simp [nv, iv]
def sp_law_named (K : PySem.W.Frag) : Sp := fun vs H Q _ => ∃ (G : Hp) (p f t : Addr) (m T : Nat) (ps : List (Addr × (Nat × Nat))), vs = [.ref p, .int (m : Int), .ref t] ∧ Lake K G H p f T ∧ SqL K (wol [p, f] H) t (rf ps) ∧ Tg PrT (wol [p, f] H) ps ∧ Below m (sn ps) ∧ 1 ≤ m ∧ m ≤ 20 ∧ ps.length ≤ 100 ∧ T ≤ 100000000 ∧
  ∀ H' r E, Web K (wol [p, f] H') r (m, E) → E.length = ps.length → (∀ e ∈ E, e.1 ≤ e.2 ∧ e.2 < m) → Lake K G H' p f (T + 200) → Same (wol [p, f] H) (wol [p, f] H') → Q (.ref r) H'
theorem ok_law_named {f : Addr} {fd : FuncData} (F : Fun K "_law_named" "_law_named" s_law_named f fd) (T : Bi mg mt) (c_law_mixed : C8.Cal P w K mg base 2 "_law_mixed" (sp_law_mixed K) []) : FnOk P w K mg base CX0 3 f fd ["_law_lake_here", "_law_many", "_law_ties"] (sp_law_named K) := by
  refine okC F sc_law_named (fun vs H Q E h => ?_) (fun cdv A outer s H vs Q E hr hcd h => ?_)
  · obtain ⟨G, p, f, t, m, T, ps, rfl, _⟩ := h
    rfl
  · obtain ⟨G, p, f, t, m, U, ps, rfl, hL, ht, htg, hb, hm1, hm2, hl, hU, k⟩ := h
    refine ⟨_, (pss_cons (ps_set (i := 3) sc_law_named.nd rfl (Or.inr rfl) (C8.pe_c c_law_mixed hr (by decide) (by rfl) (pa_cons (pv 0) (pa_cons (pe_listRg rfl (by rfl) T.list (prg_1 (by rfl) T.range (pv 1))) pa_nil))))
      (pss_cons (ps_setLc (i := 4) (own := [("_law_one_here", 5), ("_law_two", 6)]) rfl sc_law_named.nd rfl rfl (sw_true rfl rfl rfl (by decide +kernel)) (pi_list (C8.pe_c c_law_mixed hr (by decide) (by rfl) (pa_cons (pv 0) (pa_cons (pv 2) pa_nil)))) (blkOk_by (N := N_law_named) (sc := (defScope s_law_named)) (by decide +kernel)) (fun _ _ _ _ _ => (pg_tupK K (n := 2) rfl (pgs_cons (pg_name (i := 5) sc_law_named.nd rfl (Or.inl rfl)) (pgs_cons (pg_name (i := 6) sc_law_named.nd rfl (Or.inl rfl)) pgs_nil)))) (fun _ _ _ _ _ => pts_nil) (fun _ _ _ _ _ => (pe_tup (pa_cons (pe_callB (call_minN rfl) (by rfl) T.min (by decide +kernel) (pa_cons (pe_ix (ix_listK K) (pv 3) (pv 5) (fun _ _ => rfl)) (pa_cons (pe_ix (ix_listK K) (pv 3) (pv 6) (fun _ _ => rfl)) pa_nil))) (pa_cons (pe_callB (call_maxN rfl) (by rfl) T.max (by decide +kernel) (pa_cons (pe_ix (ix_listK K) (pv 3) (pv 5) (fun _ _ => rfl)) (pa_cons (pe_ix (ix_listK K) (pv 3) (pv 6) (fun _ _ => rfl)) pa_nil))) pa_nil)))))
      (pss_one (ps_ret (pe_tup (pa_cons (pv 1) (pa_cons (pe_tupleOf (by rfl) T.tuple (pv 4)) pa_nil))))))), ?_⟩
    refine ⟨.ref p, rfl, _, rfl, (m : Int), rfl, RgOk.of_le (by omega) (by omega) (by omega) (by omega), fun z hz => ?_⟩
    have sz := same_new (o := .lst (rgV 0 (m : Int))) hz
    have hzl : wol [p, f] (upd H z (.lst (rgV 0 (m : Int)))) z = some (.lst (rgV 0 (m : Int))) := by
      rw [wol_put (hL.out hz), upd_same]
    have hrl : (rgV 0 (m : Int)).length = m := by rw [rgV_length]; omega
    refine ⟨G, p, f, z, rgV 0 (m : Int), U, rfl, hL.new sz, .inl (SqL.of hzl), by omega, by omega, fun H1 nl ys hys h1 ho hno hL1 s1 => ?_⟩
    rw [hrl] at hL1
    rw [rgV_nat] at hys
    obtain ⟨us, hus, rfl⟩ := perm_lift (fun n : Nat => V.int (n : Int)) hys (nv_map _)
    rw [← nv_map] at h1
    have ulen : us.length = m := by rw [hus.length_eq, List.length_range]
    have ub : ∀ u ∈ us, u < m := fun u hu => List.mem_range.mp (hus.mem_iff.mp hu)
    have s1' : Same (wol [p, f] H) (wol [p, f] H1) := (wol_mono sz).trans s1
    have n1 : wol [p, f] H1 nl = some (.lst (nv us)) := by rw [wol_out ho]; exact h1
    refine ⟨.ref p, rfl, .ref t, rfl, G, p, f, t, rf ps, _, rfl, hL1, .inl (s1'.seq ht), by rw [rf_len]; omega, by omega, fun H2 tl zs hzs h2 ho2 hno2 hL2 s2 => ?_⟩
    rw [rf_len] at hL2
    obtain ⟨qs, hqs, rfl⟩ := perm_lift (fun x : Addr × (Nat × Nat) => V.ref x.1) hzs rfl
    have s2' := s1'.trans s2
    have tq : Tg PrT H2 qs := fun x hx => mo_prt _ _ _ _ (s2'.trans wol_le) (htg x (hqs.mem_iff.mp hx))
    have n2 : SqL K H2 nl (nv us) := SqL.of (wol_le _ _ (s2 _ _ n1))
    have bq : ∀ x ∈ qs, x.2.1 < m ∧ x.2.2 < m := fun x hx => hb x.2 (List.mem_map.mpr ⟨x, hqs.mem_iff.mp hx, rfl⟩)
    refine ⟨tl, rfl, ⟨_, SqL.of h2⟩, fun D hD => ?_⟩
    refine lc_prs (walk_list (K := K) (a := tl) (xs := rf qs)) (fun i => (min (us.getD ((sn qs).getD i (0, 0)).1 0) (us.getD ((sn qs).getD i (0, 0)).2 0), max (us.getD ((sn qs).getD i (0, 0)).1 0) (us.getD ((sn qs).getD i (0, 0)).2 0))) (by rw [rf_len, hqs.length_eq]; omega) hD (fun _ s => s.seq (SqL.of h2)) (fun i x H3 H4 Ky Kn hi s y ky => ?_) fun H3 es s3 e3 hE he => ?_
    · obtain ⟨rfl, hx⟩ := y
      obtain ⟨q, hq, rfl⟩ := rf_get hx
      have hqm := mem_at hq
      obtain ⟨b1, b2⟩ := bq q hqm
      have eq1 : (sn qs).getD i (0, 0) = q.2 := by
        rw [List.getD_eq_getElem?_getD, sn_get hq]
        rfl
      rw [eq1] at ky
      have g1 : us[q.2.1]? = some (us.getD q.2.1 0) := by
        rw [List.getD_eq_getElem?_getD, List.getElem?_eq_getElem (by omega)]
        rfl
      have g2 : us[q.2.2]? = some (us.getD q.2.2 0) := by
        rw [List.getD_eq_getElem?_getD, List.getElem?_eq_getElem (by omega)]
        rfl
      have n4 := s.seq n2
      refine ⟨q.1, _, rfl, SqT.of (s _ _ (tq q hqm)), rfl, _, _, rfl, _, _, rfl, rfl, rfl, ?_⟩
      refine ⟨.ref nl, rfl, _, rfl, nl, _, _, _, rfl, rfl, n4, atI_nat (nv_at g1), .ref nl, rfl, _, rfl, nl, _, _, _, rfl, rfl, n4, atI_nat (nv_at g2), _, _, rfl, ?_⟩
      refine ⟨.ref nl, rfl, _, rfl, nl, _, _, _, rfl, rfl, n4, atI_nat (nv_at g1), .ref nl, rfl, _, rfl, nl, _, _, _, rfl, rfl, n4, atI_nat (nv_at g2), _, _, rfl, ?_⟩
      exact ⟨by show 2 ≤ sizeLine; decide, fun r hr' => ky _ r (same_new hr') upd_same⟩
    · have hL3 := hL2.new s3
      refine ⟨_, rfl, .ref D, rfl, .inl ⟨D, _, rfl, SqL.of e3, fun tt htt => ⟨by show 2 ≤ sizeLine; decide, fun r hr' => ?_⟩⟩⟩
      have stt := same_new (o := .tup (rf es)) htt
      have sr := same_new (o := .tup [.int (m : Int), .ref tt]) hr'
      have hL4 := hL3.new (stt.trans sr)
      have elen : es.length = ps.length := by
        rw [← sn_len, hE, List.length_map, List.length_range, rf_len, hqs.length_eq]
      refine k _ r (sn es) ⟨tt, hL4.tup (SqT.of upd_same), es, rfl, hL4.tup (sr.seqT (SqT.of upd_same)), fun x hx => ?_⟩ (by rw [sn_len, elen]) (fun e hee => ?_) (hL4.mono (by omega)) (s2'.trans (wol_mono ((s3.trans stt).trans sr)))
      · exact hL4.tup (SqT.of ((stt.trans sr) _ _ (he x hx)))
      · rw [hE] at hee
        obtain ⟨i, hi, rfl⟩ := List.mem_map.mp hee
        rw [List.mem_range, rf_len] at hi
        have hq : qs[i]? = some qs[i] := List.getElem?_eq_getElem hi
        have eq1 : (sn qs).getD i (0, 0) = qs[i].2 := by
          rw [List.getD_eq_getElem?_getD, sn_get hq]
          rfl
        rw [eq1]
        obtain ⟨b1, b2⟩ := bq qs[i] (List.getElem_mem hi)
        have u1 : us.getD qs[i].2.1 0 < m := by
          rw [List.getD_eq_getElem?_getD, List.getElem?_eq_getElem (by omega)]
          exact ub _ (List.getElem_mem _)
        have u2 : us.getD qs[i].2.2 0 < m := by
          rw [List.getD_eq_getElem?_getD, List.getElem?_eq_getElem (by omega)]
          exact ub _ (List.getElem_mem _)
        constructor
        · show min _ _ ≤ max _ _
          omega
        · show max _ _ < m
          omega
/-- pairs, as they are compared -/
def ppd (e : Nat × Nat) : PyData := .tuple [.int (e.1 : Int), .int (e.2 : Int)]
theorem lpp_shaped (L : List (Nat × Nat)) : SeqAt.shaped (.list (L.map ppd)) = true := by
  have h1 : PyData.canLayAll0 (L.map ppd) = true := by
    induction L with
    | nil => rfl
    | cons l L ih =>
      rw [List.map_cons, PyData.canLayAll0, ih]
      rfl
  have h2 : PyData.depthAll (L.map ppd) ≤ 1 := by
    clear h1
    induction L with
    | nil => exact Nat.zero_le _
    | cons l L ih =>
      rw [List.map_cons, PyData.depthAll]
      have : PyData.depth (ppd l) = 1 := rfl
      omega
  unfold SeqAt.shaped
  rw [PyData.canLay0, PyData.depth, h1, Bool.true_and, decide_eq_true_iff]
  omega
theorem lpp_nil : ∀ L : List (Nat × Nat), PyData.eqv (.list (L.map ppd)) (.list []) = L.isEmpty
  | [] => by
    rw [PyData.eqv]
    rfl
  | l :: L => by
    rw [PyData.eqv, List.map_cons, PyData.eqvAll]
    rfl
theorem dp_pairs {K : PySem.W.Frag} {H : Hp} : ∀ ps : List (Addr × (Nat × Nat)), Tg PrT H ps → DpAll K H (rf ps) ((sn ps).map ppd)
  | [], _ => .nil
  | p :: ps, h => .cons (.tup (SqT.of (h p (List.mem_cons_self ..))) (.cons (.int _) (.cons (.int _) .nil))) (dp_pairs ps fun q hq => h q (List.mem_cons_of_mem _ hq))
theorem cut_rf {α : Type} (ps : List (Addr × α)) (k : Nat) : cutV (rf ps) none (some ((k : Nat) : Int)) = rf (ps.take k) := by
  unfold cutV
  rw [HT.sIx_none, HT.sIx_nat, List.drop_zero, Nat.sub_zero]
  unfold rf
  rw [List.map_take, List.length_map]
  rcases Nat.le_total k ps.length with h | h
  · rw [Nat.min_eq_left h]
  · rw [Nat.min_eq_right h, List.take_of_length_le (by rw [List.length_map]; exact Nat.le_refl _), List.take_of_length_le (by rw [List.length_map]; exact h)]
def sp_law_net (K : PySem.W.Frag) : Sp := fun vs H Q _ => ∃ (G : Hp) (p f : Addr) (m l T : Nat), vs = [.ref p, .int (m : Int), .int (l : Int)] ∧ Lake K G H p f T ∧ 1 ≤ m ∧ m ≤ 20 ∧ l ≤ 40 ∧ T ≤ 10000000 ∧
  ∀ H' r n E, Web K (wol [p, f] H') r (n, E) → 1 ≤ n → n ≤ m → E.length ≤ l → (∀ e ∈ E, e.1 ≤ e.2 ∧ e.2 < n) → Lake K G H' p f (T + 1000) → Same (wol [p, f] H) (wol [p, f] H') → Q (.ref r) H'
theorem ok_law_net {f : Addr} {fd : FuncData} (F : Fun K "_law_net" "_law_net" s_law_net f fd) (T : Bi mg mt) (c_law_one : C8.Cal P w K mg base 2 "_law_one" (sp_law_one K) []) (c_law_shape : C8.Cal P w K mg base 2 "_law_shape" (sp_law_shape K) []) (c_law_named : C8.Cal P w K mg base 3 "_law_named" (sp_law_named K) []) (c_law_draw : C8.Cal P w K mg base 1 "_law_draw" (sp_law_draw K) []) : FnOk P w K mg base CX0 4 f fd ["_law_lake_here", "_law_most", "_law_limit"] (sp_law_net K) := by
  refine okC F sc_law_net (fun vs H Q E h => ?_) (fun cdv A outer s H vs Q E hr hcd h => ?_)
  · obtain ⟨G, p, f, m, l, T, rfl, _⟩ := h
    rfl
  · obtain ⟨G, p, f, m, l, U, rfl, hL, hm1, hm2, hl, hU, k⟩ := h
    have hu64 := hr.units
    refine ⟨_, (pss_cons (ps_set (i := 3) sc_law_net.nd rfl (Or.inl rfl) (C8.pe_c c_law_one hr (by decide) (by rfl) (pa_cons (pv 0) (pa_cons (pe_lst (pa_cons (pe_op op_addN pe_int (C8.pe_c c_law_draw hr (by decide) (by rfl) (pa_cons (pv 0) (pa_cons (pv 1) pa_nil)))) (pa_cons (pe_op op_addN pe_int (C8.pe_c c_law_draw hr (by decide) (by rfl) (pa_cons (pv 0) (pa_cons (pv 1) pa_nil)))) (pa_cons (pv 1) pa_nil)))) pa_nil))))
      (pss_cons (ps_set (i := 4) sc_law_net.nd rfl (Or.inl rfl) (C8.pe_c c_law_shape hr (by decide) (by rfl) (pa_cons (pv 0) (pa_cons (pe_op op_addN pe_int (C8.pe_c c_law_draw hr (by decide) (by rfl) (pa_cons (pv 0) (pa_cons (pv 3) pa_nil)))) pa_nil))))
      (pss_cons (ps_for PassesOwn.never rfl (pi_range1 (by rfl) T.range (pa_cons (C8.pe_c c_law_draw hr (by decide) (by rfl) (pa_cons (pv 0) (pa_cons (pe_op op_addN (pv 2) pe_int) pa_nil))) pa_nil)) (pg_name (i := 5) sc_law_net.nd rfl (Or.inl rfl))
        (pss_cons (ps_par3 (i := 6) (j := 7) (l := 8) (by rfl) sc_law_net.nd rfl rfl rfl (by decide) (by decide) (by decide) rfl rfl rfl (pa_cons (C8.pe_c c_law_draw hr (by decide) (by rfl) (pa_cons (pv 0) (pa_cons pe_int pa_nil))) (pa_cons (C8.pe_c c_law_draw hr (by decide) (by rfl) (pa_cons (pv 0) (pa_cons (pv 3) pa_nil))) (pa_cons (C8.pe_c c_law_draw hr (by decide) (by rfl) (pa_cons (pv 0) (pa_cons (pv 3) pa_nil))) pa_nil))) (by rfl))
        (pss_one (ps_if (PW.pt (pw_and (pt_cmpR op_eqN (pv 6) pe_int (nomark _)) (pw_and1 (pt_cmpR (op_neD hu64) (pv 4) (pe_lst pa_nil) (nomark _)))))
          (pss_one (ps_expr (pe_bm PySem.F.plainAttrs_list PySem.F.slot_list_append PySem.F.type_list_append mt_append (pv 4) (pa_cons (C8.pe_c c_law_one hr (by decide) (by rfl) (pa_cons (pv 0) (pa_cons (pv 4) pa_nil))) pa_nil))))
          (pss_one (ps_if (pt_cmpR op_eqN (pv 6) pe_int (nomark _))
            (pss_one (ps_expr (pe_bm PySem.F.plainAttrs_list PySem.F.slot_list_append PySem.F.type_list_append mt_append (pv 4) (pa_cons (pe_tup (pa_cons (pv 7) (pa_cons (pv 7) pa_nil))) pa_nil))))
            (pss_one (ps_expr (pe_bm PySem.F.plainAttrs_list PySem.F.slot_list_append PySem.F.type_list_append mt_append (pv 4) (pa_cons (pe_tup (pa_cons (pv 7) (pa_cons (pv 8) pa_nil))) pa_nil))))))))))
      (pss_one (ps_ret (C8.pe_c c_law_named hr (by decide) (by rfl) (pa_cons (pv 0) (pa_cons (pv 3) (pa_cons (pe_slice sl_list (pv 4) po_none (po_some (pv 2))) pa_nil))))))))), ?_⟩
    -- many
    refine ⟨.ref p, rfl, .ref p, rfl, _, rfl, G, p, f, m, U, rfl, hL, by omega, by omega, fun H1 r1 hL1 s1 hr1 => ?_⟩
    refine ⟨1, r1, rfl, rfl, .ref p, rfl, _, rfl, G, p, f, m, _, rfl, hL1, by omega, by omega, fun H2 r2 hL2 s2 hr2 => ?_⟩
    refine ⟨1, r2, rfl, rfl, _, rfl, by show 3 ≤ sizeLine; decide, fun z hz => ?_⟩
    have sz := same_new (o := .lst (nv [1 + r1, 1 + r2, m])) hz
    have hzl : wol [p, f] (upd H2 z (.lst (nv [1 + r1, 1 + r2, m]))) z = some (.lst (nv [1 + r1, 1 + r2, m])) := by
      rw [wol_put (hL2.out hz), upd_same]
    refine ⟨G, p, f, z, nv [1 + r1, 1 + r2, m], _, rfl, hL2.new sz, SqL.of hzl, by show 0 < 3; decide, by show 3 ≤ 2000; decide, by omega, fun H3 j x hx hL3 s3 => ?_⟩
    obtain ⟨n, hn, rfl⟩ := nv_get hx
    have hn12 : 1 ≤ n ∧ n ≤ m := by
      rcases List.mem_cons.mp (mem_at hn) with e | hn
      · omega
      · rcases List.mem_cons.mp hn with e | hn
        · omega
        · have := List.mem_singleton.mp hn
          omega
    have s3' := ((s1.trans s2).trans (wol_mono sz)).trans s3
    -- ties
    refine ⟨.ref p, rfl, .ref p, rfl, _, rfl, G, p, f, n, _, rfl, hL3, by omega, by omega, fun H4 r4 hL4 s4 hr4 => ?_⟩
    refine ⟨1, r4, rfl, rfl, G, p, f, 1 + r4, _, rfl, hL4, by omega, by omega, by omega, fun H5 tl ps hps hno ht hb hpl hL5 s5 => ?_⟩
    have s5' := (s3'.trans s4).trans s5
    have tlo : tl ∉ [p, f] := hL4.out hno
    have tlH : H tl = none := free_le (s3'.trans s4) tlo hno
    have hbn : Below n (sn ps) := fun e he => by
      have := hb e he
      omega
    refine ⟨.ref p, rfl, _, rfl, l, 1, rfl, rfl, G, p, f, l + 1, _, rfl, hL5, by omega, by omega, fun H6 r6 hL6 s6 hr6 => ?_⟩
    have s6' := s5'.trans s6
    refine ⟨(r6 : Int), rfl, by omega, by omega,
      for_it walk_rngN (fun i σ H' => ∃ v5 v6 v7 v8 ps, σ = [some (.ref p), some (.int (m : Int)), some (.int (l : Int)), some (.int (n : Int)), some (.ref tl), v5, v6, v7, v8] ∧ Lake K G H' p f (U + 20 + 5 * i) ∧ Same (wol [p, f] H) (wol [p, f] H') ∧ H' tl = some (.lst (rf ps)) ∧ Tg PrT H' ps ∧ Below n (sn ps) ∧ ps.length ≤ 30 + i)
      ⟨none, none, none, none, ps, rfl, hL6.mono (by omega), s6', wol_le _ _ (s6 _ _ (by rw [wol_out tlo]; exact hps)), fun x hx => wol_le _ _ (s6 _ _ (hL5.prt (ht x hx))), hbn, hpl⟩ (fun _ _ _ _ _ => True.intro) ?_ ?_⟩
    · clear hps ht hb hbn hpl hL5 s5 s5' hL6 s6 s6'
      rintro i y σ H7 H8 hi ⟨v5, v6, v7, v8, ps, rfl, hL8, s8, hps, ht, hb, hpl⟩ ⟨rfl, rfl⟩
      refine ⟨.ref p, rfl, G, p, f, 8, _, rfl, hL8, by decide, by omega, fun H9 way hL9 s9 hw => ?_⟩
      refine ⟨.ref p, rfl, _, rfl, G, p, f, n, _, rfl, hL9, by omega, by omega, fun H10 o1 hL10 s10 ho1 => ?_⟩
      refine ⟨.ref p, rfl, _, rfl, G, p, f, n, _, rfl, hL10, by omega, by omega, fun H11 o2 hL11 s11 ho2 => ?_⟩
      refine ⟨_, _, _, rfl, ?_⟩
      have sd := (s9.trans s10).trans s11
      have s11' := s8.trans sd
      have hps11 : H11 tl = some (.lst (rf ps)) := wol_le _ _ (sd _ _ (by rw [wol_out tlo]; exact hps))
      have ht11 : Tg PrT H11 ps := fun x hx => wol_le _ _ (sd _ _ (hL8.prt (ht x hx)))
      clear hps ht hL8 hL9 hL10 s9 s10 s11 sd
      -- appending a pair
      have appG : ∀ (H11 : Hp), Lake K G H11 p f (U + 20 + 5 * i + 1 + 1 + 1) → Same (wol [p, f] H) (wol [p, f] H11) → H11 tl = some (.lst (rf ps)) → Tg PrT H11 ps → ∀ (a b : Nat), a < n → b < n → ∀ q, H11 q = none → Lake K G (upd (upd H11 q (.tup [.int (a : Int), .int (b : Int)])) tl (.lst (rf ps ++ [.ref q]))) p f (U + 20 + 5 * (i + 1)) ∧ Same (wol [p, f] H) (wol [p, f] (upd (upd H11 q (.tup [.int (a : Int), .int (b : Int)])) tl (.lst (rf ps ++ [.ref q])))) ∧
          (upd H11 q (.tup [.int (a : Int), .int (b : Int)])) tl = some (.lst (rf ps)) ∧ (upd (upd H11 q (.tup [.int (a : Int), .int (b : Int)])) tl (.lst (rf ps ++ [.ref q]))) tl = some (.lst (rf (ps ++ [(q, (a, b))]))) ∧ Tg PrT (upd (upd H11 q (.tup [.int (a : Int), .int (b : Int)])) tl (.lst (rf ps ++ [.ref q]))) (ps ++ [(q, (a, b))]) ∧ Below n (sn (ps ++ [(q, (a, b))])) ∧ (ps ++ [(q, (a, b))]).length ≤ 30 + (i + 1) := by
        intro H11 hL11 s11' hps11 ht11 a b ha hb' q hq
        have sq := same_new (o := .tup [.int (a : Int), .int (b : Int)]) hq
        have tl2 := sq _ _ hps11
        refine ⟨((hL11.new sq).put (hL.free tlH) tlo).mono (by omega), ?_, tl2, by rw [upd_same, rf_snoc], prt_list (fun x hx => ?_) tl2, fun e he => ?_, ?_⟩
        · rw [wol_put tlo]
          exact same_at (s11'.trans (wol_mono sq)) (wol_none tlH)
        · rcases List.mem_append.mp hx with hx | hx
          · exact mo_prt _ _ _ _ sq (ht11 x hx)
          · rw [List.mem_singleton.mp hx]
            exact upd_same
        · rw [sn_snoc] at he
          rcases List.mem_append.mp he with he | he
          · exact hb e he
          · rw [List.mem_singleton.mp he]
            exact ⟨ha, hb'⟩
        · rw [List.length_append]
          show ps.length + 1 ≤ _
          omega
      have app := appG H11 hL11 s11' hps11 ht11
      have hsz : (rf ps).length < sizeLine := small1001 (by rw [rf_len]; omega)
      refine ⟨_, rfl, way, 0, rfl, rfl, _, rfl, ?_⟩
      refine ite2 (fun _ => ?_) (fun _ => ?_)
      · refine ⟨.ref tl, rfl, Nat.zero_le _, fun e he => ?_⟩
        have se := same_new (o := .lst []) he
        have hL12 := hL11.new se
        have s12 := s11'.trans (wol_mono se)
        have hps12 := se _ _ hps11
        have ht12 : Tg PrT (upd H11 e (.lst [])) ps := ht11.mono mo_prt se
        refine ⟨_, .list [], .lst (SqL.of hps12) (dp_pairs ps ht12), .lst (SqL.of upd_same) .nil, lpp_shaped _, lpp_shaped [], _, rfl, ?_⟩
        generalize upd H11 e (.lst []) = H12 at hL12 s12 hps12 ht12 ⊢
        have app12 := appG H12 hL12 s12 hps12 ht12
        rw [lpp_nil]
        by_cases hem : sn ps = []
        · rw [hem]
          refine iteF ?_
          refine ⟨_, rfl, way, 1, rfl, rfl, _, rfl, ?_⟩
          refine ite2 (fun _ => ?_) (fun _ => ?_)
          · refine ⟨.ref tl, rfl, .inl ⟨rfl, _, SqL.of hps12⟩, _, rfl, _, rfl, by show 2 ≤ sizeLine; decide, fun q hq => ?_⟩
            obtain ⟨a1, a2, a3, a4, a5, a6, a7⟩ := app12 o1 o1 (by omega) (by omega) q hq
            exact ⟨tl, _, _, rfl, rfl, a3, hsz, _, _, _, _, _, rfl, a1, a2, a4, a5, a6, a7⟩
          · refine ⟨.ref tl, rfl, .inl ⟨rfl, _, SqL.of hps12⟩, _, rfl, _, rfl, by show 2 ≤ sizeLine; decide, fun q hq => ?_⟩
            obtain ⟨a1, a2, a3, a4, a5, a6, a7⟩ := app12 o1 o2 (by omega) (by omega) q hq
            exact ⟨tl, _, _, rfl, rfl, a3, hsz, _, _, _, _, _, rfl, a1, a2, a4, a5, a6, a7⟩
        · have : (sn ps).isEmpty = false := by
            cases hh : sn ps with
            | nil => exact absurd hh hem
            | cons _ _ => rfl
          rw [this]
          refine iteT ?_
          have h0 : 0 < ps.length := by
            rw [← sn_len]
            exact List.length_pos_iff.mpr hem
          have htl12 : SqL K (wol [p, f] H12) tl (rf ps) := SqL.of (by rw [wol_out tlo]; exact hps12)
          refine ⟨.ref tl, rfl, .inl ⟨rfl, _, SqL.of hps12⟩, .ref p, rfl, .ref tl, rfl, G, p, f, tl, rf ps, _, rfl, hL12, htl12, by rw [rf_len]; exact h0, by rw [rf_len]; omega, by omega, fun H13 j x hx hL13 s13 => ?_⟩
          obtain ⟨q, hq, rfl⟩ := rf_get hx
          have hps13 : H13 tl = some (.lst (rf ps)) := wol_le _ _ (s13 _ _ (by rw [wol_out tlo]; exact hps12))
          have ht13 : Tg PrT H13 ps := fun x hx => wol_le _ _ (s13 _ _ (hL12.prt (ht12 x hx)))
          refine ⟨tl, _, _, rfl, rfl, hps13, hsz, _, _, _, _, ps ++ [q], rfl, (hL13.put (hL.free tlH) tlo).mono (by omega), ?_, by rw [upd_same, rf_snoc], prt_list (fun x hx => ?_) hps13, fun e he => ?_, ?_⟩
          · rw [wol_put tlo]
            exact same_at (s12.trans s13) (wol_none tlH)
          · rcases List.mem_append.mp hx with hx | hx
            · exact ht13 x hx
            · rw [List.mem_singleton.mp hx]
              exact ht13 q (mem_at hq)
          · rw [sn_snoc] at he
            rcases List.mem_append.mp he with he | he
            · exact hb e he
            · rw [List.mem_singleton.mp he]
              exact hb q.2 (List.mem_map.mpr ⟨q, mem_at hq, rfl⟩)
          · rw [List.length_append]
            show ps.length + 1 ≤ _
            omega
      · refine iteF ?_
        refine ⟨_, rfl, way, 1, rfl, rfl, _, rfl, ?_⟩
        refine ite2 (fun _ => ?_) (fun _ => ?_)
        · refine ⟨.ref tl, rfl, .inl ⟨rfl, _, SqL.of hps11⟩, _, rfl, _, rfl, by show 2 ≤ sizeLine; decide, fun q hq => ?_⟩
          obtain ⟨a1, a2, a3, a4, a5, a6, a7⟩ := app o1 o1 (by omega) (by omega) q hq
          exact ⟨tl, _, _, rfl, rfl, a3, hsz, _, _, _, _, _, rfl, a1, a2, a4, a5, a6, a7⟩
        · refine ⟨.ref tl, rfl, .inl ⟨rfl, _, SqL.of hps11⟩, _, rfl, _, rfl, by show 2 ≤ sizeLine; decide, fun q hq => ?_⟩
          obtain ⟨a1, a2, a3, a4, a5, a6, a7⟩ := app o1 o2 (by omega) (by omega) q hq
          exact ⟨tl, _, _, rfl, rfl, a3, hsz, _, _, _, _, _, rfl, a1, a2, a4, a5, a6, a7⟩
    · rintro σ H7 ⟨v5, v6, v7, v8, ps, rfl, hL7, s7, hps, ht, hb, hpl⟩
      refine ⟨.ref p, rfl, _, rfl, .ref tl, rfl, _, rfl, (l : Int), rfl, tl, _, rfl, SqL.of hps, fun c hc => ?_⟩
      rw [cut_rf]
      have sc := same_new (o := .lst (rf (ps.take l))) hc
      have hcl : wol [p, f] (upd H7 c (.lst (rf (ps.take l)))) c = some (.lst (rf (ps.take l))) := by
        rw [wol_put (hL7.out hc), upd_same]
      have hL8 := hL7.new sc
      have s8 := s7.trans (wol_mono sc)
      refine ⟨G, p, f, c, n, _, ps.take l, rfl, hL8, SqL.of hcl, fun x hx => hL8.prt (mo_prt _ _ _ _ sc (ht x (List.mem_of_mem_take hx))), fun e he => ?_, hn12.1, by omega, by rw [List.length_take]; omega, by omega, fun H9 r E hW hlen hE hL9 s9 => ?_⟩
      · obtain ⟨x, hx, rfl⟩ := List.mem_map.mp he
        exact hb x.2 (List.mem_map.mpr ⟨x, List.mem_of_mem_take hx, rfl⟩)
      · exact k H9 r n E hW hn12.1 hn12.2 (by rw [hlen, List.length_take]; omega) hE (hL9.mono (by omega)) (s8.trans s9)
end
end Fb

/-! FbS -/
set_option maxHeartbeats 4000000
/-! _law_is_told, _law_by_sums -/
namespace Fb
open PySem PySem.Spec PyProof.Rows L2
/-- data that may be shown: so deep, so much -/
structure RepD (d : PyData) (k m : Nat) : Prop where
  sh : d.showable = true
  hd : d.hasDict = false
  dp : d.depth ≤ k
  ls : d.leavesShort 13 = true
  bk : d.bulk ≤ m
theorem RepD.fits {d : PyData} {k m : Nat} (h : RepD d k m) (hm : m ≤ 1048576) : d.shown.length ≤ sizeLine := PyData.shown_fits_bulk (B := 13) (by decide) (by decide) h.ls (Nat.le_trans h.bk (Nat.le_trans hm (by decide)))
theorem RepD.none : RepD .none 0 0 := ⟨rfl, rfl, Nat.le_refl _, rfl, Nat.le_refl _⟩
theorem RepD.bool (b : Bool) : RepD (.bool b) 0 0 := ⟨rfl, rfl, Nat.le_refl _, rfl, Nat.le_refl _⟩
theorem RepD.int {n : Nat} (h : n ≤ 1000) : RepD (.int (n : Int)) 0 0 := by
  refine ⟨?_, rfl, Nat.le_refl _, ?_, Nat.le_refl _⟩
  · rw [PyData.showable, decide_eq_true_iff, Int.natAbs_natCast]
    by_cases h0 : n = 0
    · subst h0
      decide
    · exact Nat.lt_of_lt_of_le ((Nat.log2_lt h0).mpr (Nat.lt_of_le_of_lt h (by decide : 1000 < 2 ^ 10))) (by decide)
  · rw [PyData.leavesShort, decide_eq_true_iff]
    exact PyData.shown_int_le (by rw [Int.natAbs_natCast]; exact Nat.lt_of_le_of_lt h (by decide))
theorem RepD.mono {d : PyData} {k m k' m' : Nat} (h : RepD d k m) (hk : k ≤ k') (hm : m ≤ m') : RepD d k' m' := ⟨h.sh, h.hd, Nat.le_trans h.dp hk, h.ls, Nat.le_trans h.bk hm⟩
theorem rep_all {k m : Nat} : ∀ {ds : List PyData}, (∀ d ∈ ds, RepD d k m) → PyData.showableAll ds = true ∧ PyData.hasDictAll ds = false ∧ PyData.depthAll ds ≤ k ∧ PyData.leavesShortAll 13 ds = true ∧ PyData.bulkAll ds ≤ ds.length * (m + 1)
  | [], _ => ⟨rfl, rfl, Nat.zero_le _, rfl, Nat.zero_le _⟩
  | d :: ds, h => by
    have h1 := h d (List.mem_cons_self ..)
    obtain ⟨a, b, c, e, f⟩ := rep_all (ds := ds) fun x hx => h x (List.mem_cons_of_mem _ hx)
    refine ⟨?_, ?_, ?_, ?_, ?_⟩
    · rw [PyData.showableAll, h1.sh, a]
      rfl
    · rw [PyData.hasDictAll, h1.hd, b]
      rfl
    · rw [PyData.depthAll]
      have := h1.dp
      omega
    · rw [PyData.leavesShortAll, h1.ls, e]
      rfl
    · rw [PyData.bulkAll, List.length_cons, Nat.succ_mul]
      have := h1.bk
      omega
theorem RepD.list {ds : List PyData} {k m : Nat} (h : ∀ d ∈ ds, RepD d k m) : RepD (.list ds) (k + 1) (ds.length * (m + 1)) := by
  obtain ⟨a, b, c, e, f⟩ := rep_all h
  exact ⟨by rw [PyData.showable]; exact a, by rw [PyData.hasDict]; exact b, by rw [PyData.depth]; omega, by rw [PyData.leavesShort]; exact e, by rw [PyData.bulk]; exact f⟩
theorem RepD.tuple {ds : List PyData} {k m : Nat} (h : ∀ d ∈ ds, RepD d k m) : RepD (.tuple ds) (k + 1) (ds.length * (m + 1)) := by
  obtain ⟨a, b, c, e, f⟩ := rep_all h
  exact ⟨by rw [PyData.showable]; exact a, by rw [PyData.hasDict]; exact b, by rw [PyData.depth]; omega, by rw [PyData.leavesShort]; exact e, by rw [PyData.bulk]; exact f⟩
theorem RepD.two {d e : PyData} {k m n : Nat} (h : RepD d k m) (h' : RepD e k n) : RepD (.list [d, e]) (k + 1) (m + n + 2) := by
  refine ⟨?_, ?_, ?_, ?_, ?_⟩
  · rw [PyData.showable, PyData.showableAll, PyData.showableAll, h.sh, h'.sh]
    rfl
  · rw [PyData.hasDict, PyData.hasDictAll, PyData.hasDictAll, h.hd, h'.hd]
    rfl
  · rw [PyData.depth, PyData.depthAll, PyData.depthAll]
    have := h.dp
    have := h'.dp
    have : PyData.depthAll [] = 0 := rfl
    omega
  · rw [PyData.leavesShort, PyData.leavesShortAll, PyData.leavesShortAll, h.ls, h'.ls]
    rfl
  · rw [PyData.bulk, PyData.bulkAll, PyData.bulkAll]
    have := h.bk
    have := h'.bk
    have : PyData.bulkAll [] = 0 := rfl
    omega
theorem rep_pd {l : List Nat} (h : ∀ n ∈ l, n ≤ 1000) (hl : l.length ≤ 1001) : RepD (pd l) 1 1001 := by
  refine (RepD.tuple (k := 0) (m := 0) fun d hd => ?_).mono (Nat.le_refl _) ?_
  · obtain ⟨n, hn, rfl⟩ := List.mem_map.mp hd
    exact RepD.int (h n hn)
  · rw [List.length_map]
    omega
theorem rep_small {L : List (List Nat)} (h : Small L) : ∀ d ∈ L.map pd, RepD d 1 1001 := fun d hd => by
  obtain ⟨l, hl, rfl⟩ := List.mem_map.mp hd
  exact rep_pd (h l hl).2 (small_len (h l hl).1 (h l hl).2)
/-- picks of a tuple at some places -/
theorem pick_at (qs : List (Addr × List Nat)) : ∀ l : List Nat, (∀ i ∈ l, i < qs.length) → ∃ ps : List (Addr × List Nat), l.filterMap (fun j => (qs[j]?).map fun p => V.ref p.1) = rf ps ∧ (∀ p ∈ ps, p ∈ qs) ∧ ps.length = l.length ∧ (sn ps).map mk = l.map fun i => sel ((sn qs).map mk) (2 ^ i)
  | [], _ => ⟨[], rfl, fun _ h => by simp at h, rfl, rfl⟩
  | i :: l, hl => by
    obtain ⟨ps, h1, h2, h3, h4⟩ := pick_at qs l fun j hj => hl j (List.mem_cons_of_mem _ hj)
    have hb := hl i (List.mem_cons_self ..)
    have hp : qs[i]? = some qs[i] := List.getElem?_eq_getElem hb
    refine ⟨qs[i] :: ps, ?_, fun p hp' => ?_, by rw [List.length_cons, List.length_cons, h3], ?_⟩
    · rw [List.filterMap_cons, hp, h1]
      rfl
    · rcases List.mem_cons.mp hp' with rfl | h
      · exact List.getElem_mem hb
      · exact h2 p h
    · rw [List.map_cons, ← h4]
      have : ((sn qs).map mk)[i]? = some (mk qs[i].2) := by
        rw [List.getElem?_map, sn_get hp]
        rfl
      rw [sel_one this]
      rfl
theorem pick_fm (t : List Nat) (qs : List (Addr × List Nat)) : (List.range (nv t).length).filterMap (fun i => ((t[i]?).bind fun j => qs[j]?).map fun p => V.ref p.1) = t.filterMap (fun j => (qs[j]?).map fun p => V.ref p.1) := by
  rw [nv_len]
  refine Eq.trans ?_ (range_fmb (fun j => (qs[j]?).map fun p => V.ref p.1) t)
  congr 1
  funext i
  cases t[i]? with
  | none => rfl
  | some j => rfl
/-- what summands gave: none or a tuple -/
def Res (K : PySem.W.Frag) (L : List (List Nat)) (g : List Nat) (H : Hp) (v : V) : Prop := (v = .non ∧ sumT (L.map mk) (mk g) = none ∧ ¬ Span (L.map mk) (mk g)) ∨
  ∃ p t, v = .ref p ∧ Nts K H p t ∧ sumT (L.map mk) (mk g) = some t ∧ Asc t ∧ (∀ i ∈ t, i < L.length) ∧ sel (L.map mk) (mk t) = mk g
theorem Res.mono {K : PySem.W.Frag} {L : List (List Nat)} {g : List Nat} {H H' : Hp} {v : V} (h : Res K L g H v) (s : Same H H') : Res K L g H' v :=
  h.imp id fun ⟨p, t, a, b, c⟩ => ⟨p, t, a, s.seqT b, c⟩
/-- as data -/
def resD (L : List (List Nat)) (g : List Nat) : PyData := match sumT (L.map mk) (mk g) with
  | none => .none
  | some t => pd t
theorem Res.data {K : PySem.W.Frag} {L : List (List Nat)} {g : List Nat} {H : Hp} {v : V} (h : Res K L g H v) (hL : L.length ≤ 1000) : Dp K H v (resD L g) ∧ (v = .non ∨ ∃ a, v = .ref a) ∧ RepD (resD L g) 1 1001 := by
  unfold resD
  rcases h with ⟨rfl, h, _⟩ | ⟨p, t, rfl, hn, h, ha, hb, _⟩
  · rw [h]
    exact ⟨.non, .inl rfl, RepD.none.mono (by decide) (by decide)⟩
  · rw [h]
    have hb' : ∀ n ∈ t, n ≤ 1000 := fun n hn => by have := hb n hn; omega
    exact ⟨dp_nts hn, .inr ⟨p, rfl⟩, rep_pd hb' (small_len ha hb')⟩
-- _law_is_told: slots 0=_law_heap_here 1=_law_goal_here 2=_law_is_due 3=_law_known 4=_law_found 5=_law_again 6=_law_at; cells _law_heap_here
abbrev s_law_is_told : Stmt := topS 44
abbrev N_law_is_told : List Str := ["_law_heap_here", "_law_goal_here", "_law_is_due", "_law_known", "_law_found", "_law_again", "_law_at"]
theorem sc_law_is_told : FnScope N_law_is_told ["_law_heap_here", "_law_goal_here", "_law_is_due"] (defScope s_law_is_told) := ⟨rfl, rfl, rfl, by decide +kernel, rfl, by decide +kernel, by decide +kernel⟩
-- _law_by_sums: slots 0=_law_lake_here 1=_law_heap_here 2=_law_due 3=_law_cut 4=_law_found; cells 
abbrev s_law_by_sums : Stmt := topS 45
abbrev N_law_by_sums : List Str := ["_law_lake_here", "_law_heap_here", "_law_due", "_law_cut", "_law_found"]
theorem sc_law_by_sums : FnScope N_law_by_sums ["_law_lake_here", "_law_heap_here"] (defScope s_law_by_sums) := ⟨rfl, rfl, rfl, by decide +kernel, rfl, by decide +kernel, by decide +kernel⟩
section
variable {P : Program} {w : World} {K : PySem.W.Frag} {mg : Str → Option Value} {base : Heap} {mt : Nat}
def sp_law_is_told (K : PySem.W.Frag) : Sp := fun vs H Q _ => ∃ (a b : Addr) (due : Bool) (L : List (List Nat)) (g : List Nat), vs = [.ref a, .ref b, .bl due] ∧ Pks K H a L ∧ L.length ≤ 1000 ∧ Small L ∧ Nts K H b g ∧ Asc g ∧ (∀ n ∈ g, n ≤ 1000) ∧ (due = true ↔ Span (L.map mk) (mk g)) ∧
  ∀ H', Same H H' → Q (.bl true) H'
theorem ok_law_is_told {f : Addr} {fd : FuncData} (F : Fun K "_law_is_told" "_law_is_told" s_law_is_told f fd) (T : Bi mg mt) (csummands : C8.Cal P w K mg base 2 "summands" (sp_summands K) []) (c_law_holds : C8.Cal P w K mg base 2 "_law_holds" (sp_law_holds K) []) (csum_of : C8.Cal P w K mg base 1 "sum_of" (sp_sum_of K) []) (kw_summands : CalK P w K mg base 2 "summands" ["pick", "picks"] gv2 (sp_summands K)) : FnG P w K mg base CX0 3 f fd ["_law_heap_here", "_law_goal_here", "_law_is_due"] (sp_law_is_told K) := by
  refine okG F sc_law_is_told (fun vs H Q E h => ?_) (fun cdv A outer s H vs Q E hgu hr hcd h => ?_)
  · obtain ⟨a, b, due, L, g, rfl, _⟩ := h
    rfl
  · obtain ⟨a, b, due, L, g, rfl, hS, hL, hA, hG, hg1, hg2, hdue, k⟩ := h
    have hu64 := hr.units
    obtain ⟨qs, rfl, hT, hg⟩ := id hS
    have hrep : RepD (.list [.tuple ((sn qs).map pd), pd g]) 3 1048576 := by
      have h1 := RepD.tuple (rep_small hA)
      have h2 := (rep_pd hg2 (small_len hg1 hg2)).mono (show 1 ≤ 1 + 1 by decide) (Nat.le_refl _)
      refine (RepD.two h1 h2).mono (by decide) ?_
      rw [List.length_map]
      have := Nat.mul_le_mul_right (1001 + 1) hL
      omega
    have hdp : ∀ H' l, Same H H' → H' l = some (.lst [.ref a, .ref b]) → Dp K H' (.ref l) (.list [.tuple ((sn qs).map pd), pd g]) := fun H' l s e =>
      .lst (SqL.of e) (.cons (.tup (s.seqT hT) (dp_tg qs (hg.mono mo_nts s))) (.cons (dp_nts (s.seqT hG)) .nil))
    refine ⟨_, (pss_cons (ps_set (i := 3) sc_law_is_told.nd rfl (Or.inl rfl) (pe_callB (call_rep hgu hu64) (by rfl) T.repr (by decide +kernel) (pa_cons (pe_lst (pa_cons (pv 0) (pa_cons (pv 1) pa_nil))) pa_nil)))
      (C8.pss_cut (ps_par (i := 4) (j := 5) (by rfl) sc_law_is_told.nd rfl rfl (by decide) rfl rfl (pa_cons (C8.pe_c csummands hr (by decide) (by rfl) (pa_cons (pv 0) (pa_cons (pv 1) pa_nil))) (pa_cons (pe_callKwC kw_summands hr (by decide) (by rfl) (pk_cons (pv 1) (pk_cons (pv 0) pk_nil))) pa_nil)) (by rfl))
      (pss_cons (ps_if (PW.pt (pw_or (pt_cmpR op_ne (pe_callB (call_rep hgu hu64) (by rfl) T.repr (by decide +kernel) (pa_cons (pv 4) pa_nil)) (pe_callB (call_rep hgu hu64) (by rfl) T.repr (by decide +kernel) (pa_cons (pv 5) pa_nil)) (nomark _)) (pw_or1 (pt_cmpR op_ne (pe_callB (call_rep hgu hu64) (by rfl) T.repr (by decide +kernel) (pa_cons (pe_lst (pa_cons (pv 0) (pa_cons (pv 1) pa_nil))) pa_nil)) (pv 3) (nomark _)))))
        (pss_one (ps_ret pe_bl))
        pss_nil)
      (pss_cons (ps_if (pt_not (pt_val (pv 2)))
        (pss_one (ps_ret (pe_cmpR op_isN (pv 4) pe_non (nomark _))))
        pss_nil)
      (pss_cons (ps_if (pt_not (pt_val (C8.pe_c c_law_holds hr (by decide) (by rfl) (pa_cons (pv 0) (pa_cons (pv 1) (pa_cons (pv 4) pa_nil))))))
        (pss_one (ps_ret pe_bl))
        pss_nil)
      (pss_one (ps_ret (pe_cmpR op_eq (pe_callB (call_rep hgu hu64) (by rfl) T.repr (by decide +kernel) (pa_cons (C8.pe_c csum_of hr (by decide) (by rfl) (pa_cons (pe_tupleOf (by rfl) T.tuple (pe_lc (own := [("_law_at", 6)]) rfl sc_law_is_told.nd (pi_tup (pv 4)) (blkOk_by (N := N_law_is_told) (sc := (defScope s_law_is_told)) (by decide +kernel)) (fun _ _ _ _ _ => (pg_name (i := 6) sc_law_is_told.nd rfl (Or.inl rfl))) (fun _ _ _ _ _ => pts_nil) (fun _ _ _ _ _ => (pe_ix (ix_tupK K) (pv 0) (pv 6) (fun _ _ => rfl))))) pa_nil)) pa_nil)) (pe_callB (call_rep hgu hu64) (by rfl) T.repr (by decide +kernel) (pa_cons (pv 1) pa_nil)) (nomark _))))))))), ?_⟩
    refine ⟨.ref a, rfl, .ref b, rfl, by show 2 ≤ sizeLine; decide, fun l hl => ?_⟩
    have s1 := same_new (o := .lst [.ref a, .ref b]) hl
    refine ⟨.ref l, _, rfl, hdp _ l s1 upd_same, .inr ⟨l, rfl⟩, hrep.sh, hrep.hd, Nat.le_trans hrep.dp (by decide), hrep.fits (Nat.le_refl _), ?_⟩
    generalize upd H l (.lst [.ref a, .ref b]) = H1 at s1 ⊢
    -- found, again
    refine ⟨fun σ' H' => ∃ v5 v6, σ' = [some (.ref a), some (.ref b), some (.bl due), some (.str (showV (.list [.tuple ((sn qs).map pd), pd g]))), some v5, some v6, none] ∧ Same H H' ∧ Res K (sn qs) g H' v5 ∧ Res K (sn qs) g H' v6, ?_, ?_⟩
    · have again : ∀ H2 v5, Same H H2 → Res K (sn qs) g H2 v5 → sp_summands K [.ref a, .ref b] H2 (fun x H3 => ∃ v w, [v5, x] = [v, w] ∧ ∃ u6 u7, ((([some (V.ref a), some (V.ref b), some (V.bl due), some (V.str (showV (.list [.tuple ((sn qs).map pd), pd g]))), none, none, none].set 4 (some v)).set 5 (some w)) = [some (.ref a), some (.ref b), some (.bl due), some (.str (showV (.list [.tuple ((sn qs).map pd), pd g]))), some u6, some u7, none]) ∧ Same H H3 ∧ Res K (sn qs) g H3 u6 ∧ Res K (sn qs) g H3 u7) C8.E0 := by
        intro H2 v5 s2 h5
        refine ⟨a, b, sn qs, g, rfl, mo_pks _ _ _ _ s2 hS, hL, hA, s2.seqT hG, hg1, hg2, fun hsp hT' H3 s3 => ?_, fun p H3 t s3 hn ha hb hsel hT' => ?_⟩
        · exact ⟨_, _, rfl, v5, .non, rfl, s2.trans s3, h5.mono s3, .inl ⟨rfl, hT', hsp⟩⟩
        · exact ⟨_, _, rfl, v5, .ref p, rfl, s2.trans s3, h5.mono s3, .inr ⟨p, t, rfl, hn, hT', ha, hb, hsel⟩⟩
      refine ⟨.ref a, rfl, .ref b, rfl, a, b, sn qs, g, rfl, mo_pks _ _ _ _ s1 hS, hL, hA, s1.seqT hG, hg1, hg2, fun hsp hT' H2 s2 => ?_, fun p H2 t s2 hn ha hb hsel hT' => ?_⟩
      · exact ⟨.ref b, rfl, .ref a, rfl, again H2 .non (s1.trans s2) (.inl ⟨rfl, hT', hsp⟩)⟩
      · exact ⟨.ref b, rfl, .ref a, rfl, again H2 (.ref p) (s1.trans s2) (.inr ⟨p, t, rfl, hn, hT', ha, hb, hsel⟩)⟩
    · rintro σ1 H2 ⟨v5, v6, rfl, s2, r5, r6⟩
      obtain ⟨d5, k5, rp⟩ := r5.data hL
      obtain ⟨d6, k6, _⟩ := r6.data hL
      -- repr(found) != repr(again)
      refine ⟨v5, rfl, v5, _, rfl, d5, k5, rp.sh, rp.hd, Nat.le_trans rp.dp (by decide), rp.fits (by decide), v6, rfl, v6, _, rfl, d6, k6, rp.sh, rp.hd, Nat.le_trans rp.dp (by decide), rp.fits (by decide), rfl, _, rfl, ?_⟩
      rw [decide_eq_true rfl]
      refine iteF ?_
      -- repr([heap, goal]) != known
      refine ⟨.ref a, rfl, .ref b, rfl, by show 2 ≤ sizeLine; decide, fun l2 hl2 => ?_⟩
      have s3 := s2.trans (same_new (o := .lst [.ref a, .ref b]) hl2)
      have r5' := r5.mono (same_new (o := .lst [.ref a, .ref b]) hl2)
      refine ⟨.ref l2, _, rfl, hdp _ l2 s3 upd_same, .inr ⟨l2, rfl⟩, hrep.sh, hrep.hd, Nat.le_trans hrep.dp (by decide), hrep.fits (Nat.le_refl _), _, rfl, rfl, _, rfl, ?_⟩
      rw [decide_eq_true rfl]
      refine iteF ?_
      generalize upd H2 l2 (.lst [.ref a, .ref b]) = H3 at s3 r5' ⊢
      -- if not is_due
      refine ⟨.bl due, rfl, due, rfl, ?_⟩
      cases hd : due with
      | false =>
        refine iteT ?_
        have hns : ¬ Span ((sn qs).map mk) (mk g) := fun z => by
          have := hdue.mpr z
          rw [hd] at this
          cases this
        rcases r5' with ⟨rfl, _, _⟩ | ⟨p, t, rfl, hn, _, ha, hb, hsel⟩
        · exact ⟨.non, rfl, rfl, k _ s3⟩
        · exact absurd ⟨_, hsel⟩ hns
      | true =>
        refine iteF ?_
        have hsp := hdue.mp hd
        rcases r5' with ⟨rfl, _, h⟩ | ⟨p, t, rfl, hn, _, ha, hb, hsel⟩
        · exact absurd hsp h
        have htl : t.length ≤ 1000 := Nat.le_trans (nat_nodup (sn qs).length t (ha.imp fun h => Nat.ne_of_lt h) hb) hL
        -- if not holds
        refine ⟨.ref a, rfl, .ref b, rfl, .ref p, rfl, a, b, p, sn qs, g, t, rfl, mo_pks _ _ _ _ s3 hS, hL, hA, s3.seqT hG, hg1, hn, ha, hb, hsel, fun H4 s4 => ⟨true, rfl, iteF ?_⟩⟩
        have s4' := s3.trans s4
        have hn4 := s4.seqT hn
        -- repr(sum_of(tuple(..))) == repr(goal)
        refine ⟨.ref p, rfl, p, rfl, ⟨_, hn4⟩, fun D hD => ?_⟩
        refine lc_acc walk_tup (fun i => ((t[i]?).bind fun j => qs[j]?).map fun p => V.ref p.1) (by rw [nv_len]; omega) hD (fun _ s => s.seqT hn4) (fun i x H6 H7 Ky Kn hi s6 y ky kn => ?_) fun H6 s6 e => ?_
        · obtain ⟨rfl, hx⟩ := y
          obtain ⟨n, hn', rfl⟩ := nv_get hx
          have hb' := hb n (mem_at hn')
          rw [sn_len] at hb'
          have hp : qs[n]? = some qs[n] := List.getElem?_eq_getElem hb'
          refine ⟨rfl, .ref a, rfl, _, rfl, a, _, _, _, rfl, rfl, s6.seqT (s4'.seqT hT), atI_nat (rf_at hp), ky _ _ ?_ (Same.refl _)⟩
          rw [hn', Option.bind_some, hp]
          rfl
        · obtain ⟨ps, h1, h2, h3, h4⟩ := pick_at qs t fun i hi => by
            rw [← sn_len]
            exact hb i hi
          rw [pick_fm, h1] at e
          have hsm : Small (sn ps) := fun l hl => by
            obtain ⟨p, hp, rfl⟩ := List.mem_map.mp hl
            exact hA p.2 (List.mem_map.mpr ⟨p, h2 p hp, rfl⟩)
          refine .inl ⟨D, _, rfl, SqL.of e, fun q hq => ?_⟩
          have sq := same_new (o := .tup (rf ps)) hq
          have s7 := (s4'.trans s6).trans sq
          refine ⟨q, sn ps, rfl, ⟨ps, rfl, SqT.of upd_same, fun p hp => mo_nts _ _ _ _ s7 (hg p (h2 p hp))⟩, by rw [sn_len, h3]; exact htl, hsm, fun r H8 u s8 hu8 hau hmk hub => ?_⟩
          have eu : u = g := mk_inj hau hg1 (by rw [hmk, h4, ← sel_asc ha, hsel])
          subst eu
          have rg := rep_pd hg2 (small_len hg1 hg2)
          have e1 : showV (pd u) = (pd u).shown := rfl
          refine ⟨.ref r, pd u, rfl, dp_nts hu8, .inr ⟨r, rfl⟩, rg.sh, rg.hd, Nat.le_trans rg.dp (by decide), rg.fits (by decide), .ref b, rfl, .ref b, pd u, rfl, dp_nts ((s7.trans s8).seqT hG), .inr ⟨b, rfl⟩, rg.sh, rg.hd, Nat.le_trans rg.dp (by decide), rg.fits (by decide), rfl, ?_⟩
          rw [decide_eq_true rfl]
          exact k _ (s7.trans s8)
theorem cut_rf2 {α : Type} (ps : List (Addr × α)) {k : Nat} (h : k ≤ ps.length) : cutV (rf ps) (some ((k : Nat) : Int)) none = rf (ps.drop k) := by
  unfold cutV
  rw [HT.sIx_none, HT.sIx_nat, rf_len, Nat.min_eq_left h]
  unfold rf
  rw [← List.map_drop, List.take_of_length_le (by rw [List.length_map, List.length_drop]; exact Nat.le_refl _)]
def sp_law_by_sums (K : PySem.W.Frag) : Sp := fun vs H Q _ => ∃ (G : Hp) (p f h : Addr) (T : Nat) (L : List (List Nat)), vs = [.ref p, .ref h] ∧ Lake K G H p f T ∧ Pks K (wol [p, f] H) h L ∧ L.length ≤ 100 ∧ Small L ∧ T + 10000 ≤ 1000000000 ∧
  ∀ H', Lake K G H' p f (T + 200) → Same (wol [p, f] H) (wol [p, f] H') → Q (.bl true) H'
theorem asc_nil {t : List Nat} (h : Asc t) (e : mk t = 0) : t = [] := mk_inj h List.Pairwise.nil e
theorem small_take {L : List (List Nat)} (h : Small L) {k : Nat} : Small (L.take k) := fun l hl => h l (List.mem_of_mem_take hl)
theorem small_drop {L : List (List Nat)} (h : Small L) {k : Nat} : Small (L.drop k) := fun l hl => h l (List.mem_of_mem_drop hl)
theorem ok_law_by_sums {f : Addr} {fd : FuncData} (F : Fun K "_law_by_sums" "_law_by_sums" s_law_by_sums f fd) (T : Bi mg mt) (c_law_sum : C8.Cal P w K mg base 1 "_law_sum" (sp_law_sum K) []) (c_law_draw : C8.Cal P w K mg base 1 "_law_draw" (sp_law_draw K) []) (csum_of : C8.Cal P w K mg base 1 "sum_of" (sp_sum_of K) []) (c_law_mixed : C8.Cal P w K mg base 2 "_law_mixed" (sp_law_mixed K) []) (kw_sum_of : CalK P w K mg base 1 "sum_of" ["picks"] gv1 (sp_sum_of K)) : FnG P w K mg base CX0 3 f fd ["_law_lake_here", "_law_heap_here"] (sp_law_by_sums K) := by
  refine okG F sc_law_by_sums (fun vs H Q E h => ?_) (fun cdv A outer s H vs Q E hgu hr hcd h => ?_)
  · obtain ⟨G, p, f, h, T, L, rfl, _⟩ := h
    rfl
  · obtain ⟨G, p, f, h, U, L, rfl, hL, hP, hl, hS, hU, k⟩ := h
    have hu64 := hr.units
    obtain ⟨ps, rfl, hT, htg⟩ := id hP
    have hpl : ps.length ≤ 100 := by rw [← sn_len]; exact hl
    refine ⟨_, (pss_cons (ps_par (i := 2) (j := 3) (by rfl) sc_law_by_sums.nd rfl rfl (by decide) rfl rfl (pa_cons (C8.pe_c c_law_sum hr (by decide) (by rfl) (pa_cons (pv 1) pa_nil)) (pa_cons (C8.pe_c c_law_draw hr (by decide) (by rfl) (pa_cons (pv 0) (pa_cons (pe_op op_addN (pe_callB call_len_seq (by rfl) T.len (by decide +kernel) (pa_cons (pv 1) pa_nil)) pe_int) pa_nil))) pa_nil)) (by rfl))
      (pss_cons (ps_set (i := 4) sc_law_by_sums.nd rfl (Or.inl rfl) (pe_lst (pa_cons (C8.pe_c csum_of hr (by decide) (by rfl) (pa_cons (pv 1) pa_nil)) (pa_cons (pe_callKwC kw_sum_of hr (by decide) (by rfl) (pk_cons (pe_tupleOf (by rfl) T.tuple (C8.pe_c c_law_mixed hr (by decide) (by rfl) (pa_cons (pv 0) (pa_cons (pv 1) pa_nil)))) pk_nil)) pa_nil))))
      (pss_cons (ps_set (i := 4) sc_law_by_sums.nd rfl (Or.inl rfl) (pe_op op_cat (pv 4) (pe_lst (pa_cons (C8.pe_c csum_of hr (by decide) (by rfl) (pa_cons (pe_tup (pa_cons (C8.pe_c csum_of hr (by decide) (by rfl) (pa_cons (pe_slice sl_tupN (pv 1) po_none (po_some (pv 3))) pa_nil)) (pa_cons (C8.pe_c csum_of hr (by decide) (by rfl) (pa_cons (pe_slice sl_tupN (pv 1) (po_some (pv 3)) po_none) pa_nil)) pa_nil))) pa_nil)) (pa_cons (C8.pe_c csum_of hr (by decide) (by rfl) (pa_cons (pe_op op_catN (pv 1) (pv 1)) pa_nil)) (pa_cons (C8.pe_c csum_of hr (by decide) (by rfl) (pa_cons (pe_op op_catN (pv 1) (pe_tup (pa_cons (pv 2) pa_nil))) pa_nil)) pa_nil))))))
      (pss_one (ps_ret (pe_cmpR op_eq (pe_callB (call_rep hgu hu64) (by rfl) T.repr (by decide +kernel) (pa_cons (pv 4) pa_nil)) (pe_callB (call_rep hgu hu64) (by rfl) T.repr (by decide +kernel) (pa_cons (pe_lst (pa_cons (pv 2) (pa_cons (pv 2) (pa_cons (pv 2) (pa_cons (pe_tup pa_nil) (pa_cons (pe_tup pa_nil) pa_nil)))))) pa_nil)) (nomark _))))))), ?_⟩
    -- due, cut
    refine ⟨.ref h, rfl, h, sn ps, rfl, .inr (mo_pks _ _ _ _ wol_le hP), by omega, hS, fun dr H1 u s1 hu1 hau hmu hub => ?_⟩
    have hL1 := hL.new s1
    refine ⟨.ref p, rfl, .ref h, rfl, h, _, rfl, .inr ((wol_le.trans s1).seqT hT), (rf ps).length, 1, rfl, rfl, G, p, f, (rf ps).length + 1, U, rfl, hL1, by rw [rf_len]; omega, by omega, fun H2 cut hL2 s2 hcut => ?_⟩
    refine ⟨_, _, rfl, ?_⟩
    have hcut' : cut ≤ ps.length := by
      rw [rf_len] at hcut
      omega
    have w2 := (wol_mono s1).trans s2
    have hu2 : Nts K (wol [p, f] H2) dr u := s2.seqT (hL1.tup hu1)
    -- found
    refine ⟨.ref h, rfl, h, sn ps, rfl, mo_pks _ _ _ _ (w2.trans wol_le) hP, by omega, hS, fun a1 H3 t1 s3 ht1 ha1 hm1 hb1 => ?_⟩
    have hL3 := hL2.new s3
    have w3 := w2.trans (wol_mono s3)
    have et1 : t1 = u := mk_inj ha1 hau (by rw [hm1, hmu])
    subst et1
    refine ⟨.ref p, rfl, .ref h, rfl, G, p, f, h, rf ps, _, rfl, hL3, .inr (w3.seqT hT), by rw [rf_len]; omega, by omega, fun H4 r ys hys h4 ho hno hL4 s4 => ?_⟩
    obtain ⟨qs, hqs, rfl⟩ := perm_lift (fun x : Addr × List Nat => V.ref x.1) hys rfl
    have w4 := w3.trans s4
    refine .inl ⟨r, _, rfl, SqL.of h4, fun q hq => ?_⟩
    have sq := same_new (o := .tup (rf qs)) hq
    have w5 := w4.trans (wol_mono sq)
    have hsq : Small (sn qs) := fun l hl => by
      obtain ⟨x, hx, rfl⟩ := List.mem_map.mp hl
      exact hS x.2 (List.mem_map.mpr ⟨x, hqs.mem_iff.mp hx, rfl⟩)
    refine ⟨q, sn qs, rfl, ⟨qs, rfl, SqT.of upd_same, fun x hx => mo_nts _ _ _ _ (w5.trans wol_le) (htg x (hqs.mem_iff.mp hx))⟩, by rw [sn_len, hqs.length_eq]; omega, hsq, fun a2 H6 t2 s6 ht2 ha2 hm2 hb2 => ?_⟩
    have et2 : t2 = t1 := mk_inj ha2 ha1 (by rw [hm2, hm1]; exact xl_perm (List.Perm.map mk (show (sn qs).Perm (sn ps) from List.Perm.map (fun x : Addr × List Nat => x.2) hqs)))
    subst et2
    have hL6 := hL4.new (sq.trans s6)
    have w6 := w5.trans (wol_mono s6)
    have ht16 : Nts K H6 a1 t2 := wol_le.seqT ((wol_mono (sq.trans s6)).seqT (s4.seqT (hL3.tup ht1)))
    have hu6 : Nts K H6 dr t2 := wol_le.seqT ((wol_mono (sq.trans s6)).seqT (s4.seqT ((wol_mono s3).seqT hu2)))
    refine ⟨by show 2 ≤ sizeLine; decide, fun l1 hl1 => ?_⟩
    have sl1 := same_new (o := .lst [.ref a1, .ref a2]) hl1
    have el1 := upd_same (H := H6) (a := l1) (o := .lst [.ref a1, .ref a2])
    have hP6 := mo_pks _ _ _ _ ((w6.trans wol_le).trans sl1) hP
    have hT6 := ((w6.trans wol_le).trans sl1).seqT hT
    have htg6 := htg.mono mo_nts ((w6.trans wol_le).trans sl1)
    have d1 := sl1.seqT ht16
    have d2 := sl1.seqT ht2
    have d0 := sl1.seqT hu6
    have hL7 := hL6.new sl1
    have w7 := w6.trans (wol_mono sl1)
    generalize upd H6 l1 (.lst [.ref a1, .ref a2]) = H7 at el1 hP6 hT6 htg6 d1 d2 d0 hL7 w7 ⊢
    clear sl1 hu6 ht16 w6 hL6 s6 ht2 w5 sq hq hsq w4 s4 hL4 w3 hL3 s3 ht1 hu2 w2 s2 hL2 hL1 hu1
    -- found + [..]
    refine ⟨.ref l1, rfl, .ref h, rfl, _, rfl, (cut : Int), rfl, h, rf ps, rfl, hT6, fun q1 H8 s8 hq1 => ?_⟩
    rw [cut_rf] at hq1
    refine ⟨q1, sn (ps.take cut), rfl, ⟨ps.take cut, rfl, hq1, fun x hx => mo_nts _ _ _ _ s8 (htg6 x (List.mem_of_mem_take hx))⟩, by rw [sn_len, List.length_take]; omega, ?_, fun b1 H9 v1 s9 hv1 hva1 hvm1 hvb1 => ?_⟩
    · have := small_take (k := cut) hS
      rw [show (sn ps).take cut = sn (ps.take cut) by simp [sn, List.map_take]] at this
      exact this
    have s79 := s8.trans s9
    refine ⟨.ref h, rfl, _, rfl, (cut : Int), rfl, h, rf ps, rfl, s79.seqT hT6, fun q2 H10 s10 hq2 => ?_⟩
    rw [cut_rf2 ps hcut'] at hq2
    refine ⟨q2, sn (ps.drop cut), rfl, ⟨ps.drop cut, rfl, hq2, fun x hx => mo_nts _ _ _ _ (s79.trans s10) (htg6 x (List.mem_of_mem_drop hx))⟩, by rw [sn_len, List.length_drop]; omega, ?_, fun b2 H11 v2 s11 hv2 hva2 hvm2 hvb2 => ?_⟩
    · have := small_drop (k := cut) hS
      rw [show (sn ps).drop cut = sn (ps.drop cut) by simp [sn, List.map_drop]] at this
      exact this
    have s711 := (s79.trans s10).trans s11
    refine ⟨by show 2 ≤ sizeLine; decide, fun q3 hq3 => ?_⟩
    have sq3 := same_new (o := .tup [.ref b1, .ref b2]) hq3
    refine ⟨q3, [v1, v2], rfl, ⟨[(b1, v1), (b2, v2)], rfl, SqT.of upd_same, fun x hx => ?_⟩, by show 2 ≤ 1000; decide, fun l hl => ?_, fun a3 H12 t3 s12 ht3 ha3 hm3 hb3 => ?_⟩
    · rcases List.mem_cons.mp hx with rfl | hx
      · exact ((s10.trans s11).trans sq3).seqT hv1
      · rw [List.mem_singleton.mp hx]
        exact sq3.seqT hv2
    · rcases List.mem_cons.mp hl with rfl | hl
      · exact ⟨hva1, hvb1⟩
      · rw [List.mem_singleton.mp hl]
        exact ⟨hva2, hvb2⟩
    have et3 : t3 = t2 := by
      refine mk_inj ha3 ha2 ?_
      rw [hm3, hm1]
      show mk v1 ^^^ (mk v2 ^^^ 0) = _
      rw [Nat.xor_zero, hvm1, hvm2, ← xl_append, ← List.map_append]
      congr 2
      have : sn (ps.take cut) ++ sn (ps.drop cut) = sn (ps.take cut ++ ps.drop cut) := by simp [sn]
      rw [this, List.take_append_drop]
    subst et3
    have s712 := (s711.trans sq3).trans s12
    -- heap + heap
    refine ⟨.ref h, rfl, .ref h, rfl, h, h, rf ps, rf ps, rfl, rfl, s712.seqT hT6, s712.seqT hT6, by rw [rf_len, sizeLine_eq]; omega, fun q4 H13 s13 hq4 => ?_⟩
    have e4 : rf ps ++ rf ps = rf (ps ++ ps) := by simp [rf]
    rw [e4] at hq4
    refine ⟨q4, sn (ps ++ ps), rfl, ⟨ps ++ ps, rfl, hq4, fun x hx => ?_⟩, by rw [sn_len, List.length_append]; omega, fun l hl => ?_, fun a4 H14 t4 s14 ht4 ha4 hm4 hb4 => ?_⟩
    · have : x ∈ ps := by
        rcases List.mem_append.mp hx with h | h <;> exact h
      exact mo_nts _ _ _ _ (s712.trans s13) (htg6 x this)
    · have : l ∈ sn ps := by
        have h' : l ∈ sn ps ++ sn ps := by simpa [sn] using hl
        rcases List.mem_append.mp h' with h | h <;> exact h
      exact hS l this
    have et4 : t4 = [] := by
      refine asc_nil ha4 ?_
      rw [hm4, show sn (ps ++ ps) = sn ps ++ sn ps by simp [sn], List.map_append, xl_append, Nat.xor_self]
    subst et4
    have s714 := (s712.trans s13).trans s14
    -- heap + (due,)
    refine ⟨.ref h, rfl, .ref dr, rfl, by show 1 ≤ sizeLine; decide, fun q5 hq5 => ?_⟩
    have sq5 := same_new (o := .tup [.ref dr]) hq5
    refine ⟨h, q5, rf ps, [.ref dr], rfl, rfl, (s714.trans sq5).seqT hT6, SqT.of upd_same, by rw [rf_len, sizeLine_eq]; show ps.length + 1 ≤ _; omega, fun q6 H15 s15 hq6 => ?_⟩
    have e6 : rf ps ++ [V.ref dr] = rf (ps ++ [(dr, t3)]) := by simp [rf]
    rw [e6] at hq6
    have s715 := (s714.trans sq5).trans s15
    refine ⟨q6, sn (ps ++ [(dr, t3)]), rfl, ⟨ps ++ [(dr, t3)], rfl, hq6, fun x hx => ?_⟩, by rw [sn_len, List.length_append]; show ps.length + 1 ≤ 1000; omega, fun l hl => ?_, fun a5 H16 t5 s16 ht5 ha5 hm5 hb5 => ?_⟩
    · rcases List.mem_append.mp hx with h | h
      · exact mo_nts _ _ _ _ s715 (htg6 x h)
      · rw [List.mem_singleton.mp h]
        exact s715.seqT d0
    · rw [sn_snoc] at hl
      rcases List.mem_append.mp hl with h | h
      · exact hS l h
      · rw [List.mem_singleton.mp h]
        exact ⟨ha3, hb3⟩
    have et5 : t5 = [] := by
      refine asc_nil ha5 ?_
      rw [hm5, sn_snoc, List.map_append, xl_append, ← hm1]
      show mk t3 ^^^ (mk t3 ^^^ 0) = 0
      rw [Nat.xor_zero, Nat.xor_self]
    subst et5
    have s716 := s715.trans s16
    refine ⟨by show 3 ≤ sizeLine; decide, fun l2 hl2 => ?_⟩
    have sl2 := same_new (o := .lst [.ref a3, .ref a4, .ref a5]) hl2
    refine ⟨l1, l2, _, _, rfl, rfl, sl2 _ _ (s716 _ _ el1), upd_same, by show 5 ≤ sizeLine; decide, fun l3 hl3 => ?_⟩
    have sl3 := same_new (o := .lst ([V.ref a1, .ref a2] ++ [.ref a3, .ref a4, .ref a5])) hl3
    have sall := (s716.trans sl2).trans sl3
    have sl23 := sl2.trans sl3
    have dall : Dp K (upd (upd H16 l2 (.lst [.ref a3, .ref a4, .ref a5])) l3 (.lst ([V.ref a1, .ref a2] ++ [.ref a3, .ref a4, .ref a5]))) (.ref l3) (.list [pd t3, pd t3, pd t3, pd [], pd []]) :=
      .lst (SqL.of upd_same) (.cons (dp_nts (sall.seqT d1)) (.cons (dp_nts (sall.seqT d2)) (.cons (dp_nts (((((s13.trans s14).trans sq5).trans s15).trans s16).trans sl23 |>.seqT ht3)) (.cons (dp_nts (((sq5.trans s15).trans s16).trans sl23 |>.seqT ht4)) (.cons (dp_nts (sl23.seqT ht5)) .nil)))))
    have hrep : RepD (.list [pd t3, pd t3, pd t3, pd [], pd []]) 2 10000 := by
      refine (RepD.list (k := 1) (m := 1001) fun d hd => ?_).mono (Nat.le_refl _) (by show 5 * 1002 ≤ 10000; decide)
      have r1 := rep_pd hb3 (small_len ha3 hb3)
      have r0 : RepD (pd []) 1 1001 := rep_pd (fun _ h => by simp at h) (by decide)
      rcases List.mem_cons.mp hd with rfl | hd
      · exact r1
      rcases List.mem_cons.mp hd with rfl | hd
      · exact r1
      rcases List.mem_cons.mp hd with rfl | hd
      · exact r1
      rcases List.mem_cons.mp hd with rfl | hd
      · exact r0
      · rw [List.mem_singleton.mp hd]
        exact r0
    have d0' := sall.seqT d0
    have w8 := w7.trans (wol_mono sall)
    have hL8 := hL7.new sall
    generalize upd (upd H16 l2 (.lst [.ref a3, .ref a4, .ref a5])) l3 (.lst ([V.ref a1, .ref a2] ++ [.ref a3, .ref a4, .ref a5])) = H17 at dall d0' w8 hL8 ⊢
    refine ⟨.ref l3, rfl, .ref l3, _, rfl, dall, .inr ⟨l3, rfl⟩, hrep.sh, hrep.hd, Nat.le_trans hrep.dp (by decide), hrep.fits (by decide), ?_⟩
    refine ⟨.ref dr, rfl, .ref dr, rfl, .ref dr, rfl, Nat.zero_le _, fun x1 hx1 => ⟨Nat.zero_le _, fun x2 hx2 => ⟨by show 5 ≤ sizeLine; decide, fun x3 hx3 => ?_⟩⟩⟩
    have sx1 := same_new (o := .tup []) hx1
    have sx2 := same_new (o := .tup []) hx2
    have sx3 := same_new (o := .lst [.ref dr, .ref dr, .ref dr, .ref x1, .ref x2]) hx3
    have sx := (sx1.trans sx2).trans sx3
    have n1 : Nts K (upd H17 x1 (.tup [])) x1 [] := SqT.of upd_same
    have n2 : Nts K (upd (upd H17 x1 (.tup [])) x2 (.tup [])) x2 [] := SqT.of upd_same
    refine ⟨.ref x3, _, rfl, .lst (SqL.of upd_same) (.cons (dp_nts (sx.seqT d0')) (.cons (dp_nts (sx.seqT d0')) (.cons (dp_nts (sx.seqT d0')) (.cons (dp_nts ((sx2.trans sx3).seqT n1)) (.cons (dp_nts (sx3.seqT n2)) .nil))))), .inr ⟨x3, rfl⟩, hrep.sh, hrep.hd, Nat.le_trans hrep.dp (by decide), hrep.fits (by decide), rfl, ?_⟩
    have : decide (V.str (showV (.list [pd t3, pd t3, pd t3, pd [], pd []])) = V.str (showV (.list [pd t3, pd t3, pd t3, pd [], pd []]))) = true := decide_eq_true rfl
    show Q (.bl (decide (V.str (showV (.list [pd t3, pd t3, pd t3, pd [], pd []])) = V.str (showV (.list [pd t3, pd t3, pd t3, pd [], pd []]))))) _
    rw [this]
    exact k _ ((hL8.new sx).mono (by rw [rf_len]; omega)) (w8.trans (wol_mono sx))
end
end Fb

/-! FbM2 -/
set_option maxHeartbeats 4000000
/-! Webs: even picks and cuts by functions on the spots; first forests. -/
namespace Fb
/-- the ends of a tie -/
def en (E : List (Nat × Nat)) (i : Nat) : Nat × Nat := E.getD i (0, 0)
/-- whether a function differs at the ends of a tie -/
def df (E : List (Nat × Nat)) (f : Nat → Bool) (i : Nat) : Bool := f (en E i).1 ^^ f (en E i).2
def dp (E : List (Nat × Nat)) (f : Nat → Bool) : List Nat → Bool
  | [] => false
  | i :: p => df E f i ^^ dp E f p
def dmk (E : List (Nat × Nat)) (f : Nat → Bool) (m : Nat) : Nat → Bool
  | 0 => false
  | k + 1 => (m.testBit k && df E f k) ^^ dmk E f m k
theorem df_xor (E : List (Nat × Nat)) (f g : Nat → Bool) (i : Nat) : df E (fun x => f x ^^ g x) i = (df E f i ^^ df E g i) := by
  show ((f (en E i).1 ^^ g (en E i).1) ^^ (f (en E i).2 ^^ g (en E i).2)) = ((f (en E i).1 ^^ f (en E i).2) ^^ (g (en E i).1 ^^ g (en E i).2))
  generalize f (en E i).1 = a
  generalize f (en E i).2 = b
  generalize g (en E i).1 = c
  generalize g (en E i).2 = d
  cases a <;> cases b <;> cases c <;> cases d <;> rfl
theorem dmk_xor (E : List (Nat × Nat)) (f : Nat → Bool) (a b : Nat) : ∀ k, dmk E f (a ^^^ b) k = (dmk E f a k ^^ dmk E f b k)
  | 0 => rfl
  | k + 1 => by
    show (((a ^^^ b).testBit k && df E f k) ^^ dmk E f (a ^^^ b) k) = (((a.testBit k && df E f k) ^^ dmk E f a k) ^^ ((b.testBit k && df E f k) ^^ dmk E f b k))
    rw [Nat.testBit_xor, dmk_xor E f a b k]
    cases a.testBit k <;> cases b.testBit k <;> cases df E f k <;> cases dmk E f a k <;> cases dmk E f b k <;> rfl
theorem dmk_zero (E : List (Nat × Nat)) (f : Nat → Bool) : ∀ k, dmk E f 0 k = false
  | 0 => rfl
  | k + 1 => by
    show ((Nat.testBit 0 k && df E f k) ^^ dmk E f 0 k) = false
    rw [dmk_zero E f k, Nat.zero_testBit]
    rfl
theorem dmk_two (E : List (Nat × Nat)) (f : Nat → Bool) (i : Nat) : ∀ k, dmk E f (2 ^ i) k = (decide (i < k) && df E f i)
  | 0 => by simp [dmk]
  | k + 1 => by
    show (((2 ^ i).testBit k && df E f k) ^^ dmk E f (2 ^ i) k) = _
    rw [dmk_two E f i k, two_bit]
    by_cases e : k = i
    · subst e
      simp
    · by_cases h : i < k
      · have : i < k + 1 := by omega
        simp [e, h, this]
      · have : ¬ i < k + 1 := by omega
        simp [e, h, this]
theorem dmk_xl (E : List (Nat × Nat)) (f : Nat → Bool) (k : Nat) : ∀ p : List Nat, (∀ i ∈ p, i < k) → dmk E f (xl (p.map fun n => 2 ^ n)) k = dp E f p
  | [], _ => dmk_zero E f k
  | i :: p, h => by
    rw [List.map_cons, xl_cons, dmk_xor, dmk_two, dmk_xl E f k p fun j hj => h j (List.mem_cons_of_mem _ hj), decide_eq_true (h i (List.mem_cons_self ..))]
    rfl
theorem dmk_mk {E : List (Nat × Nat)} {f : Nat → Bool} {k : Nat} {p : List Nat} (ha : Asc p) (h : ∀ i ∈ p, i < k) : dmk E f (mk p) k = dp E f p := by
  rw [mk_xl ha]
  exact dmk_xl E f k p h
theorem dmk_only {E : List (Nat × Nat)} {f : Nat → Bool} {m t : Nat} : ∀ {k : Nat}, (∀ i, i < k → i ≠ t → (m.testBit i && df E f i) = false) → t < k → dmk E f m k = (m.testBit t && df E f t)
  | 0, _, h => absurd h (Nat.not_lt_zero _)
  | k + 1, hz, h => by
    have none : ∀ j, (∀ i, i < j → (m.testBit i && df E f i) = false) → dmk E f m j = false := by
      intro j
      induction j with
      | zero => exact fun _ => rfl
      | succ j ih =>
        intro hj
        show ((m.testBit j && df E f j) ^^ dmk E f m j) = false
        rw [hj j (Nat.lt_succ_self j), ih fun i hi => hj i (Nat.lt_succ_of_lt hi)]
        rfl
    show ((m.testBit k && df E f k) ^^ dmk E f m k) = _
    by_cases e : k = t
    · subst e
      rw [none k fun i hi => hz i (Nat.lt_succ_of_lt hi) (Nat.ne_of_lt hi), Bool.xor_false]
    · rw [hz k (Nat.lt_succ_self k) e, dmk_only (k := k) (fun i hi => hz i (Nat.lt_succ_of_lt hi)) (by omega), Bool.false_xor]
/-- even: every spot is met an even number of times -/
def EvenM (E : List (Nat × Nat)) (m : Nat) : Prop := (∀ i, E.length ≤ i → m.testBit i = false) ∧ ∀ f, dmk E f m E.length = false
/-- a cut: the ties between two sides -/
def CutM (E : List (Nat × Nat)) (m : Nat) : Prop := (∀ i, E.length ≤ i → m.testBit i = false) ∧ ∃ f, ∀ i, i < E.length → m.testBit i = df E f i
theorem even_zero (E : List (Nat × Nat)) : EvenM E 0 := ⟨fun _ _ => Nat.zero_testBit _, fun f => dmk_zero E f _⟩
theorem even_xor {E : List (Nat × Nat)} {a b : Nat} (ha : EvenM E a) (hb : EvenM E b) : EvenM E (a ^^^ b) :=
  ⟨fun i hi => by rw [Nat.testBit_xor, ha.1 i hi, hb.1 i hi]; rfl, fun f => by rw [dmk_xor, ha.2 f, hb.2 f]; rfl⟩
theorem cut_zero (E : List (Nat × Nat)) : CutM E 0 := ⟨fun _ _ => Nat.zero_testBit _, fun _ => false, fun i _ => by rw [Nat.zero_testBit]; rfl⟩
theorem cut_xor {E : List (Nat × Nat)} {a b : Nat} (ha : CutM E a) (hb : CutM E b) : CutM E (a ^^^ b) := by
  obtain ⟨a1, f, a2⟩ := ha
  obtain ⟨b1, g, b2⟩ := hb
  exact ⟨fun i hi => by rw [Nat.testBit_xor, a1 i hi, b1 i hi]; rfl, fun x => f x ^^ g x, fun i hi => by rw [Nat.testBit_xor, a2 i hi, b2 i hi, df_xor]⟩
theorem sel_closed {P : Nat → Prop} (h0 : P 0) (hx : ∀ a b, P a → P b → P (a ^^^ b)) : ∀ {ms : List Nat}, (∀ a ∈ ms, P a) → ∀ u, P (sel ms u)
  | [], _, _ => h0
  | a :: ms, h, u => by
    have ih := sel_closed h0 hx (ms := ms) (fun b hb => h b (List.mem_cons_of_mem _ hb)) (u / 2)
    show P ((if u.testBit 0 then a else 0) ^^^ sel ms (u / 2))
    split
    · exact hx _ _ (h a (List.mem_cons_self ..)) ih
    · exact hx _ _ h0 ih
theorem span_closed {P : Nat → Prop} (h0 : P 0) (hx : ∀ a b, P a → P b → P (a ^^^ b)) {ms : List Nat} (h : ∀ a ∈ ms, P a) {m : Nat} (hs : Span ms m) : P m := by
  obtain ⟨u, rfl⟩ := hs
  exact sel_closed h0 hx h u
theorem sel_bit {b : Nat} : ∀ {ms : List Nat} {k : Nat} (u : Nat), (∀ j a, ms[j]? = some a → a.testBit b = decide (j = k)) → k < ms.length → (sel ms u).testBit b = u.testBit k
  | [], _, _, _, h => absurd h (Nat.not_lt_zero _)
  | a :: ms, k, u, h, hk => by
    have h0 := h 0 a rfl
    show ((if u.testBit 0 then a else 0) ^^^ sel ms (u / 2)).testBit b = _
    rw [Nat.testBit_xor]
    cases k with
    | zero =>
      have hz : (sel ms (u / 2)).testBit b = false := by
        refine sel_closed (P := fun m => m.testBit b = false) (Nat.zero_testBit _) (fun a c ha hc => by rw [Nat.testBit_xor, ha, hc]; rfl) (fun c hc => ?_) _
        obtain ⟨j, hj⟩ := List.getElem?_of_mem hc
        have := h (j + 1) c hj
        simpa using this
      rw [hz, Bool.xor_false]
      cases u.testBit 0 with
      | true => simpa using h0
      | false => simp
    | succ k =>
      have ih := sel_bit (ms := ms) (k := k) (u / 2) (fun j a hj => by have := h (j + 1) a hj; simpa using this) (by simpa using hk)
      have h0' : a.testBit b = false := by simpa using h0
      rw [ih, ← Nat.testBit_succ]
      cases u.testBit 0 with
      | true => simp [h0']
      | false => simp
/-- masks with own ties span all that they determine -/
theorem basis_span {P : Nat → Prop} (h0 : P 0) (hx : ∀ a b, P a → P b → P (a ^^^ b)) {ms rs : List Nat} (h : ∀ a ∈ ms, P a) (hl : ms.length = rs.length)
    (hb : ∀ (j k a r : Nat), ms[j]? = some a → rs[k]? = some r → a.testBit r = decide (j = k)) (hz : ∀ x, P x → (∀ r ∈ rs, x.testBit r = false) → x = 0) {m : Nat} (hm : P m) : Span ms m := by
  let u := mk ((List.range rs.length).filter fun k => m.testBit (rs.getD k 0))
  refine ⟨u, ?_⟩
  have hu : ∀ k, k < rs.length → u.testBit k = m.testBit (rs.getD k 0) := fun k hk => by
    show (mk _).testBit k = _
    rw [mk_bit (List.Pairwise.filter _ List.pairwise_lt_range)]
    cases hc : m.testBit (rs.getD k 0) with
    | true => exact decide_eq_true (List.mem_filter.mpr ⟨List.mem_range.mpr hk, hc⟩)
    | false => exact decide_eq_false fun hm => by rw [(List.mem_filter.mp hm).2] at hc; cases hc
  have hs : sel ms u ^^^ m = 0 := by
    refine hz _ (hx _ _ (sel_closed h0 hx h u) hm) fun r hr => ?_
    obtain ⟨k, hk⟩ := List.getElem?_of_mem hr
    have hk1 := (List.getElem?_eq_some_iff.mp hk).1
    rw [Nat.testBit_xor, sel_bit (k := k) u (fun j a hj => hb j k a r hj hk) (by omega), hu k hk1, List.getD_eq_getElem?_getD, hk]
    exact Bool.xor_self _
  have := congrArg (· ^^^ m) hs
  simp only [xor_cancel, Nat.zero_xor] at this
  exact this
/-! ### first forests -/
structure Fst (E : List (Nat × Nat)) (F : List Nat) : Prop where
  asc : Asc F
  lt : ∀ t ∈ F, t < E.length
  one : ∀ t ∈ F, ∃ f, df E f t = true ∧ ∀ u ∈ F, u ≠ t → df E f u = false
  all : ∀ f, (∀ u ∈ F, df E f u = false) → ∀ i, i < E.length → df E f i = false
theorem fst_one {E : List (Nat × Nat)} {F : List Nat} (h : ∀ t ∈ F, ∃ f, df E f t = true ∧ ∀ u ∈ F, u < t → df E f u = false) (hl : ∀ t ∈ F, t < E.length) : ∀ t ∈ F, ∃ f, df E f t = true ∧ ∀ u ∈ F, u ≠ t → df E f u = false := by
  intro t ht
  have step : ∀ k, ∃ f, df E f t = true ∧ ∀ u ∈ F, u ≠ t → u < t + 1 + k → df E f u = false := by
    intro k
    induction k with
    | zero =>
      obtain ⟨f, h1, h2⟩ := h t ht
      exact ⟨f, h1, fun u hu hne hlt => h2 u hu (by omega)⟩
    | succ k ih =>
      obtain ⟨f, h1, h2⟩ := ih
      by_cases hk : t + 1 + k ∈ F
      · cases hd : df E f (t + 1 + k) with
        | false =>
          refine ⟨f, h1, fun u hu hne hlt => ?_⟩
          by_cases e : u = t + 1 + k
          · rw [e, hd]
          · exact h2 u hu hne (by omega)
        | true =>
          obtain ⟨g, g1, g2⟩ := h _ hk
          refine ⟨fun x => f x ^^ g x, ?_, fun u hu hne hlt => ?_⟩
          · rw [df_xor, h1, g2 t ht (by omega)]
            rfl
          · rw [df_xor]
            by_cases e : u = t + 1 + k
            · rw [e, hd, g1]
              rfl
            · rw [h2 u hu hne (by omega), g2 u hu (by omega)]
              rfl
      · refine ⟨f, h1, fun u hu hne hlt => h2 u hu hne ?_⟩
        have : u ≠ t + 1 + k := fun e => hk (e ▸ hu)
        omega
  obtain ⟨f, h1, h2⟩ := step E.length
  exact ⟨f, h1, fun u hu hne => h2 u hu hne (by have := hl u hu; omega)⟩
theorem even_in_forest {E : List (Nat × Nat)} {F : List Nat} (h : Fst E F) {m : Nat} (he : EvenM E m) (hb : ∀ i, i ∉ F → m.testBit i = false) : m = 0 := by
  refine Nat.eq_of_testBit_eq fun t => ?_
  rw [Nat.zero_testBit]
  by_cases ht : t ∈ F
  · obtain ⟨f, f1, f2⟩ := h.one t ht
    have := he.2 f
    rw [dmk_only (t := t) (fun i hi hne => ?_) (h.lt t ht), f1, Bool.and_true] at this
    · exact this
    · by_cases hiF : i ∈ F
      · rw [f2 i hiF hne, Bool.and_false]
      · rw [hb i hiF, Bool.false_and]
  · exact hb t ht
theorem cut_off_forest {E : List (Nat × Nat)} {F : List Nat} (h : Fst E F) {m : Nat} (hc : CutM E m) (hb : ∀ t ∈ F, m.testBit t = false) : m = 0 := by
  obtain ⟨h1, f, h2⟩ := hc
  refine Nat.eq_of_testBit_eq fun t => ?_
  rw [Nat.zero_testBit]
  by_cases ht : t < E.length
  · rw [h2 t ht]
    exact h.all f (fun u hu => by rw [← h2 u (h.lt u hu)]; exact hb u hu) t ht
  · exact h1 t (by omega)
/-! ### the first forest, as it grows -/
structure Gro (E : List (Nat × Nat)) (n i : Nat) (ms : Nat → Nat) (F : List Nat) : Prop where
  asc : Asc F
  lt : ∀ t ∈ F, t < i
  a : ∀ t ∈ F, ∃ f, df E f t = true ∧ ∀ u, u < t → df E f u = false
  b : ∀ t, t < i → t ∉ F → ∀ f, (∀ u, u < t → df E f u = false) → df E f t = false
  same : ∀ x y, x < n → y < n → ms x = ms y → ∀ f, (∀ u ∈ F, df E f u = false) → f x = f y
  tied : ∀ j, j < i → ms (en E j).1 = ms (en E j).2
theorem Gro.start (E : List (Nat × Nat)) (n : Nat) : Gro E n 0 (fun x => x) [] :=
  ⟨List.Pairwise.nil, fun _ h => by simp at h, fun _ h => by simp at h, fun t ht => absurd ht (Nat.not_lt_zero _), fun x y _ _ e f _ => by rw [e], fun j hj => absurd hj (Nat.not_lt_zero _)⟩
theorem Gro.skip {E : List (Nat × Nat)} {n i : Nat} {ms : Nat → Nat} {F : List Nat} (h : Gro E n i ms F) (e : ms (en E i).1 = ms (en E i).2) (h1 : (en E i).1 < n) (h2 : (en E i).2 < n) : Gro E n (i + 1) ms F :=
  ⟨h.asc, fun t ht => Nat.lt_succ_of_lt (h.lt t ht), h.a, fun t ht hF f hf => by
    by_cases q : t = i
    · subst q
      have := h.same _ _ h1 h2 e f fun u hu => hf u (h.lt u hu)
      unfold df
      rw [this]
      exact Bool.xor_self _
    · exact h.b t (by omega) hF f hf, h.same, fun j hj => by
    by_cases q : j = i
    · rw [q]
      exact e
    · exact h.tied j (by omega)⟩
theorem Gro.join {E : List (Nat × Nat)} {n i : Nat} {ms : Nat → Nat} {F : List Nat} (h : Gro E n i ms F) (e : ms (en E i).1 ≠ ms (en E i).2) (h1 : (en E i).1 < n) (h2 : (en E i).2 < n) :
    Gro E n (i + 1) (fun x => if ms x = ms (en E i).2 then ms (en E i).1 else ms x) (F ++ [i]) := by
  refine ⟨List.pairwise_append.mpr ⟨h.asc, List.pairwise_singleton _ _, fun a ha b hb => by rw [List.mem_singleton.mp hb]; exact h.lt a ha⟩, fun t ht => ?_, fun t ht => ?_, fun t ht hF f hf => ?_, fun x y hx hy exy f hf => ?_, fun j hj => ?_⟩
  · rcases List.mem_append.mp ht with ht | ht
    · exact Nat.lt_succ_of_lt (h.lt t ht)
    · rw [List.mem_singleton.mp ht]
      exact Nat.lt_succ_self i
  · rcases List.mem_append.mp ht with ht | ht
    · obtain ⟨f, f1, f2⟩ := h.a t ht
      exact ⟨f, f1, f2⟩
    · have et := List.mem_singleton.mp ht
      subst et
      refine ⟨fun x => decide (ms x = ms (en E t).1), ?_, fun u hlt => ?_⟩
      · show (decide (ms (en E t).1 = ms (en E t).1) ^^ decide (ms (en E t).2 = ms (en E t).1)) = true
        rw [decide_eq_true rfl, decide_eq_false (Ne.symm e)]
        rfl
      · show (decide (ms (en E u).1 = ms (en E t).1) ^^ decide (ms (en E u).2 = ms (en E t).1)) = false
        rw [h.tied u hlt]
        exact Bool.xor_self _
  · have hti : t ≠ i := fun q => hF (by rw [q]; exact List.mem_append_right _ (List.mem_singleton.mpr rfl))
    exact h.b t (by omega) (fun m => hF (List.mem_append_left _ m)) f hf
  · have hf' : ∀ u ∈ F, df E f u = false := fun u hu => hf u (List.mem_append_left _ hu)
    have hi : f (en E i).1 = f (en E i).2 := by
      have := hf i (List.mem_append_right _ (List.mem_singleton.mpr rfl))
      unfold df at this
      generalize f (en E i).1 = p at *
      generalize f (en E i).2 = q at *
      cases p <;> cases q <;> first | rfl | cases this
    have exy' : (if ms x = ms (en E i).2 then ms (en E i).1 else ms x) = (if ms y = ms (en E i).2 then ms (en E i).1 else ms y) := exy
    by_cases cx : ms x = ms (en E i).2
    · by_cases cy : ms y = ms (en E i).2
      · exact h.same x y hx hy (cx.trans cy.symm) f hf'
      · rw [if_pos cx, if_neg cy] at exy'
        rw [h.same x _ hx h2 cx f hf', ← hi]
        exact h.same _ y h1 hy exy' f hf'
    · by_cases cy : ms y = ms (en E i).2
      · rw [if_neg cx, if_pos cy] at exy'
        rw [h.same y _ hy h2 cy f hf', ← hi]
        exact h.same x _ hx h1 exy' f hf'
      · rw [if_neg cx, if_neg cy] at exy'
        exact h.same x y hx hy exy' f hf'
  · by_cases q : j = i
    · subst q
      show (if ms (en E j).1 = ms (en E j).2 then _ else _) = (if ms (en E j).2 = ms (en E j).2 then _ else _)
      rw [if_neg e, if_pos rfl]
    · show (if ms (en E j).1 = _ then _ else _) = (if ms (en E j).2 = _ then _ else _)
      rw [h.tied j (by omega)]
theorem Gro.fst {E : List (Nat × Nat)} {n : Nat} {ms : Nat → Nat} {F : List Nat} (h : Gro E n E.length ms F) (hE : ∀ i, i < E.length → (en E i).1 < n ∧ (en E i).2 < n) : Fst E F :=
  ⟨h.asc, h.lt, fst_one (fun t ht => let ⟨f, f1, f2⟩ := h.a t ht; ⟨f, f1, fun u _ hlt => f2 u hlt⟩) h.lt, fun f hf i hi => by
    have := h.same _ _ (hE i hi).1 (hE i hi).2 (h.tied i hi) f hf
    unfold df
    rw [this]
    exact Bool.xor_self _⟩
/-- the first forest: the ties that the ones ahead do not tell -/
structure Fir (E : List (Nat × Nat)) (F : List Nat) : Prop where
  fst : Fst E F
  mem : ∀ t, t ∈ F ↔ t < E.length ∧ ∃ f, df E f t = true ∧ ∀ u, u < t → df E f u = false
theorem Gro.fir {E : List (Nat × Nat)} {n : Nat} {ms : Nat → Nat} {F : List Nat} (h : Gro E n E.length ms F) (hE : ∀ i, i < E.length → (en E i).1 < n ∧ (en E i).2 < n) : Fir E F :=
  ⟨h.fst hE, fun t => ⟨fun ht => ⟨h.lt t ht, h.a t ht⟩, fun ⟨hl, f, f1, f2⟩ => by
    by_cases ht : t ∈ F
    · exact ht
    · rw [h.b t hl ht f f2] at f1
      cases f1⟩⟩
theorem Fir.one {E : List (Nat × Nat)} {F G : List Nat} (h : Fir E F) (h' : Fir E G) : F = G := asc_ext h.fst.asc h'.fst.asc fun t => by rw [h.mem, h'.mem]
/-! ### even, by counting -/
/-- how often a pick meets a spot -/
def cnt (E : List (Nat × Nat)) (x : Nat) : List Nat → Nat
  | [] => 0
  | i :: p => cnt E x p + (if (en E i).1 = x then 1 else 0) + (if (en E i).2 = x then 1 else 0)
theorem odd1 (n : Nat) : decide ((n + 1) % 2 = 1) = !decide (n % 2 = 1) := by
  rcases Nat.mod_two_eq_zero_or_one n with h | h
  · have : (n + 1) % 2 = 1 := by omega
    rw [h, this]
    rfl
  · have : (n + 1) % 2 = 0 := by omega
    rw [h, this]
    rfl
theorem cnt_par (E : List (Nat × Nat)) (x : Nat) : ∀ p, dp E (fun y => decide (y = x)) p = decide (cnt E x p % 2 = 1)
  | [] => rfl
  | i :: p => by
    show ((decide ((en E i).1 = x) ^^ decide ((en E i).2 = x)) ^^ dp E _ p) = decide ((cnt E x p + (if (en E i).1 = x then 1 else 0) + (if (en E i).2 = x then 1 else 0)) % 2 = 1)
    rw [cnt_par E x p]
    by_cases h1 : (en E i).1 = x
    · by_cases h2 : (en E i).2 = x
      · rw [if_pos h1, if_pos h2, odd1, odd1, decide_eq_true h1, decide_eq_true h2]
        cases decide (cnt E x p % 2 = 1) <;> rfl
      · rw [if_pos h1, if_neg h2, Nat.add_zero, odd1, decide_eq_true h1, decide_eq_false h2]
        cases decide (cnt E x p % 2 = 1) <;> rfl
    · by_cases h2 : (en E i).2 = x
      · rw [if_neg h1, if_pos h2, Nat.add_zero, odd1, decide_eq_false h1, decide_eq_true h2]
        cases decide (cnt E x p % 2 = 1) <;> rfl
      · rw [if_neg h1, if_neg h2, Nat.add_zero, decide_eq_false h1, decide_eq_false h2]
        cases decide (cnt E x p % 2 = 1) <;> rfl
theorem dp_xor (E : List (Nat × Nat)) (f g : Nat → Bool) : ∀ p, dp E (fun x => f x ^^ g x) p = (dp E f p ^^ dp E g p)
  | [] => rfl
  | i :: p => by
    show (df E _ i ^^ dp E _ p) = ((df E f i ^^ dp E f p) ^^ (df E g i ^^ dp E g p))
    rw [df_xor, dp_xor E f g p]
    cases df E f i <;> cases df E g i <;> cases dp E f p <;> cases dp E g p <;> rfl
theorem dp_congr {E : List (Nat × Nat)} {f g : Nat → Bool} : ∀ {p : List Nat}, (∀ i ∈ p, df E f i = df E g i) → dp E f p = dp E g p
  | [], _ => rfl
  | i :: p, h => by
    show (df E f i ^^ dp E f p) = (df E g i ^^ dp E g p)
    rw [h i (List.mem_cons_self ..), dp_congr fun j hj => h j (List.mem_cons_of_mem _ hj)]
theorem dp_false (E : List (Nat × Nat)) : ∀ p, dp E (fun _ => false) p = false
  | [] => rfl
  | i :: p => by
    show (df E _ i ^^ dp E _ p) = false
    rw [dp_false E p]
    rfl
/-- all spots met evenly: even -/
theorem even_cnt {E : List (Nat × Nat)} {n : Nat} {p : List Nat} (hE : ∀ i ∈ p, (en E i).1 < n ∧ (en E i).2 < n) : (∀ x, x < n → cnt E x p % 2 = 0) ↔ ∀ f, dp E f p = false := by
  constructor
  · intro h f
    have step : ∀ k, k ≤ n → dp E (fun x => f x && decide (x < k)) p = false := by
      intro k
      induction k with
      | zero =>
        intro _
        refine (dp_congr fun i _ => ?_).trans (dp_false E p)
        unfold df
        simp
      | succ k ih =>
        intro hk
        have e : ∀ i ∈ p, df E (fun x => f x && decide (x < k + 1)) i = df E (fun x => (f x && decide (x < k)) ^^ (f k && decide (x = k))) i := fun i _ => by
          have pt : ∀ x, (f x && decide (x < k + 1)) = ((f x && decide (x < k)) ^^ (f k && decide (x = k))) := fun x => by
            by_cases e1 : x = k
            · subst e1
              simp
            · by_cases e2 : x < k
              · have : x < k + 1 := by omega
                simp [e1, e2, this]
              · have : ¬ x < k + 1 := by omega
                simp [e1, e2, this]
          show ((f (en E i).1 && decide ((en E i).1 < k + 1)) ^^ (f (en E i).2 && decide ((en E i).2 < k + 1))) = (((f (en E i).1 && decide ((en E i).1 < k)) ^^ (f k && decide ((en E i).1 = k))) ^^ ((f (en E i).2 && decide ((en E i).2 < k)) ^^ (f k && decide ((en E i).2 = k))))
          rw [pt, pt]
        rw [dp_congr e, dp_xor, ih (by omega)]
        cases hf : f k with
        | false =>
          have : dp E (fun x => false && decide (x = k)) p = false := by
            refine (dp_congr fun i _ => ?_).trans (dp_false E p)
            unfold df
            simp
          rw [this]
          rfl
        | true =>
          have : dp E (fun x => true && decide (x = k)) p = dp E (fun x => decide (x = k)) p := dp_congr fun i _ => by
            unfold df
            simp
          rw [this, cnt_par, h k (by omega)]
          rfl
    rw [← step n (Nat.le_refl n)]
    refine dp_congr fun i hi => ?_
    obtain ⟨h1, h2⟩ := hE i hi
    unfold df
    simp [h1, h2]
  · intro h x _
    have := h fun y => decide (y = x)
    rw [cnt_par] at this
    have := of_decide_eq_false this
    omega
end Fb

/-! FbT -/
set_option maxHeartbeats 4000000
/-! dart_counts, is_even, first_forest -/
namespace Fb
open PySem PySem.Spec PyProof.Rows L2
theorem nv_set (ns : List Nat) (j n : Nat) : (nv ns).set j (.int (n : Int)) = nv (ns.set j n) := by
  simp [nv, iv, List.map_set]
theorem nv_rep (n k : Nat) : (List.replicate n [V.int (k : Int)]).flatten = nv (List.replicate n k) := by
  induction n with
  | zero => rfl
  | succ n ih =>
    rw [List.replicate_succ, List.flatten_cons, ih, List.replicate_succ]
    rfl
theorem getD_set (ns : List Nat) {j : Nat} (n : Nat) (h : j < ns.length) (x : Nat) : (ns.set j n).getD x 0 = if x = j then n else ns.getD x 0 := by
  rw [List.getD_eq_getElem?_getD, List.getElem?_set, List.getD_eq_getElem?_getD]
  by_cases e : j = x
  · subst e
    simp [h]
  · have : ¬ x = j := fun z => e z.symm
    simp [e, this]
theorem getD_at {ns : List Nat} {x : Nat} (h : x < ns.length) : ns[x]? = some (ns.getD x 0) := by
  rw [List.getD_eq_getElem?_getD, List.getElem?_eq_getElem h]
  rfl
theorem getD_map (f : Nat → Nat) {ms : List Nat} {x : Nat} (h : x < ms.length) : (ms.map f).getD x 0 = f (ms.getD x 0) := by
  rw [List.getD_eq_getElem?_getD, List.getElem?_map, getD_at h]
  rfl
theorem en_sn {es : List (Addr × (Nat × Nat))} {i : Nat} {e : Addr × (Nat × Nat)} (h : es[i]? = some e) : en (sn es) i = e.2 := by
  unfold en
  rw [List.getD_eq_getElem?_getD, sn_get h]
  rfl
theorem cnt_snoc (E : List (Nat × Nat)) (x t : Nat) : ∀ p, cnt E x (p ++ [t]) = cnt E x p + (if (en E t).1 = x then 1 else 0) + (if (en E t).2 = x then 1 else 0)
  | [] => rfl
  | i :: p => by
    show cnt E x (p ++ [t]) + _ + _ = (cnt E x p + _ + _) + _ + _
    rw [cnt_snoc E x t p]
    omega
/-- ties between so many spots, few of both -/
structure WebOk (n : Nat) (E : List (Nat × Nat)) : Prop where
  n0 : 1 ≤ n
  nb : n ≤ 20
  eb : E.length ≤ 40
  ok : ∀ e ∈ E, e.1 ≤ e.2 ∧ e.2 < n
theorem WebOk.en {n : Nat} {E : List (Nat × Nat)} (h : WebOk n E) {i : Nat} (hi : i < E.length) : (en E i).1 ≤ (en E i).2 ∧ (Fb.en E i).2 < n ∧ (Fb.en E i).1 < n := by
  have : Fb.en E i ∈ E := by
    unfold Fb.en
    rw [List.getD_eq_getElem?_getD, List.getElem?_eq_getElem hi]
    exact List.getElem_mem hi
  have := h.ok _ this
  omega
-- dart_counts: slots 0=web 1=pick 2=counts 3=tie; cells 
abbrev sdart_counts : Stmt := topS 9
abbrev Ndart_counts : List Str := ["web", "pick", "counts", "tie"]
theorem scdart_counts : FnScope Ndart_counts ["web", "pick"] (defScope sdart_counts) := ⟨rfl, rfl, rfl, by decide +kernel, rfl, by decide +kernel, by decide +kernel⟩
-- is_even: slots 0=web 1=pick 2=count; cells 
abbrev sis_even : Stmt := topS 10
abbrev Nis_even : List Str := ["web", "pick", "count"]
theorem scis_even : FnScope Nis_even ["web", "pick"] (defScope sis_even) := ⟨rfl, rfl, rfl, by decide +kernel, rfl, by decide +kernel, by decide +kernel⟩
-- first_forest: slots 0=web 1=marks 2=found 3=tie 4=low 5=high 6=one 7=other 8=mark; cells one other
abbrev sfirst_forest : Stmt := topS 22
abbrev Nfirst_forest : List Str := ["web", "marks", "found", "tie", "low", "high", "one", "other", "mark"]
theorem scfirst_forest : FnScope Nfirst_forest ["web"] (defScope sfirst_forest) := ⟨rfl, rfl, rfl, by decide +kernel, rfl, by decide +kernel, by decide +kernel⟩
section
variable {P : Program} {w : World} {K : PySem.W.Frag} {mg : Str → Option Value} {base : Heap} {mt : Nat}
def sp_dart_counts (K : PySem.W.Frag) : Sp := fun vs H Q _ => ∃ (p b n : Nat) (E : List (Nat × Nat)) (q : List Nat), vs = [.ref p, .ref b] ∧ Web K H p (n, E) ∧ WebOk n E ∧ Nts K H b q ∧ (∀ t ∈ q, t < E.length) ∧ q.length ≤ 1000 ∧
  ∀ H' r cs, Same H H' → H' r = some (.lst (nv cs)) → cs.length = n → (∀ x, x < n → cs.getD x 0 = cnt E x q) → Q (.ref r) H'
theorem ok_dart_counts {f : Addr} {fd : FuncData} (F : Fun K "dart_counts" "dart_counts" sdart_counts f fd) (T : Bi mg mt) : FnOk P w K mg base CX0 1 f fd ["web", "pick"] (sp_dart_counts K) := by
  refine okC F scdart_counts (fun vs H Q E h => ?_) (fun cdv A outer s H vs Q E hr hcd h => ?_)
  · obtain ⟨p, b, n, E, q, rfl, _⟩ := h
    rfl
  · obtain ⟨p, b, n, E, q, rfl, ⟨ta, hp, es, rfl, ht, hg⟩, hW, hb, hq, hql, k⟩ := h
    have hn := hW.nb
    refine ⟨_, (pss_cons (ps_set (i := 2) scdart_counts.nd rfl (Or.inl rfl) (pe_op op_rep (pe_lst (pa_cons pe_int pa_nil)) (pe_ix ix_tup (pv 0) pe_int (fun _ _ => rfl))))
      (pss_cons (ps_for PassesOwn.never rfl (pi_tup (pv 1)) (pg_name (i := 3) scdart_counts.nd rfl (Or.inl rfl))
        (pss_cons (ps_augS (pv 2) (pe_ix ix_tup (pe_ix ix_tup (pe_ix ix_tup (pv 0) pe_int (fun _ _ => rfl)) (pv 3) (fun _ _ => rfl)) pe_int (fun _ _ => rfl)) get_listN pe_int ip_addN set_listN)
        (pss_one (ps_augS (pv 2) (pe_ix ix_tup (pe_ix ix_tup (pe_ix ix_tup (pv 0) pe_int (fun _ _ => rfl)) (pv 3) (fun _ _ => rfl)) pe_int (fun _ _ => rfl)) get_listN pe_int ip_addN set_listN))))
      (pss_one (ps_ret (pv 2))))), ?_⟩
    refine ⟨by show 1 ≤ sizeLine; decide, fun l0 hl0 => ?_⟩
    have s0 := same_new (o := .lst [.int 0]) hl0
    refine ⟨.ref p, rfl, p, _, 0, .int (n : Int), rfl, rfl, s0.seqT hp, atI_nat (j := 0) rfl, l0, (n : Int), _, rfl, rfl, upd_same, by omega, by omega, by show 1 * ((n : Nat) : Int).toNat ≤ sizeLine; rw [Int.toNat_natCast, sizeLine_eq]; omega, fun c hc => ?_⟩
    have e0 : (List.replicate ((n : Nat) : Int).toNat [V.int 0]).flatten = nv (List.replicate n 0) := by
      rw [Int.toNat_natCast]
      exact nv_rep n 0
    rw [e0]
    have sc := same_new (o := .lst (nv (List.replicate n 0))) hc
    have hcn : H c = none := s0.free hc
    refine ⟨.ref b, rfl, b, rfl, ⟨_, (s0.trans sc).seqT hb⟩, for_tup (xs := nv q) (fun i σ H' => ∃ v3 cs, σ = [some (.ref p), some (.ref b), some (.ref c), v3] ∧ Same H H' ∧ H' c = some (.lst (nv cs)) ∧ cs.length = n ∧ ∀ x, x < n → cs.getD x 0 = cnt (sn es) x (q.take i))
      ⟨none, List.replicate n 0, rfl, s0.trans sc, upd_same, List.length_replicate, fun x hx => ?_⟩ (fun i σ H' _ ⟨_, _, _, s, _⟩ => s.seqT hb) ?_ ?_⟩
    · rw [List.getD_eq_getElem?_getD, List.getElem?_replicate, if_pos hx]
      rfl
    · rintro i y σ H1 hi ⟨v3, cs, rfl, s1, h1, hcl, hcs⟩
      obtain ⟨t, htq, rfl⟩ := nv_get hi
      have htl := hq t (mem_at htq)
      rw [sn_len] at htl
      have he : es[t]? = some es[t] := List.getElem?_eq_getElem htl
      have hen := en_sn he
      obtain ⟨b1, b2, b3⟩ := hW.en (by rw [sn_len]; exact htl : t < (sn es).length)
      rw [hen] at b1 b2 b3
      have hgt := hg es[t] (List.getElem_mem htl)
      generalize es[t] = e at he hen hgt b1 b2 b3
      have l1 : e.2.1 < cs.length := by omega
      have e1 : (nv cs)[e.2.1]? = some (.int ((cs.getD e.2.1 0 : Nat) : Int)) := nv_at (getD_at l1)
      refine ⟨.ref c, rfl, .ref p, rfl, p, _, 1, .ref ta, rfl, rfl, s1.seqT hp, atI_nat (j := 1) rfl, .int (t : Int), rfl, ta, rf es, (t : Int), .ref e.1, rfl, rfl, s1.seqT ht, atI_nat (rf_at he), e.1, _, 0, .int (e.2.1 : Int), rfl, rfl, s1.seqT hgt, atI_nat (j := 0) rfl, ?_⟩
      refine ⟨c, _, e.2.1, _, rfl, rfl, SqL.of h1, e1, _, 1, rfl, rfl, c, _, e.2.1, rfl, rfl, h1, by rw [nv_len]; exact l1, ?_⟩
      rw [nv_set]
      have hcs1 := getD_set cs (cs.getD e.2.1 0 + 1) l1
      have hl1 : (cs.set e.2.1 (cs.getD e.2.1 0 + 1)).length = n := by rw [List.length_set]; exact hcl
      generalize cs.set e.2.1 (cs.getD e.2.1 0 + 1) = cs1 at hcs1 hl1 ⊢
      have s2 : Same H (upd H1 c (.lst (nv cs1))) := same_at s1 hcn
      have h2 : (upd H1 c (.lst (nv cs1))) c = some (.lst (nv cs1)) := upd_same
      generalize upd H1 c (.lst (nv cs1)) = H2 at s2 h2 ⊢
      have l2 : e.2.2 < cs1.length := by omega
      have e2 : (nv cs1)[e.2.2]? = some (.int ((cs1.getD e.2.2 0 : Nat) : Int)) := nv_at (getD_at l2)
      refine ⟨.ref c, rfl, .ref p, rfl, p, _, 1, .ref ta, rfl, rfl, s2.seqT hp, atI_nat (j := 1) rfl, .int (t : Int), rfl, ta, rf es, (t : Int), .ref e.1, rfl, rfl, s2.seqT ht, atI_nat (rf_at he), e.1, _, 1, .int (e.2.2 : Int), rfl, rfl, s2.seqT hgt, atI_nat (j := 1) rfl, ?_⟩
      refine ⟨c, _, e.2.2, _, rfl, rfl, SqL.of h2, e2, _, 1, rfl, rfl, c, _, e.2.2, rfl, rfl, h2, by rw [nv_len]; exact l2, ?_⟩
      rw [nv_set]
      refine ⟨_, _, rfl, same_at s2 hcn, upd_same, by rw [List.length_set]; exact hl1, fun x hx => ?_⟩
      rw [getD_set cs1 _ l2, hcs1, hcs1, List.take_add_one, htq, Option.toList_some, cnt_snoc, hen, ← hcs x hx]
      by_cases x2 : x = e.2.2
      · subst x2
        by_cases x1 : e.2.2 = e.2.1
        · rw [x1]
          simp
        · have : ¬ e.2.1 = e.2.2 := fun z => x1 z.symm
          simp [x1, this]
      · have x2' : ¬ e.2.2 = x := fun z => x2 z.symm
        by_cases x1 : x = e.2.1
        · subst x1
          simp [x2, x2']
        · have : ¬ e.2.1 = x := fun z => x1 z.symm
          simp [x1, x2, this, x2']
    · rintro σ H1 ⟨v3, cs, rfl, s1, h1, hcl, hcs⟩
      rw [nv_len, List.take_length] at hcs
      exact ⟨.ref c, rfl, k H1 c cs s1 h1 hcl hcs⟩
def sp_is_even (K : PySem.W.Frag) : Sp := fun vs H Q _ => ∃ (p b n : Nat) (E : List (Nat × Nat)) (q : List Nat), vs = [.ref p, .ref b] ∧ Web K H p (n, E) ∧ WebOk n E ∧ Nts K H b q ∧ Asc q ∧ (∀ t ∈ q, t < E.length) ∧
  ∀ (r : Bool) H', Same H H' → (r = true ↔ EvenM E (mk q)) → Q (.bl r) H'
theorem ok_is_even {f : Addr} {fd : FuncData} (F : Fun K "is_even" "is_even" sis_even f fd) (T : Bi mg mt) (cdart_counts : C8.Cal P w K mg base 1 "dart_counts" (sp_dart_counts K) []) : FnOk P w K mg base CX0 2 f fd ["web", "pick"] (sp_is_even K) := by
  refine okC F scis_even (fun vs H Q E h => ?_) (fun cdv A outer s H vs Q E hr hcd h => ?_)
  · obtain ⟨p, b, n, E, q, rfl, _⟩ := h
    rfl
  · obtain ⟨p, b, n, E, q, rfl, hw, hW, hb, ha, hq, k⟩ := h
    have hn := hW.nb
    have hql : q.length ≤ 1000 := by
      have := nat_nodup E.length q (ha.imp fun h => Nat.ne_of_lt h) hq
      have := hW.eb
      omega
    refine ⟨_, (pss_one (ps_ret (pe_callB (cr_all rfl) (by rfl) T.all (by decide +kernel) (pa_cons (pe_lc (own := [("count", 2)]) rfl scis_even.nd (pi_list (C8.pe_c cdart_counts hr (by decide) (by rfl) (pa_cons (pv 0) (pa_cons (pv 1) pa_nil)))) (blkOk_by (N := Nis_even) (sc := (defScope sis_even)) (by decide +kernel)) (fun _ _ _ _ _ => (pg_name (i := 2) scis_even.nd rfl (Or.inl rfl))) (fun _ _ _ _ _ => pts_nil) (fun _ _ _ _ _ => (pe_cmpR op_eqN (pe_op op_modNat (pv 2) pe_int) pe_int (nomark _)))) pa_nil)))), ?_⟩
    refine ⟨.ref p, rfl, .ref b, rfl, p, b, n, E, q, rfl, hw, hW, hb, hq, hql, fun H1 r cs s1 h1 hcl hcs => ?_⟩
    refine ⟨r, rfl, ⟨_, SqL.of h1⟩, fun D hD => ?_⟩
    refine lc_acc walk_list (fun i => (cs[i]?).map fun c => V.bl (decide (c % 2 = 0))) (by rw [nv_len]; omega) hD (fun _ s => s.seq (SqL.of h1)) (fun i x H2 H3 Ky Kn hi s y ky kn => ?_) fun H2 s2 e2 => ?_
    · obtain ⟨rfl, hx⟩ := y
      obtain ⟨c, hc, rfl⟩ := nv_get hx
      refine ⟨rfl, _, rfl, c, 2, rfl, rfl, by decide, _, 0, rfl, rfl, ky _ _ ?_ (Same.refl _)⟩
      rw [hc]
      rfl
    · have ee : (List.range (nv cs).length).filterMap (fun i => (cs[i]?).map fun c => V.bl (decide (c % 2 = 0))) = (cs.map fun c => decide (c % 2 = 0)).map V.bl := by
        rw [nv_len, range_fm, List.map_map]
        rfl
      rw [ee] at e2
      refine ⟨D, _, rfl, SqL.of e2, k _ H2 (s1.trans s2) ?_⟩
      have hE : ∀ i ∈ q, (en E i).1 < n ∧ (en E i).2 < n := fun i hi => by
        have := hW.en (hq i hi)
        omega
      rw [List.all_map, List.all_eq_true]
      constructor
      · intro hall
        have hc : ∀ x, x < n → cnt E x q % 2 = 0 := fun x hx => by
          rw [← hcs x hx]
          have := hall (cs.getD x 0) (mem_at (getD_at (by omega)))
          exact of_decide_eq_true this
        refine ⟨fun i hi => ?_, fun f => ?_⟩
        · rw [mk_bit ha]
          exact decide_eq_false fun m => by
            have := hq i m
            omega
        · rw [dmk_mk ha hq]
          exact (even_cnt hE).mp hc f
      · intro he c hc
        obtain ⟨x, hx⟩ := List.getElem?_of_mem hc
        have hxl := (List.getElem?_eq_some_iff.mp hx).1
        have h2 := (even_cnt hE).mpr (fun f => by rw [← dmk_mk ha hq]; exact he.2 f) x (by omega)
        rw [← hcs x (by omega), List.getD_eq_getElem?_getD, hx] at h2
        exact decide_eq_true h2
def sp_first_forest (K : PySem.W.Frag) : Sp := fun vs H Q _ => ∃ (p n : Nat) (E : List (Nat × Nat)), vs = [.ref p] ∧ Web K H p (n, E) ∧ WebOk n E ∧
  ∀ H' r F, Same H H' → Nts K H' r F → Fir E F → Q (.ref r) H'
theorem ok_first_forest {f : Addr} {fd : FuncData} (F : Fun K "first_forest" "first_forest" sfirst_forest f fd) (T : Bi mg mt) : FnOk P w K mg base CX0 1 f fd ["web"] (sp_first_forest K) := by
  refine okC F scfirst_forest (fun vs H Q E h => ?_) (fun cdv A outer s H vs Q E hr hcd h => ?_)
  · obtain ⟨p, n, E, rfl, _⟩ := h
    rfl
  · obtain ⟨p, n, E, rfl, ⟨ta, hp, es, rfl, ht, hg⟩, hW, k⟩ := h
    have hn := hW.nb
    have hE : ∀ i, i < (sn es).length → (en (sn es) i).1 < n ∧ (en (sn es) i).2 < n := fun i hi => by
      have := hW.en hi
      omega
    refine ⟨_, (pss_cons (ps_par (i := 1) (j := 2) (by rfl) scfirst_forest.nd rfl rfl (by decide) rfl rfl (pa_cons (pe_listRg rfl (by rfl) T.list (prg_1 (by rfl) T.range (pe_ix ix_tup (pv 0) pe_int (fun _ _ => rfl)))) (pa_cons (pe_lst pa_nil) pa_nil)) (by rfl))
      (pss_cons (ps_for PassesOwn.never rfl (pi_enumT (by rfl) T.enumerate (pa_cons (pe_ix ix_tup (pv 0) pe_int (fun _ _ => rfl)) pa_nil)) (pg_tup (n := 2) rfl (pgs_cons (pg_name (i := 3) scfirst_forest.nd rfl (Or.inl rfl)) (pgs_cons (pg_tup (n := 2) rfl (pgs_cons (pg_name (i := 4) scfirst_forest.nd rfl (Or.inl rfl)) (pgs_cons (pg_name (i := 5) scfirst_forest.nd rfl (Or.inl rfl)) pgs_nil))) pgs_nil)))
        (pss_cons (ps_asg (pe_tup (pa_cons (pe_ix ix_list (pv 1) (pv 4) (fun _ _ => rfl)) (pa_cons (pe_ix ix_list (pv 1) (pv 5) (fun _ _ => rfl)) pa_nil))) (pg_tup (n := 2) rfl (pgs_cons (pg_name (i := 6) scfirst_forest.nd rfl (Or.inr rfl)) (pgs_cons (pg_name (i := 7) scfirst_forest.nd rfl (Or.inr rfl)) pgs_nil))))
        (pss_one (ps_if (pt_cmpR op_neN (pv 6) (pv 7) (nomark _))
          (pss_cons (ps_expr (pe_bm PySem.F.plainAttrs_list PySem.F.slot_list_append PySem.F.type_list_append mt_append (pv 2) (pa_cons (pv 3) pa_nil)))
          (pss_one (ps_setLc (i := 1) (own := [("mark", 8)]) rfl scfirst_forest.nd rfl rfl (sw_true rfl rfl rfl (by decide +kernel)) (pi_list (pv 1)) (blkOk_by (N := Nfirst_forest) (sc := (defScope sfirst_forest)) (by decide +kernel)) (fun _ _ _ _ _ => (pg_name (i := 8) scfirst_forest.nd rfl (Or.inl rfl))) (fun _ _ _ _ _ => pts_nil) (fun _ _ _ _ _ => (pe_ifExp (pt_cmpR op_eqN (pv 8) (pv 7) (nomark _)) (pv 6) (pv 8))))))
          pss_nil))))
      (pss_one (ps_ret (pe_tupleOf (by rfl) T.tuple (pv 2)))))), ?_⟩
    refine ⟨.ref p, rfl, p, _, 0, .int (n : Int), rfl, rfl, hp, atI_nat (j := 0) rfl, (n : Int), rfl, RgOk.of_le (by omega) (by omega) (by omega) (by omega), fun c hc => ?_⟩
    have sc := same_new (o := .lst (rgV 0 (n : Int))) hc
    have ec := upd_same (H := H) (a := c) (o := .lst (rgV 0 (n : Int)))
    rw [rgV_nat] at sc ec ⊢
    generalize upd H c (.lst (nv (List.range n))) = H1 at sc ec ⊢
    refine ⟨Nat.zero_le _, fun fl hfl => ⟨_, _, rfl, ?_⟩⟩
    have sf := same_new (o := .lst []) hfl
    have hfH : H fl = none := sc.free hfl
    refine ⟨.ref p, rfl, p, _, 1, .ref ta, rfl, rfl, (sc.trans sf).seqT hp, atI_nat (j := 1) rfl, ta, rf es, rfl, (sc.trans sf).seqT ht,
      for_it walk_enumT (fun i σ H' => ∃ m v3 v4 v5 v6 v7 v8 ms F, σ = [some (.ref p), some (.ref m), some (.ref fl), v3, v4, v5, v6, v7, v8] ∧ Same H H' ∧ H' m = some (.lst (nv ms)) ∧ H' fl = some (.lst (nv F)) ∧ ms.length = n ∧ Gro (sn es) n i (fun x => ms.getD x 0) F ∧ F.length ≤ i ∧ m ≠ fl)
      ⟨c, none, none, none, none, none, none, List.range n, [], rfl, sc.trans sf, sf _ _ ec, upd_same, List.length_range, ?_, Nat.zero_le _, ne_of_none ec hfl⟩ (fun i σ H' _ ⟨_, _, _, _, _, _, _, _, _, _, s, _⟩ => s.seqT ht) ?_ ?_⟩
    · have g := Gro.start (sn es) n
      refine ⟨g.asc, g.lt, g.a, g.b, fun x y hx hy exy f hf => ?_, fun j hj => absurd hj (Nat.not_lt_zero _)⟩
      have ex : ∀ z, z < n → (List.range n).getD z 0 = z := fun z hz => by
        rw [List.getD_eq_getElem?_getD, List.getElem?_range hz]
        rfl
      have exy' : (List.range n).getD x 0 = (List.range n).getD y 0 := exy
      rw [ex x hx, ex y hy] at exy'
      rw [exy']
    · rintro i y σ H2 H3 hi ⟨m, v3, v4, v5, v6, v7, v8, ms, F, rfl, s2, hm, hF, hml, g, hFl, hmf⟩ ⟨T, x, z, rfl, hT, rfl, hx, hz⟩
      cases hx
      obtain ⟨e, he, rfl⟩ := rf_get hz
      have hil := (List.getElem?_eq_some_iff.mp he).1
      have hen := en_sn he
      obtain ⟨b1, b2, b3⟩ := hW.en (by rw [sn_len]; exact hil : i < (sn es).length)
      rw [hen] at b1 b2 b3
      have hge := hg e (mem_at he)
      have sT := same_new (o := .tup [.int (i : Int), .ref e.1]) hT
      have eT := upd_same (H := H2) (a := T) (o := .tup [.int (i : Int), .ref e.1])
      have s3 := s2.trans sT
      have hm3 := sT _ _ hm
      have hF3 := sT _ _ hF
      generalize upd H2 T (.tup [.int (i : Int), .ref e.1]) = H3 at sT eT s3 hm3 hF3 ⊢
      refine ⟨T, _, rfl, SqT.of eT, rfl, _, _, rfl, _, _, rfl, ⟨e.1, _, rfl, s3.seqT hge, rfl, _, _, rfl, _, _, rfl, rfl, rfl, ?_⟩⟩
      have l1 : e.2.1 < ms.length := by omega
      have l2 : e.2.2 < ms.length := by omega
      refine ⟨.ref m, rfl, .int (e.2.1 : Int), rfl, m, _, _, _, rfl, rfl, SqL.of hm3, atI_nat (nv_at (getD_at l1)), .ref m, rfl, .int (e.2.2 : Int), rfl, m, _, _, _, rfl, rfl, SqL.of hm3, atI_nat (nv_at (getD_at l2)), by show 2 ≤ sizeLine; decide, fun U hU => ?_⟩
      have sU := same_new (o := .tup [.int ((ms.getD e.2.1 0 : Nat) : Int), .int ((ms.getD e.2.2 0 : Nat) : Int)]) hU
      refine ⟨U, _, rfl, SqT.of upd_same, rfl, _, _, rfl, _, _, rfl, rfl, ?_⟩
      have s4 := s3.trans sU
      have hm4 := sU _ _ hm3
      have hF4 := sU _ _ hF3
      generalize upd H3 U (.tup [.int ((ms.getD e.2.1 0 : Nat) : Int), .int ((ms.getD e.2.2 0 : Nat) : Int)]) = H4 at s4 hm4 hF4 ⊢
      refine ⟨_, rfl, _, rfl, ms.getD e.2.1 0, ms.getD e.2.2 0, rfl, rfl, _, rfl, ?_⟩
      by_cases hne : ms.getD e.2.1 0 = ms.getD e.2.2 0
      · rw [decide_eq_true hne]
        refine iteF ?_
        exact ⟨m, _, _, _, _, _, _, ms, F, rfl, s4, hm4, hF4, hml, g.skip (by show ms.getD _ 0 = ms.getD _ 0; rw [hen]; exact hne) (by rw [hen]; exact b3) (by rw [hen]; exact b2), Nat.le_succ_of_le hFl, hmf⟩
      · rw [decide_eq_false hne]
        refine iteT ?_
        have heb := hW.eb
        rw [sn_len] at heb
        refine ⟨.ref fl, rfl, .inl ⟨rfl, _, SqL.of hF4⟩, .int (i : Int), rfl, fl, _, _, rfl, rfl, hF4, small1001 (by rw [nv_len]; omega), ?_⟩
        have hm5 : (upd H4 fl (.lst (nv F ++ [.int (i : Int)]))) m = some (.lst (nv ms)) := by
          rw [upd_ne hmf]
          exact hm4
        have hF5 : (upd H4 fl (.lst (nv F ++ [.int (i : Int)]))) fl = some (.lst (nv (F ++ [i]))) := by rw [upd_same, nv_snoc]
        have s5 : Same H (upd H4 fl (.lst (nv F ++ [.int (i : Int)]))) := same_at s4 hfH
        generalize upd H4 fl (.lst (nv F ++ [.int (i : Int)])) = H5 at hm5 hF5 s5 ⊢
        refine ⟨.ref m, rfl, m, rfl, ⟨_, SqL.of hm5⟩, fun D hD => ?_⟩
        refine lc_acc walk_list (fun j => (ms[j]?).map fun c => V.int ((if c = ms.getD e.2.2 0 then ms.getD e.2.1 0 else c : Nat) : Int)) (by rw [nv_len]; omega) hD (fun _ s => s.seq (SqL.of hm5)) (fun j x H6 H7 Ky Kn hj s y ky kn => ?_) fun H6 s6 e6 => ?_
        · obtain ⟨rfl, hx⟩ := y
          obtain ⟨c, hc, rfl⟩ := nv_get hx
          rw [hc] at ky
          refine ⟨rfl, _, rfl, _, rfl, c, ms.getD e.2.2 0, rfl, rfl, _, rfl, ?_⟩
          refine ite2 (fun hq => ⟨_, rfl, ky _ _ ?_ (Same.refl _)⟩) (fun hq => ⟨_, rfl, ky _ _ ?_ (Same.refl _)⟩)
          · show some (V.int _) = _
            rw [if_pos (of_decide_eq_true hq)]
          · show some (V.int _) = _
            rw [if_neg fun z => hq (decide_eq_true z)]
        · have ee : (List.range (nv ms).length).filterMap (fun j => (ms[j]?).map fun c => V.int ((if c = ms.getD e.2.2 0 then ms.getD e.2.1 0 else c : Nat) : Int)) = nv (ms.map fun c => if c = ms.getD e.2.2 0 then ms.getD e.2.1 0 else c) := by
            rw [nv_len, range_fm]
            simp [nv, iv]
          rw [ee] at e6
          have gj := g.join (by show ms.getD _ 0 ≠ ms.getD _ 0; rw [hen]; exact hne) (by rw [hen]; exact b3) (by rw [hen]; exact b2)
          rw [hen] at gj
          refine ⟨D, _, _, _, _, _, _, _, F ++ [i], rfl, s5.trans s6, e6, s6 _ _ hF5, by rw [List.length_map]; exact hml, ⟨gj.asc, gj.lt, gj.a, gj.b, fun x y hx hy exy f hf => gj.same x y hx hy ?_ f hf, fun j hj => ?_⟩, by rw [List.length_append]; exact Nat.succ_le_succ hFl, fun q => ?_⟩
          · have exy' := exy
            rw [getD_map _ (by omega), getD_map _ (by omega)] at exy'
            exact exy'
          · have hj' : j < (sn es).length := by
              rw [sn_len]
              omega
            obtain ⟨c1, c2, c3⟩ := hW.en hj'
            show List.getD _ _ 0 = List.getD _ _ 0
            rw [getD_map _ (by omega), getD_map _ (by omega)]
            exact gj.tied j hj
          · rw [q, hF5] at hD
            cases hD
    · rintro σ H2 ⟨m, v3, v4, v5, v6, v7, v8, ms, F, rfl, s2, hm, hF, hml, g, hFl, hmf⟩
      refine ⟨.ref fl, rfl, .inl ⟨fl, _, rfl, SqL.of hF, fun r hr' => k _ r F (s2.trans (same_new hr')) (SqT.of upd_same) ?_⟩⟩
      rw [rf_len, ← sn_len] at g
      exact g.fir hE
end
end Fb

/-! FbU -/
set_option maxHeartbeats 4000000
/-! Lists of rows; piece_marks -/
namespace Fb
open PySem PySem.Spec PyProof.Rows L2
/-- a list at D of own lists, the i-th one holding R i -/
structure Rows (H : Hp) (D : Addr) (ls : List Addr) (R : Nat → List V) : Prop where
  li : H D = some (.lst (ls.map V.ref))
  nd : ls.Nodup
  ou : D ∉ ls
  ro : ∀ (i : Nat) a, ls[i]? = some a → H a = some (.lst (R i))
theorem Rows.same {H H' : Hp} {D : Addr} {ls : List Addr} {R : Nat → List V} (h : Rows H D ls R) (s : Same H H') : Rows H' D ls R := ⟨s _ _ h.li, h.nd, h.ou, fun i a e => s _ _ (h.ro i a e)⟩
theorem nodup_at {α : Type} {l : List α} (h : l.Nodup) {i j : Nat} {a : α} (hi : l[i]? = some a) (hj : l[j]? = some a) : i = j := by
  obtain ⟨h1, e1⟩ := List.getElem?_eq_some_iff.mp hi
  obtain ⟨h2, e2⟩ := List.getElem?_eq_some_iff.mp hj
  rcases Nat.lt_trichotomy i j with q | q | q
  · exact absurd (e1.trans e2.symm) ((List.pairwise_iff_getElem.mp h) i j h1 h2 q)
  · exact q
  · exact absurd (e2.trans e1.symm) ((List.pairwise_iff_getElem.mp h) j i h2 h1 q)
theorem Rows.put {H : Hp} {D : Addr} {ls : List Addr} {R : Nat → List V} (h : Rows H D ls R) {i : Nat} {a : Addr} (ha : ls[i]? = some a) (xs : List V) : Rows (upd H a (.lst xs)) D ls fun j => if j = i then xs else R j := by
  refine ⟨by rw [upd_ne (fun e => h.ou (by rw [e]; exact mem_at ha))]; exact h.li, h.nd, h.ou, fun j b hb => ?_⟩
  by_cases e : j = i
  · subst e
    rw [ha] at hb
    cases hb
    rw [upd_same, if_pos rfl]
  · have : b ≠ a := fun q => e (nodup_at h.nd hb (by rw [q]; exact ha))
    rw [upd_ne this, if_neg e]
    exact h.ro j b hb
theorem Rows.get {H : Hp} {D : Addr} {ls : List Addr} {R : Nat → List V} (h : Rows H D ls R) {i : Nat} (hi : i < ls.length) : ∃ a, ls[i]? = some a ∧ (ls.map V.ref)[i]? = some (.ref a) ∧ H a = some (.lst (R i)) := by
  have e := List.getElem?_eq_getElem hi
  exact ⟨ls[i], e, by rw [List.getElem?_map, e]; rfl, h.ro i _ e⟩
section
variable {J : It} {n : Nat} {Gd : Hp → Prop} {Y : Nat → Hp → V → Hp → Prop}
/-- a comprehension of new empty lists -/
theorem lc_rows (w : Walk J n Gd Y) {g : TG} {tt : TT} {te : TE} {vs : List Nat} {σ : L2.St} {H1 : Hp} {D : Addr} {Qd : Hp → Prop} (hn : n ≤ 100000) (hD : H1 D = none) (hG : ∀ H, Same H1 H → Gd H)
    (hs : ∀ i x H H' (Ky : V → Hp → Prop) (Kn : Hp → Prop), i < n → Same H1 H → Y i H x H' → (∀ l, H l = none → Ky (.ref l) (upd H l (.lst []))) →
      g x (wipe σ vs) H' fun σ2 H2 => wipe σ2 vs = wipe σ vs ∧ tt σ2 H2 fun b H3 => if b = true then te σ2 H3 Ky else Kn H3)
    (hd : ∀ H ls, Same H1 H → Rows H D ls (fun _ => []) → ls.length = n → (∀ a ∈ ls, H1 a = none) → Qd H) :
    ∃ W : Nat → Nat → Hp → Prop, (∃ m, W 0 m (upd H1 D (.lst []))) ∧ ∀ i m H, W i m H →
      (J.stop i H ∧ Qd H) ∨ (J.go i H ∧ ∃ Nx : Hp → Prop, (∀ H', Nx H' → ∃ m', m' < m ∧ W (i + 1) m' H') ∧ ∀ x H', J.yld i H x H' → g x (wipe σ vs) H' fun σ2 H2 => wipe σ2 vs = wipe σ vs ∧ tt σ2 H2 fun b H3 =>
        if b = true then te σ2 H3 fun y H4 => ∃ acc, H4 D = some (.lst acc) ∧ acc.length < sizeLine ∧ Nx (upd H4 D (.lst (acc ++ [y]))) else Nx H3) := by
  refine lc_it w (fun i H => ∃ ls : List Addr, Same H1 H ∧ Rows H D ls (fun _ => []) ∧ ls.length = i ∧ ∀ a ∈ ls, H1 a = none) ⟨[], same_new hD, ⟨upd_same, List.nodup_nil, by simp, fun i a e => by simp at e⟩, rfl, fun _ h => by simp at h⟩ (fun i H _ ⟨_, s, _⟩ => hG H s)
    (fun i x H H' hi ⟨ls, s, r, hl, hn1⟩ y => ?_) fun H ⟨ls, s, r, hl, hn1⟩ => hd H ls s r hl hn1
  refine hs i x H H' _ _ hi s y fun l hln => ?_
  have hlD : D ≠ l := ne_of_none r.li hln
  have hlm : ∀ a ∈ ls, a ≠ l := fun a ha => by
    obtain ⟨j, hj⟩ := List.getElem?_of_mem ha
    exact ne_of_none (r.ro j a hj) hln
  refine ⟨_, by rw [upd_ne hlD]; exact r.li, by rw [List.length_map, sizeLine_eq]; omega, ls ++ [l], same_at (same_at s (s.free hln)) hD, ⟨by rw [upd_same, List.map_append]; rfl, ?_, ?_, fun j a hj => ?_⟩, by rw [List.length_append, hl]; rfl, fun a ha => ?_⟩
  · refine List.nodup_append.mpr ⟨r.nd, List.pairwise_singleton _ _, fun a ha b hb => ?_⟩
    rw [List.mem_singleton.mp hb]
    exact hlm a ha
  · intro m
    rcases List.mem_append.mp m with m | m
    · exact r.ou m
    · exact hlD (List.mem_singleton.mp m)
  · have aD : a ≠ D := fun e => by
      rcases List.mem_append.mp (mem_at hj) with m | m
      · exact r.ou (e ▸ m)
      · exact hlD (e ▸ (List.mem_singleton.mp m))
    rw [upd_ne aD]
    rw [List.getElem?_append] at hj
    split at hj
    · rw [upd_ne (hlm a (mem_at hj))]
      exact r.ro j a hj
    · have := List.mem_singleton.mp (mem_at hj)
      rw [this, upd_same]
  · rcases List.mem_append.mp ha with ha | ha
    · exact hn1 a ha
    · rw [List.mem_singleton.mp ha]
      exact s.free hln
end
/-! ### marks that may be none -/
def ov : Option Nat → V
  | none => .non
  | some c => .int (c : Int)
def ol (ms : List (Option Nat)) : List V := ms.map ov
theorem ol_at {ms : List (Option Nat)} {x : Nat} (h : x < ms.length) : (ol ms)[x]? = some (ov (ms.getD x none)) := by
  unfold ol
  rw [List.getElem?_map, List.getD_eq_getElem?_getD, List.getElem?_eq_getElem h]
  rfl
theorem ol_set (ms : List (Option Nat)) (x c : Nat) : (ol ms).set x (.int (c : Int)) = ol (ms.set x (some c)) := by
  unfold ol
  rw [List.map_set]
  rfl
theorem ov_non (o : Option Nat) : decide (ov o = .non) = o.isNone := by
  cases o with
  | none => exact decide_eq_true rfl
  | some c => exact decide_eq_false fun z => by cases z
theorem getDn_set {ms : List (Option Nat)} {j : Nat} (o : Option Nat) (h : j < ms.length) (x : Nat) : (ms.set j o).getD x none = if x = j then o else ms.getD x none := by
  rw [List.getD_eq_getElem?_getD, List.getElem?_set, List.getD_eq_getElem?_getD]
  by_cases e : j = x
  · subst e
    simp [h]
  · have : ¬ x = j := fun z => e z.symm
    simp [e, this]
/-- how many are none -/
def nones (ms : List (Option Nat)) : Nat := ms.countP (·.isNone)
theorem nones_set : ∀ {ms : List (Option Nat)} {x : Nat} (c : Nat), x < ms.length → ms.getD x none = none → nones (ms.set x (some c)) + 1 = nones ms
  | [], _, _, h, _ => absurd h (Nat.not_lt_zero _)
  | m :: ms, 0, c, _, h => by
    have e : m = none := h
    subst e
    unfold nones
    simp
  | m :: ms, x + 1, c, hl, h => by
    have ih := nones_set (ms := ms) (x := x) c (by simpa using hl) (by simpa using h)
    unfold nones at ih ⊢
    rw [List.set_cons_succ, List.countP_cons, List.countP_cons]
    omega
theorem none_len {ms : List (Option Nat)} {x c : Nat} (h : ms.getD x none = some c) : x < ms.length := by
  refine Nat.lt_of_not_le fun hle => ?_
  rw [List.getD_eq_getElem?_getD, List.getElem?_eq_none hle] at h
  cases h
theorem ol_rep (n : Nat) : (List.replicate n [V.non]).flatten = ol (List.replicate n none) := by
  induction n with
  | zero => rfl
  | succ n ih =>
    rw [List.replicate_succ, List.flatten_cons, ih, List.replicate_succ]
    rfl
/-- what stands beside what -/
def Nbr (E : List (Nat × Nat)) (N : Nat → List Nat) : Prop := ∀ x y, y ∈ N x ↔ (x, y) ∈ E ∨ (y, x) ∈ E
/-- constant along ties -/
def Con (E : List (Nat × Nat)) (f : Nat → Bool) : Prop := ∀ e ∈ E, f e.1 = f e.2
theorem Nbr.con {E : List (Nat × Nat)} {N : Nat → List Nat} (h : Nbr E N) {f : Nat → Bool} (hf : Con E f) {x y : Nat} (hy : y ∈ N x) : f x = f y := by
  rcases (h x y).mp hy with m | m
  · exact hf _ m
  · exact (hf _ m).symm
theorem Nbr.sym {E : List (Nat × Nat)} {N : Nat → List Nat} (h : Nbr E N) {x y : Nat} (hy : y ∈ N x) : x ∈ N y := (h y x).mpr ((h x y).mp hy).symm
/-- marks are told by ties -/
def So (E : List (Nat × Nat)) (ms : List (Option Nat)) : Prop := ∀ x a, ms.getD x none = some a → ∀ f, Con E f → f x = f a
/-- all beside a marked spot is marked alike, but for some spots -/
def Clo (N : Nat → List Nat) (ms : List (Option Nat)) (P : Nat → Prop) : Prop := ∀ x a, ms.getD x none = some a → ¬ P x → ∀ y ∈ N x, ms.getD y none = some a
theorem So.set {E : List (Nat × Nat)} {ms : List (Option Nat)} (h : So E ms) {y a : Nat} (hy : y < ms.length) (hf : ∀ f, Con E f → f y = f a) : So E (ms.set y (some a)) := fun x b hx f hc => by
  rw [getDn_set _ hy] at hx
  by_cases e : x = y
  · rw [if_pos e] at hx
    cases hx
    rw [e]
    exact hf f hc
  · rw [if_neg e] at hx
    exact h x b hx f hc
theorem Clo.set {N : Nat → List Nat} {ms : List (Option Nat)} {P : Nat → Prop} (h : Clo N ms P) {y a : Nat} (hy : y < ms.length) (hn : ms.getD y none = none) : Clo N (ms.set y (some a)) fun x => P x ∨ x = y := fun x b hx hP z hz => by
  rw [getDn_set _ hy] at hx ⊢
  have e : ¬ x = y := fun e => hP (.inr e)
  rw [if_neg e] at hx
  have hz' := h x b hx (fun p => hP (.inl p)) z hz
  by_cases q : z = y
  · rw [q, hn] at hz'
    cases hz'
  · rw [if_neg q]
    exact hz'
-- piece_marks: slots 0=spots 1=ties 2=near 3=spot 4=low 5=high 6=marks 7=first 8=waiting 9=other; cells 
abbrev spiece_marks : Stmt := topS 7
abbrev Npiece_marks : List Str := ["spots", "ties", "near", "spot", "low", "high", "marks", "first", "waiting", "other"]
theorem scpiece_marks : FnScope Npiece_marks ["spots", "ties"] (defScope spiece_marks) := ⟨rfl, rfl, rfl, by decide +kernel, rfl, by decide +kernel, by decide +kernel⟩
section
variable {P : Program} {w : World} {K : PySem.W.Frag} {mg : Str → Option Value} {base : Heap} {mt : Nat}
def sp_piece_marks (K : PySem.W.Frag) : Sp := fun vs H Q _ => ∃ (t : Addr) (n : Nat) (es : List (Addr × (Nat × Nat))), vs = [.int (n : Int), .ref t] ∧ (SqL K H t (rf es) ∨ SqT K H t (rf es)) ∧ Tg (Prs K) H es ∧ (∀ e ∈ sn es, e.1 < n ∧ e.2 < n) ∧ n ≤ 20 ∧ es.length ≤ 40 ∧
  ∀ H' r ms, Same H H' → H r = none → H' r = some (.lst (nv ms)) → ms.length = n → (∀ e ∈ sn es, ms.getD e.1 0 = ms.getD e.2 0) → (∀ x y, x < n → y < n → ms.getD x 0 = ms.getD y 0 → ∀ f, Con (sn es) f → f x = f y) → Q (.ref r) H'
theorem ok_piece_marks {f : Addr} {fd : FuncData} (F : Fun K "piece_marks" "piece_marks" spiece_marks f fd) (T : Bi mg mt) : FnOk P w K mg base CX0 1 f fd ["spots", "ties"] (sp_piece_marks K) := by
  refine okC F scpiece_marks (fun vs H Q E h => ?_) (fun cdv A outer s H vs Q E hr hcd h => ?_)
  · obtain ⟨t, n, es, rfl, _⟩ := h
    rfl
  · obtain ⟨t, n, es, rfl, ht, hg, hE, hn, hel, k⟩ := h
    refine ⟨_, (pss_cons (ps_setLc (i := 2) (own := [("spot", 3)]) rfl scpiece_marks.nd rfl rfl (sw_true rfl rfl rfl (by decide +kernel)) (pi_range1 (by rfl) T.range (pa_cons (pv 0) pa_nil)) (blkOk_by (N := Npiece_marks) (sc := (defScope spiece_marks)) (by decide +kernel)) (fun _ _ _ _ _ => (pg_name (i := 3) scpiece_marks.nd rfl (Or.inl rfl))) (fun _ _ _ _ _ => pts_nil) (fun _ _ _ _ _ => (pe_lst pa_nil)))
      (pss_cons (ps_for PassesOwn.never rfl (pi_seq (pv 1)) (pg_tup (n := 2) rfl (pgs_cons (pg_name (i := 4) scpiece_marks.nd rfl (Or.inl rfl)) (pgs_cons (pg_name (i := 5) scpiece_marks.nd rfl (Or.inl rfl)) pgs_nil)))
        (pss_cons (ps_expr (pe_bm PySem.F.plainAttrs_list PySem.F.slot_list_append PySem.F.type_list_append mt_append (pe_ix ix_list (pv 2) (pv 4) (fun _ _ => rfl)) (pa_cons (pv 5) pa_nil)))
        (pss_one (ps_expr (pe_bm PySem.F.plainAttrs_list PySem.F.slot_list_append PySem.F.type_list_append mt_append (pe_ix ix_list (pv 2) (pv 5) (fun _ _ => rfl)) (pa_cons (pv 4) pa_nil))))))
      (pss_cons (ps_set (i := 6) scpiece_marks.nd rfl (Or.inl rfl) (pe_op op_rep (pe_lst (pa_cons pe_non pa_nil)) (pv 0)))
      (pss_cons (ps_for PassesOwn.never rfl (pi_range1 (by rfl) T.range (pa_cons (pv 0) pa_nil)) (pg_name (i := 7) scpiece_marks.nd rfl (Or.inl rfl))
        (pss_one (ps_if (pt_cmpR op_isN (pe_ix ix_list (pv 6) (pv 7) (fun _ _ => rfl)) pe_non (nomark _))
          (pss_cons (ps_asg (pv 7) (pg_sub (pv 6) (pv 7) set_listN))
          (pss_cons (ps_set (i := 8) scpiece_marks.nd rfl (Or.inl rfl) (pe_lst (pa_cons (pv 7) pa_nil)))
          (pss_one (ps_while PassesOwn.never (pt_truthK K (pv 8) (by intro _; rfl))
            (pss_cons (ps_set (i := 3) scpiece_marks.nd rfl (Or.inl rfl) (pe_bm0 PySem.F.plainAttrs_list PySem.F.slot_list_pop PySem.F.type_list_pop mt_pop (pv 8)))
            (pss_one (ps_for PassesOwn.never rfl (pi_list (pe_ix ix_list (pv 2) (pv 3) (fun _ _ => rfl))) (pg_name (i := 9) scpiece_marks.nd rfl (Or.inl rfl))
              (pss_one (ps_if (pt_cmpR op_isN (pe_ix ix_list (pv 6) (pv 9) (fun _ _ => rfl)) pe_non (nomark _))
                (pss_cons (ps_asg (pv 7) (pg_sub (pv 6) (pv 9) set_listN))
                (pss_one (ps_expr (pe_bm PySem.F.plainAttrs_list PySem.F.slot_list_append PySem.F.type_list_append mt_append (pv 8) (pa_cons (pv 9) pa_nil)))))
                pss_nil)))))))))
          pss_nil)))
      (pss_one (ps_ret (pv 6))))))), ?_⟩
    refine ⟨.int (n : Int), rfl, (n : Int), rfl, by omega, by omega, fun D hD => ?_⟩
    refine lc_rows walk_rngN (by omega) hD (fun _ _ => True.intro) (fun i x H1 H2 Ky Kn hi s y ky => ?_) fun H1 ls s1 r1 hls hln => ?_
    · obtain ⟨rfl, rfl⟩ := y
      exact ⟨rfl, Nat.zero_le _, fun l hl => ky l hl⟩
    -- near
    refine ⟨.ref t, rfl, t, rf es, H, rfl, s1, ht, fun J Gd wk hgd =>
      for_it wk (fun i σ H' => ∃ v4 v5 v6 v7 v8 v9 N, σ = [some (.int (n : Int)), some (.ref t), some (.ref D), none, v4, v5, v6, v7, v8, v9] ∧ Same H H' ∧ Rows H' D ls (fun x => nv (N x)) ∧ Nbr ((sn es).take i) N ∧ ∀ x, (N x).length ≤ 2 * i)
        ⟨none, none, none, none, none, none, fun _ => [], rfl, s1, by exact r1, fun x y => by simp, fun x => Nat.zero_le _⟩ (fun i σ H' _ ⟨_, _, _, _, _, _, _, _, s, _⟩ => hgd _ s) ?_ ?_⟩
    · rintro i y σ H2 H3 _ ⟨v4, v5, v6, v7, v8, v9, N, rfl, s2, r2, hN, hNl⟩ ⟨rfl, hi⟩
      obtain ⟨e, he, rfl⟩ := rf_get hi
      have hem := mem_at he
      obtain ⟨b1, b2⟩ := hE e.2 (List.mem_map.mpr ⟨e, hem, rfl⟩)
      have hil := (List.getElem?_eq_some_iff.mp he).1
      refine ⟨e.1, _, rfl, s2.seqT (hg e hem), rfl, _, _, rfl, _, _, rfl, rfl, ?_⟩
      obtain ⟨a1, ha1, ga1, hr1⟩ := r2.get (i := e.2.1) (by omega)
      refine ⟨.ref D, rfl, _, rfl, D, _, _, _, rfl, rfl, SqL.of r2.li, atI_nat ga1, .inl ⟨rfl, _, SqL.of hr1⟩, _, rfl, a1, _, _, rfl, rfl, hr1, small1001 (by rw [nv_len]; have := hNl e.2.1; omega), ?_⟩
      have r3 := r2.put ha1 (nv (N e.2.1) ++ [.int (e.2.2 : Int)])
      have s3 : Same H (upd H3 a1 (.lst (nv (N e.2.1) ++ [.int (e.2.2 : Int)]))) := same_at s2 (hln a1 (mem_at ha1))
      generalize upd H3 a1 (.lst (nv (N e.2.1) ++ [.int (e.2.2 : Int)])) = H4 at r3 s3 ⊢
      obtain ⟨a2, ha2, ga2, hr2⟩ := r3.get (i := e.2.2) (by omega)
      refine ⟨.ref D, rfl, _, rfl, D, _, _, _, rfl, rfl, SqL.of r3.li, atI_nat ga2, .inl ⟨rfl, _, SqL.of hr2⟩, _, rfl, a2, _, _, rfl, rfl, hr2, ?_, ?_⟩
      · refine small1001 ?_
        have := hNl e.2.1
        have := hNl e.2.2
        split
        · rw [List.length_append, nv_len]
          show _ + 1 ≤ _
          omega
        · rw [nv_len]
          omega
      · refine ⟨_, _, _, _, _, _, fun x => (N x ++ (if x = e.2.1 then [e.2.2] else [])) ++ (if x = e.2.2 then [e.2.1] else []), rfl, same_at s3 (hln a2 (mem_at ha2)), ?_, ?_, ?_⟩
        · have r4 := r3.put ha2 ((if e.2.2 = e.2.1 then nv (N e.2.1) ++ [.int (e.2.2 : Int)] else nv (N e.2.2)) ++ [.int (e.2.1 : Int)])
          have ef : (fun j => if j = e.2.2 then (if e.2.2 = e.2.1 then nv (N e.2.1) ++ [V.int (e.2.2 : Int)] else nv (N e.2.2)) ++ [.int (e.2.1 : Int)] else if j = e.2.1 then nv (N e.2.1) ++ [.int (e.2.2 : Int)] else nv (N j)) = fun x => nv ((N x ++ (if x = e.2.1 then [e.2.2] else [])) ++ (if x = e.2.2 then [e.2.1] else [])) := by
            funext x
            by_cases x2 : x = e.2.2
            · subst x2
              rw [if_pos rfl, if_pos rfl]
              by_cases x1 : e.2.2 = e.2.1
              · rw [if_pos x1, if_pos x1, nv_snoc, ← x1, nv_snoc]
              · rw [if_neg x1, if_neg x1, List.append_nil, nv_snoc]
            · rw [if_neg x2, if_neg x2, List.append_nil]
              by_cases x1 : x = e.2.1
              · subst x1
                rw [if_pos rfl, if_pos rfl, nv_snoc]
              · rw [if_neg x1, if_neg x1, List.append_nil]
          rw [ef] at r4
          exact r4
        · intro x y
          rw [List.take_add_one, sn_get he, Option.toList_some]
          simp only [List.mem_append, hN x y, List.mem_singleton]
          constructor
          · rintro ((h | h) | h)
            · exact h.imp .inl .inl
            · split at h
              · rename_i q
                refine .inl (.inr ?_)
                rw [q, List.mem_singleton.mp h]
              · simp at h
            · split at h
              · rename_i q
                refine .inr (.inr ?_)
                rw [q, List.mem_singleton.mp h]
              · simp at h
          · rintro ((h | h) | (h | h))
            · exact .inl (.inl (.inl h))
            · refine .inl (.inr ?_)
              have h1 : x = e.2.1 := congrArg Prod.fst h
              have h2 : y = e.2.2 := congrArg Prod.snd h
              rw [if_pos h1, h2]
              exact List.mem_singleton.mpr rfl
            · exact .inl (.inl (.inr h))
            · refine .inr ?_
              have h1 : y = e.2.1 := congrArg Prod.fst h
              have h2 : x = e.2.2 := congrArg Prod.snd h
              rw [if_pos h2, h1]
              exact List.mem_singleton.mpr rfl
        · intro x
          rw [List.length_append, List.length_append]
          have := hNl x
          split <;> split <;> simp only [List.length_cons, List.length_nil] <;> omega
    · rintro σ H2 ⟨v4, v5, v6, v7, v8, v9, N, rfl, s2, r2, hN, hNl⟩
      rw [rf_len, ← sn_len, List.take_length] at hN
      have hNb : ∀ x, x < n → ∀ y ∈ N x, y < n := fun x hx y hy => by
        rcases (hN x y).mp hy with m | m
        · exact (hE _ m).2
        · exact (hE _ m).1
      -- marks
      refine ⟨by show 1 ≤ sizeLine; decide, fun l0 hl0 => ?_⟩
      have s0 := same_new (o := .lst [.non]) hl0
      refine ⟨.int (n : Int), rfl, l0, (n : Int), _, rfl, rfl, upd_same, by omega, by omega, by show 1 * ((n : Nat) : Int).toNat ≤ sizeLine; rw [Int.toNat_natCast, sizeLine_eq]; omega, fun m hm => ?_⟩
      have e0 : (List.replicate ((n : Nat) : Int).toNat [V.non]).flatten = ol (List.replicate n none) := by
        rw [Int.toNat_natCast]
        exact ol_rep n
      rw [e0]
      have sm := same_new (o := .lst (ol (List.replicate n none))) hm
      have hm2 : H2 m = none := s0.free hm
      have grep : ∀ x, (List.replicate n (none : Option Nat)).getD x none = none := fun x => by
        rw [List.getD_eq_getElem?_getD, List.getElem?_replicate]
        split <;> rfl
      refine ⟨.int (n : Int), rfl, (n : Int), rfl, by omega, by omega,
        for_it walk_rngN (fun i σ H' => ∃ v3 v4 v5 v7 v8 v9 mo, σ = [some (.int (n : Int)), some (.ref t), some (.ref D), v3, v4, v5, some (.ref m), v7, v8, v9] ∧ Same H2 H' ∧ H' m = some (.lst (ol mo)) ∧ mo.length = n ∧ So (sn es) mo ∧ Clo N mo (fun _ => False) ∧ ∀ x, x < i → mo.getD x none ≠ none)
        ⟨none, v4, v5, v7, v8, v9, List.replicate n none, rfl, s0.trans sm, upd_same, List.length_replicate, fun x a e => by rw [grep] at e; (cases e), fun x a e => by rw [grep] at e; (cases e), fun x hx => absurd hx (Nat.not_lt_zero _)⟩ (fun _ _ _ _ _ => True.intro) ?_ ?_⟩
      · rintro i y σ H3 H4 hi ⟨v3, v4, v5, v7, v8, v9, mo, rfl, s3, h3, hmo, hso, hcl, hdn⟩ ⟨rfl, rfl⟩
        have hil : i < mo.length := by omega
        refine ⟨.ref m, rfl, .int (i : Int), rfl, m, _, _, _, rfl, rfl, SqL.of h3, atI_nat (ol_at hil), rfl, _, rfl, ?_⟩
        rw [ov_non]
        cases hmi : mo.getD i none with
        | some a =>
          refine iteF ?_
          exact ⟨v3, v4, v5, _, v8, v9, mo, rfl, s3, h3, hmo, hso, hcl, fun x hx => by
            by_cases e : x = i
            · rw [e, hmi]
              simp
            · exact hdn x (by omega)⟩
        | none =>
          refine iteT ?_
          refine ⟨.int (i : Int), rfl, .ref m, rfl, .int (i : Int), rfl, m, _, i, rfl, rfl, h3, by unfold ol; rw [List.length_map]; exact hil, ?_⟩
          rw [ol_set]
          have s4 : Same H2 (upd H4 m (.lst (ol (mo.set i (some i))))) := same_at s3 hm2
          have h4 : (upd H4 m (.lst (ol (mo.set i (some i))))) m = some (.lst (ol (mo.set i (some i)))) := upd_same
          generalize upd H4 m (.lst (ol (mo.set i (some i)))) = H5 at s4 h4 ⊢
          refine ⟨_, rfl, by show 1 ≤ sizeLine; decide, fun w hw => ?_⟩
          have sw := same_new (o := .lst [.int (i : Int)]) hw
          have hw2 : H2 w = none := s4.free hw
          have hmw : m ≠ w := ne_of_none h4 hw
          have hnn := nones_set i hil hmi
          have hnle : nones mo ≤ n := by
            unfold nones
            rw [← hmo]
            exact List.countP_le_length
          refine while_m (fun k σ H' => ∃ v3 v9 mo W, σ = [some (.int (n : Int)), some (.ref t), some (.ref D), v3, v4, v5, some (.ref m), some (.int (i : Int)), some (.ref w), v9] ∧ Same H2 H' ∧ H' m = some (.lst (ol mo)) ∧ H' w = some (.lst (nv W)) ∧ mo.length = n ∧ So (sn es) mo ∧ (∀ x ∈ W, mo.getD x none = some i) ∧ Clo N mo (fun x => x ∈ W) ∧ (∀ x, x < i + 1 → mo.getD x none ≠ none) ∧ k = 2 * nones mo + W.length ∧ W.length + nones mo ≤ n)
            (2 * nones (mo.set i (some i)) + 1) ⟨v3, v9, mo.set i (some i), [i], rfl, s4.trans sw, sw _ _ h4, upd_same, by rw [List.length_set]; exact hmo, hso.set hil (fun _ _ => rfl), fun x hx => ?_, ?_, fun x hx => ?_, rfl, by show 1 + _ ≤ n; omega⟩ ?_
          · rw [List.mem_singleton.mp hx, getDn_set _ hil, if_pos rfl]
          · exact fun x a hx hP y hy => (hcl.set hil hmi) x a hx (fun q => by rcases q with q | q; exact q; exact hP (List.mem_singleton.mpr q)) y hy
          · rw [getDn_set _ hil]
            by_cases e : x = i
            · rw [if_pos e]
              simp
            · rw [if_neg e]
              exact hdn x (by omega)
          · clear hmi hil hso hcl hdn hnn hnle h3 s3 hmo h4 s4 sw hw
            rintro k σ H6 ⟨v3, v9, mo, W, rfl, s6, h6m, h6w, hmo, hso, hwa, hcl, hdn, rfl, hsz⟩
            refine ⟨.ref w, rfl, !(nv W).isEmpty, .inl ⟨_, SqL.of h6w, rfl⟩, ?_⟩
            rcases List.eq_nil_or_concat W with rfl | ⟨W', sp, rfl⟩
            · refine iteF ?_
              exact ⟨v3, v4, v5, _, _, v9, mo, rfl, s6, h6m, hmo, hso, fun x a hx _ y hy => hcl x a hx (by simp) y hy, hdn⟩
            · rw [List.concat_eq_append] at *
              have hne : (!(nv (W' ++ [sp])).isEmpty) = true := by
                rw [nv_snoc]
                cases nv W' <;> rfl
              rw [hne]
              refine iteT ?_
              refine ⟨fun σ' H' => ∃ k', k' < 2 * nones mo + (W' ++ [sp]).length ∧ ∃ v3 v9 mo W, σ' = [some (.int (n : Int)), some (.ref t), some (.ref D), v3, v4, v5, some (.ref m), some (.int (i : Int)), some (.ref w), v9] ∧ Same H2 H' ∧ H' m = some (.lst (ol mo)) ∧ H' w = some (.lst (nv W)) ∧ mo.length = n ∧ So (sn es) mo ∧ (∀ x ∈ W, mo.getD x none = some i) ∧ Clo N mo (fun x => x ∈ W) ∧ (∀ x, x < i + 1 → mo.getD x none ≠ none) ∧ k' = 2 * nones mo + W.length ∧ W.length + nones mo ≤ n, fun σ' H' h => h, ?_⟩
              have hspm := hwa sp (List.mem_append_right _ (List.mem_singleton.mpr rfl))
              have hspn : sp < n := by
                have := none_len hspm
                omega
              -- spot = waiting.pop()
              refine ⟨.ref w, rfl, .inl ⟨rfl, _, SqL.of h6w⟩, w, _, .int (sp : Int), rfl, rfl, h6w, by rw [nv_snoc]; exact get_last _ _, ?_⟩
              have hdl : (nv (W' ++ [sp])).dropLast = nv W' := by
                rw [nv_snoc]
                exact List.dropLast_concat
              rw [hdl]
              have s7 : Same H2 (upd H6 w (.lst (nv W'))) := same_at s6 hw2
              have h7m : (upd H6 w (.lst (nv W'))) m = some (.lst (ol mo)) := by
                rw [upd_ne hmw]
                exact h6m
              have h7w : (upd H6 w (.lst (nv W'))) w = some (.lst (nv W')) := upd_same
              generalize upd H6 w (.lst (nv W')) = H7 at s7 h7m h7w ⊢
              obtain ⟨ra, hra, gra, hrr⟩ := r2.get (i := sp) (by omega)
              have hrs : ∀ H', Same H2 H' → SqL K H' ra (nv (N sp)) := fun H' s => SqL.of (s _ _ hrr)
              refine ⟨.ref D, rfl, .int (sp : Int), rfl, D, _, _, _, rfl, rfl, s7.seq (SqL.of r2.li), atI_nat gra, ra, rfl, ⟨_, hrs _ s7⟩, for_list (xs := nv (N sp)) (fun j σ H' => ∃ v9 mo' W, σ = [some (.int (n : Int)), some (.ref t), some (.ref D), some (.int (sp : Int)), v4, v5, some (.ref m), some (.int (i : Int)), some (.ref w), v9] ∧ Same H2 H' ∧ H' m = some (.lst (ol mo')) ∧ H' w = some (.lst (nv W)) ∧ mo'.length = n ∧ So (sn es) mo' ∧ (∀ x ∈ W, mo'.getD x none = some i) ∧ mo'.getD sp none = some i ∧ Clo N mo' (fun x => x ∈ W ∨ x = sp) ∧ (∀ y ∈ (N sp).take j, mo'.getD y none = some i) ∧ (∀ x, x < i + 1 → mo'.getD x none ≠ none) ∧ 2 * nones mo' + W.length ≤ 2 * nones mo + W'.length ∧ W.length + nones mo' ≤ n)
                ⟨v9, mo, W', rfl, s7, h7m, h7w, hmo, hso, fun x hx => hwa x (List.mem_append_left _ hx), hspm, fun x a hx hP y hy => hcl x a hx (fun q => ?_) y hy, fun y hy => by simp at hy, hdn, Nat.le_refl _, ?_⟩ (fun j σ H' _ ⟨_, _, _, _, s, _⟩ => hrs H' s) ?_ ?_⟩
              · rcases List.mem_append.mp q with q | q
                · exact hP (.inl q)
                · exact hP (.inr (List.mem_singleton.mp q))
              · rw [List.length_append] at hsz
                have : W'.length + 1 + nones mo ≤ n := hsz
                omega
              · rintro j y σ H8 hj ⟨v9, mo', W, rfl, s8, h8m, h8w, hmo', hso', hwa', hsp', hcl', htk, hdn', hms, hsz'⟩
                obtain ⟨o, ho, rfl⟩ := nv_get hj
                have hoN := mem_at ho
                have hon := hNb sp hspn o hoN
                have hol : o < mo'.length := by omega
                have htk1 : ∀ y, y ∈ (N sp).take (j + 1) → y ∈ (N sp).take j ∨ y = o := fun y hy => by
                  rw [List.take_add_one, ho, Option.toList_some] at hy
                  rcases List.mem_append.mp hy with h | h
                  · exact .inl h
                  · exact .inr (List.mem_singleton.mp h)
                refine ⟨.ref m, rfl, .int (o : Int), rfl, m, _, _, _, rfl, rfl, SqL.of h8m, atI_nat (ol_at hol), rfl, _, rfl, ?_⟩
                rw [ov_non]
                cases hmo_o : mo'.getD o none with
                | some a =>
                  refine iteF ?_
                  have ha : a = i := by
                    by_cases hP : o ∈ W ∨ o = sp
                    · rcases hP with q | q
                      · have := hwa' o q
                        rw [hmo_o] at this
                        exact Option.some.inj this
                      · rw [q, hsp'] at hmo_o
                        exact (Option.some.inj hmo_o).symm
                    · have := hcl' o a hmo_o hP sp (hN.sym hoN)
                      rw [hsp'] at this
                      exact (Option.some.inj this).symm
                  refine ⟨_, mo', W, rfl, s8, h8m, h8w, hmo', hso', hwa', hsp', hcl', fun y hy => ?_, hdn', hms, hsz'⟩
                  rcases htk1 y hy with h | h
                  · exact htk y h
                  · rw [h, hmo_o, ha]
                | none =>
                  refine iteT ?_
                  refine ⟨.int (i : Int), rfl, .ref m, rfl, .int (o : Int), rfl, m, _, o, rfl, rfl, h8m, by unfold ol; rw [List.length_map]; exact hol, ?_⟩
                  rw [ol_set]
                  have s9 : Same H2 (upd H8 m (.lst (ol (mo'.set o (some i))))) := same_at s8 hm2
                  have h9m : (upd H8 m (.lst (ol (mo'.set o (some i))))) m = some (.lst (ol (mo'.set o (some i)))) := upd_same
                  have h9w : (upd H8 m (.lst (ol (mo'.set o (some i))))) w = some (.lst (nv W)) := by
                    rw [upd_ne (Ne.symm hmw)]
                    exact h8w
                  generalize upd H8 m (.lst (ol (mo'.set o (some i)))) = H9 at s9 h9m h9w ⊢
                  have hnn := nones_set i hol hmo_o
                  refine ⟨.ref w, rfl, .inl ⟨rfl, _, SqL.of h9w⟩, _, rfl, w, _, _, rfl, rfl, h9w, small1001 (by rw [nv_len]; omega), ?_⟩
                  have hos : sp ≠ o := fun q => by
                    rw [← q, hsp'] at hmo_o
                    cases hmo_o
                  refine ⟨_, mo'.set o (some i), W ++ [o], rfl, same_at s9 hw2, by rw [upd_ne hmw]; exact h9m, by rw [upd_same, nv_snoc], by rw [List.length_set]; exact hmo', hso'.set hol (fun f hf => by rw [← hN.con hf hoN]; exact hso' sp i hsp' f hf), fun x hx => ?_, ?_, fun x a hx hP y hy => (hcl'.set hol hmo_o) x a hx (fun q => ?_) y hy, fun y hy => ?_, fun x hx => ?_, ?_, ?_⟩
                  · rw [getDn_set _ hol]
                    split
                    · rfl
                    · rcases List.mem_append.mp hx with q | q
                      · exact hwa' x q
                      · rename_i h
                        exact absurd (List.mem_singleton.mp q) h
                  · rw [getDn_set _ hol, if_neg hos]
                    exact hsp'
                  · rcases q with (q | q) | q
                    · exact hP (.inl (List.mem_append_left _ q))
                    · exact hP (.inr q)
                    · exact hP (.inl (List.mem_append_right _ (List.mem_singleton.mpr q)))
                  · rw [getDn_set _ hol]
                    split
                    · rfl
                    · rename_i h
                      rcases htk1 y hy with q | q
                      · exact htk y q
                      · exact absurd q h
                  · rw [getDn_set _ hol]
                    split
                    · simp
                    · exact hdn' x hx
                  · rw [List.length_append]
                    show _ + (W.length + 1) ≤ _
                    omega
                  · rw [List.length_append]
                    show W.length + 1 + _ ≤ _
                    omega
              · rintro σ H8 ⟨v9, mo', W, rfl, s8, h8m, h8w, hmo', hso', hwa', hsp', hcl', htk, hdn', hms, hsz'⟩
                rw [nv_len, List.take_length] at htk
                refine ⟨2 * nones mo' + W.length, by rw [List.length_append]; show _ < _ + (W'.length + 1); omega, _, _, mo', W, rfl, s8, h8m, h8w, hmo', hso', hwa', fun x a hx hP y hy => ?_, hdn', rfl, hsz'⟩
                by_cases q : x = sp
                · rw [q] at hx hy
                  rw [hsp'] at hx
                  rw [← Option.some.inj hx]
                  exact htk y hy
                · exact hcl' x a hx (fun z => z.elim hP q) y hy
      · rintro σ H3 ⟨v3, v4, v5, v7, v8, v9, mo, rfl, s3, h3, hmo, hso, hcl, hdn⟩
        -- all are marked
        have hall : ∀ x, x < n → ∃ a, mo.getD x none = some a := fun x hx => by
          cases e : mo.getD x none with
          | none => exact absurd e (hdn x hx)
          | some a => exact ⟨a, rfl⟩
        have eol : ol mo = nv (mo.map fun o => o.getD 0) := by
          unfold ol nv iv
          rw [List.map_map, List.map_map]
          refine List.map_congr_left fun o ho => ?_
          obtain ⟨x, hx⟩ := List.getElem?_of_mem ho
          have hxl := (List.getElem?_eq_some_iff.mp hx).1
          obtain ⟨a, ha⟩ := hall x (by omega)
          rw [List.getD_eq_getElem?_getD, hx] at ha
          have ha' : o = some a := ha
          rw [ha']
          rfl
        have eg : ∀ x a, mo.getD x none = some a → (mo.map fun o => o.getD 0).getD x 0 = a := fun x a ha => by
          have hxl := none_len ha
          rw [List.getD_eq_getElem?_getD, List.getElem?_map]
          rw [List.getD_eq_getElem?_getD, List.getElem?_eq_getElem hxl] at ha
          rw [List.getElem?_eq_getElem hxl]
          have ha' : mo[x] = some a := ha
          rw [ha']
          rfl
        rw [eol] at h3
        refine ⟨.ref m, rfl, k H3 m _ (s2.trans s3) (s2.free hm2) h3 (by rw [List.length_map]; exact hmo) (fun e he => ?_) (fun x y hx hy exy f hf => ?_)⟩
        · obtain ⟨b1, b2⟩ := hE e he
          obtain ⟨a, ha⟩ := hall e.1 b1
          have := hcl e.1 a ha (fun z => z) e.2 ((hN _ _).mpr (.inl he))
          rw [eg _ _ ha, eg _ _ this]
        · obtain ⟨a, ha⟩ := hall x hx
          obtain ⟨b, hb⟩ := hall y hy
          rw [eg _ _ ha, eg _ _ hb] at exy
          rw [hso x a ha f hf, hso y b hb f hf, exy]
end
end Fb

/-! FbV -/
set_option maxHeartbeats 4000000
/-! Rows of pairs; path_between, ring_with -/
namespace Fb
open PySem PySem.Spec PyProof.Rows L2
/-- rows of pairs -/
structure PRows (H : Hp) (D : Addr) (ls : List Addr) (Pf : Nat → List (Addr × (Nat × Nat))) : Prop where
  ro : Rows H D ls fun x => rf (Pf x)
  tg : ∀ x, Tg PrT H (Pf x)
theorem PRows.same {H H' : Hp} {D : Addr} {ls : List Addr} {Pf : Nat → List (Addr × (Nat × Nat))} (h : PRows H D ls Pf) (s : Same H H') : PRows H' D ls Pf := ⟨h.ro.same s, fun x => (h.tg x).mono mo_prt s⟩
theorem PRows.put {H : Hp} {D : Addr} {ls : List Addr} {Pf : Nat → List (Addr × (Nat × Nat))} (h : PRows H D ls Pf) {i : Nat} {a : Addr} (ha : ls[i]? = some a) {q : Addr} (hq : H q = none) (e : Nat × Nat) :
    PRows (upd (upd H q (.tup [.int (e.1 : Int), .int (e.2 : Int)])) a (.lst (rf (Pf i) ++ [.ref q]))) D ls fun x => if x = i then Pf i ++ [(q, e)] else Pf x := by
  have s := same_new (o := .tup [.int (e.1 : Int), .int (e.2 : Int)]) hq
  have h' := h.same s
  have hra := h'.ro.ro i a ha
  refine ⟨?_, fun x => prt_list (fun y hy => ?_) hra⟩
  · have r := h'.ro.put ha (rf (Pf i) ++ [.ref q])
    have ef : (fun j => if j = i then rf (Pf i) ++ [V.ref q] else rf (Pf j)) = fun x => rf (if x = i then Pf i ++ [(q, e)] else Pf x) := by
      funext x
      by_cases hx : x = i
      · rw [if_pos hx, if_pos hx, rf_snoc]
      · rw [if_neg hx, if_neg hx]
    rw [ef] at r
    exact r
  · split at hy
    · rcases List.mem_append.mp hy with hy | hy
      · exact h'.tg i y hy
      · rw [List.mem_singleton.mp hy]
        exact upd_same
    · exact h'.tg x y hy
/-- by which of some ties one comes from x where -/
def Adj (E : List (Nat × Nat)) (S : List Nat) (x t y : Nat) : Prop := t ∈ S ∧ (((en E t).1 = x ∧ (en E t).2 = y) ∨ ((en E t).1 = y ∧ (en E t).2 = x))
/-- rows that tell it -/
def ARow (E : List (Nat × Nat)) (S : List Nat) (Pf : Nat → List (Addr × (Nat × Nat))) : Prop := ∀ x t y, (t, y) ∈ sn (Pf x) ↔ Adj E S x t y
theorem sn_if {i : Nat} {q : Addr} {e : Nat × Nat} (Pf : Nat → List (Addr × (Nat × Nat))) (x t y : Nat) : (t, y) ∈ sn (if x = i then Pf i ++ [(q, e)] else Pf x) ↔ (t, y) ∈ sn (Pf x) ∨ (x = i ∧ (t, y) = e) := by
  by_cases hx : x = i
  · subst hx
    rw [if_pos rfl, sn_snoc, List.mem_append, List.mem_singleton]
    simp
  · rw [if_neg hx]
    simp [hx]
theorem adj_snoc {E : List (Nat × Nat)} {S : List Nat} {u : Nat} (x t y : Nat) : Adj E (S ++ [u]) x t y ↔ Adj E S x t y ∨ (x = (en E u).1 ∧ (t, y) = (u, (en E u).2)) ∨ (x = (en E u).2 ∧ (t, y) = (u, (en E u).1)) := by
  unfold Adj
  rw [List.mem_append, List.mem_singleton, Prod.mk.injEq, Prod.mk.injEq]
  constructor
  · rintro ⟨h | h, q⟩
    · exact .inl ⟨h, q⟩
    · subst h
      rcases q with ⟨q1, q2⟩ | ⟨q1, q2⟩
      · exact .inr (.inl ⟨q1.symm, rfl, q2.symm⟩)
      · exact .inr (.inr ⟨q2.symm, rfl, q1.symm⟩)
  · rintro (⟨h, q⟩ | ⟨h, q1, q2⟩ | ⟨h, q1, q2⟩)
    · exact ⟨.inl h, q⟩
    · subst q1
      exact ⟨.inr rfl, .inl ⟨h.symm, q2.symm⟩⟩
    · subst q1
      exact ⟨.inr rfl, .inr ⟨q2.symm, h.symm⟩⟩
theorem dp_append (E : List (Nat × Nat)) (f : Nat → Bool) (p q : List Nat) : dp E f (p ++ q) = (dp E f p ^^ dp E f q) := by
  induction p with
  | nil => simp [dp]
  | cons i p ih =>
    show (df E f i ^^ dp E f (p ++ q)) = ((df E f i ^^ dp E f p) ^^ dp E f q)
    rw [ih, Bool.xor_assoc]
theorem dp_perm {E : List (Nat × Nat)} {f : Nat → Bool} {p q : List Nat} (h : p.Perm q) : dp E f p = dp E f q := by
  induction h with
  | nil => rfl
  | cons x _ ih =>
    show (df E f x ^^ _) = (df E f x ^^ _)
    rw [ih]
  | swap x y l =>
    show (df E f y ^^ (df E f x ^^ dp E f l)) = (df E f x ^^ (df E f y ^^ dp E f l))
    rw [← Bool.xor_assoc, Bool.xor_comm (df E f y), Bool.xor_assoc]
  | trans _ _ h1 h2 => exact h1.trans h2
/-- ways found so far: to the spots of W, each with the ties that lead there -/
structure Wys (E : List (Nat × Nat)) (S : List Nat) (n first : Nat) (A : Nat → Option (Addr × List Nat)) (W : List Nat) : Prop where
  ks : ∀ x, (A x).isSome = true ↔ x ∈ W
  nd : W.Nodup
  bn : ∀ x ∈ W, x < n
  nl : ∀ x a l, A x = some (a, l) → l.Nodup
  sb : ∀ x a l, A x = some (a, l) → ∀ t ∈ l, t ∈ S ∧ (en E t).1 ∈ W ∧ (en E t).2 ∈ W
  wy : ∀ x a l, A x = some (a, l) → ∀ f, dp E f l = (f first ^^ f x)
theorem Wys.step {E : List (Nat × Nat)} {S : List Nat} {n first : Nat} {A : Nat → Option (Addr × List Nat)} {W : List Nat} (h : Wys E S n first A W) {x t y : Nat} {a b : Addr} {l : List Nat} (hx : A x = some (a, l)) (hy : A y = none) (hn : y < n) (hadj : Adj E S x t y) :
    Wys E S n first (fun z => if z = y then some (b, l ++ [t]) else A z) (W ++ [y]) := by
  have hyW : y ∉ W := fun m => by
    have := (h.ks y).mpr m
    rw [hy] at this
    cases this
  have hxW : x ∈ W := (h.ks x).mp (by rw [hx]; rfl)
  have htl : t ∉ l := fun m => by
    obtain ⟨_, h1, h2⟩ := h.sb x a l hx t m
    rcases hadj.2 with ⟨q1, q2⟩ | ⟨q1, q2⟩
    · exact hyW (by rw [← q2]; exact h2)
    · exact hyW (by rw [← q1]; exact h1)
  refine ⟨fun z => ?_, List.nodup_append.mpr ⟨h.nd, List.pairwise_singleton _ _, fun p hp q hq => ?_⟩, fun z hz => ?_, fun z c k e => ?_, fun z c k e u hu => ?_, fun z c k e f => ?_⟩
  · by_cases q : z = y
    · rw [if_pos q, q]
      simp
    · rw [if_neg q, h.ks z]
      simp [q]
  · rw [List.mem_singleton.mp hq]
    exact fun e => hyW (e ▸ hp)
  · rcases List.mem_append.mp hz with m | m
    · exact h.bn z m
    · rw [List.mem_singleton.mp m]
      exact hn
  · by_cases q : z = y
    · rw [if_pos q] at e
      cases e
      refine List.nodup_append.mpr ⟨h.nl x a l hx, List.pairwise_singleton _ _, fun p hp r hr => ?_⟩
      rw [List.mem_singleton.mp hr]
      exact fun e => htl (e ▸ hp)
    · rw [if_neg q] at e
      exact h.nl z c k e
  · by_cases q : z = y
    · rw [if_pos q] at e
      cases e
      rcases List.mem_append.mp hu with m | m
      · obtain ⟨h1, h2, h3⟩ := h.sb x a l hx u m
        exact ⟨h1, List.mem_append_left _ h2, List.mem_append_left _ h3⟩
      · rw [List.mem_singleton.mp m]
        refine ⟨hadj.1, ?_⟩
        rcases hadj.2 with ⟨q1, q2⟩ | ⟨q1, q2⟩
        · rw [q1, q2]
          exact ⟨List.mem_append_left _ hxW, List.mem_append_right _ (List.mem_singleton.mpr rfl)⟩
        · rw [q1, q2]
          exact ⟨List.mem_append_right _ (List.mem_singleton.mpr rfl), List.mem_append_left _ hxW⟩
    · rw [if_neg q] at e
      obtain ⟨h1, h2, h3⟩ := h.sb z c k e u hu
      exact ⟨h1, List.mem_append_left _ h2, List.mem_append_left _ h3⟩
  · by_cases q : z = y
    · rw [if_pos q] at e
      cases e
      rw [dp_append, h.wy x a l hx f, q]
      show ((f first ^^ f x) ^^ (df E f t ^^ false)) = _
      have ed : df E f t = (f x ^^ f y) := by
        unfold df
        rcases hadj.2 with ⟨q1, q2⟩ | ⟨q1, q2⟩
        · rw [q1, q2]
        · rw [q1, q2, Bool.xor_comm]
      rw [ed]
      generalize f first = p1
      generalize f x = p2
      generalize f y = p3
      cases p1 <;> cases p2 <;> cases p3 <;> rfl
    · rw [if_neg q] at e
      exact h.wy z c k e f
-- path_between: slots 0=web 1=ties 2=first 3=last 4=near 5=spot 6=tie 7=low 8=high 9=ways 10=waiting 11=at 12=other; cells 
abbrev spath_between : Stmt := topS 23
abbrev Npath_between : List Str := ["web", "ties", "first", "last", "near", "spot", "tie", "low", "high", "ways", "waiting", "at", "other"]
theorem scpath_between : FnScope Npath_between ["web", "ties", "first", "last"] (defScope spath_between) := ⟨rfl, rfl, rfl, by decide +kernel, rfl, by decide +kernel, by decide +kernel⟩
-- ring_with: slots 0=web 1=tie 2=forest; cells 
abbrev sring_with : Stmt := topS 24
abbrev Nring_with : List Str := ["web", "tie", "forest"]
theorem scring_with : FnScope Nring_with ["web", "tie"] (defScope sring_with) := ⟨rfl, rfl, rfl, by decide +kernel, rfl, by decide +kernel, by decide +kernel⟩
-- bond_with: slots 0=web 1=tie 2=forest 3=marks 4=other 5=one 6=two 7=low 8=high; cells web tie marks one two
abbrev sbond_with : Stmt := topS 25
abbrev Nbond_with : List Str := ["web", "tie", "forest", "marks", "other", "one", "two", "low", "high"]
theorem scbond_with : FnScope Nbond_with ["web", "tie"] (defScope sbond_with) := ⟨rfl, rfl, rfl, by decide +kernel, rfl, by decide +kernel, by decide +kernel⟩
section
variable {P : Program} {w : World} {K : PySem.W.Frag} {mg : Str → Option Value} {base : Heap} {mt : Nat}
def sp_path_between (K : PySem.W.Frag) : Sp := fun vs H Q _ => ∃ (p b n : Nat) (E : List (Nat × Nat)) (S : List Nat) (x y : Nat), vs = [.ref p, .ref b, .int (x : Int), .int (y : Int)] ∧ Web K H p (n, E) ∧ WebOk n E ∧ Nts K H b S ∧ (∀ t ∈ S, t < E.length) ∧ S.length ≤ 40 ∧ x < n ∧ y < n ∧ (∀ f, (∀ u ∈ S, df E f u = false) → f x = f y) ∧
  ∀ H' a l, Same H H' → Nts K H' a l → l.Nodup → (∀ t ∈ l, t ∈ S) → (∀ f, dp E f l = (f x ^^ f y)) → Q (.ref a) H'
theorem ok_path_between {f : Addr} {fd : FuncData} (F : Fun K "path_between" "path_between" spath_between f fd) (T : Bi mg mt) : FnOk P w K mg base CX0 1 f fd ["web", "ties", "first", "last"] (sp_path_between K) := by
  refine okC F scpath_between (fun vs H Q E h => ?_) (fun cdv A outer s H vs Q E hr hcd h => ?_)
  · obtain ⟨p, b, n, E, S, x, y, rfl, _⟩ := h
    rfl
  · obtain ⟨p, b, n, E, S, first, last, rfl, ⟨ta, hp, es, rfl, ht, hg⟩, hW, hb, hS, hSl, hf, hl, hcon, k⟩ := h
    have hn := hW.nb
    have hu := hu_of hr
    refine ⟨_, (pss_cons (ps_setLc (i := 4) (own := [("spot", 5)]) rfl scpath_between.nd rfl rfl (sw_true rfl rfl rfl (by decide +kernel)) (pi_range1 (by rfl) T.range (pa_cons (pe_ix ix_tup (pv 0) pe_int (fun _ _ => rfl)) pa_nil)) (blkOk_by (N := Npath_between) (sc := (defScope spath_between)) (by decide +kernel)) (fun _ _ _ _ _ => (pg_name (i := 5) scpath_between.nd rfl (Or.inl rfl))) (fun _ _ _ _ _ => pts_nil) (fun _ _ _ _ _ => (pe_lst pa_nil)))
      (pss_cons (ps_for PassesOwn.never rfl (pi_tup (pv 1)) (pg_name (i := 6) scpath_between.nd rfl (Or.inl rfl))
        (pss_cons (ps_asg (pe_ix ix_tup (pe_ix ix_tup (pv 0) pe_int (fun _ _ => rfl)) (pv 6) (fun _ _ => rfl)) (pg_tup (n := 2) rfl (pgs_cons (pg_name (i := 7) scpath_between.nd rfl (Or.inl rfl)) (pgs_cons (pg_name (i := 8) scpath_between.nd rfl (Or.inl rfl)) pgs_nil))))
        (pss_cons (ps_expr (pe_bm PySem.F.plainAttrs_list PySem.F.slot_list_append PySem.F.type_list_append mt_append (pe_ix ix_list (pv 4) (pv 7) (fun _ _ => rfl)) (pa_cons (pe_tup (pa_cons (pv 6) (pa_cons (pv 8) pa_nil))) pa_nil)))
        (pss_one (ps_expr (pe_bm PySem.F.plainAttrs_list PySem.F.slot_list_append PySem.F.type_list_append mt_append (pe_ix ix_list (pv 4) (pv 8) (fun _ _ => rfl)) (pa_cons (pe_tup (pa_cons (pv 6) (pa_cons (pv 7) pa_nil))) pa_nil)))))))
      (pss_cons (ps_par3 (i := 9) (j := 10) (l := 11) (by rfl) scpath_between.nd rfl rfl rfl (by decide) (by decide) (by decide) rfl rfl rfl (pa_cons (pe_disp (pps_cons (pv 2) (pe_tup pa_nil) pps_nil) (by rfl) (by rfl) (fun z => by cases z) (by decide)) (pa_cons (pe_lst (pa_cons (pv 2) pa_nil)) (pa_cons pe_int pa_nil))) (by rfl))
      (pss_cons (ps_while PassesOwn.never (pt_cmpR op_ltN (pv 11) (pe_callB call_len_seq (by rfl) T.len (by decide +kernel) (pa_cons (pv 10) pa_nil)) (nomark _))
        (pss_cons (ps_set (i := 5) scpath_between.nd rfl (Or.inl rfl) (pe_ix ix_list (pv 10) (pv 11) (fun _ _ => rfl)))
        (pss_cons (ps_set (i := 11) scpath_between.nd rfl (Or.inl rfl) (pe_op op_addN (pv 11) pe_int))
        (pss_cons (ps_if (pt_cmpR op_eqN (pv 5) (pv 3) (nomark _))
          (pss_one (ps_ret (pe_dget hu (pv 9) (pv 5) (fun _ _ => rfl))))
          pss_nil)
        (pss_one (ps_for PassesOwn.never rfl (pi_list (pe_ix ix_list (pv 4) (pv 5) (fun _ _ => rfl))) (pg_tup (n := 2) rfl (pgs_cons (pg_name (i := 6) scpath_between.nd rfl (Or.inl rfl)) (pgs_cons (pg_name (i := 12) scpath_between.nd rfl (Or.inl rfl)) pgs_nil)))
          (pss_one (ps_if (pt_cmp (pc_dnotin hu (pv 12) (pv 9)))
            (pss_cons (ps_dput hu (pv 9) (pv 12) (pe_op op_catN (pe_dget hu (pv 9) (pv 5) (fun _ _ => rfl)) (pe_tup (pa_cons (pv 6) pa_nil))) rfl)
            (pss_one (ps_expr (pe_bm PySem.F.plainAttrs_list PySem.F.slot_list_append PySem.F.type_list_append mt_append (pv 10) (pa_cons (pv 12) pa_nil)))))
            pss_nil))))))))
      (pss_one (ps_ret pe_non)))))), ?_⟩
    refine ⟨.ref p, rfl, p, _, 0, .int (n : Int), rfl, rfl, hp, atI_nat (j := 0) rfl, (n : Int), rfl, by omega, by omega, fun D hD => ?_⟩
    refine lc_rows walk_rngN (by omega) hD (fun _ _ => True.intro) (fun i x H1 H2 Ky Kn hi s y ky => ?_) fun H1 ls s1 r1 hls hln => ?_
    · obtain ⟨rfl, rfl⟩ := y
      exact ⟨rfl, Nat.zero_le _, fun l hl => ky l hl⟩
    -- near
    refine ⟨.ref b, rfl, b, rfl, ⟨_, s1.seqT hb⟩, for_tup (xs := nv S) (fun i σ H' => ∃ v6 v7 v8 Pf, σ = [some (.ref p), some (.ref b), some (.int (first : Int)), some (.int (last : Int)), some (.ref D), none, v6, v7, v8, none, none, none, none] ∧ Same H H' ∧ PRows H' D ls Pf ∧ ARow (sn es) (S.take i) Pf ∧ ∀ x, (Pf x).length ≤ 2 * i)
      ⟨none, none, none, fun _ => [], rfl, s1, ⟨by exact r1, fun _ _ h => by simp at h⟩, fun x t y => by simp [sn, Adj], fun _ => Nat.zero_le _⟩ (fun i σ H' _ ⟨_, _, _, _, _, s, _⟩ => s.seqT hb) ?_ ?_⟩
    · rintro i y σ H2 hi ⟨v6, v7, v8, Pf, rfl, s2, r2, hA, hPl⟩
      obtain ⟨t, htS, rfl⟩ := nv_get hi
      have htm := mem_at htS
      have htl := hS t htm
      have hil := (List.getElem?_eq_some_iff.mp htS).1
      rw [sn_len] at htl
      have he : es[t]? = some es[t] := List.getElem?_eq_getElem htl
      have hen := en_sn he
      obtain ⟨b1, b2, b3⟩ := hW.en (by rw [sn_len]; exact htl : t < (sn es).length)
      rw [hen] at b1 b2 b3
      have hge := hg es[t] (List.getElem_mem htl)
      generalize es[t] = e at he hen b1 b2 b3 hge
      refine ⟨.ref p, rfl, p, _, 1, .ref ta, rfl, rfl, s2.seqT hp, atI_nat (j := 1) rfl, .int (t : Int), rfl, ta, rf es, (t : Int), .ref e.1, rfl, rfl, s2.seqT ht, atI_nat (rf_at he), ?_⟩
      refine ⟨e.1, _, rfl, s2.seqT hge, rfl, _, _, rfl, _, _, rfl, rfl, ?_⟩
      obtain ⟨a1, ha1, ga1, hr1⟩ := r2.ro.get (i := e.2.1) (by omega)
      refine ⟨.ref D, rfl, _, rfl, D, _, _, _, rfl, rfl, SqL.of r2.ro.li, atI_nat ga1, .inl ⟨rfl, _, SqL.of hr1⟩, _, rfl, _, rfl, by show 2 ≤ sizeLine; decide, fun q1 hq1 => ?_⟩
      have r3 := r2.put ha1 hq1 (t, e.2.2)
      have s3 : Same H (upd (upd H2 q1 (.tup [.int (t : Int), .int (e.2.2 : Int)])) a1 (.lst (rf (Pf e.2.1) ++ [.ref q1]))) := same_at (s2.trans (same_new hq1)) (hln a1 (mem_at ha1))
      refine ⟨a1, _, _, rfl, rfl, (same_new hq1) _ _ hr1, small1001 (by rw [rf_len]; have := hPl e.2.1; omega), ?_⟩
      have hP3 : ∀ x, ((fun x => if x = e.2.1 then Pf e.2.1 ++ [(q1, (t, e.2.2))] else Pf x) x).length ≤ 2 * i + 1 := fun x => by
        show (if x = e.2.1 then Pf e.2.1 ++ [(q1, (t, e.2.2))] else Pf x).length ≤ _
        split
        · rw [List.length_append]
          have := hPl e.2.1
          show _ + 1 ≤ _
          omega
        · have := hPl x
          omega
      have hA3 : ∀ x u z, (u, z) ∈ sn ((fun x => if x = e.2.1 then Pf e.2.1 ++ [(q1, (t, e.2.2))] else Pf x) x) ↔ Adj (sn es) (S.take i) x u z ∨ (x = e.2.1 ∧ (u, z) = (t, e.2.2)) := fun x u z => by
        rw [sn_if, hA]
      generalize (fun x => if x = e.2.1 then Pf e.2.1 ++ [(q1, (t, e.2.2))] else Pf x) = P3 at r3 hP3 hA3
      generalize upd (upd H2 q1 (.tup [.int (t : Int), .int (e.2.2 : Int)])) a1 (.lst (rf (Pf e.2.1) ++ [.ref q1])) = H3 at r3 s3 ⊢
      obtain ⟨a2, ha2, ga2, hr2⟩ := r3.ro.get (i := e.2.2) (by omega)
      refine ⟨.ref D, rfl, _, rfl, D, _, _, _, rfl, rfl, SqL.of r3.ro.li, atI_nat ga2, .inl ⟨rfl, _, SqL.of hr2⟩, _, rfl, _, rfl, by show 2 ≤ sizeLine; decide, fun q2 hq2 => ?_⟩
      have r4 := r3.put ha2 hq2 (t, e.2.1)
      refine ⟨a2, _, _, rfl, rfl, (same_new hq2) _ _ hr2, small1001 (by rw [rf_len]; have := hP3 e.2.2; omega), ?_⟩
      refine ⟨_, _, _, _, rfl, same_at (s3.trans (same_new hq2)) (hln a2 (mem_at ha2)), r4, fun x u z => ?_, fun x => ?_⟩
      · rw [sn_if, hA3, List.take_add_one, htS, Option.toList_some, adj_snoc, hen, or_assoc]
      · show (if x = e.2.2 then P3 e.2.2 ++ [(q2, (t, e.2.1))] else P3 x).length ≤ _
        split
        · rw [List.length_append]
          have := hP3 e.2.2
          show _ + 1 ≤ _
          omega
        · have := hP3 x
          omega
    · rintro σ H2 ⟨v6, v7, v8, Pf, rfl, s2, r2, hA, hPl⟩
      rw [nv_len, List.take_length] at hA
      -- ways, waiting, at
      intro d hd
      have sd := same_new (o := .dK []) hd
      refine ⟨_, rfl, Nat.zero_le _, fun q hq => ⟨(same_new hq) _ _ upd_same, [(.inl (first : Int), .ref q)], rfl, by show 1 ≤ 15; decide, ?_⟩⟩
      have sq := same_new (o := .tup []) hq
      have hd2 : H2 d = none := hd
      have hqd : q ≠ d := fun e => by
        rw [e, upd_same] at hq
        cases hq
      have em : mergeK [] [((.inl (first : Int) : Key), V.ref q)] = putK [] (.inl (first : Int)) (.ref q) := rfl
      rw [em]
      have hND := ND.nil.put first (.ref q)
      have s3 : Same H2 (upd (upd (upd H2 d (.dK [])) q (.tup [])) d (.dK (putK [] (.inl (first : Int)) (.ref q)))) := same_at (sd.trans sq) hd2
      have h3d := upd_same (H := upd (upd H2 d (.dK [])) q (.tup [])) (a := d) (o := .dK (putK [] (.inl (first : Int)) (.ref q)))
      have h3q : (upd (upd (upd H2 d (.dK [])) q (.tup [])) d (.dK (putK [] (.inl (first : Int)) (.ref q)))) q = some (.tup []) := by
        rw [upd_ne hqd, upd_same]
      generalize upd (upd (upd H2 d (.dK [])) q (.tup [])) d (.dK (putK [] (.inl (first : Int)) (.ref q))) = H3 at s3 h3d h3q ⊢
      refine ⟨_, rfl, by show 1 ≤ sizeLine; decide, fun w hw => ⟨_, _, _, rfl, ?_⟩⟩
      have sw := same_new (o := .lst [.int (first : Int)]) hw
      have hw2 : H2 w = none := s3.free hw
      have hdw : d ≠ w := ne_of_none h3d hw
      have hA0 : ∀ x a l, (fun x => if x = first then some (q, ([] : List Nat)) else none) x = some (a, l) → x = first ∧ a = q ∧ l = [] := fun x a l e => by
        have e' : (if x = first then some (q, ([] : List Nat)) else none) = some (a, l) := e
        split at e'
        · rename_i h
          cases e'
          exact ⟨h, rfl, rfl⟩
        · cases e'
      refine while_m (fun m σ H' => ∃ v5 v6 v12 kvs A W, ∃ at' : Nat, σ = [some (.ref p), some (.ref b), some (.int (first : Int)), some (.int (last : Int)), some (.ref D), v5, v6, v7, v8, some (.ref d), some (.ref w), some (.int (at' : Int)), v12] ∧ Same H2 H' ∧ H' d = some (.dK kvs) ∧ ND kvs (fun x => (A x).map fun z => V.ref z.1) ∧ H' w = some (.lst (nv W)) ∧ (∀ x a l, A x = some (a, l) → Nts K (wol [d, w] H') a l) ∧ Wys (sn es) S n first A W ∧ at' ≤ W.length ∧ first ∈ W ∧ (∀ j z, j < at' → W[j]? = some z → z ≠ last ∧ ∀ t y, Adj (sn es) S z t y → y ∈ W) ∧ m = n - at')
        n ⟨none, v6, none, _, fun x => if x = first then some (q, []) else none, [first], 0, rfl, s3.trans sw, sw _ _ h3d, hND.fn fun x => ?_, upd_same, fun x a l e => ?_, ?_, Nat.zero_le _, List.mem_singleton.mpr rfl, fun j z hj => absurd hj (Nat.not_lt_zero _), rfl⟩ ?_
      · show (if x = first then some (V.ref q) else none) = Option.map (fun z : Addr × List Nat => V.ref z.1) (if x = first then some (q, []) else none)
        split <;> rfl
      · obtain ⟨_, ea, el⟩ := hA0 x a l e
        rw [ea, el]
        have hqw : q ≠ w := ne_of_none h3q hw
        exact SqT.of (by rw [wol_out (two_out hqd hqw)]; exact sw _ _ h3q)
      · refine ⟨fun x => ?_, List.pairwise_singleton _ _, fun x hx => by rw [List.mem_singleton.mp hx]; exact hf, fun x a l e => ?_, fun x a l e => ?_, fun x a l e f => ?_⟩
        · rw [List.mem_singleton]
          show (if x = first then some (q, ([] : List Nat)) else none).isSome = true ↔ _
          split
          · rename_i h
            simp [h]
          · rename_i h
            simp [h]
        · obtain ⟨_, rfl, rfl⟩ := hA0 x a l e
          exact List.nodup_nil
        · obtain ⟨_, rfl, rfl⟩ := hA0 x a l e
          exact fun _ h => by simp at h
        · obtain ⟨rfl, rfl, rfl⟩ := hA0 x a l e
          rw [Bool.xor_self]
          rfl
      · clear hND h3d h3q hd hq sd sq hw sw
        rintro m σ H4 ⟨v5, v6, v12, kvs, A, W, at', rfl, s4, h4d, hkv, h4w, hAN, hWy, hat, hfW, hpr, rfl⟩
        have hWl : W.length ≤ n := nat_nodup n W hWy.nd hWy.bn
        refine ⟨_, rfl, .ref w, rfl, w, _, rfl, .inl (SqL.of h4w), at', (nv W).length, rfl, rfl, _, rfl, ?_⟩
        rw [nv_len]
        refine ite2 (fun hlt => ?_) (fun hlt => ?_)
        · have hlt' : at' < W.length := of_decide_eq_true hlt
          refine ⟨fun σ' H' => ∃ m', m' < n - at' ∧ ∃ v5 v6 v12 kvs A W, ∃ at2 : Nat, σ' = [some (.ref p), some (.ref b), some (.int (first : Int)), some (.int (last : Int)), some (.ref D), v5, v6, v7, v8, some (.ref d), some (.ref w), some (.int (at2 : Int)), v12] ∧ Same H2 H' ∧ H' d = some (.dK kvs) ∧ ND kvs (fun x => (A x).map fun z => V.ref z.1) ∧ H' w = some (.lst (nv W)) ∧ (∀ x a l, A x = some (a, l) → Nts K (wol [d, w] H') a l) ∧ Wys (sn es) S n first A W ∧ at2 ≤ W.length ∧ first ∈ W ∧ (∀ j z, j < at2 → W[j]? = some z → z ≠ last ∧ ∀ t y, Adj (sn es) S z t y → y ∈ W) ∧ m' = n - at2, fun σ' H' h => h, ?_⟩
          have hz : W[at']? = some W[at'] := List.getElem?_eq_getElem hlt'
          have hzm := List.getElem_mem hlt'
          generalize W[at'] = z at hz hzm
          have hzn := hWy.bn z hzm
          obtain ⟨az, lz, hAz⟩ : ∃ a l, A z = some (a, l) := by
            have := (hWy.ks z).mpr hzm
            cases e : A z with
            | none =>
              rw [e] at this
              cases this
            | some c => exact ⟨c.1, c.2, rfl⟩
          -- spot = waiting[at]; at = at + 1
          refine ⟨.ref w, rfl, _, rfl, w, _, _, _, rfl, rfl, SqL.of h4w, atI_nat (nv_at hz), ?_⟩
          refine ⟨_, rfl, at', 1, rfl, rfl, ?_⟩
          have hAf : (fun x => (A x).map fun z => V.ref z.1) z = some (.ref az) := by
            show (A z).map _ = _
            rw [hAz]
            rfl
          have hget : ∀ H' kvs, H' d = some (.dK kvs) → ND kvs (fun x => (A x).map fun z => V.ref z.1) → DGet H' d (.int (z : Int)) (some (.ref az)) := fun H' kvs hd' hk' => by
            rw [← hAf]
            exact dg hk' (.inl hd') z
          -- if spot == last: return ways[spot]
          refine ⟨_, rfl, _, rfl, z, last, rfl, rfl, _, rfl, ?_⟩
          refine ite2 (fun he => ?_) (fun he => ?_)
          · have he' : z = last := of_decide_eq_true he
            refine ⟨.ref d, rfl, _, rfl, d, _, rfl, hget H4 kvs h4d hkv, ?_⟩
            exact k H4 az lz (s2.trans s4) (wol_le.seqT (hAN z az lz hAz)) (hWy.nl z az lz hAz) (fun t ht => (hWy.sb z az lz hAz t ht).1) (fun f => by rw [← he']; exact hWy.wy z az lz hAz f)
          · have hzl : z ≠ last := fun e => he (decide_eq_true e)
            obtain ⟨ra, hra, gra, hrr⟩ := r2.ro.get (i := z) (by omega)
            have hrs : ∀ H', Same H2 H' → SqL K H' ra (rf (Pf z)) := fun H' s => SqL.of (s _ _ hrr)
            refine ⟨.ref D, rfl, .int (z : Int), rfl, D, _, _, _, rfl, rfl, s4.seq (SqL.of r2.ro.li), atI_nat gra, ra, rfl, ⟨_, hrs _ s4⟩, for_list (xs := rf (Pf z)) (fun j σ H' => ∃ v6 v12 kvs A X, σ = [some (.ref p), some (.ref b), some (.int (first : Int)), some (.int (last : Int)), some (.ref D), some (.int (z : Int)), v6, v7, v8, some (.ref d), some (.ref w), some (.int ((at' + 1 : Nat) : Int)), v12] ∧ Same H2 H' ∧ H' d = some (.dK kvs) ∧ ND kvs (fun x => (A x).map fun z => V.ref z.1) ∧ H' w = some (.lst (nv (W ++ X))) ∧ (∀ x a l, A x = some (a, l) → Nts K (wol [d, w] H') a l) ∧ Wys (sn es) S n first A (W ++ X) ∧ A z = some (az, lz) ∧ ∀ e ∈ sn ((Pf z).take j), e.2 ∈ W ++ X)
              ⟨v6, v12, kvs, A, [], rfl, s4, h4d, hkv, by rw [List.append_nil]; exact h4w, hAN, by rw [List.append_nil]; exact hWy, hAz, fun e he => by simp [sn] at he⟩ (fun j σ H' _ ⟨_, _, _, _, _, _, s, _⟩ => hrs H' s) ?_ ?_⟩
            · rintro j y σ H5 hj ⟨v6, v12, kvs, A, X, rfl, s5, h5d, hkv, h5w, hAN, hWy, hAz, htk⟩
              obtain ⟨e, he', rfl⟩ := rf_get hj
              have hPe : PrT H5 e.1 e.2 := s5 _ _ (r2.tg z e (mem_at he'))
              have hadj : Adj (sn es) S z e.2.1 e.2.2 := (hA z e.2.1 e.2.2).mp (List.mem_map.mpr ⟨e, mem_at he', rfl⟩)
              have htk1 : ∀ u, u ∈ sn ((Pf z).take (j + 1)) → u ∈ sn ((Pf z).take j) ∨ u = e.2 := fun u hu' => by
                rw [List.take_add_one, he', Option.toList_some, sn_snoc] at hu'
                rcases List.mem_append.mp hu' with h | h
                · exact .inl h
                · exact .inr (List.mem_singleton.mp h)
              have hyn : e.2.2 < n := by
                have htl := hS e.2.1 hadj.1
                obtain ⟨b1, b2, b3⟩ := hW.en htl
                rcases hadj.2 with ⟨q1, q2⟩ | ⟨q1, q2⟩
                · rw [← q2]
                  exact b2
                · rw [← q1]
                  exact b3
              refine ⟨e.1, _, rfl, SqT.of hPe, rfl, _, _, rfl, _, _, rfl, rfl, ?_⟩
              refine ⟨_, rfl, .ref d, rfl, d, _, rfl, dg hkv (.inl h5d) e.2.2, _, rfl, ?_⟩
              cases hAy : A e.2.2 with
              | some c =>
                refine iteF ?_
                refine ⟨_, _, kvs, A, X, rfl, s5, h5d, hkv, h5w, hAN, hWy, hAz, fun u hu' => ?_⟩
                rcases htk1 u hu' with h | h
                · exact htk u h
                · rw [h]
                  exact (hWy.ks _).mp (by rw [hAy]; rfl)
              | none =>
                refine iteT ?_
                have hAf : (fun x => (A x).map fun z => V.ref z.1) z = some (.ref az) := by
                  show (A z).map _ = _
                  rw [hAz]
                  rfl
                have hlz : lz.length ≤ 40 := by
                  have := nat_nodup (sn es).length lz (hWy.nl z az lz hAz) fun t ht => hS t (hWy.sb z az lz hAz t ht).1
                  have := hW.eb
                  omega
                have hget : DGet H5 d (.int (z : Int)) (some (.ref az)) := by
                  rw [← hAf]
                  exact dg hkv (.inl h5d) z
                refine ⟨.ref d, rfl, _, rfl, d, _, rfl, hget, _, rfl, by show 1 ≤ sizeLine; decide, fun u hu' => ?_⟩
                have su := same_new (o := .tup [.int (e.2.1 : Int)]) hu'
                refine ⟨az, u, nv lz, _, rfl, rfl, su.seqT (wol_le.seqT (hAN z az lz hAz)), SqT.of upd_same, by rw [nv_len, sizeLine_eq]; show lz.length + 1 ≤ _; omega, fun c H6 s6 hc => ?_⟩
                rw [← nv_snoc] at hc
                have s56 := su.trans s6
                have h6d := s56 _ _ h5d
                have h6w := s56 _ _ h5w
                have hkl : kvs.length ≤ 1000000 := by
                  have := hkv.len (B := n) fun x hx => by
                    cases q : A x with
                    | none => rfl
                    | some c =>
                      have := hWy.bn x ((hWy.ks x).mp (by rw [q]; rfl))
                      omega
                  omega
                refine ⟨.ref d, rfl, _, rfl, d, _, rfl, dpu h6d hkl e.2.2 _, ?_⟩
                have h7w : (upd H6 d (.dK (putK kvs (.inl (e.2.2 : Int)) (.ref c)))) w = some (.lst (nv (W ++ X))) := by
                  rw [upd_ne (Ne.symm hdw)]
                  exact h6w
                have hWX : (W ++ X).length ≤ n := nat_nodup n _ hWy.nd hWy.bn
                refine ⟨.ref w, rfl, .inl ⟨rfl, _, SqL.of h7w⟩, _, rfl, w, _, _, rfl, rfl, h7w, small1001 (by rw [nv_len]; omega), ?_⟩
                have ew : ∀ o, wol [d, w] (upd (upd H6 d (.dK (putK kvs (.inl (e.2.2 : Int)) (.ref c)))) w o) = wol [d, w] H6 := fun o => by
                  rw [wol_upd (by simp), wol_upd (by simp)]
                refine ⟨_, _, putK kvs (.inl (e.2.2 : Int)) (.ref c), fun x => if x = e.2.2 then some (c, lz ++ [e.2.1]) else A x, X ++ [e.2.2], rfl, same_at (same_at (s5.trans s56) hd2) hw2, by rw [upd_ne hdw, upd_same], (hkv.put e.2.2 (.ref c)).fn fun x => ?_, by rw [upd_same, ← List.append_assoc, nv_snoc], fun x a l q => ?_, ?_, ?_, fun u hu2 => ?_⟩
                · show (if x = e.2.2 then _ else _) = (if x = e.2.2 then _ else _ : Option (Addr × List Nat)).map _
                  split <;> rfl
                · rw [ew]
                  have q' : (if x = e.2.2 then some (c, lz ++ [e.2.1]) else A x) = some (a, l) := q
                  split at q'
                  · cases q'
                    refine sqt_wol (fun b hb' ys r => ?_) hc
                    rcases List.mem_cons.mp hb' with eb | hb'
                    · rw [eb] at r
                      rcases r with r | ⟨o, r⟩ <;> (rw [h6d] at r; cases r)
                    · rw [List.mem_singleton.mp hb'] at r
                      rcases r with r | ⟨o, r⟩ <;> (rw [h6w] at r; cases r)
                  · exact (wol_mono s56).seqT (hAN x a l q')
                · rw [← List.append_assoc]
                  exact hWy.step hAz hAy hyn hadj
                · have : z ≠ e.2.2 := fun q => by
                    rw [← q, hAz] at hAy
                    cases hAy
                  show (if z = e.2.2 then _ else _) = _
                  rw [if_neg this]
                  exact hAz
                · rw [← List.append_assoc]
                  rcases htk1 u hu2 with h | h
                  · exact List.mem_append_left _ (htk u h)
                  · rw [h]
                    exact List.mem_append_right _ (List.mem_singleton.mpr rfl)
            · rintro σ H5 ⟨v6, v12, kvs, A, X, rfl, s5, h5d, hkv, h5w, hAN, hWy, hAz, htk⟩
              rw [rf_len, List.take_length] at htk
              refine ⟨n - (at' + 1), by omega, _, _, _, kvs, A, W ++ X, at' + 1, rfl, s5, h5d, hkv, h5w, hAN, hWy, by rw [List.length_append]; omega, List.mem_append_left _ hfW, fun j z' hj hz' => ?_, rfl⟩
              have hj' : j < W.length := by omega
              rw [List.getElem?_append_left hj'] at hz'
              by_cases q : j = at'
              · rw [q, hz] at hz'
                cases hz'
                exact ⟨hzl, fun t y had => htk (t, y) ((hA z t y).mpr had)⟩
              · obtain ⟨h1, h2⟩ := hpr j z' (by omega) hz'
                exact ⟨h1, fun t y had => List.mem_append_left _ (h2 t y had)⟩
        · -- all is found, yet the last is not
          exfalso
          have hend : at' = W.length := by
            have : ¬ at' < W.length := fun z => hlt (decide_eq_true z)
            omega
          have hcl : ∀ z ∈ W, z ≠ last ∧ ∀ t y, Adj (sn es) S z t y → y ∈ W := fun z hz => by
            obtain ⟨j, hj⟩ := List.getElem?_of_mem hz
            have hjl := (List.getElem?_eq_some_iff.mp hj).1
            exact hpr j z (by omega) hj
          have := hcon (fun x => decide (x ∈ W)) fun u hu => by
            unfold df
            have h1 : (en (sn es) u).1 ∈ W → (en (sn es) u).2 ∈ W := fun m => (hcl _ m).2 u _ ⟨hu, .inl ⟨rfl, rfl⟩⟩
            have h2 : (en (sn es) u).2 ∈ W → (en (sn es) u).1 ∈ W := fun m => (hcl _ m).2 u _ ⟨hu, .inr ⟨rfl, rfl⟩⟩
            have e : decide ((en (sn es) u).1 ∈ W) = decide ((en (sn es) u).2 ∈ W) := dec_congr ⟨h1, h2⟩
            show (decide ((en (sn es) u).1 ∈ W) ^^ decide ((en (sn es) u).2 ∈ W)) = false
            rw [e]
            exact Bool.xor_self _
          have e1 : decide (first ∈ W) = true := decide_eq_true hfW
          have e2 : decide (last ∈ W) = true := by
            have t : decide (first ∈ W) = decide (last ∈ W) := this
            rw [← t]
            exact e1
          exact (hcl last (of_decide_eq_true e2)).1 rfl
/-- the ring that a tie makes with the first forest -/
def sp_ring_with (K : PySem.W.Frag) : Sp := fun vs H Q _ => ∃ (p n : Nat) (E : List (Nat × Nat)) (F : List Nat) (t : Nat), vs = [.ref p, .int (t : Int)] ∧ Web K H p (n, E) ∧ WebOk n E ∧ Fir E F ∧ t < E.length ∧ t ∉ F ∧
  ∀ H' a r, Same H H' → Nts K H' a r → Asc r → (∀ u ∈ r, u < E.length ∧ (u = t ∨ u ∈ F)) → t ∈ r → EvenM E (mk r) → Q (.ref a) H'
theorem ok_ring_with {f : Addr} {fd : FuncData} (F : Fun K "ring_with" "ring_with" sring_with f fd) (T : Bi mg mt) (cfirst_forest : C8.Cal P w K mg base 1 "first_forest" (sp_first_forest K) []) (cpath_between : C8.Cal P w K mg base 1 "path_between" (sp_path_between K) []) : FnOk P w K mg base CX0 2 f fd ["web", "tie"] (sp_ring_with K) := by
  refine okC F scring_with (fun vs H Q E h => ?_) (fun cdv A outer s H vs Q E hr hcd h => ?_)
  · obtain ⟨p, n, E, F, t, rfl, _⟩ := h
    rfl
  · obtain ⟨p, n, E, F, t, rfl, hw, hW, hF, htl, htF, k⟩ := h
    have hw' := hw
    obtain ⟨ta, hp, es, rfl, ht, hg⟩ := hw'
    have heb := hW.eb
    refine ⟨_, (pss_cons (ps_set (i := 2) scring_with.nd rfl (Or.inl rfl) (C8.pe_c cfirst_forest hr (by decide) (by rfl) (pa_cons (pv 0) pa_nil)))
      (pss_cons (ps_if (pt_cmpR (op_inN K) (pv 1) (pv 2) (by with_unfolding_all rfl))
        (pss_one ps_never)
        pss_nil)
      (pss_one (ps_ret (pe_tupleOf (by rfl) T.tuple (pe_callB cr_sortedTI (by rfl) T.sorted (by decide +kernel) (pa_cons (pe_op op_catN (C8.pe_c cpath_between hr (by decide) (by rfl) (pa_cons (pv 0) (pa_cons (pv 2) (pa_cons (pe_ix ix_tup (pe_ix ix_tup (pe_ix ix_tup (pv 0) pe_int (fun _ _ => rfl)) (pv 1) (fun _ _ => rfl)) pe_int (fun _ _ => rfl)) (pa_cons (pe_ix ix_tup (pe_ix ix_tup (pe_ix ix_tup (pv 0) pe_int (fun _ _ => rfl)) (pv 1) (fun _ _ => rfl)) pe_int (fun _ _ => rfl)) pa_nil))))) (pe_tup (pa_cons (pv 1) pa_nil))) pa_nil))))))), ?_⟩
    refine ⟨.ref p, rfl, p, n, sn es, rfl, hw, hW, fun H1 fa F' s1 hF1 hFir => ?_⟩
    have eF := hFir.one hF
    subst eF
    refine ⟨_, rfl, .ref fa, rfl, fa, F', t, rfl, rfl, .inr hF1, _, rfl, ?_⟩
    show (if decide (t ∈ F') = true then _ else _)
    rw [decide_eq_false htF]
    refine iteF ?_
    have htl' := htl
    rw [sn_len] at htl'
    have he : es[t]? = some es[t] := List.getElem?_eq_getElem htl'
    have hen := en_sn he
    obtain ⟨b1, b2, b3⟩ := hW.en htl
    have hge := hg es[t] (List.getElem_mem htl')
    rw [hen] at b1 b2 b3
    generalize es[t] = e at he hen b1 b2 b3 hge
    refine ⟨.ref p, rfl, .ref fa, rfl, .ref p, rfl, p, _, 1, .ref ta, rfl, rfl, s1.seqT hp, atI_nat (j := 1) rfl, .int (t : Int), rfl, ta, rf es, (t : Int), .ref e.1, rfl, rfl, s1.seqT ht, atI_nat (rf_at he), e.1, _, 0, .int (e.2.1 : Int), rfl, rfl, s1.seqT hge, atI_nat (j := 0) rfl, ?_⟩
    refine ⟨.ref p, rfl, p, _, 1, .ref ta, rfl, rfl, s1.seqT hp, atI_nat (j := 1) rfl, .int (t : Int), rfl, ta, rf es, (t : Int), .ref e.1, rfl, rfl, s1.seqT ht, atI_nat (rf_at he), e.1, _, 1, .int (e.2.2 : Int), rfl, rfl, s1.seqT hge, atI_nat (j := 1) rfl, ?_⟩
    have hFl : F'.length ≤ 40 := by
      have := nat_nodup (sn es).length F' (hF.fst.asc.imp fun h => Nat.ne_of_lt h) hF.fst.lt
      omega
    have hdt : ∀ f, df (sn es) f t = (f e.2.1 ^^ f e.2.2) := fun f => by
      unfold df
      rw [hen]
    refine ⟨p, fa, n, sn es, F', e.2.1, e.2.2, rfl, mo_web _ _ _ _ s1 hw, hW, hF1, hF.fst.lt, hFl, b3, b2, fun f hf => ?_, fun H2 a l s2 hl hnd hsub hdp => ?_⟩
    · have := hF.fst.all f hf t htl
      rw [hdt] at this
      generalize f e.2.1 = u at *
      generalize f e.2.2 = v at *
      cases u <;> cases v <;> first | rfl | cases this
    refine ⟨_, rfl, by show 1 ≤ sizeLine; decide, fun u hu' => ?_⟩
    have su := same_new (o := .tup [.int (t : Int)]) hu'
    have hll : l.length ≤ 40 := by
      have := nat_nodup (sn es).length l hnd fun x hx => hF.fst.lt x (hsub x hx)
      omega
    refine ⟨a, u, nv l, _, rfl, rfl, su.seqT hl, SqT.of upd_same, by rw [nv_len, sizeLine_eq]; show l.length + 1 ≤ _; omega, fun c H3 s3 hc => ?_⟩
    rw [← nv_snoc] at hc
    refine ⟨c, iv (l ++ [t]), rfl, hc, fun ns' q hperm hpw hq => .inl ⟨q, _, rfl, SqL.of upd_same, fun r hr' => ?_⟩⟩
    have hnd2 : (l ++ [t]).Nodup := List.nodup_append.mpr ⟨hnd, List.pairwise_singleton _ _, fun x hx y hy => by rw [List.mem_singleton.mp hy]; exact fun e => htF (e ▸ hsub x hx)⟩
    obtain ⟨ys, rfl, ha, hy⟩ := asc_of hpw hperm hnd2
    have hmem : ∀ u ∈ ys, u < (sn es).length ∧ (u = t ∨ u ∈ F') := fun u hu2 => by
      rcases List.mem_append.mp ((hy u).mp hu2) with m | m
      · exact ⟨hF.fst.lt u (hsub u m), .inr (hsub u m)⟩
      · rw [List.mem_singleton.mp m]
        exact ⟨htl, .inl rfl⟩
    have hpy : ys.Perm (l ++ [t]) := (List.perm_ext_iff_of_nodup (ha.imp fun h => Nat.ne_of_lt h) hnd2).mpr hy
    refine k _ r ys ((((s1.trans s2).trans su).trans s3).trans ((same_new hq).trans (same_new hr'))) (SqT.of upd_same) ha hmem ((hy t).mpr (List.mem_append_right _ (List.mem_singleton.mpr rfl))) ⟨fun i hi => ?_, fun f => ?_⟩
    · rw [mk_bit ha]
      exact decide_eq_false fun m => by
        have := (hmem i m).1
        omega
    · rw [dmk_mk ha fun i hi => (hmem i hi).1, dp_perm hpy, dp_append, hdp]
      show ((f e.2.1 ^^ f e.2.2) ^^ (df (sn es) f t ^^ false)) = false
      rw [hdt, Bool.xor_false]
      exact Bool.xor_self _
/-- the bond that a tie of the first forest makes with the ties that are not in it -/
def sp_bond_with (K : PySem.W.Frag) : Sp := fun vs H Q _ => ∃ (p n : Nat) (E : List (Nat × Nat)) (F : List Nat) (t : Nat), vs = [.ref p, .int (t : Int)] ∧ Web K H p (n, E) ∧ WebOk n E ∧ Fir E F ∧ t ∈ F ∧
  ∀ H' a r, Same H H' → Nts K H' a r → Asc r → (∀ u ∈ r, u < E.length) → t ∈ r → (∀ u ∈ F, u ≠ t → u ∉ r) → CutM E (mk r) → Q (.ref a) H'
theorem fm_ref {es : List (Addr × (Nat × Nat))} (t : Nat) : ∀ F : List Nat, (∀ u ∈ F, u < es.length) → ∃ fs : List (Addr × (Nat × Nat)), F.filterMap (fun u => if u ≠ t then (es[u]?).map fun e => V.ref e.1 else none) = rf fs ∧ (∀ e, e ∈ fs ↔ ∃ u ∈ F, u ≠ t ∧ es[u]? = some e) ∧ fs.length ≤ F.length
  | [], _ => ⟨[], rfl, fun e => by simp, Nat.le_refl _⟩
  | u :: F, h => by
    obtain ⟨fs, h1, h2, h3⟩ := fm_ref (es := es) t F fun v hv => h v (List.mem_cons_of_mem _ hv)
    have hul := h u (List.mem_cons_self ..)
    have hu : es[u]? = some es[u] := List.getElem?_eq_getElem hul
    by_cases e : u = t
    · refine ⟨fs, ?_, fun x => ?_, Nat.le_succ_of_le h3⟩
      · rw [List.filterMap_cons, if_neg (fun z => z e)]
        exact h1
      · rw [h2]
        constructor
        · rintro ⟨v, hv, q⟩
          exact ⟨v, List.mem_cons_of_mem _ hv, q⟩
        · rintro ⟨v, hv, q⟩
          rcases List.mem_cons.mp hv with rfl | hv
          · exact absurd e q.1
          · exact ⟨v, hv, q⟩
    · refine ⟨es[u] :: fs, ?_, fun x => ?_, Nat.succ_le_succ h3⟩
      · rw [List.filterMap_cons, if_pos e, hu]
        show V.ref es[u].1 :: _ = _
        rw [h1]
        rfl
      · rw [List.mem_cons, h2]
        constructor
        · rintro (rfl | ⟨v, hv, q⟩)
          · exact ⟨u, List.mem_cons_self .., e, hu⟩
          · exact ⟨v, List.mem_cons_of_mem _ hv, q⟩
        · rintro ⟨v, hv, q⟩
          rcases List.mem_cons.mp hv with rfl | hv
          · exact .inl (Option.some.inj (q.2.symm.trans hu))
          · exact .inr ⟨v, hv, q⟩
theorem ok_bond_with {f : Addr} {fd : FuncData} (F : Fun K "bond_with" "bond_with" sbond_with f fd) (T : Bi mg mt) (cfirst_forest : C8.Cal P w K mg base 1 "first_forest" (sp_first_forest K) []) (cpiece_marks : C8.Cal P w K mg base 1 "piece_marks" (sp_piece_marks K) []) : FnOk P w K mg base CX0 2 f fd ["web", "tie"] (sp_bond_with K) := by
  refine okC F scbond_with (fun vs H Q E h => ?_) (fun cdv A outer s H vs Q E hr hcd h => ?_)
  · obtain ⟨p, n, E, F, t, rfl, _⟩ := h
    rfl
  · obtain ⟨p, n, E, F, t, rfl, hw, hW, hF, htF, k⟩ := h
    have hw' := hw
    obtain ⟨ta, hp, es, rfl, ht, hg⟩ := hw'
    have heb := hW.eb
    have hu0 := hr.units0
    have htl := hF.fst.lt t htF
    refine ⟨_, (pss_cons (ps_set (i := 2) scbond_with.nd rfl (Or.inl rfl) (C8.pe_c cfirst_forest hr (by decide) (by rfl) (pa_cons (pv 0) pa_nil)))
      (pss_cons (ps_if (pt_cmpR (op_notinN K) (pv 1) (pv 2) (by with_unfolding_all rfl))
        (pss_one ps_never)
        pss_nil)
      (pss_cons (ps_set (i := 3) scbond_with.nd rfl (Or.inr rfl) (C8.pe_c cpiece_marks hr (by decide) (by rfl) (pa_cons (pe_ix ix_tup (pv 0) pe_int (fun _ _ => rfl)) (pa_cons (pe_lc (own := [("other", 4)]) rfl scbond_with.nd (pi_tup (pv 2)) (blkOk_by (N := Nbond_with) (sc := (defScope sbond_with)) (by decide +kernel)) (fun _ _ _ _ _ => (pg_name (i := 4) scbond_with.nd rfl (Or.inl rfl))) (fun _ _ _ _ _ => (pts_one (pt_cmpR op_neN (pv 4) (pv 1) (nomark _)))) (fun _ _ _ _ _ => (pe_ix (ix_tupK K) (pe_ix (ix_tupK K) (pv 0) pe_int (fun _ _ => rfl)) (pv 4) (fun _ _ => rfl)))) pa_nil))))
      (pss_cons (ps_asg (pe_tup (pa_cons (pe_ix ix_list (pv 3) (pe_ix ix_tup (pe_ix ix_tup (pe_ix ix_tup (pv 0) pe_int (fun _ _ => rfl)) (pv 1) (fun _ _ => rfl)) pe_int (fun _ _ => rfl)) (fun _ _ => rfl)) (pa_cons (pe_ix ix_list (pv 3) (pe_ix ix_tup (pe_ix ix_tup (pe_ix ix_tup (pv 0) pe_int (fun _ _ => rfl)) (pv 1) (fun _ _ => rfl)) pe_int (fun _ _ => rfl)) (fun _ _ => rfl)) pa_nil))) (pg_tup (n := 2) rfl (pgs_cons (pg_name (i := 5) scbond_with.nd rfl (Or.inr rfl)) (pgs_cons (pg_name (i := 6) scbond_with.nd rfl (Or.inr rfl)) pgs_nil))))
      (pss_one (ps_ret (pe_tupleOf (by rfl) T.tuple (pe_lc (own := [("other", 4), ("low", 7), ("high", 8)]) rfl scbond_with.nd (pi_enumT (by rfl) T.enumerate (pa_cons (pe_ix ix_tup (pv 0) pe_int (fun _ _ => rfl)) pa_nil)) (blkOk_by (N := Nbond_with) (sc := (defScope sbond_with)) (by decide +kernel)) (fun _ _ _ _ _ => (pg_tupK K (n := 2) rfl (pgs_cons (pg_name (i := 4) scbond_with.nd rfl (Or.inl rfl)) (pgs_cons (pg_tupK K (n := 2) rfl (pgs_cons (pg_name (i := 7) scbond_with.nd rfl (Or.inl rfl)) (pgs_cons (pg_name (i := 8) scbond_with.nd rfl (Or.inl rfl)) pgs_nil))) pgs_nil)))) (fun _ _ _ _ _ => (pts_one (pt_setEq hu0 (pe_ix (ix_listK K) (pv 3) (pv 7) (fun _ _ => rfl)) (pe_ix (ix_listK K) (pv 3) (pv 8) (fun _ _ => rfl)) (pv 5) (pv 6) (kdsCode_of hcd) ⟨rfl, rfl⟩ ⟨rfl, rfl⟩))) (fun _ _ _ _ _ => (pv 4)))))))))), ?_⟩
    refine ⟨.ref p, rfl, p, n, sn es, rfl, hw, hW, fun H1 fa F' s1 hF1 hFir => ?_⟩
    have eF := hFir.one hF
    subst eF
    refine ⟨_, rfl, .ref fa, rfl, fa, F', t, rfl, rfl, .inr hF1, _, rfl, ?_⟩
    show (if (!decide (t ∈ F')) = true then _ else _)
    rw [decide_eq_true htF]
    refine iteF ?_
    have hFl : F'.length ≤ 40 := by
      have := nat_nodup (sn es).length F' (hF.fst.asc.imp fun h => Nat.ne_of_lt h) hF.fst.lt
      omega
    have hFe : ∀ u ∈ F', u < es.length := fun u hu => by
      rw [← sn_len]
      exact hF.fst.lt u hu
    -- marks
    refine ⟨.ref p, rfl, p, _, 0, .int (n : Int), rfl, rfl, s1.seqT hp, atI_nat (j := 0) rfl, .ref fa, rfl, fa, rfl, ⟨_, hF1⟩, fun D hD => ?_⟩
    refine lc_acc walk_tup (fun i => (F'[i]?).bind fun u => if u ≠ t then (es[u]?).map fun e => V.ref e.1 else none) (by rw [nv_len]; omega) hD (fun _ s => s.seqT hF1) (fun i x H2 H3 Ky Kn hi s y ky kn => ?_) fun H2 s2 e2 => ?_
    · obtain ⟨rfl, hx⟩ := y
      obtain ⟨u, hu, rfl⟩ := nv_get hx
      rw [hu] at ky kn
      simp only [Option.bind_some] at ky kn
      have hul := hFe u (mem_at hu)
      have hue : es[u]? = some es[u] := List.getElem?_eq_getElem hul
      refine ⟨rfl, _, rfl, _, rfl, u, t, rfl, rfl, _, rfl, ?_⟩
      by_cases hut : u = t
      · rw [decide_eq_true hut]
        exact iteF (kn (if_neg fun z => z hut) _ (Same.refl _))
      · rw [decide_eq_false hut]
        refine iteT ⟨.ref p, rfl, p, _, 1, .ref ta, rfl, rfl, (s1.trans s).seqT hp, atI_nat (j := 1) rfl, _, rfl, ta, rf es, (u : Int), _, rfl, rfl, (s1.trans s).seqT ht, atI_nat (rf_at hue), ky _ _ ?_ (Same.refl _)⟩
        rw [if_pos hut, hue]
        rfl
    rw [nv_len, range_fmb] at e2
    obtain ⟨fs, hfs1, hfs2, hfs3⟩ := fm_ref t F' hFe
    rw [hfs1] at e2
    have s12 := s1.trans s2
    have hfsm : ∀ e ∈ fs, e ∈ es := fun e he => by
      obtain ⟨u, _, _, q⟩ := (hfs2 e).mp he
      exact mem_at q
    refine ⟨D, n, fs, rfl, .inl (SqL.of e2), fun e he => mo_prs _ _ _ _ s12 (hg e (hfsm e he)), fun e he => ?_, hW.nb, by omega, fun H3 m ms s3 hmn hm hml hmt hms => ?_⟩
    · obtain ⟨x, hx, rfl⟩ := List.mem_map.mp he
      have := hW.ok x.2 (List.mem_map.mpr ⟨x, hfsm x hx, rfl⟩)
      omega
    have s13 := s12.trans s3
    have htl' : t < es.length := hFe t htF
    have he : es[t]? = some es[t] := List.getElem?_eq_getElem htl'
    have hen := en_sn he
    obtain ⟨b1, b2, b3⟩ := hW.en htl
    have hge := hg es[t] (List.getElem_mem htl')
    rw [hen] at b1 b2 b3
    generalize es[t] = e at he hen b1 b2 b3 hge
    have g1 := nv_at (getD_at (show e.2.1 < ms.length by omega))
    have g2 := nv_at (getD_at (show e.2.2 < ms.length by omega))
    -- one, two
    refine ⟨.ref m, rfl, .ref p, rfl, p, _, 1, .ref ta, rfl, rfl, s13.seqT hp, atI_nat (j := 1) rfl, .int (t : Int), rfl, ta, rf es, (t : Int), .ref e.1, rfl, rfl, s13.seqT ht, atI_nat (rf_at he), e.1, _, 0, .int (e.2.1 : Int), rfl, rfl, s13.seqT hge, atI_nat (j := 0) rfl, m, _, _, _, rfl, rfl, SqL.of hm, atI_nat g1, ?_⟩
    refine ⟨.ref m, rfl, .ref p, rfl, p, _, 1, .ref ta, rfl, rfl, s13.seqT hp, atI_nat (j := 1) rfl, .int (t : Int), rfl, ta, rf es, (t : Int), .ref e.1, rfl, rfl, s13.seqT ht, atI_nat (rf_at he), e.1, _, 1, .int (e.2.2 : Int), rfl, rfl, s13.seqT hge, atI_nat (j := 1) rfl, m, _, _, _, rfl, rfl, SqL.of hm, atI_nat g2, by show 2 ≤ sizeLine; decide, fun U hU => ?_⟩
    refine ⟨U, _, rfl, SqT.of upd_same, rfl, _, _, rfl, _, _, rfl, rfl, ?_⟩
    have sU := same_new (o := .tup [.int ((ms.getD e.2.1 0 : Nat) : Int), .int ((ms.getD e.2.2 0 : Nat) : Int)]) hU
    have s14 := s13.trans sU
    have hm4 := sU _ _ hm
    generalize upd H3 U (.tup [.int ((ms.getD e.2.1 0 : Nat) : Int), .int ((ms.getD e.2.2 0 : Nat) : Int)]) = H4 at s14 hm4 ⊢
    generalize ho : ms.getD e.2.1 0 = one
    generalize hw2 : ms.getD e.2.2 0 = two
    -- the ties between
    refine ⟨.ref p, rfl, p, _, 1, .ref ta, rfl, rfl, s14.seqT hp, atI_nat (j := 1) rfl, ta, rf es, rfl, s14.seqT ht, fun D2 hD2 => ?_⟩
    refine lc_acc walk_enumT (fun i => if decide ((ms.getD (en (sn es) i).1 0 = one ∧ ms.getD (en (sn es) i).2 0 = two) ∨ (ms.getD (en (sn es) i).1 0 = two ∧ ms.getD (en (sn es) i).2 0 = one)) = true then some (V.int (i : Int)) else none) (by rw [rf_len, ← sn_len]; omega) hD2 (fun _ s => s.seqT (s14.seqT ht)) (fun i x H5 H6 Ky Kn hi s y ky kn => ?_) fun H5 s5 e5 => ?_
    · obtain ⟨T, x1, x2, rfl, hTn, rfl, hx1, hx2⟩ := y
      cases hx1
      obtain ⟨c, hc, rfl⟩ := rf_get hx2
      have sT := same_new (o := .tup [.int (i : Int), .ref c.1]) hTn
      have hci := en_sn hc
      rw [hci] at ky kn
      have hil : i < (sn es).length := by
        rw [sn_len]
        exact (List.getElem?_eq_some_iff.mp hc).1
      obtain ⟨d1, d2, d3⟩ := hW.en hil
      rw [hci] at d1 d2 d3
      have gc := hg c (mem_at hc)
      have q1 := nv_at (getD_at (show c.2.1 < ms.length by omega))
      have q2 := nv_at (getD_at (show c.2.2 < ms.length by omega))
      have hm6 : SqL K (upd H5 T (.tup [.int (i : Int), .ref c.1])) m (nv ms) := SqL.of (sT _ _ (s _ _ hm4))
      refine ⟨T, _, rfl, SqT.of upd_same, rfl, _, _, rfl, _, _, rfl, ⟨c.1, _, rfl, ((s14.trans s).trans sT).seqT gc, rfl, _, _, rfl, _, _, rfl, rfl, rfl, rfl, ?_⟩⟩
      refine ⟨.ref m, rfl, _, rfl, m, _, _, _, rfl, rfl, hm6, atI_nat q1, .ref m, rfl, _, rfl, m, _, _, _, rfl, rfl, hm6, atI_nat q2, _, _, rfl, rfl, _, rfl, _, rfl, _, _, rfl, rfl, _, rfl, ?_⟩
      rw [dec_congr (show ((((ms.getD c.2.1 0 : Nat) : Int) = (one : Int) ∧ ((ms.getD c.2.2 0 : Nat) : Int) = (two : Int)) ∨ (((ms.getD c.2.1 0 : Nat) : Int) = (two : Int) ∧ ((ms.getD c.2.2 0 : Nat) : Int) = (one : Int))) ↔ ((ms.getD c.2.1 0 = one ∧ ms.getD c.2.2 0 = two) ∨ (ms.getD c.2.1 0 = two ∧ ms.getD c.2.2 0 = one)) by omega)]
      refine ite2 (fun h => ⟨_, rfl, ky _ _ (if_pos h) sT⟩) (fun h => kn (if_neg h) _ sT)
    · rw [fm_if (fun i => decide ((ms.getD (en (sn es) i).1 0 = one ∧ ms.getD (en (sn es) i).2 0 = two) ∨ (ms.getD (en (sn es) i).1 0 = two ∧ ms.getD (en (sn es) i).2 0 = one))), rf_len, ← sn_len] at e5
      refine .inl ⟨D2, _, rfl, SqL.of e5, fun r hr' => ?_⟩
      have hasc : Asc ((List.range (sn es).length).filter fun i => decide ((ms.getD (en (sn es) i).1 0 = one ∧ ms.getD (en (sn es) i).2 0 = two) ∨ (ms.getD (en (sn es) i).1 0 = two ∧ ms.getD (en (sn es) i).2 0 = one))) := List.Pairwise.filter _ List.pairwise_lt_range
      have hmem : ∀ i, i ∈ ((List.range (sn es).length).filter fun i => decide ((ms.getD (en (sn es) i).1 0 = one ∧ ms.getD (en (sn es) i).2 0 = two) ∨ (ms.getD (en (sn es) i).1 0 = two ∧ ms.getD (en (sn es) i).2 0 = one))) ↔ i < (sn es).length ∧ ((ms.getD (en (sn es) i).1 0 = one ∧ ms.getD (en (sn es) i).2 0 = two) ∨ (ms.getD (en (sn es) i).1 0 = two ∧ ms.getD (en (sn es) i).2 0 = one)) := fun i => by
        rw [List.mem_filter, List.mem_range, decide_eq_true_iff]
      generalize ((List.range (sn es).length).filter fun i => decide ((ms.getD (en (sn es) i).1 0 = one ∧ ms.getD (en (sn es) i).2 0 = two) ∨ (ms.getD (en (sn es) i).1 0 = two ∧ ms.getD (en (sn es) i).2 0 = one))) = res at hasc hmem ⊢
      have hsame : ∀ u ∈ F', u ≠ t → ms.getD (en (sn es) u).1 0 = ms.getD (en (sn es) u).2 0 := fun u hu hut => by
        have hul := hFe u hu
        have hue : es[u]? = some es[u] := List.getElem?_eq_getElem hul
        rw [en_sn hue]
        exact hmt _ (List.mem_map.mpr ⟨_, (hfs2 _).mpr ⟨u, hu, hut, hue⟩, rfl⟩)
      have hne : one ≠ two := fun q => by
        obtain ⟨f, f1, f2⟩ := hF.fst.one t htF
        have : f e.2.1 = f e.2.2 := hms _ _ b3 b2 (by rw [ho, hw2, q]) f fun x hx => by
          obtain ⟨c, hc, rfl⟩ := List.mem_map.mp hx
          obtain ⟨u, hu, hut, hue⟩ := (hfs2 c).mp hc
          have := f2 u hu hut
          unfold df at this
          rw [en_sn hue] at this
          generalize f c.2.1 = a at *
          generalize f c.2.2 = b at *
          cases a <;> cases b <;> first | rfl | cases this
        unfold df at f1
        rw [hen, this, Bool.xor_self] at f1
        cases f1
      refine k _ r res ((s14.trans s5).trans (same_new hr')) (SqT.of upd_same) hasc (fun u hu => ((hmem u).mp hu).1) ((hmem t).mpr ⟨htl, .inl (by rw [hen]; exact ⟨ho, hw2⟩)⟩) (fun u hu hut hur => ?_) ⟨fun i hi => ?_, fun x => decide (ms.getD x 0 = one), fun i hi => ?_⟩
      · have h1 := ((hmem u).mp hur).2
        have h2 := hsame u hu hut
        rw [h2] at h1
        rcases h1 with ⟨a, b⟩ | ⟨a, b⟩
        · exact hne (a.symm.trans b)
        · exact hne (b.symm.trans a)
      · rw [mk_bit hasc]
        exact decide_eq_false fun q => by
          have := ((hmem i).mp q).1
          omega
      · rw [mk_bit hasc, dec_congr (hmem i)]
        have hh := hF.fst.all (fun x => decide (ms.getD x 0 = one) || decide (ms.getD x 0 = two)) (fun u hu => by
          show ((decide (ms.getD (en (sn es) u).1 0 = one) || decide (ms.getD (en (sn es) u).1 0 = two)) ^^ (decide (ms.getD (en (sn es) u).2 0 = one) || decide (ms.getD (en (sn es) u).2 0 = two))) = false
          by_cases hut : u = t
          · rw [hut, hen, ho, hw2]
            simp
          · rw [hsame u hu hut]
            exact Bool.xor_self _) i hi
        have hh' : ((decide (ms.getD (en (sn es) i).1 0 = one) || decide (ms.getD (en (sn es) i).1 0 = two)) ^^ (decide (ms.getD (en (sn es) i).2 0 = one) || decide (ms.getD (en (sn es) i).2 0 = two))) = false := hh
        show _ = (decide (ms.getD (en (sn es) i).1 0 = one) ^^ decide (ms.getD (en (sn es) i).2 0 = one))
        generalize ms.getD (en (sn es) i).1 0 = a at hh' ⊢
        generalize ms.getD (en (sn es) i).2 0 = b at hh' ⊢
        by_cases a1 : a = one
        · subst a1
          by_cases c1 : b = a
          · subst c1
            simp [hne, hi]
          · by_cases c2 : b = two
            · subst c2
              simp [hne, Ne.symm hne, hi]
            · simp [c1, c2] at hh'
        · by_cases a2 : a = two
          · subst a2
            by_cases c1 : b = one
            · subst c1
              simp [hne, Ne.symm hne, hi]
            · simp [a1, c1, hi]
          · by_cases c1 : b = one
            · subst c1
              simp [a1, a2] at hh'
            · simp [a1, a2, c1]
end
end Fb

/-! FbW -/
set_option maxHeartbeats 4000000
/-! sides_of_cut, is_cut -/
namespace Fb
open PySem PySem.Spec PyProof.Rows L2
section
variable {J : It} {k : Nat} {Gd : Hp → Prop}
/-- {z: True for z in xs if p z} -/
theorem dc_true {xs : List Nat} (w : Walk J k Gd (YAt (nv xs))) {g : TG} {tt : TT} {tk tv : TE} {vs : List Nat} {σ : L2.St} {H1 : Hp} {D : Addr} {Qd : Hp → Prop} (p : Nat → Bool) (hk : k = xs.length) (hb : ∀ x ∈ xs, x < 1000) (hD : H1 D = none) (hG : ∀ H, Same H1 H → Gd H)
    (hs : ∀ (i z : Nat) H (Ky : V → V → Hp → Prop) (Kn : Hp → Prop), xs[i]? = some z → Same H1 H → (p z = true → Ky (.int (z : Int)) (.bl true) H) → (p z = false → Kn H) → g (.int (z : Int)) (wipe σ vs) H fun σ2 H2 => wipe σ2 vs = wipe σ vs ∧ tt σ2 H2 fun b H3 =>
      if b = true then tk σ2 H3 fun y H4 => tv σ2 H4 fun z H5 => Ky y z H5 else Kn H3)
    (hd : ∀ H kvs F, Same H1 H → H D = some (.dK kvs) → ND kvs F → (∀ z, F z = if z ∈ xs ∧ p z = true then some (.bl true) else none) → Qd H) :
    ∃ W : Nat → Nat → Hp → Prop, (∃ m, W 0 m (upd H1 D (.dK []))) ∧ ∀ i m H, W i m H →
      (J.stop i H ∧ Qd H) ∨ (J.go i H ∧ ∃ Nx : Hp → Prop, (∀ H', Nx H' → ∃ m', m' < m ∧ W (i + 1) m' H') ∧ ∀ x H', J.yld i H x H' → g x (wipe σ vs) H' fun σ2 H2 => wipe σ2 vs = wipe σ vs ∧ tt σ2 H2 fun b H3 =>
        if b = true then tk σ2 H3 fun y H4 => tv σ2 H4 fun z H5 => ∃ kvs k, y = kV k ∧ H5 D = some (.dK kvs) ∧ kvs.length < sizeLine ∧ Nx (upd H5 D (.dK (putK kvs k z))) else Nx H3) := by
  refine dc_it w (fun i H => ∃ kvs F, Same H1 H ∧ H D = some (.dK kvs) ∧ ND kvs F ∧ ∀ z, F z = if z ∈ xs.take i ∧ p z = true then some (.bl true) else none) ⟨[], fun _ => none, same_new hD, upd_same, ND.nil, fun z => by simp⟩ (fun i H _ ⟨_, _, s, _⟩ => hG H s)
    (fun i x H H' hi ⟨kvs, F, s, e, nd, hF⟩ y => ?_) fun H ⟨kvs, F, s, e, nd, hF⟩ => hd H kvs F s e nd fun z => by rw [hF, hk, List.take_length]
  obtain ⟨rfl, hx⟩ := y
  obtain ⟨z, hz, rfl⟩ := nv_get hx
  have htk : ∀ u, u ∈ xs.take (i + 1) ↔ u ∈ xs.take i ∨ u = z := fun u => by
    rw [List.take_add_one, hz, Option.toList_some, List.mem_append, List.mem_singleton]
  have hkl : kvs.length ≤ 1000 := nd.len fun u hu => by
    rw [hF, if_neg]
    rintro ⟨m, _⟩
    have := hb u (List.mem_of_mem_take m)
    omega
  refine hs i z H' _ _ hz s (fun hp => ⟨kvs, .inl (z : Int), rfl, e, by rw [sizeLine_eq]; omega, _, _, same_at s hD, upd_same, nd.put z (.bl true), fun u => ?_⟩) (fun hp => ⟨kvs, F, s, e, nd, fun u => ?_⟩)
  · show (if u = z then some (V.bl true) else F u) = _
    rw [hF]
    by_cases q : u = z
    · subst q
      rw [if_pos rfl, if_pos ⟨(htk u).mpr (.inr rfl), hp⟩]
    · rw [if_neg q]
      by_cases c : u ∈ xs.take i ∧ p u = true
      · rw [if_pos c, if_pos ⟨(htk u).mpr (.inl c.1), c.2⟩]
      · rw [if_neg c, if_neg]
        rintro ⟨m, hp'⟩
        rcases (htk u).mp m with m | m
        · exact c ⟨m, hp'⟩
        · exact q m
  · rw [hF]
    by_cases c : u ∈ xs.take i ∧ p u = true
    · rw [if_pos c, if_pos ⟨(htk u).mpr (.inl c.1), c.2⟩]
    · rw [if_neg c, if_neg]
      rintro ⟨m, hp'⟩
      rcases (htk u).mp m with m | m
      · exact c ⟨m, hp'⟩
      · rw [m, hp] at hp'
        cases hp'
end
/-- rows that tell beside what a spot stands, and whether the tie is chosen -/
def CRow (E : List (Nat × Nat)) (q : List Nat) (k : Nat) (Pf : Nat → List (Addr × (Nat × Nat))) : Prop := ∀ x y c, (y, c) ∈ sn (Pf x) ↔ ∃ t, t < k ∧ c = (decide (t ∈ q)).toNat ∧ (((en E t).1 = x ∧ (en E t).2 = y) ∨ ((en E t).1 = y ∧ (en E t).2 = x))
/-- a function that tells the cut -/
def Cfn (E : List (Nat × Nat)) (q : List Nat) (f : Nat → Bool) : Prop := ∀ t, t < E.length → decide (t ∈ q) = df E f t
theorem cut_iff {E : List (Nat × Nat)} {q : List Nat} (ha : Asc q) (hq : ∀ t ∈ q, t < E.length) : CutM E (mk q) ↔ ∃ f, Cfn E q f := by
  constructor
  · rintro ⟨_, f, hf⟩
    exact ⟨f, fun t ht => by rw [← mk_bit ha]; exact hf t ht⟩
  · rintro ⟨f, hf⟩
    refine ⟨fun i hi => ?_, f, fun i hi => by rw [mk_bit ha]; exact hf i hi⟩
    rw [mk_bit ha]
    exact decide_eq_false fun m => by
      have := hq i m
      omega
/-- sides in the midst of the search from c -/
def Sid (E : List (Nat × Nat)) (q : List Nat) (so : List (Option Nat)) (c x : Nat) : Prop := ∃ a, so.getD x none = some a ∧ ∀ f, Cfn E q f → f x = (f c ^^ decide (a = 1))
def Cls (Pf : Nat → List (Addr × (Nat × Nat))) (so : List (Option Nat)) (P : Nat → Prop) : Prop := ∀ x a, so.getD x none = some a → ¬ P x → ∀ y c, (y, c) ∈ sn (Pf x) → so.getD y none = some (a ^^^ c)
theorem Cls.set {Pf : Nat → List (Addr × (Nat × Nat))} {so : List (Option Nat)} {P : Nat → Prop} (h : Cls Pf so P) {y a : Nat} (hy : y < so.length) (hn : so.getD y none = none) : Cls Pf (so.set y (some a)) fun x => P x ∨ x = y := fun x b hx hP z c hz => by
  rw [getDn_set _ hy] at hx ⊢
  have e : ¬ x = y := fun e => hP (.inr e)
  rw [if_neg e] at hx
  have hz' := h x b hx (fun p => hP (.inl p)) z c hz
  by_cases q : z = y
  · rw [q, hn] at hz'
    cases hz'
  · rw [if_neg q]
    exact hz'
theorem xor01 {a c : Nat} (ha : a < 2) (hc : c < 2) : a ^^^ c < 2 ∧ (decide (a ^^^ c = 1) = (decide (a = 1) ^^ decide (c = 1))) ∧ (a ^^^ c) ^^^ c = a := by
  have h1 : a = 0 ∨ a = 1 := by omega
  have h2 : c = 0 ∨ c = 1 := by omega
  rcases h1 with rfl | rfl <;> rcases h2 with rfl | rfl <;> decide
theorem ite_val {R : V → Hp → Prop} {σ : L2.St} {H : Hp} (b : Bool) (h : R (.int ((b.toNat : Nat) : Int)) H) : if b = true then tC (.int 1) σ H R else tC (.int 0) σ H R := by
  cases b with
  | true => exact iteT h
  | false => exact iteF h
-- sides_of_cut: slots 0=web 1=pick 2=near 3=spot 4=inside 5=tie 6=low 7=high 8=turn 9=sides 10=first 11=waiting 12=other; cells 
abbrev ssides_of_cut : Stmt := topS 11
abbrev Nsides_of_cut : List Str := ["web", "pick", "near", "spot", "inside", "tie", "low", "high", "turn", "sides", "first", "waiting", "other"]
theorem scsides_of_cut : FnScope Nsides_of_cut ["web", "pick"] (defScope ssides_of_cut) := ⟨rfl, rfl, rfl, by decide +kernel, rfl, by decide +kernel, by decide +kernel⟩
-- is_cut: slots 0=web 1=pick; cells 
abbrev sis_cut : Stmt := topS 12
abbrev Nis_cut : List Str := ["web", "pick"]
theorem scis_cut : FnScope Nis_cut ["web", "pick"] (defScope sis_cut) := ⟨rfl, rfl, rfl, by decide +kernel, rfl, by decide +kernel, by decide +kernel⟩
section
variable {P : Program} {w : World} {K : PySem.W.Frag} {mg : Str → Option Value} {base : Heap} {mt : Nat}
def sp_sides_of_cut (K : PySem.W.Frag) : Sp := fun vs H Q _ => ∃ (p b n : Nat) (E : List (Nat × Nat)) (q : List Nat), vs = [.ref p, .ref b] ∧ Web K H p (n, E) ∧ WebOk n E ∧ Nts K H b q ∧ Asc q ∧ (∀ t ∈ q, t < E.length) ∧
  ((¬ CutM E (mk q) → ∀ H', Same H H' → Q .non H') ∧ (CutM E (mk q) → ∀ H' r, Same H H' → Q (.ref r) H'))
def sp_is_cut (K : PySem.W.Frag) : Sp := fun vs H Q _ => ∃ (p b n : Nat) (E : List (Nat × Nat)) (q : List Nat), vs = [.ref p, .ref b] ∧ Web K H p (n, E) ∧ WebOk n E ∧ Nts K H b q ∧ Asc q ∧ (∀ t ∈ q, t < E.length) ∧
  ∀ (r : Bool) H', Same H H' → (r = true ↔ CutM E (mk q)) → Q (.bl r) H'
theorem ok_is_cut {f : Addr} {fd : FuncData} (F : Fun K "is_cut" "is_cut" sis_cut f fd) (T : Bi mg mt) (csides_of_cut : C8.Cal P w K mg base 1 "sides_of_cut" (sp_sides_of_cut K) []) : FnOk P w K mg base CX0 2 f fd ["web", "pick"] (sp_is_cut K) := by
  refine okC F scis_cut (fun vs H Q E h => ?_) (fun cdv A outer s H vs Q E hr hcd h => ?_)
  · obtain ⟨p, b, n, E, q, rfl, _⟩ := h
    rfl
  · obtain ⟨p, b, n, E, q, rfl, hw, hW, hb, ha, hq, k⟩ := h
    refine ⟨_, (pss_one (ps_ret (pe_cmpR op_notN (C8.pe_c csides_of_cut hr (by decide) (by rfl) (pa_cons (pv 0) (pa_cons (pv 1) pa_nil))) pe_non (nomark _)))), ?_⟩
    refine ⟨.ref p, rfl, .ref b, rfl, p, b, n, E, q, rfl, hw, hW, hb, ha, hq, fun hn H1 s1 => ⟨rfl, ?_⟩, fun hc H1 r s1 => ⟨rfl, ?_⟩⟩
    · exact k _ H1 s1 ⟨fun z => absurd z (by decide), fun z => absurd z hn⟩
    · exact k _ H1 s1 ⟨fun _ => hc, fun _ => by simp⟩
theorem ok_sides_of_cut {f : Addr} {fd : FuncData} (F : Fun K "sides_of_cut" "sides_of_cut" ssides_of_cut f fd) (T : Bi mg mt) : FnOk P w K mg base CX0 1 f fd ["web", "pick"] (sp_sides_of_cut K) := by
  refine okC F scsides_of_cut (fun vs H Q E h => ?_) (fun cdv A outer s H vs Q E hr hcd h => ?_)
  · obtain ⟨p, b, n, E, q, rfl, _⟩ := h
    rfl
  · obtain ⟨p, b, n, E, q, rfl, ⟨ta, hp, es, rfl, ht, hg⟩, hW, hb, ha, hq, kN, kY⟩ := h
    have hn := hW.nb
    have heb := hW.eb
    have hu := hu_of hr
    rw [cut_iff ha hq] at kN kY
    refine ⟨_, (pss_cons (ps_setLc (i := 2) (own := [("spot", 3)]) rfl scsides_of_cut.nd rfl rfl (sw_true rfl rfl rfl (by decide +kernel)) (pi_range1 (by rfl) T.range (pa_cons (pe_ix ix_tup (pv 0) pe_int (fun _ _ => rfl)) pa_nil)) (blkOk_by (N := Nsides_of_cut) (sc := (defScope ssides_of_cut)) (by decide +kernel)) (fun _ _ _ _ _ => (pg_name (i := 3) scsides_of_cut.nd rfl (Or.inl rfl))) (fun _ _ _ _ _ => pts_nil) (fun _ _ _ _ _ => (pe_lst pa_nil)))
      (pss_cons (ps_setDc (i := 4) (own := [("tie", 5)]) rfl scsides_of_cut.nd rfl rfl (sw_trueD rfl rfl rfl (by decide +kernel)) (pi_tup (pv 1)) (blkOk_by (N := Nsides_of_cut) (sc := (defScope ssides_of_cut)) (by decide +kernel)) (fun _ _ _ _ _ => (pg_name (i := 5) scsides_of_cut.nd rfl (Or.inl rfl))) (fun _ _ _ _ _ => pts_nil) (fun _ _ _ _ _ => (pv 5)) (fun _ _ _ _ _ => pe_bl))
      (pss_cons (ps_for PassesOwn.never rfl (pi_enumT (by rfl) T.enumerate (pa_cons (pe_ix ix_tup (pv 0) pe_int (fun _ _ => rfl)) pa_nil)) (pg_tup (n := 2) rfl (pgs_cons (pg_name (i := 5) scsides_of_cut.nd rfl (Or.inl rfl)) (pgs_cons (pg_tup (n := 2) rfl (pgs_cons (pg_name (i := 6) scsides_of_cut.nd rfl (Or.inl rfl)) (pgs_cons (pg_name (i := 7) scsides_of_cut.nd rfl (Or.inl rfl)) pgs_nil))) pgs_nil)))
        (pss_cons (ps_set (i := 8) scsides_of_cut.nd rfl (Or.inl rfl) (pe_ifExp (pt_cmp (pc_din hu (pv 5) (pv 4))) pe_int pe_int))
        (pss_cons (ps_expr (pe_bm PySem.F.plainAttrs_list PySem.F.slot_list_append PySem.F.type_list_append mt_append (pe_ix ix_list (pv 2) (pv 6) (fun _ _ => rfl)) (pa_cons (pe_tup (pa_cons (pv 7) (pa_cons (pv 8) pa_nil))) pa_nil)))
        (pss_one (ps_expr (pe_bm PySem.F.plainAttrs_list PySem.F.slot_list_append PySem.F.type_list_append mt_append (pe_ix ix_list (pv 2) (pv 7) (fun _ _ => rfl)) (pa_cons (pe_tup (pa_cons (pv 6) (pa_cons (pv 8) pa_nil))) pa_nil)))))))
      (pss_cons (ps_set (i := 9) scsides_of_cut.nd rfl (Or.inl rfl) (pe_op op_rep (pe_lst (pa_cons pe_non pa_nil)) (pe_ix ix_tup (pv 0) pe_int (fun _ _ => rfl))))
      (pss_cons (ps_for PassesOwn.never rfl (pi_range1 (by rfl) T.range (pa_cons (pe_ix ix_tup (pv 0) pe_int (fun _ _ => rfl)) pa_nil)) (pg_name (i := 10) scsides_of_cut.nd rfl (Or.inl rfl))
        (pss_one (ps_if (pt_cmpR op_isN (pe_ix ix_list (pv 9) (pv 10) (fun _ _ => rfl)) pe_non (nomark _))
          (pss_cons (ps_asg pe_int (pg_sub (pv 9) (pv 10) set_listN))
          (pss_cons (ps_set (i := 11) scsides_of_cut.nd rfl (Or.inl rfl) (pe_lst (pa_cons (pv 10) pa_nil)))
          (pss_one (ps_while PassesOwn.never (pt_truthK K (pv 11) (by intro _; rfl))
            (pss_cons (ps_set (i := 3) scsides_of_cut.nd rfl (Or.inl rfl) (pe_bm0 PySem.F.plainAttrs_list PySem.F.slot_list_pop PySem.F.type_list_pop mt_pop (pv 11)))
            (pss_one (ps_for PassesOwn.never rfl (pi_list (pe_ix ix_list (pv 2) (pv 3) (fun _ _ => rfl))) (pg_tup (n := 2) rfl (pgs_cons (pg_name (i := 12) scsides_of_cut.nd rfl (Or.inl rfl)) (pgs_cons (pg_name (i := 8) scsides_of_cut.nd rfl (Or.inl rfl)) pgs_nil)))
              (pss_one (ps_if (pt_cmpR op_isN (pe_ix ix_list (pv 9) (pv 12) (fun _ _ => rfl)) pe_non (nomark _))
                (pss_cons (ps_asg (pe_op op_xorN (pe_ix ix_list (pv 9) (pv 3) (fun _ _ => rfl)) (pv 8)) (pg_sub (pv 9) (pv 12) set_listN))
                (pss_one (ps_expr (pe_bm PySem.F.plainAttrs_list PySem.F.slot_list_append PySem.F.type_list_append mt_append (pv 11) (pa_cons (pv 12) pa_nil)))))
                (pss_one (ps_if (pt_cmpR op_neN (pe_ix ix_list (pv 9) (pv 12) (fun _ _ => rfl)) (pe_op op_xorN (pe_ix ix_list (pv 9) (pv 3) (fun _ _ => rfl)) (pv 8)) (nomark _))
                  (pss_one (ps_ret pe_non))
                  pss_nil)))))))))))
          pss_nil)))
      (pss_one (ps_ret (pv 9)))))))), ?_⟩
    refine ⟨.ref p, rfl, p, _, 0, .int (n : Int), rfl, rfl, hp, atI_nat (j := 0) rfl, (n : Int), rfl, by omega, by omega, fun D hD => ?_⟩
    refine lc_rows walk_rngN (by omega) hD (fun _ _ => True.intro) (fun i x H1 H2 Ky Kn hi s y ky => ?_) fun H1 ls s1 r1 hls hln => ?_
    · obtain ⟨rfl, rfl⟩ := y
      exact ⟨rfl, Nat.zero_le _, fun l hl => ky l hl⟩
    -- inside
    refine ⟨.ref b, rfl, b, rfl, ⟨_, s1.seqT hb⟩, fun d hd => ?_⟩
    refine dc_true (walk_tup (K := K) (a := b) (xs := nv q)) (fun _ => true) (nv_len q) (fun x hx => by have := hq x hx; omega) hd (fun _ s => s.seqT (s1.seqT hb)) (fun i z H2 Ky Kn hz s ky kn => ?_) fun H2 kvs F s2 ed hND hF => ?_
    · exact ⟨rfl, _, rfl, ky rfl⟩
    have hFi : ∀ t, (F t).isSome = decide (t ∈ q) := fun t => by
      rw [hF]
      by_cases m : t ∈ q
      · rw [if_pos ⟨m, rfl⟩, decide_eq_true m]
        rfl
      · rw [if_neg fun z => m z.1, decide_eq_false m]
        rfl
    have s12 := s1.trans s2
    have r2 := r1.same s2
    have hd1 : H1 d = none := hd
    -- near
    refine ⟨.ref p, rfl, p, _, 1, .ref ta, rfl, rfl, s12.seqT hp, atI_nat (j := 1) rfl, ta, rf es, rfl, s12.seqT ht,
      for_it walk_enumT (fun i σ H' => ∃ v5 v6 v7 v8 v9 v10 v11 v12 Pf, σ = [some (.ref p), some (.ref b), some (.ref D), none, some (.ref d), v5, v6, v7, v8, v9, v10, v11, v12] ∧ Same H H' ∧ H' d = some (.dK kvs) ∧ PRows H' D ls Pf ∧ CRow (sn es) q i Pf ∧ ∀ x, (Pf x).length ≤ 2 * i)
      ⟨none, none, none, none, none, none, none, none, fun _ => [], rfl, s12, ed, ⟨by exact r2, fun _ _ h => by simp at h⟩, fun x y c => by simp [sn], fun _ => Nat.zero_le _⟩ (fun i σ H' _ ⟨_, _, _, _, _, _, _, _, _, _, s, _⟩ => s.seqT ht) ?_ ?_⟩
    · rintro i y σ H3 H4 hi ⟨v5, v6, v7, v8, v9, v10, v11, v12, Pf, rfl, s3, h3d, r3, hC, hPl⟩ ⟨T, x1, x2, rfl, hTn, rfl, hx1, hx2⟩
      cases hx1
      obtain ⟨e, he, rfl⟩ := rf_get hx2
      have hil := (List.getElem?_eq_some_iff.mp he).1
      have hil' : i < (sn es).length := by rw [sn_len]; exact hil
      have hen := en_sn he
      obtain ⟨b1, b2, b3⟩ := hW.en hil'
      rw [hen] at b1 b2 b3
      have hge := hg e (mem_at he)
      have sT := same_new (o := .tup [.int (i : Int), .ref e.1]) hTn
      have eT := upd_same (H := H3) (a := T) (o := .tup [.int (i : Int), .ref e.1])
      have s4 := s3.trans sT
      have h4d := sT _ _ h3d
      have r4 := r3.same sT
      generalize upd H3 T (.tup [.int (i : Int), .ref e.1]) = H4 at sT eT s4 h4d r4 ⊢
      refine ⟨T, _, rfl, SqT.of eT, rfl, _, _, rfl, _, _, rfl, ⟨e.1, _, rfl, s4.seqT hge, rfl, _, _, rfl, _, _, rfl, rfl, rfl, ?_⟩⟩
      refine ⟨_, rfl, .ref d, rfl, d, _, rfl, dg hND (.inl h4d) i, _, rfl, ?_⟩
      rw [hFi]
      refine ite_val _ ?_
      generalize hc : (decide (i ∈ q)).toNat = c
      obtain ⟨a1, ha1, ga1, hr1⟩ := r4.ro.get (i := e.2.1) (by omega)
      refine ⟨.ref D, rfl, _, rfl, D, _, _, _, rfl, rfl, SqL.of r4.ro.li, atI_nat ga1, .inl ⟨rfl, _, SqL.of hr1⟩, _, rfl, _, rfl, by show 2 ≤ sizeLine; decide, fun q1 hq1 => ?_⟩
      have r5 := r4.put ha1 hq1 (e.2.2, c)
      have hd1a : d ≠ a1 := fun z => by
        rw [z] at h4d
        rw [h4d] at hr1
        cases hr1
      have s5 : Same H (upd (upd H4 q1 (.tup [.int (e.2.2 : Int), .int (c : Int)])) a1 (.lst (rf (Pf e.2.1) ++ [.ref q1]))) := same_at (s4.trans (same_new hq1)) (hln a1 (mem_at ha1))
      have h5d : (upd (upd H4 q1 (.tup [.int (e.2.2 : Int), .int (c : Int)])) a1 (.lst (rf (Pf e.2.1) ++ [.ref q1]))) d = some (.dK kvs) := by
        rw [upd_ne hd1a]
        exact (same_new hq1) _ _ h4d
      refine ⟨a1, _, _, rfl, rfl, (same_new hq1) _ _ hr1, small1001 (by rw [rf_len]; have := hPl e.2.1; omega), ?_⟩
      have hP3 : ∀ x, ((fun x => if x = e.2.1 then Pf e.2.1 ++ [(q1, (e.2.2, c))] else Pf x) x).length ≤ 2 * i + 1 := fun x => by
        show (if x = e.2.1 then Pf e.2.1 ++ [(q1, (e.2.2, c))] else Pf x).length ≤ _
        split
        · rw [List.length_append]
          have := hPl e.2.1
          show _ + 1 ≤ _
          omega
        · have := hPl x
          omega
      have hA3 : ∀ x u z, (u, z) ∈ sn ((fun x => if x = e.2.1 then Pf e.2.1 ++ [(q1, (e.2.2, c))] else Pf x) x) ↔ (u, z) ∈ sn (Pf x) ∨ (x = e.2.1 ∧ (u, z) = (e.2.2, c)) := fun x u z => by
        rw [sn_if]
      generalize (fun x => if x = e.2.1 then Pf e.2.1 ++ [(q1, (e.2.2, c))] else Pf x) = P3 at r5 hP3 hA3
      generalize upd (upd H4 q1 (.tup [.int (e.2.2 : Int), .int (c : Int)])) a1 (.lst (rf (Pf e.2.1) ++ [.ref q1])) = H5 at r5 s5 h5d ⊢
      obtain ⟨a2, ha2, ga2, hr2⟩ := r5.ro.get (i := e.2.2) (by omega)
      refine ⟨.ref D, rfl, _, rfl, D, _, _, _, rfl, rfl, SqL.of r5.ro.li, atI_nat ga2, .inl ⟨rfl, _, SqL.of hr2⟩, _, rfl, _, rfl, by show 2 ≤ sizeLine; decide, fun q2 hq2 => ?_⟩
      have r6 := r5.put ha2 hq2 (e.2.1, c)
      have hd2a : d ≠ a2 := fun z => by
        rw [z] at h5d
        rw [h5d] at hr2
        cases hr2
      refine ⟨a2, _, _, rfl, rfl, (same_new hq2) _ _ hr2, small1001 (by rw [rf_len]; have := hP3 e.2.2; omega), ?_⟩
      refine ⟨_, _, _, _, _, _, _, _, _, rfl, same_at (s5.trans (same_new hq2)) (hln a2 (mem_at ha2)), by rw [upd_ne hd2a]; exact (same_new hq2) _ _ h5d, r6, fun x u z => ?_, fun x => ?_⟩
      · rw [sn_if, hA3, hC, Prod.mk.injEq, Prod.mk.injEq]
        constructor
        · rintro ((⟨t, h1, h2⟩ | ⟨h1, h2, h3⟩) | ⟨h1, h2, h3⟩)
          · exact ⟨t, by omega, h2⟩
          · refine ⟨i, Nat.lt_succ_self i, by rw [h3, hc], .inl ?_⟩
            rw [hen]
            exact ⟨h1.symm, h2.symm⟩
          · refine ⟨i, Nat.lt_succ_self i, by rw [h3, hc], .inr ?_⟩
            rw [hen]
            exact ⟨h2.symm, h1.symm⟩
        · rintro ⟨t, h1, h2, h3⟩
          by_cases hti : t = i
          · subst hti
            rw [hen] at h3
            rw [hc] at h2
            rcases h3 with ⟨q1, q2⟩ | ⟨q1, q2⟩
            · exact .inl (.inr ⟨q1.symm, q2.symm, h2⟩)
            · exact .inr ⟨q2.symm, q1.symm, h2⟩
          · exact .inl (.inl ⟨t, by omega, h2, h3⟩)
      · show (if x = e.2.2 then P3 e.2.2 ++ [(q2, (e.2.1, c))] else P3 x).length ≤ _
        split
        · rw [List.length_append]
          have := hP3 e.2.2
          show _ + 1 ≤ _
          omega
        · have := hP3 x
          omega
    · rintro σ H3 ⟨v5, v6, v7, v8, v9, v10, v11, v12, Pf, rfl, s3, h3d, r3, hC, hPl⟩
      rw [rf_len, ← sn_len] at hC
      have hrow : ∀ x y c, (y, c) ∈ sn (Pf x) → y < n ∧ c < 2 ∧ (∀ f, Cfn (sn es) q f → (f x ^^ f y) = decide (c = 1)) := fun x y c hm => by
        obtain ⟨t, h1, h2, h3⟩ := (hC x y c).mp hm
        obtain ⟨b1, b2, b3⟩ := hW.en h1
        refine ⟨?_, ?_, fun f hf => ?_⟩
        · rcases h3 with ⟨q1, q2⟩ | ⟨q1, q2⟩
          · rw [← q2]
            exact b2
          · rw [← q1]
            exact b3
        · rw [h2]
          cases decide (t ∈ q) <;> decide
        · have := hf t h1
          have e1 : decide (c = 1) = decide (t ∈ q) := by
            rw [h2]
            cases decide (t ∈ q) <;> rfl
          rw [e1, this]
          unfold df
          rcases h3 with ⟨q1, q2⟩ | ⟨q1, q2⟩
          · rw [q1, q2]
          · rw [q1, q2, Bool.xor_comm]
      have hsym : ∀ x y c, (y, c) ∈ sn (Pf x) → (x, c) ∈ sn (Pf y) := fun x y c hm => by
        obtain ⟨t, h1, h2, h3⟩ := (hC x y c).mp hm
        exact (hC y x c).mpr ⟨t, h1, h2, h3.symm⟩
      -- sides
      refine ⟨by show 1 ≤ sizeLine; decide, fun l0 hl0 => ?_⟩
      have s0 := same_new (o := .lst [.non]) hl0
      refine ⟨.ref p, rfl, p, _, 0, .int (n : Int), rfl, rfl, (s3.trans s0).seqT hp, atI_nat (j := 0) rfl, l0, (n : Int), _, rfl, rfl, upd_same, by omega, by omega, by show 1 * ((n : Nat) : Int).toNat ≤ sizeLine; rw [Int.toNat_natCast, sizeLine_eq]; omega, fun m hm => ?_⟩
      have e0 : (List.replicate ((n : Nat) : Int).toNat [V.non]).flatten = ol (List.replicate n none) := by
        rw [Int.toNat_natCast]
        exact ol_rep n
      rw [e0]
      have sm := same_new (o := .lst (ol (List.replicate n none))) hm
      have hm3 : H3 m = none := s0.free hm
      have grep : ∀ x, (List.replicate n (none : Option Nat)).getD x none = none := fun x => by
        rw [List.getD_eq_getElem?_getD, List.getElem?_replicate]
        split <;> rfl
      have hw3 : Same H3 _ := s0.trans sm
      refine ⟨.ref p, rfl, p, _, 0, .int (n : Int), rfl, rfl, (s3.trans hw3).seqT hp, atI_nat (j := 0) rfl, (n : Int), rfl, by omega, by omega,
        for_it walk_rngN (fun i σ H' => ∃ v3 v5 v6 v7 v8 v10 v11 v12 so, σ = [some (.ref p), some (.ref b), some (.ref D), v3, some (.ref d), v5, v6, v7, v8, some (.ref m), v10, v11, v12] ∧ Same H3 H' ∧ H' m = some (.lst (ol so)) ∧ so.length = n ∧ (∀ x a, so.getD x none = some a → a < 2) ∧ Cls Pf so (fun _ => False) ∧ ∀ x, x < i → so.getD x none ≠ none)
        ⟨none, v5, v6, v7, v8, v10, v11, v12, List.replicate n none, rfl, hw3, upd_same, List.length_replicate, fun x a e => by rw [grep] at e; (cases e), fun x a e => by rw [grep] at e; (cases e), fun x hx => absurd hx (Nat.not_lt_zero _)⟩ (fun _ _ _ _ _ => True.intro) ?_ ?_⟩
      · rintro i y σ H4 H5 hi ⟨v3, v5, v6, v7, v8, v10, v11, v12, so, rfl, s4, h4, hso, h01, hcl, hdn⟩ ⟨rfl, rfl⟩
        have hil : i < so.length := by omega
        refine ⟨.ref m, rfl, .int (i : Int), rfl, m, _, _, _, rfl, rfl, SqL.of h4, atI_nat (ol_at hil), rfl, _, rfl, ?_⟩
        rw [ov_non]
        cases hmi : so.getD i none with
        | some a =>
          refine iteF ?_
          exact ⟨v3, v5, v6, v7, v8, _, v11, v12, so, rfl, s4, h4, hso, h01, hcl, fun x hx => by
            by_cases e : x = i
            · rw [e, hmi]
              simp
            · exact hdn x (by omega)⟩
        | none =>
          refine iteT ?_
          refine ⟨.ref m, rfl, .int (i : Int), rfl, m, _, i, rfl, rfl, h4, by unfold ol; rw [List.length_map]; exact hil, ?_⟩
          have eset : (ol so).set i (V.int 0) = ol (so.set i (some 0)) := ol_set so i 0
          rw [eset]
          have s5 : Same H3 (upd H5 m (.lst (ol (so.set i (some 0))))) := same_at s4 hm3
          have h5 : (upd H5 m (.lst (ol (so.set i (some 0))))) m = some (.lst (ol (so.set i (some 0)))) := upd_same
          generalize upd H5 m (.lst (ol (so.set i (some 0)))) = H6 at s5 h5 ⊢
          refine ⟨_, rfl, by show 1 ≤ sizeLine; decide, fun w hw => ?_⟩
          have sw := same_new (o := .lst [.int (i : Int)]) hw
          have hw0 : H3 w = none := s5.free hw
          have hmw : m ≠ w := ne_of_none h5 hw
          have hnn := nones_set 0 hil hmi
          have hnle : nones so ≤ n := by
            unfold nones
            rw [← hso]
            exact List.countP_le_length
          refine while_m (fun k σ H' => ∃ v3 v8 v12 so W, σ = [some (.ref p), some (.ref b), some (.ref D), v3, some (.ref d), v5, v6, v7, v8, some (.ref m), some (.int (i : Int)), some (.ref w), v12] ∧ Same H3 H' ∧ H' m = some (.lst (ol so)) ∧ H' w = some (.lst (nv W)) ∧ so.length = n ∧ (∀ x a, so.getD x none = some a → a < 2) ∧ (∀ x ∈ W, Sid (sn es) q so i x) ∧ Cls Pf so (fun x => x ∈ W) ∧ (∀ x, x < i + 1 → so.getD x none ≠ none) ∧ k = 2 * nones so + W.length ∧ W.length + nones so ≤ n)
            (2 * nones (so.set i (some 0)) + 1) ⟨v3, v8, v12, so.set i (some 0), [i], rfl, s5.trans sw, sw _ _ h5, upd_same, by rw [List.length_set]; exact hso, fun x a hx => ?_, fun x hx => ⟨0, ?_, fun f hf => ?_⟩, ?_, fun x hx => ?_, rfl, by show 1 + _ ≤ n; omega⟩ ?_
          · rw [getDn_set _ hil] at hx
            split at hx
            · cases hx
              decide
            · exact h01 x a hx
          · rw [List.mem_singleton.mp hx, getDn_set _ hil, if_pos rfl]
          · rw [List.mem_singleton.mp hx]
            exact (Bool.xor_false _).symm
          · exact fun x a hx hP y c hy => (hcl.set hil hmi) x a hx (fun q => by rcases q with q | q; exact q; exact hP (List.mem_singleton.mpr q)) y c hy
          · rw [getDn_set _ hil]
            by_cases e : x = i
            · rw [if_pos e]
              simp
            · rw [if_neg e]
              exact hdn x (by omega)
          · clear hmi hil h01 hcl hdn hnn hnle h4 s4 hso h5 s5 sw hw eset
            rintro k σ H7 ⟨v3, v8, v12, so, W, rfl, s7, h7m, h7w, hso, h01, hwa, hcl, hdn, rfl, hsz⟩
            refine ⟨.ref w, rfl, !(nv W).isEmpty, .inl ⟨_, SqL.of h7w, rfl⟩, ?_⟩
            rcases List.eq_nil_or_concat W with rfl | ⟨W', sp, rfl⟩
            · refine iteF ?_
              exact ⟨v3, v5, v6, v7, v8, _, _, v12, so, rfl, s7, h7m, hso, h01, fun x a hx _ y c hy => hcl x a hx (by simp) y c hy, hdn⟩
            · rw [List.concat_eq_append] at *
              have hne : (!(nv (W' ++ [sp])).isEmpty) = true := by
                rw [nv_snoc]
                cases nv W' <;> rfl
              rw [hne]
              refine iteT ?_
              refine ⟨fun σ' H' => ∃ k', k' < 2 * nones so + (W' ++ [sp]).length ∧ ∃ v3 v8 v12 so W, σ' = [some (.ref p), some (.ref b), some (.ref D), v3, some (.ref d), v5, v6, v7, v8, some (.ref m), some (.int (i : Int)), some (.ref w), v12] ∧ Same H3 H' ∧ H' m = some (.lst (ol so)) ∧ H' w = some (.lst (nv W)) ∧ so.length = n ∧ (∀ x a, so.getD x none = some a → a < 2) ∧ (∀ x ∈ W, Sid (sn es) q so i x) ∧ Cls Pf so (fun x => x ∈ W) ∧ (∀ x, x < i + 1 → so.getD x none ≠ none) ∧ k' = 2 * nones so + W.length ∧ W.length + nones so ≤ n, fun σ' H' h => h, ?_⟩
              obtain ⟨asp, hasp, hfsp⟩ := hwa sp (List.mem_append_right _ (List.mem_singleton.mpr rfl))
              have hspl := none_len hasp
              have hasp2 := h01 sp asp hasp
              -- spot = waiting.pop()
              refine ⟨.ref w, rfl, .inl ⟨rfl, _, SqL.of h7w⟩, w, _, .int (sp : Int), rfl, rfl, h7w, by rw [nv_snoc]; exact get_last _ _, ?_⟩
              have hdl : (nv (W' ++ [sp])).dropLast = nv W' := by
                rw [nv_snoc]
                exact List.dropLast_concat
              rw [hdl]
              have s8 : Same H3 (upd H7 w (.lst (nv W'))) := same_at s7 hw0
              have h8m : (upd H7 w (.lst (nv W'))) m = some (.lst (ol so)) := by
                rw [upd_ne hmw]
                exact h7m
              have h8w : (upd H7 w (.lst (nv W'))) w = some (.lst (nv W')) := upd_same
              generalize upd H7 w (.lst (nv W')) = H8 at s8 h8m h8w ⊢
              obtain ⟨ra, hra, gra, hrr⟩ := r3.ro.get (i := sp) (by omega)
              have hrs : ∀ H', Same H3 H' → SqL K H' ra (rf (Pf sp)) := fun H' s => SqL.of (s _ _ hrr)
              refine ⟨.ref D, rfl, .int (sp : Int), rfl, D, _, _, _, rfl, rfl, s8.seq (SqL.of r3.ro.li), atI_nat gra, ra, rfl, ⟨_, hrs _ s8⟩, for_list (xs := rf (Pf sp)) (fun j σ H' => ∃ v8 v12 so' W, σ = [some (.ref p), some (.ref b), some (.ref D), some (.int (sp : Int)), some (.ref d), v5, v6, v7, v8, some (.ref m), some (.int (i : Int)), some (.ref w), v12] ∧ Same H3 H' ∧ H' m = some (.lst (ol so')) ∧ H' w = some (.lst (nv W)) ∧ so'.length = n ∧ (∀ x a, so'.getD x none = some a → a < 2) ∧ (∀ x ∈ W, Sid (sn es) q so' i x) ∧ so'.getD sp none = some asp ∧ Cls Pf so' (fun x => x ∈ W ∨ x = sp) ∧ (∀ e ∈ sn ((Pf sp).take j), so'.getD e.1 none = some (asp ^^^ e.2)) ∧ (∀ x, x < i + 1 → so'.getD x none ≠ none) ∧ 2 * nones so' + W.length ≤ 2 * nones so + W'.length ∧ W.length + nones so' ≤ n)
                ⟨v8, v12, so, W', rfl, s8, h8m, h8w, hso, h01, fun x hx => hwa x (List.mem_append_left _ hx), hasp, fun x a hx hP y c hy => hcl x a hx (fun q => ?_) y c hy, fun y hy => by simp [sn] at hy, hdn, Nat.le_refl _, ?_⟩ (fun j σ H' _ ⟨_, _, _, _, _, s, _⟩ => hrs H' s) ?_ ?_⟩
              · rcases List.mem_append.mp q with q | q
                · exact hP (.inl q)
                · exact hP (.inr (List.mem_singleton.mp q))
              · rw [List.length_append] at hsz
                have : W'.length + 1 + nones so ≤ n := hsz
                omega
              · rintro j y σ H9 hj ⟨v8, v12, so', W, rfl, s9, h9m, h9w, hso', h01', hwa', hsp', hcl', htk, hdn', hms, hsz'⟩
                obtain ⟨e, he, rfl⟩ := rf_get hj
                have hem : (e.2.1, e.2.2) ∈ sn (Pf sp) := List.mem_map.mpr ⟨e, mem_at he, rfl⟩
                have hPe : PrT H9 e.1 e.2 := s9 _ _ (r3.tg sp e (mem_at he))
                obtain ⟨hyn, hc2, hfc⟩ := hrow sp e.2.1 e.2.2 hem
                have hyl : e.2.1 < so'.length := by omega
                have hspl' := none_len hsp'
                have h3x := xor01 hasp2 hc2
                have htk1 : ∀ u, u ∈ sn ((Pf sp).take (j + 1)) → u ∈ sn ((Pf sp).take j) ∨ u = e.2 := fun u hu' => by
                  rw [List.take_add_one, he, Option.toList_some, sn_snoc] at hu'
                  rcases List.mem_append.mp hu' with h | h
                  · exact .inl h
                  · exact .inr (List.mem_singleton.mp h)
                have gsp : (ol so')[sp]? = some (.int (asp : Int)) := by
                  rw [ol_at hspl', hsp']
                  rfl
                refine ⟨e.1, _, rfl, SqT.of hPe, rfl, _, _, rfl, _, _, rfl, rfl, ?_⟩
                refine ⟨.ref m, rfl, _, rfl, m, _, _, _, rfl, rfl, SqL.of h9m, atI_nat (ol_at hyl), rfl, _, rfl, ?_⟩
                rw [ov_non]
                cases hyo : so'.getD e.2.1 none with
                | some bv =>
                  refine iteF ?_
                  have gy : (ol so')[e.2.1]? = some (.int (bv : Int)) := by
                    rw [ol_at hyl, hyo]
                    rfl
                  refine ⟨.ref m, rfl, _, rfl, m, _, _, _, rfl, rfl, SqL.of h9m, atI_nat gy, .ref m, rfl, _, rfl, m, _, _, _, rfl, rfl, SqL.of h9m, atI_nat gsp, _, rfl, asp, e.2.2, rfl, rfl, bv, asp ^^^ e.2.2, rfl, rfl, _, rfl, ?_⟩
                  by_cases hbv : bv = asp ^^^ e.2.2
                  · rw [decide_eq_true hbv]
                    refine iteF ?_
                    refine ⟨_, _, so', W, rfl, s9, h9m, h9w, hso', h01', hwa', hsp', hcl', fun u hu' => ?_, hdn', hms, hsz'⟩
                    rcases htk1 u hu' with h | h
                    · exact htk u h
                    · rw [h, hyo, hbv]
                  · rw [decide_eq_false hbv]
                    refine iteT ?_
                    refine kN (fun ⟨f, hf⟩ => hbv ?_) H9 (s3.trans s9)
                    have fin : (f e.2.1 = (f i ^^ decide (bv = 1))) → bv = asp ^^^ e.2.2 := fun h1 => by
                      have h2 := hfc f hf
                      rw [hfsp f hf, h1] at h2
                      have h4 : decide (bv = 1) = decide (asp ^^^ e.2.2 = 1) := by
                        rw [h3x.2.1, ← h2]
                        generalize f i = p1
                        generalize decide (asp = 1) = p2
                        generalize decide (bv = 1) = p3
                        cases p1 <;> cases p2 <;> cases p3 <;> rfl
                      have hb2 := h01' _ bv hyo
                      have := h3x.1
                      by_cases q1 : bv = 1
                      · rw [decide_eq_true q1] at h4
                        have := of_decide_eq_true h4.symm
                        omega
                      · rw [decide_eq_false q1] at h4
                        have := of_decide_eq_false h4.symm
                        omega
                    by_cases hP : e.2.1 ∈ W ∨ e.2.1 = sp
                    · rcases hP with hP | hP
                      · obtain ⟨b', hb', hfb⟩ := hwa' _ hP
                        rw [hyo] at hb'
                        cases hb'
                        exact fin (hfb f hf)
                      · have hb' := hyo
                        rw [hP, hsp'] at hb'
                        cases hb'
                        exact fin (by rw [hP]; exact hfsp f hf)
                    · have := hcl' _ bv hyo hP sp e.2.2 (hsym _ _ _ hem)
                      rw [hsp'] at this
                      rw [Option.some.inj this]
                      exact (xor01 (h01' _ bv hyo) hc2).2.2.symm
                | none =>
                  refine iteT ?_
                  refine ⟨.ref m, rfl, _, rfl, m, _, _, _, rfl, rfl, SqL.of h9m, atI_nat gsp, _, rfl, asp, e.2.2, rfl, rfl, .ref m, rfl, _, rfl, m, _, e.2.1, rfl, rfl, h9m, by unfold ol; rw [List.length_map]; exact hyl, ?_⟩
                  rw [ol_set]
                  have s10 : Same H3 (upd H9 m (.lst (ol (so'.set e.2.1 (some (asp ^^^ e.2.2)))))) := same_at s9 hm3
                  have h10m : (upd H9 m (.lst (ol (so'.set e.2.1 (some (asp ^^^ e.2.2)))))) m = some (.lst (ol (so'.set e.2.1 (some (asp ^^^ e.2.2))))) := upd_same
                  have h10w : (upd H9 m (.lst (ol (so'.set e.2.1 (some (asp ^^^ e.2.2)))))) w = some (.lst (nv W)) := by
                    rw [upd_ne (Ne.symm hmw)]
                    exact h9w
                  generalize upd H9 m (.lst (ol (so'.set e.2.1 (some (asp ^^^ e.2.2))))) = H10 at s10 h10m h10w ⊢
                  have hnn := nones_set (asp ^^^ e.2.2) hyl hyo
                  refine ⟨.ref w, rfl, .inl ⟨rfl, _, SqL.of h10w⟩, _, rfl, w, _, _, rfl, rfl, h10w, small1001 (by rw [nv_len]; omega), ?_⟩
                  have hos : sp ≠ e.2.1 := fun q => by
                    rw [← q, hsp'] at hyo
                    cases hyo
                  refine ⟨_, _, so'.set e.2.1 (some (asp ^^^ e.2.2)), W ++ [e.2.1], rfl, same_at s10 hw0, by rw [upd_ne hmw]; exact h10m, by rw [upd_same, nv_snoc], by rw [List.length_set]; exact hso', fun x a hx => ?_, fun x hx => ?_, ?_, fun x a hx hP y c hy => (hcl'.set hyl hyo) x a hx (fun q => ?_) y c hy, fun u hu' => ?_, fun x hx => ?_, ?_, ?_⟩
                  · rw [getDn_set _ hyl] at hx
                    split at hx
                    · cases hx
                      exact h3x.1
                    · exact h01' x a hx
                  · by_cases q : x = e.2.1
                    · refine ⟨asp ^^^ e.2.2, by rw [getDn_set _ hyl, if_pos q], fun f hf => ?_⟩
                      have h2 := hfc f hf
                      rw [hfsp f hf] at h2
                      rw [q, h3x.2.1, ← h2]
                      generalize f i = p1
                      generalize decide (asp = 1) = p2
                      generalize f e.2.1 = p3
                      cases p1 <;> cases p2 <;> cases p3 <;> rfl
                    · rcases List.mem_append.mp hx with h | h
                      · obtain ⟨a, ha', hfa⟩ := hwa' x h
                        exact ⟨a, by rw [getDn_set _ hyl, if_neg q]; exact ha', hfa⟩
                      · exact absurd (List.mem_singleton.mp h) q
                  · rw [getDn_set _ hyl, if_neg hos]
                    exact hsp'
                  · rcases q with (q | q) | q
                    · exact hP (.inl (List.mem_append_left _ q))
                    · exact hP (.inr q)
                    · exact hP (.inl (List.mem_append_right _ (List.mem_singleton.mpr q)))
                  · rw [getDn_set _ hyl]
                    rcases htk1 u hu' with h | h
                    · have h2 := htk u h
                      split
                      · rename_i h5
                        rw [h5, hyo] at h2
                        cases h2
                      · exact h2
                    · rw [h, if_pos rfl]
                  · rw [getDn_set _ hyl]
                    split
                    · simp
                    · exact hdn' x hx
                  · rw [List.length_append]
                    show _ + (W.length + 1) ≤ _
                    omega
                  · rw [List.length_append]
                    show W.length + 1 + _ ≤ _
                    omega
              · rintro σ H9 ⟨v8, v12, so', W, rfl, s9, h9m, h9w, hso', h01', hwa', hsp', hcl', htk, hdn', hms, hsz'⟩
                rw [rf_len, List.take_length] at htk
                refine ⟨2 * nones so' + W.length, by rw [List.length_append]; show _ < _ + (W'.length + 1); omega, _, _, _, so', W, rfl, s9, h9m, h9w, hso', h01', hwa', fun x a hx hP y c hy => ?_, hdn', rfl, hsz'⟩
                by_cases q : x = sp
                · rw [q] at hx hy
                  rw [hsp'] at hx
                  rw [← Option.some.inj hx]
                  exact htk (y, c) hy
                · exact hcl' x a hx (fun z => z.elim hP q) y c hy
      · rintro σ H4 ⟨v3, v5, v6, v7, v8, v10, v11, v12, so, rfl, s4, h4, hso, h01, hcl, hdn⟩
        refine ⟨.ref m, rfl, kY ⟨fun x => decide (so.getD x none = some 1), fun t ht2 => ?_⟩ H4 m (s3.trans s4)⟩
        obtain ⟨b1, b2, b3⟩ := hW.en ht2
        have hx : ∃ a, so.getD (en (sn es) t).1 none = some a := by
          cases e : so.getD (en (sn es) t).1 none with
          | none => exact absurd e (hdn _ b3)
          | some a => exact ⟨a, rfl⟩
        obtain ⟨a, hx⟩ := hx
        have h2 := hcl _ a hx (fun z => z) (en (sn es) t).2 (decide (t ∈ q)).toNat ((hC _ _ _).mpr ⟨t, ht2, rfl, .inl ⟨rfl, rfl⟩⟩)
        have h3 := xor01 (h01 _ a hx) (show (decide (t ∈ q)).toNat < 2 by cases decide (t ∈ q) <;> decide)
        unfold df
        show _ = (decide (so.getD (en (sn es) t).1 none = some 1) ^^ decide (so.getD (en (sn es) t).2 none = some 1))
        rw [hx, h2, dec_congr (show some a = some 1 ↔ a = 1 by simp), dec_congr (show some (a ^^^ (decide (t ∈ q)).toNat) = some 1 ↔ a ^^^ (decide (t ∈ q)).toNat = 1 by simp), h3.2.1]
        cases decide (t ∈ q) <;> cases decide (a = 1) <;> rfl
end
end Fb

/-! FbX -/
set_option maxHeartbeats 4000000
/-! neighbours, can_come, rings_from, rings -/
namespace Fb
open PySem PySem.Spec PyProof.Rows L2
/-- by which tie below k one comes from x to another spot y -/
def Way (E : List (Nat × Nat)) (k x t y : Nat) : Prop := t < k ∧ x ≠ y ∧ (((en E t).1 = x ∧ (en E t).2 = y) ∨ ((en E t).1 = y ∧ (en E t).2 = x))
structure NRow (E : List (Nat × Nat)) (k : Nat) (Pf : Nat → List (Addr × (Nat × Nat))) : Prop where
  mem : ∀ x t y, (t, y) ∈ sn (Pf x) ↔ Way E k x t y
  asc : ∀ x, Asc ((sn (Pf x)).map (·.1))
-- neighbours: slots 0=web 1=near 2=spot 3=tie 4=low 5=high; cells 
abbrev sneighbours : Stmt := topS 14
abbrev Nneighbours : List Str := ["web", "near", "spot", "tie", "low", "high"]
theorem scneighbours : FnScope Nneighbours ["web"] (defScope sneighbours) := ⟨rfl, rfl, rfl, by decide +kernel, rfl, by decide +kernel, by decide +kernel⟩
-- can_come: slots 0=near 1=spot 2=target 3=closed 4=least 5=seen 6=waiting 7=here 8=tie 9=other; cells 
abbrev scan_come : Stmt := topS 13
abbrev Ncan_come : List Str := ["near", "spot", "target", "closed", "least", "seen", "waiting", "here", "tie", "other"]
theorem sccan_come : FnScope Ncan_come ["near", "spot", "target", "closed", "least"] (defScope scan_come) := ⟨rfl, rfl, rfl, by decide +kernel, rfl, by decide +kernel, by decide +kernel⟩
section
variable {P : Program} {w : World} {K : PySem.W.Frag} {mg : Str → Option Value} {base : Heap} {mt : Nat}
def sp_neighbours (K : PySem.W.Frag) : Sp := fun vs H Q _ => ∃ (p n : Nat) (E : List (Nat × Nat)), vs = [.ref p] ∧ Web K H p (n, E) ∧ WebOk n E ∧
  ∀ H' D ls Pf, Same H H' → PRows H' D ls Pf → ls.length = n → NRow E E.length Pf → (∀ x, (Pf x).length ≤ 80) → Q (.ref D) H'
theorem ok_neighbours {f : Addr} {fd : FuncData} (F : Fun K "neighbours" "neighbours" sneighbours f fd) (T : Bi mg mt) : FnOk P w K mg base CX0 1 f fd ["web"] (sp_neighbours K) := by
  refine okC F scneighbours (fun vs H Q E h => ?_) (fun cdv A outer s H vs Q E hr hcd h => ?_)
  · obtain ⟨p, n, E, rfl, _⟩ := h
    rfl
  · obtain ⟨p, n, E, rfl, ⟨ta, hp, es, rfl, ht, hg⟩, hW, k⟩ := h
    have hn := hW.nb
    have heb := hW.eb
    refine ⟨_, (pss_cons (ps_setLc (i := 1) (own := [("spot", 2)]) rfl scneighbours.nd rfl rfl (sw_true rfl rfl rfl (by decide +kernel)) (pi_range1 (by rfl) T.range (pa_cons (pe_ix ix_tup (pv 0) pe_int (fun _ _ => rfl)) pa_nil)) (blkOk_by (N := Nneighbours) (sc := (defScope sneighbours)) (by decide +kernel)) (fun _ _ _ _ _ => (pg_name (i := 2) scneighbours.nd rfl (Or.inl rfl))) (fun _ _ _ _ _ => pts_nil) (fun _ _ _ _ _ => (pe_lst pa_nil)))
      (pss_cons (ps_for PassesOwn.never rfl (pi_enumT (by rfl) T.enumerate (pa_cons (pe_ix ix_tup (pv 0) pe_int (fun _ _ => rfl)) pa_nil)) (pg_tup (n := 2) rfl (pgs_cons (pg_name (i := 3) scneighbours.nd rfl (Or.inl rfl)) (pgs_cons (pg_tup (n := 2) rfl (pgs_cons (pg_name (i := 4) scneighbours.nd rfl (Or.inl rfl)) (pgs_cons (pg_name (i := 5) scneighbours.nd rfl (Or.inl rfl)) pgs_nil))) pgs_nil)))
        (pss_one (ps_if (pt_cmpR op_neN (pv 4) (pv 5) (nomark _))
          (pss_cons (ps_expr (pe_bm PySem.F.plainAttrs_list PySem.F.slot_list_append PySem.F.type_list_append mt_append (pe_ix ix_list (pv 1) (pv 4) (fun _ _ => rfl)) (pa_cons (pe_tup (pa_cons (pv 3) (pa_cons (pv 5) pa_nil))) pa_nil)))
          (pss_one (ps_expr (pe_bm PySem.F.plainAttrs_list PySem.F.slot_list_append PySem.F.type_list_append mt_append (pe_ix ix_list (pv 1) (pv 5) (fun _ _ => rfl)) (pa_cons (pe_tup (pa_cons (pv 3) (pa_cons (pv 4) pa_nil))) pa_nil)))))
          pss_nil)))
      (pss_one (ps_ret (pv 1))))), ?_⟩
    refine ⟨.ref p, rfl, p, _, 0, .int (n : Int), rfl, rfl, hp, atI_nat (j := 0) rfl, (n : Int), rfl, by omega, by omega, fun D hD => ?_⟩
    refine lc_rows walk_rngN (by omega) hD (fun _ _ => True.intro) (fun i x H1 H2 Ky Kn hi s y ky => ?_) fun H1 ls s1 r1 hls hln => ?_
    · obtain ⟨rfl, rfl⟩ := y
      exact ⟨rfl, Nat.zero_le _, fun l hl => ky l hl⟩
    refine ⟨.ref p, rfl, p, _, 1, .ref ta, rfl, rfl, s1.seqT hp, atI_nat (j := 1) rfl, ta, rf es, rfl, s1.seqT ht,
      for_it walk_enumT (fun i σ H' => ∃ v2 v3 v4 v5 Pf, σ = [some (.ref p), some (.ref D), v2, v3, v4, v5] ∧ Same H H' ∧ PRows H' D ls Pf ∧ NRow (sn es) i Pf ∧ ∀ x, (Pf x).length ≤ 2 * i)
      ⟨none, none, none, none, fun _ => [], rfl, s1, ⟨by exact r1, fun _ _ h => by simp at h⟩, ⟨fun x t y => by simp [sn, Way], fun x => List.Pairwise.nil⟩, fun _ => Nat.zero_le _⟩ (fun i σ H' _ ⟨_, _, _, _, _, _, s, _⟩ => s.seqT ht) ?_ ?_⟩
    · rintro i y σ H3 H4 hi ⟨v2, v3, v4, v5, Pf, rfl, s3, r3, hC, hPl⟩ ⟨T, x1, x2, rfl, hTn, rfl, hx1, hx2⟩
      cases hx1
      obtain ⟨e, he, rfl⟩ := rf_get hx2
      have hil := (List.getElem?_eq_some_iff.mp he).1
      have hil' : i < (sn es).length := by rw [sn_len]; exact hil
      have hen := en_sn he
      obtain ⟨b1, b2, b3⟩ := hW.en hil'
      rw [hen] at b1 b2 b3
      have hge := hg e (mem_at he)
      have sT := same_new (o := .tup [.int (i : Int), .ref e.1]) hTn
      have eT := upd_same (H := H3) (a := T) (o := .tup [.int (i : Int), .ref e.1])
      have s4 := s3.trans sT
      have r4 := r3.same sT
      generalize upd H3 T (.tup [.int (i : Int), .ref e.1]) = H4 at sT eT s4 r4 ⊢
      refine ⟨T, _, rfl, SqT.of eT, rfl, _, _, rfl, _, _, rfl, ⟨e.1, _, rfl, s4.seqT hge, rfl, _, _, rfl, _, _, rfl, rfl, rfl, ?_⟩⟩
      refine ⟨_, rfl, _, rfl, e.2.1, e.2.2, rfl, rfl, _, rfl, ?_⟩
      have hlow : ∀ x, ∀ t ∈ (sn (Pf x)).map (·.1), t < i := fun x t htm => by
        obtain ⟨u, hu, rfl⟩ := List.mem_map.mp htm
        exact ((hC.mem x u.1 u.2).mp hu).1
      by_cases hne : e.2.1 = e.2.2
      · rw [decide_eq_true hne]
        refine iteF ?_
        refine ⟨_, _, _, _, Pf, rfl, s4, r4, ⟨fun x t y => ?_, hC.asc⟩, fun x => by have := hPl x; omega⟩
        rw [hC.mem]
        unfold Way
        constructor
        · rintro ⟨h1, h2, h3⟩
          exact ⟨by omega, h2, h3⟩
        · rintro ⟨h1, h2, h3⟩
          by_cases hti : t = i
          · subst hti
            rw [hen] at h3
            rcases h3 with ⟨q1, q2⟩ | ⟨q1, q2⟩ <;> omega
          · exact ⟨by omega, h2, h3⟩
      · rw [decide_eq_false hne]
        refine iteT ?_
        obtain ⟨a1, ha1, ga1, hr1⟩ := r4.ro.get (i := e.2.1) (by omega)
        refine ⟨.ref D, rfl, _, rfl, D, _, _, _, rfl, rfl, SqL.of r4.ro.li, atI_nat ga1, .inl ⟨rfl, _, SqL.of hr1⟩, _, rfl, _, rfl, by show 2 ≤ sizeLine; decide, fun q1 hq1 => ?_⟩
        have r5 := r4.put ha1 hq1 (i, e.2.2)
        have s5 : Same H (upd (upd H4 q1 (.tup [.int (i : Int), .int (e.2.2 : Int)])) a1 (.lst (rf (Pf e.2.1) ++ [.ref q1]))) := same_at (s4.trans (same_new hq1)) (hln a1 (mem_at ha1))
        refine ⟨a1, _, _, rfl, rfl, (same_new hq1) _ _ hr1, small1001 (by rw [rf_len]; have := hPl e.2.1; omega), ?_⟩
        have hP3 : ∀ x, ((fun x => if x = e.2.1 then Pf e.2.1 ++ [(q1, (i, e.2.2))] else Pf x) x).length ≤ 2 * i + 1 := fun x => by
          show (if x = e.2.1 then Pf e.2.1 ++ [(q1, (i, e.2.2))] else Pf x).length ≤ _
          split
          · rw [List.length_append]
            have := hPl e.2.1
            show _ + 1 ≤ _
            omega
          · have := hPl x
            omega
        have hA3 : ∀ x u z, (u, z) ∈ sn ((fun x => if x = e.2.1 then Pf e.2.1 ++ [(q1, (i, e.2.2))] else Pf x) x) ↔ (u, z) ∈ sn (Pf x) ∨ (x = e.2.1 ∧ (u, z) = (i, e.2.2)) := fun x u z => by
          rw [sn_if]
        have hS3 : ∀ x, Asc ((sn ((fun x => if x = e.2.1 then Pf e.2.1 ++ [(q1, (i, e.2.2))] else Pf x) x)).map (·.1)) ∧ (x ≠ e.2.1 → ∀ t ∈ (sn ((fun x => if x = e.2.1 then Pf e.2.1 ++ [(q1, (i, e.2.2))] else Pf x) x)).map (·.1), t < i) := fun x => by
          show Asc ((sn (if x = e.2.1 then Pf e.2.1 ++ [(q1, (i, e.2.2))] else Pf x)).map (·.1)) ∧ (x ≠ e.2.1 → ∀ t ∈ (sn (if x = e.2.1 then Pf e.2.1 ++ [(q1, (i, e.2.2))] else Pf x)).map (·.1), t < i)
          split
          · rename_i hx
            refine ⟨?_, fun z => absurd hx z⟩
            rw [sn_snoc, List.map_append]
            exact List.pairwise_append.mpr ⟨hC.asc _, List.pairwise_singleton _ _, fun a ha b hb => by rw [List.mem_singleton.mp hb]; exact hlow _ a ha⟩
          · exact ⟨hC.asc x, fun _ => hlow x⟩
        generalize (fun x => if x = e.2.1 then Pf e.2.1 ++ [(q1, (i, e.2.2))] else Pf x) = P3 at r5 hP3 hA3 hS3
        generalize upd (upd H4 q1 (.tup [.int (i : Int), .int (e.2.2 : Int)])) a1 (.lst (rf (Pf e.2.1) ++ [.ref q1])) = H5 at r5 s5 ⊢
        obtain ⟨a2, ha2, ga2, hr2⟩ := r5.ro.get (i := e.2.2) (by omega)
        refine ⟨.ref D, rfl, _, rfl, D, _, _, _, rfl, rfl, SqL.of r5.ro.li, atI_nat ga2, .inl ⟨rfl, _, SqL.of hr2⟩, _, rfl, _, rfl, by show 2 ≤ sizeLine; decide, fun q2 hq2 => ?_⟩
        have r6 := r5.put ha2 hq2 (i, e.2.1)
        refine ⟨a2, _, _, rfl, rfl, (same_new hq2) _ _ hr2, small1001 (by rw [rf_len]; have := hP3 e.2.2; omega), ?_⟩
        refine ⟨_, _, _, _, _, rfl, same_at (s5.trans (same_new hq2)) (hln a2 (mem_at ha2)), r6, ⟨fun x u z => ?_, fun x => ?_⟩, fun x => ?_⟩
        · rw [sn_if, hA3, hC.mem, Prod.mk.injEq, Prod.mk.injEq]
          unfold Way
          constructor
          · rintro ((⟨h1, h2, h3⟩ | ⟨h1, h2, h3⟩) | ⟨h1, h2, h3⟩)
            · exact ⟨by omega, h2, h3⟩
            · subst h2
              exact ⟨Nat.lt_succ_self _, by omega, .inl (by rw [hen]; exact ⟨h1.symm, h3.symm⟩)⟩
            · subst h2
              exact ⟨Nat.lt_succ_self _, by omega, .inr (by rw [hen]; exact ⟨h3.symm, h1.symm⟩)⟩
          · rintro ⟨h1, h2, h3⟩
            by_cases hti : u = i
            · subst hti
              rw [hen] at h3
              rcases h3 with ⟨q1, q2⟩ | ⟨q1, q2⟩
              · exact .inl (.inr ⟨q1.symm, rfl, q2.symm⟩)
              · exact .inr ⟨q2.symm, rfl, q1.symm⟩
            · exact .inl (.inl ⟨by omega, h2, h3⟩)
        · show Asc ((sn (if x = e.2.2 then P3 e.2.2 ++ [(q2, (i, e.2.1))] else P3 x)).map (·.1))
          split
          · rw [sn_snoc, List.map_append]
            exact List.pairwise_append.mpr ⟨(hS3 _).1, List.pairwise_singleton _ _, fun a ha b hb => by rw [List.mem_singleton.mp hb]; exact (hS3 e.2.2).2 (fun z => hne z.symm) a ha⟩
          · exact (hS3 x).1
        · show (if x = e.2.2 then P3 e.2.2 ++ [(q2, (i, e.2.1))] else P3 x).length ≤ _
          split
          · rw [List.length_append]
            have := hP3 e.2.2
            show _ + 1 ≤ _
            omega
          · have := hP3 x
            omega
    · rintro σ H3 ⟨v2, v3, v4, v5, Pf, rfl, s3, r3, hC, hPl⟩
      rw [rf_len, ← sn_len] at hC hPl
      exact ⟨.ref D, rfl, k H3 D ls Pf s3 r3 hls hC fun x => by have := hPl x; omega⟩
/-- a function that tells spots apart, though no later tie off the closed spots does -/
def Apart (E : List (Nat × Nat)) (l : Nat) (cl : List Nat) (x y : Nat) : Prop := ∃ f, (∀ t, l < t → t < E.length → (en E t).1 ∉ cl → (en E t).2 ∉ cl → df E f t = false) ∧ f x ≠ f y
def sp_can_come (K : PySem.W.Frag) : Sp := fun vs H Q _ => ∃ (D : Addr) (ls : List Addr) (Pf : Nat → List (Addr × (Nat × Nat))) (n : Nat) (E : List (Nat × Nat)) (x y l : Nat) (c : Addr) (cl : List Nat), vs = [.ref D, .int (x : Int), .int (y : Int), .ref c, .int (l : Int)] ∧ PRows H D ls Pf ∧ ls.length = n ∧ WebOk n E ∧ NRow E E.length Pf ∧ Nts K H c cl ∧ x < n ∧ x ≠ y ∧
  ∀ (r : Bool) H', Same H H' → (r = false → Apart E l cl x y) → Q (.bl r) H'
theorem ok_can_come {f : Addr} {fd : FuncData} (F : Fun K "can_come" "can_come" scan_come f fd) (T : Bi mg mt) : FnOk P w K mg base CX0 1 f fd ["near", "spot", "target", "closed", "least"] (sp_can_come K) := by
  refine okC F sccan_come (fun vs H Q E h => ?_) (fun cdv A outer s H vs Q E hr hcd h => ?_)
  · obtain ⟨D, ls, Pf, n, E, x, y, l, c, cl, rfl, _⟩ := h
    rfl
  · obtain ⟨D, ls, Pf, n, E, x, y, l, c, cl, rfl, hR, hls, hW, hN, hc, hx, hxy, k⟩ := h
    have hn := hW.nb
    have hu := hu_of hr
    refine ⟨_, (pss_cons (ps_par (i := 5) (j := 6) (by rfl) sccan_come.nd rfl rfl (by decide) rfl rfl (pa_cons (pe_disp (pps_cons (pv 1) pe_bl pps_nil) (by rfl) (by rfl) (fun z => by cases z) (by decide)) (pa_cons (pe_lst (pa_cons (pv 1) pa_nil)) pa_nil)) (by rfl))
      (pss_cons (ps_while PassesOwn.never (pt_truthK K (pv 6) (by intro _; rfl))
        (pss_cons (ps_set (i := 7) sccan_come.nd rfl (Or.inl rfl) (pe_bm0 PySem.F.plainAttrs_list PySem.F.slot_list_pop PySem.F.type_list_pop mt_pop (pv 6)))
        (pss_one (ps_for PassesOwn.never rfl (pi_list (pe_ix ix_list (pv 0) (pv 7) (fun _ _ => rfl))) (pg_tup (n := 2) rfl (pgs_cons (pg_name (i := 8) sccan_come.nd rfl (Or.inl rfl)) (pgs_cons (pg_name (i := 9) sccan_come.nd rfl (Or.inl rfl)) pgs_nil)))
          (pss_one (ps_if (PW.pt (pw_and (pt_cmpR op_gtN (pv 8) (pv 4) (nomark _)) (pw_and (pt_cmp (pc_dnotin hu (pv 9) (pv 5))) (pw_and1 (pt_cmpR (op_notinN K) (pv 9) (pv 3) (by with_unfolding_all rfl))))))
            (pss_cons (ps_if (pt_cmpR op_eqN (pv 9) (pv 2) (nomark _))
              (pss_one (ps_ret pe_bl))
              pss_nil)
            (pss_cons (ps_dput hu (pv 5) (pv 9) pe_bl rfl)
            (pss_one (ps_expr (pe_bm PySem.F.plainAttrs_list PySem.F.slot_list_append PySem.F.type_list_append mt_append (pv 6) (pa_cons (pv 9) pa_nil))))))
            pss_nil))))))
      (pss_one (ps_ret pe_bl)))), ?_⟩
    intro d hd
    have sd := same_new (o := .dK []) hd
    refine ⟨_, rfl, upd_same, [(.inl (x : Int), .bl true)], rfl, by show 1 ≤ 15; decide, ?_⟩
    have em : mergeK [] [((.inl (x : Int) : Key), V.bl true)] = putK [] (.inl (x : Int)) (.bl true) := rfl
    rw [em, upd_upd]
    have hND := ND.nil.put x (.bl true)
    have s1 := same_new (o := .dK (putK [] (.inl (x : Int)) (.bl true))) hd
    have h1d := upd_same (H := H) (a := d) (o := .dK (putK [] (.inl (x : Int)) (.bl true)))
    have hd0 : H d = none := hd
    generalize upd H d (.dK (putK [] (.inl (x : Int)) (.bl true))) = H1 at s1 h1d ⊢
    refine ⟨_, rfl, by show 1 ≤ sizeLine; decide, fun w hw => ⟨_, _, rfl, ?_⟩⟩
    have sw := same_new (o := .lst [.int (x : Int)]) hw
    have hw0 : H w = none := s1.free hw
    have hdw : d ≠ w := ne_of_none h1d hw
    refine while_m (fun m σ H' => ∃ v7 v8 v9 kvs F, ∃ S W : List Nat, σ = [some (.ref D), some (.int (x : Int)), some (.int (y : Int)), some (.ref c), some (.int (l : Int)), some (.ref d), some (.ref w), v7, v8, v9] ∧ Same H H' ∧ H' d = some (.dK kvs) ∧ ND kvs F ∧ (∀ z, (F z).isSome = true ↔ z ∈ S) ∧ H' w = some (.lst (nv W)) ∧ S.Nodup ∧ (∀ z ∈ S, z < n ∧ z ≠ y) ∧ (∀ z ∈ W, z ∈ S) ∧ x ∈ S ∧ (∀ z ∈ S, z ∉ W → ∀ t o, Way E E.length z t o → l < t → o ∉ cl → o ∈ S) ∧ m + 2 * S.length = 2 * n + W.length ∧ W.length ≤ S.length)
      (2 * n + 1 - 2) ⟨none, none, none, _, _, [x], [x], rfl, s1.trans sw, sw _ _ h1d, hND, fun z => ?_, upd_same, List.pairwise_singleton _ _, fun z hz => by rw [List.mem_singleton.mp hz]; exact ⟨hx, hxy⟩, fun z hz => hz, List.mem_singleton.mpr rfl, fun z hz hzw => absurd hz hzw, by show _ + 2 * 1 = _ + 1; omega, Nat.le_refl _⟩ ?_
    · rw [List.mem_singleton]
      by_cases q : z = x
      · rw [if_pos q]
        simp [q]
      · rw [if_neg q]
        simp [q]
    · clear hND h1d s1 sw hw hd sd
      rintro m σ H2 ⟨v7, v8, v9, kvs, F, S, W, rfl, s2, h2d, hND, hF, h2w, hSn, hSb, hWS, hxS, hcl, hm, hWl⟩
      have hSl : S.length ≤ n := nat_nodup n S hSn fun z hz => (hSb z hz).1
      refine ⟨.ref w, rfl, !(nv W).isEmpty, .inl ⟨_, SqL.of h2w, rfl⟩, ?_⟩
      rcases List.eq_nil_or_concat W with rfl | ⟨W', sp, rfl⟩
      · refine iteF ?_
        refine k false H2 s2 fun _ => ⟨fun z => decide (z ∈ S), fun t hlt htl h1 h2 => ?_, ?_⟩
        · have go : (en E t).1 ∈ S ↔ (en E t).2 ∈ S := by
            by_cases q : (en E t).1 = (en E t).2
            · rw [q]
            · exact ⟨fun a => hcl _ a (by simp) t _ ⟨htl, q, .inl ⟨rfl, rfl⟩⟩ hlt h2, fun a => hcl _ a (by simp) t _ ⟨htl, fun z => q z.symm, .inr ⟨rfl, rfl⟩⟩ hlt h1⟩
          show (decide ((en E t).1 ∈ S) ^^ decide ((en E t).2 ∈ S)) = false
          rw [dec_congr go]
          exact Bool.xor_self _
        · show decide (x ∈ S) ≠ decide (y ∈ S)
          rw [decide_eq_true hxS, decide_eq_false fun m => (hSb y m).2 rfl]
          simp
      · rw [List.concat_eq_append] at *
        have hne : (!(nv (W' ++ [sp])).isEmpty) = true := by
          rw [nv_snoc]
          cases nv W' <;> rfl
        rw [hne]
        refine iteT ?_
        refine ⟨fun σ' H' => ∃ m', m' < m ∧ ∃ v7 v8 v9 kvs F, ∃ S W : List Nat, σ' = [some (.ref D), some (.int (x : Int)), some (.int (y : Int)), some (.ref c), some (.int (l : Int)), some (.ref d), some (.ref w), v7, v8, v9] ∧ Same H H' ∧ H' d = some (.dK kvs) ∧ ND kvs F ∧ (∀ z, (F z).isSome = true ↔ z ∈ S) ∧ H' w = some (.lst (nv W)) ∧ S.Nodup ∧ (∀ z ∈ S, z < n ∧ z ≠ y) ∧ (∀ z ∈ W, z ∈ S) ∧ x ∈ S ∧ (∀ z ∈ S, z ∉ W → ∀ t o, Way E E.length z t o → l < t → o ∉ cl → o ∈ S) ∧ m' + 2 * S.length = 2 * n + W.length ∧ W.length ≤ S.length, fun σ' H' h => h, ?_⟩
        have hspS := hWS sp (List.mem_append_right _ (List.mem_singleton.mpr rfl))
        have hspn := (hSb sp hspS).1
        refine ⟨.ref w, rfl, .inl ⟨rfl, _, SqL.of h2w⟩, w, _, .int (sp : Int), rfl, rfl, h2w, by rw [nv_snoc]; exact get_last _ _, ?_⟩
        have hdl : (nv (W' ++ [sp])).dropLast = nv W' := by
          rw [nv_snoc]
          exact List.dropLast_concat
        rw [hdl]
        have s3 : Same H (upd H2 w (.lst (nv W'))) := same_at s2 hw0
        have h3d : (upd H2 w (.lst (nv W'))) d = some (.dK kvs) := by
          rw [upd_ne hdw]
          exact h2d
        have h3w : (upd H2 w (.lst (nv W'))) w = some (.lst (nv W')) := upd_same
        generalize upd H2 w (.lst (nv W')) = H3 at s3 h3d h3w ⊢
        obtain ⟨ra, hra, gra, hrr⟩ := hR.ro.get (i := sp) (by omega)
        have hrs : ∀ H', Same H H' → SqL K H' ra (rf (Pf sp)) := fun H' s => SqL.of (s _ _ hrr)
        have hWl' : W'.length + 1 ≤ S.length := by
          rw [List.length_append] at hWl
          exact hWl
        refine ⟨.ref D, rfl, .int (sp : Int), rfl, D, _, _, _, rfl, rfl, s3.seq (SqL.of hR.ro.li), atI_nat gra, ra, rfl, ⟨_, hrs _ s3⟩, for_list (xs := rf (Pf sp)) (fun j σ H' => ∃ v8 v9 kvs F, ∃ S' W : List Nat, σ = [some (.ref D), some (.int (x : Int)), some (.int (y : Int)), some (.ref c), some (.int (l : Int)), some (.ref d), some (.ref w), some (.int (sp : Int)), v8, v9] ∧ Same H H' ∧ H' d = some (.dK kvs) ∧ ND kvs F ∧ (∀ z, (F z).isSome = true ↔ z ∈ S') ∧ H' w = some (.lst (nv W)) ∧ S'.Nodup ∧ (∀ z ∈ S', z < n ∧ z ≠ y) ∧ (∀ z ∈ W, z ∈ S') ∧ x ∈ S' ∧ (∀ z ∈ S', z ∉ W → z ≠ sp → ∀ t o, Way E E.length z t o → l < t → o ∉ cl → o ∈ S') ∧ (∀ e ∈ sn ((Pf sp).take j), l < e.1 → e.2 ∉ cl → e.2 ∈ S') ∧ 2 * S.length + W.length ≤ 2 * S'.length + W'.length ∧ W.length + 1 ≤ S'.length)
          ⟨v8, v9, kvs, F, S, W', rfl, s3, h3d, hND, hF, h3w, hSn, hSb, fun z hz => hWS z (List.mem_append_left _ hz), hxS, fun z hz hzW hzs t o hw' => hcl z hz (fun q => ?_) t o hw', fun e he => by simp [sn] at he, Nat.le_refl _, hWl'⟩ (fun j σ H' _ ⟨_, _, _, _, _, _, _, s, _⟩ => hrs H' s) ?_ ?_⟩
        · rcases List.mem_append.mp q with q | q
          · exact hzW q
          · exact hzs (List.mem_singleton.mp q)
        · clear hND hF h2d h3d h3w h2w s3
          rintro j u σ H4 hj ⟨v8, v9, kvs, F, S', W, rfl, s4, h4d, hND, hF, h4w, hSn', hSb', hWS', hxS', hcl', htk, hms, hWl2⟩
          obtain ⟨e, he, rfl⟩ := rf_get hj
          have hem : (e.2.1, e.2.2) ∈ sn (Pf sp) := List.mem_map.mpr ⟨e, mem_at he, rfl⟩
          have hway := (hN.mem sp e.2.1 e.2.2).mp hem
          have hPe : PrT H4 e.1 e.2 := s4 _ _ (hR.tg sp e (mem_at he))
          have hon : e.2.2 < n := by
            obtain ⟨b1, b2, b3⟩ := hW.en hway.1
            rcases hway.2.2 with ⟨q1, q2⟩ | ⟨q1, q2⟩
            · rw [← q2]
              exact b2
            · rw [← q1]
              exact b3
          have htk1 : ∀ u, u ∈ sn ((Pf sp).take (j + 1)) → u ∈ sn ((Pf sp).take j) ∨ u = e.2 := fun u hu' => by
            rw [List.take_add_one, he, Option.toList_some, sn_snoc] at hu'
            rcases List.mem_append.mp hu' with h | h
            · exact .inl h
            · exact .inr (List.mem_singleton.mp h)
          have skip : (l < e.2.1 → e.2.2 ∉ cl → e.2.2 ∈ S') → ∃ v8 v9 kvs F, ∃ S' W : List Nat, [some (.ref D), some (.int (x : Int)), some (.int (y : Int)), some (.ref c), some (.int (l : Int)), some (.ref d), some (.ref w), some (.int (sp : Int)), some (V.int (e.2.1 : Int)), some (V.int (e.2.2 : Int))] = [some (.ref D), some (.int (x : Int)), some (.int (y : Int)), some (.ref c), some (.int (l : Int)), some (.ref d), some (.ref w), some (.int (sp : Int)), v8, v9] ∧ Same H H4 ∧ H4 d = some (.dK kvs) ∧ ND kvs F ∧ (∀ z, (F z).isSome = true ↔ z ∈ S') ∧ H4 w = some (.lst (nv W)) ∧ S'.Nodup ∧ (∀ z ∈ S', z < n ∧ z ≠ y) ∧ (∀ z ∈ W, z ∈ S') ∧ x ∈ S' ∧ (∀ z ∈ S', z ∉ W → z ≠ sp → ∀ t o, Way E E.length z t o → l < t → o ∉ cl → o ∈ S') ∧ (∀ e ∈ sn ((Pf sp).take (j + 1)), l < e.1 → e.2 ∉ cl → e.2 ∈ S') ∧ 2 * S.length + W.length ≤ 2 * S'.length + W'.length ∧ W.length + 1 ≤ S'.length := fun h =>
            ⟨_, _, kvs, F, S', W, rfl, s4, h4d, hND, hF, h4w, hSn', hSb', hWS', hxS', hcl', fun u hu' => by
              rcases htk1 u hu' with q | q
              · exact htk u q
              · rw [q]
                exact h, hms, hWl2⟩
          refine ⟨e.1, _, rfl, SqT.of hPe, rfl, _, _, rfl, _, _, rfl, rfl, ?_⟩
          refine ⟨_, rfl, _, rfl, e.2.1, l, rfl, rfl, _, rfl, ?_⟩
          by_cases hlt : l < e.2.1
          · rw [decide_eq_true hlt]
            refine iteT ?_
            refine ⟨_, rfl, .ref d, rfl, d, _, rfl, dg hND (.inl h4d) e.2.2, _, rfl, ?_⟩
            cases hFe : F e.2.2 with
            | some v =>
              refine iteF (iteF ?_)
              exact skip fun _ _ => (hF _).mp (by rw [hFe]; rfl)
            | none =>
              refine iteT ?_
              refine ⟨_, rfl, .ref c, rfl, c, cl, e.2.2, rfl, rfl, .inr (s4.seqT hc), _, rfl, ?_⟩
              show (if (!decide (e.2.2 ∈ cl)) = true then _ else _)
              by_cases hcc : e.2.2 ∈ cl
              · rw [decide_eq_true hcc]
                refine iteF ?_
                exact skip fun _ z => absurd hcc z
              · rw [decide_eq_false hcc]
                refine iteT ?_
                refine ⟨_, rfl, _, rfl, e.2.2, y, rfl, rfl, _, rfl, ?_⟩
                refine ite2 (fun hey => ?_) (fun hey => ?_)
                · exact k true H4 s4 fun z => by cases z
                · have hey' : e.2.2 ≠ y := fun z => hey (decide_eq_true z)
                  have hoS : e.2.2 ∉ S' := fun m => by
                    have := (hF _).mpr m
                    rw [hFe] at this
                    cases this
                  have hkl : kvs.length ≤ 1000000 := by
                    have := hND.len (B := n) fun z hz => by
                      cases q : F z with
                      | none => rfl
                      | some v =>
                        have := (hSb' z ((hF z).mp (by rw [q]; rfl))).1
                        omega
                    omega
                  have hSl' : S'.length ≤ n := nat_nodup n S' hSn' fun z hz => (hSb' z hz).1
                  refine ⟨.ref d, rfl, _, rfl, d, _, rfl, dpu h4d hkl e.2.2 _, ?_⟩
                  have h5w : (upd H4 d (.dK (putK kvs (.inl (e.2.2 : Int)) (.bl true)))) w = some (.lst (nv W)) := by
                    rw [upd_ne (Ne.symm hdw)]
                    exact h4w
                  refine ⟨.ref w, rfl, .inl ⟨rfl, _, SqL.of h5w⟩, _, rfl, w, _, _, rfl, rfl, h5w, small1001 (by rw [nv_len]; omega), ?_⟩
                  refine ⟨_, _, _, _, S' ++ [e.2.2], W ++ [e.2.2], rfl, same_at (same_at s4 hd0) hw0, by rw [upd_ne hdw, upd_same], hND.put e.2.2 (.bl true), fun z => ?_, by rw [upd_same, nv_snoc], List.nodup_append.mpr ⟨hSn', List.pairwise_singleton _ _, fun a ha b hb => by rw [List.mem_singleton.mp hb]; exact fun z => hoS (z ▸ ha)⟩, fun z hz => ?_, fun z hz => ?_, List.mem_append_left _ hxS', fun z hz hzW hzs t o hw' hl' ho' => ?_, fun u hu' hl' ho' => ?_, ?_, ?_⟩
                  · rw [List.mem_append, List.mem_singleton]
                    by_cases q : z = e.2.2
                    · rw [if_pos q]
                      simp [q]
                    · rw [if_neg q, hF z]
                      simp [q]
                  · rcases List.mem_append.mp hz with q | q
                    · exact hSb' z q
                    · rw [List.mem_singleton.mp q]
                      exact ⟨hon, hey'⟩
                  · rcases List.mem_append.mp hz with q | q
                    · exact List.mem_append_left _ (hWS' z q)
                    · exact List.mem_append_right _ q
                  · have hzS : z ∈ S' := by
                      rcases List.mem_append.mp hz with q | q
                      · exact q
                      · exact absurd (List.mem_append_right _ q) hzW
                    exact List.mem_append_left _ (hcl' z hzS (fun q => hzW (List.mem_append_left _ q)) hzs t o hw' hl' ho')
                  · rcases htk1 u hu' with q | q
                    · exact List.mem_append_left _ (htk u q hl' ho')
                    · rw [q]
                      exact List.mem_append_right _ (List.mem_singleton.mpr rfl)
                  · rw [List.length_append, List.length_append]
                    show _ + (W.length + 1) ≤ 2 * (S'.length + 1) + _
                    omega
                  · rw [List.length_append, List.length_append]
                    show W.length + 1 + 1 ≤ S'.length + 1
                    omega
          · rw [decide_eq_false hlt]
            refine iteF (iteF ?_)
            exact skip fun z => absurd z hlt
        · rintro σ H4 ⟨v8, v9, kvs, F, S', W, rfl, s4, h4d, hND, hF, h4w, hSn', hSb', hWS', hxS', hcl', htk, hms, hWl2⟩
          rw [rf_len, List.take_length] at htk
          have hSl' : S'.length ≤ n := nat_nodup n S' hSn' fun z hz => (hSb' z hz).1
          rw [List.length_append] at hm
          have hm' : m + 2 * S.length = 2 * n + (W'.length + 1) := hm
          refine ⟨2 * n + W.length - 2 * S'.length, by omega, _, _, _, kvs, F, S', W, rfl, s4, h4d, hND, hF, h4w, hSn', hSb', hWS', hxS', fun z hz hzW t o hw' hl' ho' => ?_, by omega, by omega⟩
          by_cases q : z = sp
          · rw [q] at hw'
            exact htk (t, o) ((hN.mem sp t o).mpr hw') hl' ho'
          · exact hcl' z hz hzW q t o hw' hl' ho'
end
end Fb

/-! FbM3 -/
set_option maxHeartbeats 4000000
/-! Rings: how many there can be; that none is missed. -/
namespace Fb
theorem nd_le : ∀ {l m : List Nat}, l.Nodup → (∀ x ∈ l, x ∈ m) → l.length ≤ m.length
  | [], _, _, _ => Nat.zero_le _
  | x :: l, m, h, hs => by
    obtain ⟨h1, h2⟩ := List.nodup_cons.mp h
    have hx := hs x (List.mem_cons_self ..)
    have := nd_le (l := l) (m := m.erase x) h2 fun y hy => (List.mem_erase_of_ne (fun e : y = x => h1 (by rw [← e]; exact hy))).mpr (hs y (List.mem_cons_of_mem _ hy))
    rw [List.length_erase_of_mem hx] at this
    have hp : 0 < m.length := List.length_pos_of_mem hx
    rw [List.length_cons]
    omega
/-- ties later than l, no loops, both ends off C -/
def alv (E : List (Nat × Nat)) (l : Nat) (C : List Nat) (t : Nat) : Bool := decide (l < t ∧ (en E t).1 ≠ (en E t).2 ∧ (en E t).1 ∉ C ∧ (en E t).2 ∉ C)
def al (E : List (Nat × Nat)) (l : Nat) (C : List Nat) : Nat := (List.range E.length).countP (alv E l C)
theorem cp_two {p q r : Nat → Bool} (h1 : ∀ x, p x = true → r x = true ∧ q x = false) (h2 : ∀ x, q x = true → r x = true) : ∀ l : List Nat, l.countP p + l.countP q ≤ l.countP r
  | [] => Nat.le_refl _
  | x :: l => by
    have ih := cp_two h1 h2 l
    rw [List.countP_cons, List.countP_cons, List.countP_cons]
    by_cases hp : p x = true
    · obtain ⟨hr, hq⟩ := h1 x hp
      simp only [hp, hr, hq, if_true, Bool.false_eq_true, if_false]
      omega
    · by_cases hq : q x = true
      · have hr := h2 x hq
        simp only [hp, hq, hr, if_true, Bool.false_eq_true, if_false]
        omega
      · simp only [hp, hq, Bool.false_eq_true, if_false]
        omega
theorem nd_count {p : Nat → Bool} {L R : List Nat} (h : L.Nodup) (hs : ∀ t ∈ L, t ∈ R ∧ p t = true) : L.length ≤ R.countP p := by
  rw [List.countP_eq_length_filter]
  exact nd_le h fun x hx => List.mem_filter.mpr (hs x hx)
theorem al_step {E : List (Nat × Nat)} {l s : Nat} {C L : List Nat} (h : L.Nodup) (hL : ∀ t ∈ L, t < E.length ∧ alv E l C t = true ∧ ((en E t).1 = s ∨ (en E t).2 = s)) : al E l (C ++ [s]) + L.length ≤ al E l C := by
  have h1 : L.length ≤ (List.range E.length).countP fun t => alv E l C t && decide ((en E t).1 = s ∨ (en E t).2 = s) := nd_count h fun t ht => by
    obtain ⟨a, b, c⟩ := hL t ht
    exact ⟨List.mem_range.mpr a, by rw [b, decide_eq_true c]; rfl⟩
  have h2 := cp_two (p := alv E l (C ++ [s])) (q := fun t => alv E l C t && decide ((en E t).1 = s ∨ (en E t).2 = s)) (r := alv E l C) (fun t ht => by
    obtain ⟨a, b, c, d⟩ := of_decide_eq_true ht
    have c1 : (en E t).1 ∉ C := fun m => c (List.mem_append_left _ m)
    have d1 : (en E t).2 ∉ C := fun m => d (List.mem_append_left _ m)
    refine ⟨decide_eq_true ⟨a, b, c1, d1⟩, ?_⟩
    rw [decide_eq_false, Bool.and_false]
    rintro (q | q)
    · exact c (List.mem_append_right _ (List.mem_singleton.mpr q))
    · exact d (List.mem_append_right _ (List.mem_singleton.mpr q))) (fun t ht => by
    rw [Bool.and_eq_true] at ht
    exact ht.1) (List.range E.length)
  unfold al
  omega
theorem al_start (E : List (Nat × Nat)) {l : Nat} (hl : l < E.length) : al E l [] ≤ E.length - 1 - l := by
  unfold al
  rw [List.countP_eq_length_filter]
  have h1 : ((List.range E.length).filter (alv E l [])).Nodup := List.Pairwise.filter _ List.nodup_range
  have h2 : (((List.range E.length).filter (alv E l [])).map fun t => t - (l + 1)).Nodup := by
    refine List.pairwise_map.mpr (List.pairwise_iff_forall_sublist.mpr fun {a b} hs => ?_)
    have hab : a ≠ b := (List.pairwise_iff_forall_sublist.mp h1) hs
    have ha := of_decide_eq_true (List.mem_filter.mp (hs.subset (List.mem_cons_self ..))).2
    have hb := of_decide_eq_true (List.mem_filter.mp (hs.subset (List.mem_cons_of_mem _ (List.mem_cons_self ..)))).2
    have := ha.1
    have := hb.1
    omega
  have := nat_nodup (E.length - 1 - l) _ h2 fun x hx => by
    obtain ⟨t, ht, rfl⟩ := List.mem_map.mp hx
    obtain ⟨ht1, ht2⟩ := List.mem_filter.mp ht
    have h3 := List.mem_range.mp ht1
    have h4 := (of_decide_eq_true ht2).1
    omega
  rw [List.length_map] at this
  exact this
/-- by ties of m that are later than l and off C, s and y hang together -/
def Good (E : List (Nat × Nat)) (l m : Nat) (C : List Nat) (s y : Nat) : Prop := ∀ f, (∀ t, l < t → t < E.length → m.testBit t = true → (en E t).1 ∉ C → (en E t).2 ∉ C → df E f t = false) → f s = f y
theorem good_start {E : List (Nat × Nat)} {l m : Nat} (he : EvenM E m) (hl : l < E.length) (hb : m.testBit l = true) (hlo : ∀ i, i < l → m.testBit i = false) : Good E l m [] (en E l).2 (en E l).1 := fun f hf => by
  have := he.2 f
  rw [dmk_only (t := l) (fun i hi hne => ?_) hl, hb, Bool.true_and] at this
  · unfold df at this
    generalize f (en E l).1 = a at *
    generalize f (en E l).2 = b at *
    cases a <;> cases b <;> first | rfl | cases this
  · by_cases hil : i < l
    · rw [hlo i hil, Bool.false_and]
    · cases hm : m.testBit i with
      | false => rfl
      | true => rw [hf i (by omega) hi hm (by simp) (by simp), Bool.and_false]
theorem good_step {E : List (Nat × Nat)} {l m s y : Nat} {C : List Nat} (hg : Good E l m C s y) (hsy : s ≠ y) (hsC : s ∉ C) :
    ∃ t o, l < t ∧ Way E E.length s t o ∧ m.testBit t = true ∧ o ∉ C ++ [s] ∧ (o = y ∨ Good E l m (C ++ [s]) o y) := by
  classical
  refine Classical.byContradiction fun hno => ?_
  let N : Nat → Prop := fun o => ∃ t, l < t ∧ Way E E.length s t o ∧ m.testBit t = true ∧ o ∉ C ++ [s]
  have hN : ∀ o, N o → ∃ f, (∀ t, l < t → t < E.length → m.testBit t = true → (en E t).1 ∉ C ++ [s] → (en E t).2 ∉ C ++ [s] → df E f t = false) ∧ f o ≠ f y := fun o ⟨t, h1, h2, h3, h4⟩ => by
    refine Classical.byContradiction fun hn => hno ⟨t, o, h1, h2, h3, h4, .inr fun f hf => ?_⟩
    exact Classical.byContradiction fun hne => hn ⟨f, hf, hne⟩
  let g : Nat → Bool := fun x => decide (x = s ∨ ∃ o, N o ∧ ∃ f, (∀ t, l < t → t < E.length → m.testBit t = true → (en E t).1 ∉ C ++ [s] → (en E t).2 ∉ C ++ [s] → df E f t = false) ∧ f o ≠ f y ∧ f x ≠ f y)
  have gs : g s = true := decide_eq_true (.inl rfl)
  have gy : g y = false := decide_eq_false fun h => by
    rcases h with h | ⟨o, _, f, _, _, h⟩
    · exact hsy h.symm
    · exact h rfl
  have gn : ∀ o, N o → g o = true := fun o ho => by
    obtain ⟨f, h1, h2⟩ := hN o ho
    exact decide_eq_true (.inr ⟨o, ho, f, h1, h2, h2⟩)
  have := hg g fun t hlt htl hm h1 h2 => by
    by_cases hab : (en E t).1 = (en E t).2
    · unfold df
      rw [hab]
      exact Bool.xor_self _
    · by_cases ha : (en E t).1 = s
      · have hb : g (en E t).2 = true := gn _ ⟨t, hlt, ⟨htl, fun z => hab (ha.trans z), .inl ⟨ha, rfl⟩⟩, hm, fun q => by
          rcases List.mem_append.mp q with q | q
          · exact h2 q
          · exact hab (ha.trans (List.mem_singleton.mp q).symm)⟩
        unfold df
        rw [hb, ha, gs]
        rfl
      · by_cases hb : (en E t).2 = s
        · have ha' : g (en E t).1 = true := gn _ ⟨t, hlt, ⟨htl, fun z => ha z.symm, .inr ⟨rfl, hb⟩⟩, hm, fun q => by
            rcases List.mem_append.mp q with q | q
            · exact h1 q
            · exact ha (List.mem_singleton.mp q)⟩
          unfold df
          rw [ha', hb, gs]
          rfl
        · have c1 : (en E t).1 ∉ C ++ [s] := fun q => by
            rcases List.mem_append.mp q with q | q
            · exact h1 q
            · exact ha (List.mem_singleton.mp q)
          have c2 : (en E t).2 ∉ C ++ [s] := fun q => by
            rcases List.mem_append.mp q with q | q
            · exact h2 q
            · exact hb (List.mem_singleton.mp q)
          have eqf : ∀ f, (∀ t, l < t → t < E.length → m.testBit t = true → (en E t).1 ∉ C ++ [s] → (en E t).2 ∉ C ++ [s] → df E f t = false) → f (en E t).1 = f (en E t).2 := fun f hf => by
            have := hf t hlt htl hm c1 c2
            unfold df at this
            generalize f (en E t).1 = a at *
            generalize f (en E t).2 = b at *
            cases a <;> cases b <;> first | rfl | cases this
          have : g (en E t).1 = g (en E t).2 := by
            refine dec_congr ⟨fun h => ?_, fun h => ?_⟩
            · rcases h with h | ⟨o, ho, f, hf, h3, h4⟩
              · exact absurd h ha
              · exact .inr ⟨o, ho, f, hf, h3, by rw [← eqf f hf]; exact h4⟩
            · rcases h with h | ⟨o, ho, f, hf, h3, h4⟩
              · exact absurd h hb
              · exact .inr ⟨o, ho, f, hf, h3, by rw [eqf f hf]; exact h4⟩
          unfold df
          rw [this]
          exact Bool.xor_self _
  rw [gs, gy] at this
  cases this
theorem good_apart {E : List (Nat × Nat)} {l m x y : Nat} {C : List Nat} (hg : Good E l m C x y) (ha : Apart E l C x y) : False := by
  obtain ⟨f, h1, h2⟩ := ha
  exact h2 (hg f fun t a b _ c d => h1 t a b c d)
/-- a ring whose least tie is l -/
structure RingOk (E : List (Nat × Nat)) (l : Nat) (g : List Nat) : Prop where
  asc : Asc g
  mem : l ∈ g
  bd : ∀ t ∈ g, l ≤ t ∧ t < E.length
  ev : EvenM E (mk g)
/-- even masks are sums of rings, if each one has a ring from its least tie -/
theorem even_span {E : List (Nat × Nat)} {L : List (List Nat)} (hL : ∀ g ∈ L, Asc g ∧ EvenM E (mk g)) (h : ∀ m l, EvenM E m → m.testBit l = true → (∀ i, i < l → m.testBit i = false) → ∃ g ∈ L, l ∈ g ∧ ∀ t ∈ g, m.testBit t = true) :
    ∀ m, EvenM E m → Span (L.map mk) m := by
  intro m
  induction m using Nat.strongRecOn with
  | _ m ih =>
    intro he
    by_cases h0 : m = 0
    · rw [h0]
      exact span_zero _
    · -- the least tie
      have hex : ∃ l, m.testBit l = true ∧ ∀ i, i < l → m.testBit i = false := by
        have : ∀ k, (∃ j, j < k ∧ m.testBit j = true) → ∃ l, m.testBit l = true ∧ ∀ i, i < l → m.testBit i = false := by
          intro k
          induction k with
          | zero => rintro ⟨j, hj, _⟩; omega
          | succ k ihk =>
            rintro ⟨j, hj, hb⟩
            by_cases hc : ∃ j, j < k ∧ m.testBit j = true
            · exact ihk hc
            · have hjk : j = k := by
                refine Classical.byContradiction fun hne => hc ⟨j, by omega, hb⟩
              refine ⟨j, hb, fun i hi => ?_⟩
              cases q : m.testBit i with
              | false => rfl
              | true => exact absurd ⟨i, by omega, q⟩ hc
        exact this (m.log2 + 1) ⟨m.log2, Nat.lt_succ_self _, Nat.testBit_log2 h0⟩
      obtain ⟨l, hl, hlo⟩ := hex
      obtain ⟨g, hg, hlg, hgm⟩ := h m l he hl hlo
      obtain ⟨ga, ge⟩ := hL g hg
      have hg0 : mk g ≠ 0 := fun z => by
        have := mk_bit ga l
        rw [z, Nat.zero_testBit, decide_eq_true hlg] at this
        cases this
      have hsub : ∀ i, (mk g).testBit i = true → m.testBit i = true := fun i hi => by
        rw [mk_bit ga] at hi
        exact hgm i (of_decide_eq_true hi)
      have hlt : m ^^^ mk g < m := (xor_lt_iff hg0).mpr (hsub _ (Nat.testBit_log2 hg0))
      have := ih _ hlt (even_xor he ge)
      have h2 := span_xor this (span_mem (List.mem_map.mpr ⟨g, hg, rfl⟩))
      rwa [xor_cancel] at h2
end Fb

/-! FbX2 -/
set_option maxHeartbeats 4000000
/-! rings_from -/
namespace Fb
open PySem PySem.Spec PyProof.Rows L2
/-- a way under way: its ties, where it stands, the spots behind it -/
def WtR (K : PySem.W.Frag) (H : Hp) (a : Addr) (st : List Nat × Nat × List Nat) : Prop := ∃ ra ca, SqT K H a [.ref ra, .int (st.2.1 : Int), .ref ca] ∧ Nts K H ra st.1 ∧ Nts K H ca (st.2.2 ++ [st.2.1])
theorem mo_wtr {K : PySem.W.Frag} : Mo (WtR K) := fun _ _ _ _ e ⟨ra, ca, h1, h2, h3⟩ => ⟨ra, ca, e.seqT h1, e.seqT h2, e.seqT h3⟩
structure OkSt (E : List (Nat × Nat)) (n l y : Nat) (st : List Nat × Nat × List Nat) : Prop where
  lm : l ∈ st.1
  nd : st.1.Nodup
  bd : ∀ t ∈ st.1, l ≤ t ∧ t < E.length
  en : ∀ t ∈ st.1, t ≠ l → (Fb.en E t).1 ∈ st.2.2 ++ [st.2.1] ∧ (Fb.en E t).2 ∈ st.2.2 ++ [st.2.1]
  dp : ∀ f, Fb.dp E f st.1 = (f y ^^ f st.2.1)
  cn : (st.2.2 ++ [st.2.1]).Nodup
  cb : ∀ x ∈ st.2.2 ++ [st.2.1], x < n ∧ x ≠ y
def wsum (E : List (Nat × Nat)) (l : Nat) (ws : List (List Nat × Nat × List Nat)) : Nat := (ws.map fun st => 2 ^ al E l st.2.2).sum
theorem wsum_snoc (E : List (Nat × Nat)) (l : Nat) (ws : List (List Nat × Nat × List Nat)) (st : List Nat × Nat × List Nat) : wsum E l (ws ++ [st]) = wsum E l ws + 2 ^ al E l st.2.2 := by
  unfold wsum
  simp
/-- for each even mask with least tie l: a ring within it is found, or something is under way -/
def Cmp (E : List (Nat × Nat)) (l y : Nat) (gs : List (List Nat)) (ws : List (List Nat × Nat × List Nat)) (X : Nat → Prop) : Prop := ∀ m, EvenM E m → m.testBit l = true → (∀ i, i < l → m.testBit i = false) →
  (∃ g ∈ gs, ∀ t ∈ g, m.testBit t = true) ∨ (∃ st ∈ ws, (∀ t ∈ st.1, m.testBit t = true) ∧ Good E l m st.2.2 st.2.1 y) ∨ X m
/-- a step onward -/
theorem OkSt.step {E : List (Nat × Nat)} {n l y t o : Nat} {st : List Nat × Nat × List Nat} (h : OkSt E n l y st) (hlt : l < t) (hw : Way E E.length st.2.1 t o) (ho : o ∉ st.2.2 ++ [st.2.1]) (hon : o < n) (hoy : o ≠ y) : OkSt E n l y (st.1 ++ [t], o, st.2.2 ++ [st.2.1]) := by
  have htr : t ∉ st.1 := fun m => by
    obtain ⟨a, b⟩ := h.en t m (by omega)
    rcases hw.2.2 with ⟨q1, q2⟩ | ⟨q1, q2⟩
    · exact ho (by rw [← q2]; exact b)
    · exact ho (by rw [← q1]; exact a)
  refine ⟨List.mem_append_left _ h.lm, List.nodup_append.mpr ⟨h.nd, List.pairwise_singleton _ _, fun a ha b hb => fun e => htr (by rw [← List.mem_singleton.mp hb, ← e]; exact ha)⟩, fun u hu => ?_, fun u hu hul => ?_, fun f => ?_, List.nodup_append.mpr ⟨h.cn, List.pairwise_singleton _ _, fun a ha b hb => fun e => ho (by have e2 : b = o := List.mem_singleton.mp hb; rw [← e2, ← e]; exact ha)⟩, fun x hx => ?_⟩
  · rcases List.mem_append.mp hu with m | m
    · exact h.bd u m
    · rw [List.mem_singleton.mp m]
      exact ⟨by omega, hw.1⟩
  · rcases List.mem_append.mp hu with m | m
    · obtain ⟨a, b⟩ := h.en u m hul
      exact ⟨List.mem_append_left _ a, List.mem_append_left _ b⟩
    · rw [List.mem_singleton.mp m]
      have hs : st.2.1 ∈ st.2.2 ++ [st.2.1] := List.mem_append_right _ (List.mem_singleton.mpr rfl)
      rcases hw.2.2 with ⟨q1, q2⟩ | ⟨q1, q2⟩
      · rw [q1, q2]
        exact ⟨List.mem_append_left _ hs, List.mem_append_right _ (List.mem_singleton.mpr rfl)⟩
      · rw [q1, q2]
        exact ⟨List.mem_append_right _ (List.mem_singleton.mpr rfl), List.mem_append_left _ hs⟩
  · rw [dp_append, h.dp f]
    show ((f y ^^ f st.2.1) ^^ (df E f t ^^ false)) = (f y ^^ f o)
    have ed : df E f t = (f st.2.1 ^^ f o) := by
      unfold df
      rcases hw.2.2 with ⟨q1, q2⟩ | ⟨q1, q2⟩
      · rw [q1, q2]
      · rw [q1, q2, Bool.xor_comm]
    rw [ed]
    generalize f y = p1
    generalize f st.2.1 = p2
    generalize f o = p3
    cases p1 <;> cases p2 <;> cases p3 <;> rfl
  · rcases List.mem_append.mp hx with m | m
    · exact h.cb x m
    · rw [List.mem_singleton.mp m]
      exact ⟨hon, hoy⟩
/-- a way that has come round -/
theorem OkSt.ring {E : List (Nat × Nat)} {n l y t : Nat} {st : List Nat × Nat × List Nat} (h : OkSt E n l y st) (hlt : l < t) (hw : Way E E.length st.2.1 t y) {g : List Nat} (ha : Asc g) (hg : ∀ u, u ∈ g ↔ u ∈ st.1 ++ [t]) : t ∉ st.1 ∧ ((st.1 ++ [t]).Nodup → RingOk E l g) := by
  have hyc : y ∉ st.2.2 ++ [st.2.1] := fun m => (h.cb y m).2 rfl
  have htr : t ∉ st.1 := fun m => by
    obtain ⟨a, b⟩ := h.en t m (by omega)
    rcases hw.2.2 with ⟨q1, q2⟩ | ⟨q1, q2⟩
    · exact hyc (by rw [← q2]; exact b)
    · exact hyc (by rw [← q1]; exact a)
  refine ⟨htr, fun hnd => ?_⟩
  have hbd : ∀ u ∈ g, l ≤ u ∧ u < E.length := fun u hu => by
    rcases List.mem_append.mp ((hg u).mp hu) with m | m
    · exact h.bd u m
    · rw [List.mem_singleton.mp m]
      exact ⟨by omega, hw.1⟩
  have hp : g.Perm (st.1 ++ [t]) := (List.perm_ext_iff_of_nodup (ha.imp fun h => Nat.ne_of_lt h) hnd).mpr hg
  refine ⟨ha, (hg l).mpr (List.mem_append_left _ h.lm), hbd, fun i hi => ?_, fun f => ?_⟩
  · rw [mk_bit ha]
    exact decide_eq_false fun m => by
      have := (hbd i m).2
      omega
  · rw [dmk_mk ha fun i hi => (hbd i hi).2, dp_perm hp, dp_append, h.dp f]
    show ((f y ^^ f st.2.1) ^^ (df E f t ^^ false)) = false
    have ed : df E f t = (f st.2.1 ^^ f y) := by
      unfold df
      rcases hw.2.2 with ⟨q1, q2⟩ | ⟨q1, q2⟩
      · rw [q1, q2]
      · rw [q1, q2, Bool.xor_comm]
    rw [ed]
    generalize f y = p1
    generalize f st.2.1 = p2
    cases p1 <;> cases p2 <;> rfl
theorem OkSt.start {E : List (Nat × Nat)} {n l : Nat} (hl : l < E.length) (hne : (Fb.en E l).1 ≠ (Fb.en E l).2) (h2 : (Fb.en E l).2 < n) : OkSt E n l (Fb.en E l).1 ([l], (Fb.en E l).2, []) := by
  refine ⟨List.mem_singleton.mpr rfl, List.pairwise_singleton _ _, fun t ht => ?_, fun t ht htl => absurd (List.mem_singleton.mp ht) htl, fun f => ?_, List.pairwise_singleton _ _, fun x hx => ?_⟩
  · rw [List.mem_singleton.mp ht]
    exact ⟨Nat.le_refl _, hl⟩
  · show (df E f l ^^ false) = _
    rw [Bool.xor_false]
    rfl
  · have : x = (Fb.en E l).2 := List.mem_singleton.mp hx
    rw [this]
    exact ⟨h2, fun z => hne z.symm⟩
/-- how many ways go on -/
def vld (l : Nat) (C : List Nat) (e : Nat × Nat) : Bool := decide (l < e.1 ∧ e.2 ∉ C)
theorem vld_le {E : List (Nat × Nat)} {n l y : Nat} {st : List Nat × Nat × List Nat} (h : OkSt E n l y st) {Pf : Nat → List (Addr × (Nat × Nat))} (hN : NRow E E.length Pf) : al E l (st.2.2 ++ [st.2.1]) + (sn (Pf st.2.1)).countP (vld l (st.2.2 ++ [st.2.1])) ≤ al E l st.2.2 := by
  have hL := al_step (E := E) (l := l) (s := st.2.1) (C := st.2.2) (L := ((sn (Pf st.2.1)).filter (vld l (st.2.2 ++ [st.2.1]))).map (·.1)) ?_ fun t ht => ?_
  · rw [List.length_map, ← List.countP_eq_length_filter] at hL
    exact hL
  · have h1 := hN.asc st.2.1
    exact (List.Sublist.map (fun x : Nat × Nat => x.1) (List.filter_sublist (p := vld l (st.2.2 ++ [st.2.1])) (l := sn (Pf st.2.1)))).nodup (h1.imp fun h => Nat.ne_of_lt h)
  · obtain ⟨e, he, rfl⟩ := List.mem_map.mp ht
    obtain ⟨he1, he2⟩ := List.mem_filter.mp he
    obtain ⟨v1, v2⟩ := of_decide_eq_true he2
    have hw := (hN.mem st.2.1 e.1 e.2).mp he1
    have hs : st.2.1 ∉ st.2.2 := fun m => by
      have := (List.nodup_append.mp h.cn).2.2 _ m _ (List.mem_singleton.mpr rfl)
      exact this rfl
    have ho : e.2 ∉ st.2.2 := fun m => v2 (List.mem_append_left _ m)
    refine ⟨hw.1, decide_eq_true ⟨v1, ?_⟩, ?_⟩
    · rcases hw.2.2 with ⟨q1, q2⟩ | ⟨q1, q2⟩
      · rw [q1, q2]
        exact ⟨hw.2.1, hs, ho⟩
      · rw [q1, q2]
        exact ⟨fun z => hw.2.1 z.symm, ho, hs⟩
    · rcases hw.2.2 with ⟨q1, q2⟩ | ⟨q1, q2⟩
      · exact .inl q1
      · exact .inr q2
end Fb

/-! FbX3 -/
set_option maxHeartbeats 4000000
/-! rings_from, rings -/
namespace Fb
open PySem PySem.Spec PyProof.Rows L2
-- rings_from: slots 0=web 1=near 2=least 3=found 4=target 5=begin 6=waiting 7=row 8=spot 9=closed 10=tie 11=other; cells 
abbrev srings_from : Stmt := topS 15
abbrev Nrings_from : List Str := ["web", "near", "least", "found", "target", "begin", "waiting", "row", "spot", "closed", "tie", "other"]
theorem scrings_from : FnScope Nrings_from ["web", "near", "least", "found"] (defScope srings_from) := ⟨rfl, rfl, rfl, by decide +kernel, rfl, by decide +kernel, by decide +kernel⟩
-- rings: slots 0=web 1=near 2=found 3=tie 4=low 5=high; cells 
abbrev srings : Stmt := topS 16
abbrev Nrings : List Str := ["web", "near", "found", "tie", "low", "high"]
theorem scrings : FnScope Nrings ["web"] (defScope srings) := ⟨rfl, rfl, rfl, by decide +kernel, rfl, by decide +kernel, by decide +kernel⟩
/-- the lists found and waiting, while rings_from goes -/
structure RgS (K : PySem.W.Frag) (H0 : Hp) (fl w : Addr) (fs : List (Addr × List Nat)) (H : Hp) (gs : List (Addr × List Nat)) (ws : List (Addr × (List Nat × Nat × List Nat))) : Prop where
  sm : Same (wol [fl] H0) (wol [fl, w] H)
  li : H fl = some (.lst (rf (fs ++ gs)))
  wa : H w = some (.lst (rf ws))
  ne : fl ≠ w
  no : wol [fl] H0 w = none
  ft : Tg (Nts K) (wol [fl, w] H) (fs ++ gs)
  wt : Tg (WtR K) (wol [fl, w] H) ws
theorem RgS.new {K : PySem.W.Frag} {H0 H H' : Hp} {fl w : Addr} {fs gs : List (Addr × List Nat)} {ws : List (Addr × (List Nat × Nat × List Nat))} (h : RgS K H0 fl w fs H gs ws) (s : Same H H') : RgS K H0 fl w fs H' gs ws :=
  ⟨h.sm.trans (wol_mono s), s _ _ h.li, s _ _ h.wa, h.ne, h.no, h.ft.mono mo_nts (wol_mono s), h.wt.mono mo_wtr (wol_mono s)⟩
theorem RgS.tup {K : PySem.W.Frag} {H0 H : Hp} {fl w : Addr} {fs gs : List (Addr × List Nat)} {ws : List (Addr × (List Nat × Nat × List Nat))} (h : RgS K H0 fl w fs H gs ws) {a : Addr} {xs : List V} (hx : SqT K H a xs) : SqT K (wol [fl, w] H) a xs := by
  refine sqt_wol (fun d hd ys r => ?_) hx
  rcases List.mem_cons.mp hd with rfl | hd
  · rcases r with r | ⟨o, r⟩ <;> · rw [h.li] at r; cases r
  · rw [List.mem_singleton.mp hd] at r
    rcases r with r | ⟨o, r⟩ <;> · rw [h.wa] at r; cases r
theorem RgS.putF {K : PySem.W.Frag} {H0 H : Hp} {fl w : Addr} {fs gs : List (Addr × List Nat)} {ws : List (Addr × (List Nat × Nat × List Nat))} (h : RgS K H0 fl w fs H gs ws) {a : Addr} {g : List Nat} (hx : Nts K H a g) : RgS K H0 fl w fs (upd H fl (.lst (rf (fs ++ gs) ++ [V.ref a]))) (gs ++ [(a, g)]) ws := by
  have e : wol [fl, w] (upd H fl (.lst (rf (fs ++ gs) ++ [V.ref a]))) = wol [fl, w] H := wol_upd (by simp)
  refine ⟨by rw [e]; exact h.sm, by rw [upd_same, ← List.append_assoc, rf_snoc], by rw [upd_ne h.ne.symm]; exact h.wa, h.ne, h.no, ?_, by rw [e]; exact h.wt⟩
  rw [e, ← List.append_assoc]
  intro p hp
  rcases List.mem_append.mp hp with m | m
  · exact h.ft p m
  · rw [List.mem_singleton.mp m]
    exact h.tup hx
theorem RgS.putW {K : PySem.W.Frag} {H0 H : Hp} {fl w : Addr} {fs gs : List (Addr × List Nat)} {ws : List (Addr × (List Nat × Nat × List Nat))} (h : RgS K H0 fl w fs H gs ws) {a : Addr} {st : List Nat × Nat × List Nat} (hx : WtR K (wol [fl, w] H) a st) : RgS K H0 fl w fs (upd H w (.lst (rf ws ++ [V.ref a]))) gs (ws ++ [(a, st)]) := by
  have e : wol [fl, w] (upd H w (.lst (rf ws ++ [V.ref a]))) = wol [fl, w] H := wol_upd (by simp)
  refine ⟨by rw [e]; exact h.sm, by rw [upd_ne h.ne]; exact h.li, by rw [upd_same, rf_snoc], h.ne, h.no, by rw [e]; exact h.ft, ?_⟩
  rw [e]
  intro p hp
  rcases List.mem_append.mp hp with m | m
  · exact h.wt p m
  · rw [List.mem_singleton.mp m]
    exact hx
theorem RgS.popW {K : PySem.W.Frag} {H0 H : Hp} {fl w : Addr} {fs gs : List (Addr × List Nat)} {ws : List (Addr × (List Nat × Nat × List Nat))} {x : Addr × (List Nat × Nat × List Nat)} (h : RgS K H0 fl w fs H gs (ws ++ [x])) : RgS K H0 fl w fs (upd H w (.lst (rf ws))) gs ws ∧ WtR K (wol [fl, w] (upd H w (.lst (rf ws)))) x.1 x.2 := by
  have e : wol [fl, w] (upd H w (.lst (rf ws))) = wol [fl, w] H := wol_upd (by simp)
  refine ⟨⟨by rw [e]; exact h.sm, by rw [upd_ne h.ne]; exact h.li, upd_same, h.ne, h.no, by rw [e]; exact h.ft, ?_⟩, ?_⟩
  · rw [e]
    exact fun p hp => h.wt p (List.mem_append_left _ hp)
  · rw [e]
    exact h.wt x (List.mem_append_right _ (List.mem_singleton.mpr rfl))
theorem RgS.end {K : PySem.W.Frag} {H0 H : Hp} {fl w : Addr} {fs gs : List (Addr × List Nat)} {ws : List (Addr × (List Nat × Nat × List Nat))} (h : RgS K H0 fl w fs H gs ws) : Same (wol [fl] H0) (wol [fl] H) ∧ Tg (Nts K) (wol [fl] H) (fs ++ gs) := by
  have e : Same (wol [fl, w] H) (wol [fl] H) := fun b o r => by
    obtain ⟨r1, r2⟩ := wol_some r
    rw [wol_out fun m => r2 (by rw [List.mem_singleton.mp m]; simp)]
    exact r1
  exact ⟨h.sm.trans e, h.ft.mono mo_nts e⟩
/-- within m the way goes on by an entry that is still ahead -/
def XA (E : List (Nat × Nat)) (l y : Nat) (st : List Nat × Nat × List Nat) (es : List (Nat × Nat)) (m : Nat) : Prop := (∀ t ∈ st.1, m.testBit t = true) ∧ ∃ e ∈ es, l < e.1 ∧ e.2 ∉ st.2.2 ++ [st.2.1] ∧ m.testBit e.1 = true ∧ (e.2 = y ∨ Good E l m (st.2.2 ++ [st.2.1]) e.2 y)
theorem drop_at {α : Type} {L : List α} {j : Nat} {x : α} (h : L[j]? = some x) : L.drop j = x :: L.drop (j + 1) := by
  obtain ⟨h1, h2⟩ := List.getElem?_eq_some_iff.mp h
  rw [← h2]
  exact List.drop_eq_getElem_cons h1
theorem wsum_len (E : List (Nat × Nat)) (l : Nat) : ∀ ws : List (List Nat × Nat × List Nat), ws.length ≤ wsum E l ws
  | [] => Nat.le_refl _
  | st :: ws => by
    have := wsum_len E l ws
    have h : wsum E l (st :: ws) = 2 ^ al E l st.2.2 + wsum E l ws := rfl
    have : 1 ≤ 2 ^ al E l st.2.2 := Nat.two_pow_pos _
    rw [h, List.length_cons]
    omega
theorem OkSt.off {E : List (Nat × Nat)} {n l y t : Nat} {st : List Nat × Nat × List Nat} (h : OkSt E n l y st) (hlt : l < t) (hw : Way E E.length st.2.1 t y) : t ∉ st.1 := fun m => by
  have hyc : y ∉ st.2.2 ++ [st.2.1] := fun m => (h.cb y m).2 rfl
  obtain ⟨a, b⟩ := h.en t m (by omega)
  rcases hw.2.2 with ⟨q1, q2⟩ | ⟨q1, q2⟩
  · exact hyc (by rw [← q2]; exact b)
  · exact hyc (by rw [← q1]; exact a)
section
variable {P : Program} {w : World} {K : PySem.W.Frag} {mg : Str → Option Value} {base : Heap} {mt : Nat}
def sp_rings_from (K : PySem.W.Frag) : Sp := fun vs H Q _ => ∃ (p D : Addr) (l : Nat) (fl : Addr) (n : Nat) (E : List (Nat × Nat)) (ls : List Addr) (Pf : Nat → List (Addr × (Nat × Nat))) (fs : List (Addr × List Nat)), vs = [.ref p, .ref D, .int (l : Int), .ref fl] ∧ Web K (wol [fl] H) p (n, E) ∧ WebOk n E ∧
  PRows (wol [fl] H) D ls Pf ∧ ls.length = n ∧ NRow E E.length Pf ∧ (∀ x, (Pf x).length ≤ 80) ∧ H fl = some (.lst (rf fs)) ∧ Tg (Nts K) (wol [fl] H) fs ∧ l < E.length ∧ (en E l).1 ≠ (en E l).2 ∧ fs.length + 2 ^ (E.length - 1 - l) ≤ 1000 ∧
  ∀ H' gs, Same (wol [fl] H) (wol [fl] H') → H' fl = some (.lst (rf (fs ++ gs))) → Tg (Nts K) (wol [fl] H') (fs ++ gs) → (∀ g ∈ sn gs, RingOk E l g) → (∀ m, EvenM E m → m.testBit l = true → (∀ i, i < l → m.testBit i = false) → ∃ g ∈ sn gs, ∀ t ∈ g, m.testBit t = true) → gs.length ≤ 2 ^ (E.length - 1 - l) → Q .non H'
theorem ok_rings_from {f : Addr} {fd : FuncData} (F : Fun K "rings_from" "rings_from" srings_from f fd) (T : Bi mg mt) (ccan_come : C8.Cal P w K mg base 1 "can_come" (sp_can_come K) []) : FnOk P w K mg base CX0 2 f fd ["web", "near", "least", "found"] (sp_rings_from K) := by
  refine okC F scrings_from (fun vs H Q E h => ?_) (fun cdv A outer s H vs Q E hr hcd h => ?_)
  · obtain ⟨p, D, l, fl, n, E, ls, Pf, fs, rfl, _⟩ := h
    rfl
  · obtain ⟨p, D, l, fl, n, E, ls, Pf, fs, rfl, hweb, hW, hR, hls, hN, hPl, hfl, hft, hlE, hne, hcap, k⟩ := h
    have hn := hW.nb
    have hu := hu_of hr
    have hweb0 := hweb
    obtain ⟨ta, hp, es, rfl, ht, hg⟩ := hweb
    have hel : l < es.length := by rw [← sn_len]; exact hlE
    obtain ⟨e, he⟩ : ∃ e, es[l]? = some e := ⟨_, List.getElem?_eq_getElem hel⟩
    have hen := en_sn he
    obtain ⟨b1, b2, b3⟩ := hW.en hlE
    rw [hen] at b1 b2 b3 hne
    have hge := hg e (mem_at he)
    refine ⟨_, (pss_cons (ps_asg (pe_ix ix_tup (pe_ix ix_tup (pv 0) pe_int (fun _ _ => rfl)) (pv 2) (fun _ _ => rfl)) (pg_tup (n := 2) rfl (pgs_cons (pg_name (i := 4) scrings_from.nd rfl (Or.inl rfl)) (pgs_cons (pg_name (i := 5) scrings_from.nd rfl (Or.inl rfl)) pgs_nil))))
      (pss_cons (ps_set (i := 6) scrings_from.nd rfl (Or.inl rfl) (pe_lst (pa_cons (pe_tup (pa_cons (pe_tup (pa_cons (pv 2) pa_nil)) (pa_cons (pv 5) (pa_cons (pe_tup (pa_cons (pv 5) pa_nil)) pa_nil)))) pa_nil)))
      (pss_one (ps_while PassesOwn.never (pt_truthK K (pv 6) (by intro _; rfl))
        (pss_cons (ps_asg (pe_bm0 PySem.F.plainAttrs_list PySem.F.slot_list_pop PySem.F.type_list_pop mt_pop (pv 6)) (pg_tup (n := 3) rfl (pgs_cons (pg_name (i := 7) scrings_from.nd rfl (Or.inl rfl)) (pgs_cons (pg_name (i := 8) scrings_from.nd rfl (Or.inl rfl)) (pgs_cons (pg_name (i := 9) scrings_from.nd rfl (Or.inl rfl)) pgs_nil)))))
        (pss_one (ps_for PassesOwn.never rfl (pi_list (pe_ix ix_list (pv 1) (pv 8) (fun _ _ => rfl))) (pg_tup (n := 2) rfl (pgs_cons (pg_name (i := 10) scrings_from.nd rfl (Or.inl rfl)) (pgs_cons (pg_name (i := 11) scrings_from.nd rfl (Or.inl rfl)) pgs_nil)))
          (pss_cons (ps_if (PW.pt (pw_or (pt_cmpR op_leN (pv 10) (pv 2) (nomark _)) (pw_or1 (pt_cmpR (op_inN K) (pv 11) (pv 9) (by with_unfolding_all rfl)))))
            (pss_one ps_continue)
            pss_nil)
          (pss_one (ps_if (pt_cmpR op_eqN (pv 11) (pv 4) (nomark _))
            (pss_cons (ps_expr (pe_bm PySem.F.plainAttrs_list PySem.F.slot_list_append PySem.F.type_list_append mt_append (pv 3) (pa_cons (pe_tupleOf (by rfl) T.tuple (pe_callB cr_sortedTI (by rfl) T.sorted (by decide +kernel) (pa_cons (pe_op op_catN (pv 7) (pe_tup (pa_cons (pv 10) pa_nil))) pa_nil))) pa_nil)))
            (pss_one (ps_if (pt_cmpR op_gtN (pe_callB call_len_seq (by rfl) T.len (by decide +kernel) (pa_cons (pv 3) pa_nil)) (pe_glob (v := .int 1000) (by rfl) T.maxl ⟨_, rfl⟩) (nomark _))
              (pss_one ps_never)
              pss_nil)))
            (pss_one (ps_if (pt_val (C8.pe_c ccan_come hr (by decide) (by rfl) (pa_cons (pv 1) (pa_cons (pv 11) (pa_cons (pv 4) (pa_cons (pv 9) (pa_cons (pv 2) pa_nil)))))))
              (pss_one (ps_expr (pe_bm PySem.F.plainAttrs_list PySem.F.slot_list_append PySem.F.type_list_append mt_append (pv 6) (pa_cons (pe_tup (pa_cons (pe_op op_catN (pv 7) (pe_tup (pa_cons (pv 10) pa_nil))) (pa_cons (pv 11) (pa_cons (pe_op op_catN (pv 9) (pe_tup (pa_cons (pv 11) pa_nil))) pa_nil)))) pa_nil))))
              pss_nil)))))))))))), ?_⟩
    refine ⟨.ref p, rfl, p, _, 1, .ref ta, rfl, rfl, wol_le.seqT hp, atI_nat (j := 1) rfl, .int (l : Int), rfl, ta, rf es, (l : Int), .ref e.1, rfl, rfl, wol_le.seqT ht, atI_nat (rf_at he), ?_⟩
    refine ⟨e.1, _, rfl, wol_le.seqT hge, rfl, _, _, rfl, _, _, rfl, rfl, ?_⟩
    refine ⟨_, rfl, by show 1 ≤ sizeLine; decide, fun u1 hu1 => ?_⟩
    have sa := same_new (o := .tup [.int (l : Int)]) hu1
    have ea := upd_same (H := H) (a := u1) (o := .tup [.int (l : Int)])
    generalize upd H u1 (.tup [.int (l : Int)]) = Ha at sa ea ⊢
    refine ⟨_, rfl, _, rfl, by show 1 ≤ sizeLine; decide, fun u2 hu2 => ?_⟩
    have sb := same_new (o := .tup [.int (e.2.2 : Int)]) hu2
    have eb := upd_same (H := Ha) (a := u2) (o := .tup [.int (e.2.2 : Int)])
    generalize upd Ha u2 (.tup [.int (e.2.2 : Int)]) = Hb at sb eb ⊢
    refine ⟨by show 3 ≤ sizeLine; decide, fun u3 hu3 => ?_⟩
    have sc := same_new (o := .tup [.ref u1, .int (e.2.2 : Int), .ref u2]) hu3
    have ec := upd_same (H := Hb) (a := u3) (o := .tup [.ref u1, .int (e.2.2 : Int), .ref u2])
    generalize upd Hb u3 (.tup [.ref u1, .int (e.2.2 : Int), .ref u2]) = Hc at sc ec ⊢
    refine ⟨by show 1 ≤ sizeLine; decide, fun w hw => ?_⟩
    have s0 : Same H Hc := (sa.trans sb).trans sc
    have hnw : H w = none := s0.free hw
    have hflw : fl ≠ w := ne_of_none (s0 _ _ hfl) hw
    have hlc : RgS K H fl w fs (upd Hc w (.lst [.ref u3])) [] [(u3, ([l], e.2.2, []))] := by
      have ew : wol [fl, w] (upd Hc w (.lst [.ref u3])) = wol [fl, w] Hc := wol_upd (by simp)
      have sm : Same (wol [fl] H) (wol [fl, w] Hc) := by
        have e2 : wol [fl, w] Hc = wol [w] (wol [fl] Hc) := by
          funext b
          unfold wol
          by_cases q1 : b = fl <;> by_cases q2 : b = w <;> simp [q1, q2]
        rw [e2]
        exact le_wol (wol_mono s0) fun d hd => by rw [List.mem_singleton.mp hd]; exact wol_none hnw
      have ow : ∀ a xs, SqT K Hc a xs → SqT K (wol [fl, w] Hc) a xs := fun a xs hx => sqt_wol (fun d hd ys r => by
        rcases List.mem_cons.mp hd with rfl | hd
        · rcases r with r | ⟨o, r⟩ <;> · rw [s0 _ _ hfl] at r; cases r
        · rw [List.mem_singleton.mp hd] at r
          rcases r with r | ⟨o, r⟩ <;> · rw [hw] at r; cases r) hx
      refine ⟨by rw [ew]; exact sm, by rw [upd_ne hflw, List.append_nil]; exact s0 _ _ hfl, upd_same, hflw, wol_none hnw, by rw [ew, List.append_nil]; exact hft.mono mo_nts sm, ?_⟩
      rw [ew]
      intro x hx
      rw [List.mem_singleton.mp hx]
      exact ⟨u1, u2, ow _ _ (SqT.of ec), ow _ _ ((sb.trans sc).seqT (SqT.of ea)), ow _ _ (sc.seqT (SqT.of eb))⟩
    generalize upd Hc w (.lst [.ref u3]) = H1 at hlc ⊢
    clear ea eb ec sa sb sc hw hu1 hu2 hu3 s0
    have hst : OkSt (sn es) n l e.2.1 ([l], e.2.2, []) := by
      have := OkSt.start (E := sn es) (n := n) hlE (by rw [hen]; exact hne) (by rw [hen]; exact b2)
      rw [hen] at this
      exact this
    have hw1 : wsum (sn es) l [([l], e.2.2, [])] ≤ 2 ^ ((sn es).length - 1 - l) := by
      show 2 ^ al (sn es) l [] + 0 ≤ _
      exact Nat.pow_le_pow_right (by omega) (al_start (sn es) hlE)
    refine while_m (fun m σ H' => ∃ v7 v8 v9 v10 v11 gs ws, σ = [some (.ref p), some (.ref D), some (.int (l : Int)), some (.ref fl), some (.int (e.2.1 : Int)), some (.int (e.2.2 : Int)), some (.ref w), v7, v8, v9, v10, v11] ∧ RgS K H fl w fs H' gs ws ∧ (∀ g ∈ sn gs, RingOk (sn es) l g) ∧ (∀ st ∈ sn ws, OkSt (sn es) n l e.2.1 st) ∧ Cmp (sn es) l e.2.1 (sn gs) (sn ws) (fun _ => False) ∧ gs.length + m ≤ 2 ^ ((sn es).length - 1 - l) ∧ m = wsum (sn es) l (sn ws))
      (wsum (sn es) l [([l], e.2.2, [])]) ⟨none, none, none, none, none, [], _, rfl, hlc, fun g hg => by simp [sn] at hg, fun st hst' => by rw [List.mem_singleton.mp hst']; exact hst, fun m hm hb hlo => .inr (.inl ⟨_, List.mem_singleton.mpr rfl, fun t ht => by rw [List.mem_singleton.mp ht]; exact hb, ?_⟩), by show 0 + _ ≤ _; omega, rfl⟩ ?_
    · have := good_start hm hlE hb hlo
      rw [hen] at this
      exact this
    · rintro m σ H2 ⟨v7, v8, v9, v10, v11, gs, ws, rfl, R2, hgo, hso, hcm, hcnt, hm⟩
      refine ⟨.ref w, rfl, !(rf ws).isEmpty, .inl ⟨_, SqL.of R2.wa, rfl⟩, ?_⟩
      rcases List.eq_nil_or_concat ws with rfl | ⟨ws', x, rfl⟩
      · refine iteF ?_
        obtain ⟨z1, z2⟩ := R2.end
        refine k H2 gs z1 R2.li z2 hgo (fun m' h1 h2 h3 => ?_) (by omega)
        rcases hcm m' h1 h2 h3 with q | ⟨st, hst', _⟩ | q
        · exact q
        · simp [sn] at hst'
        · exact q.elim
      · rw [List.concat_eq_append] at *
        have hne' : (!(rf (ws' ++ [x])).isEmpty) = true := by
          rw [rf_snoc]
          cases rf ws' <;> rfl
        rw [hne']
        refine iteT ?_
        obtain ⟨a, row, sp, C⟩ := x
        obtain ⟨R3, ra, ca, hx1, hx2, hx3⟩ := R2.popW
        have hx1 : SqT K (wol [fl, w] (upd H2 w (.lst (rf ws')))) a [.ref ra, .int (sp : Int), .ref ca] := hx1
        have hx2 : Nts K (wol [fl, w] (upd H2 w (.lst (rf ws')))) ra row := hx2
        have hx3 : Nts K (wol [fl, w] (upd H2 w (.lst (rf ws')))) ca (C ++ [sp]) := hx3
        have hox : OkSt (sn es) n l e.2.1 (row, sp, C) := hso _ (by rw [sn_snoc]; exact List.mem_append_right _ (List.mem_singleton.mpr rfl))
        have hso' : ∀ st ∈ sn ws', OkSt (sn es) n l e.2.1 st := fun st h => hso st (by rw [sn_snoc]; exact List.mem_append_left _ h)
        obtain ⟨hspn, hspy⟩ := hox.cb sp (List.mem_append_right _ (List.mem_singleton.mpr rfl))
        have hspC : sp ∉ C := fun m => (List.nodup_append.mp hox.cn).2.2 _ m _ (List.mem_singleton.mpr rfl) rfl
        refine ⟨fun σ' H' => ∃ m', m' < m ∧ ∃ v7 v8 v9 v10 v11 gs ws, σ' = [some (.ref p), some (.ref D), some (.int (l : Int)), some (.ref fl), some (.int (e.2.1 : Int)), some (.int (e.2.2 : Int)), some (.ref w), v7, v8, v9, v10, v11] ∧ RgS K H fl w fs H' gs ws ∧ (∀ g ∈ sn gs, RingOk (sn es) l g) ∧ (∀ st ∈ sn ws, OkSt (sn es) n l e.2.1 st) ∧ Cmp (sn es) l e.2.1 (sn gs) (sn ws) (fun _ => False) ∧ gs.length + m' ≤ 2 ^ ((sn es).length - 1 - l) ∧ m' = wsum (sn es) l (sn ws), fun σ' H' h => h, ?_⟩
        refine ⟨.ref w, rfl, .inl ⟨rfl, _, SqL.of R2.wa⟩, w, _, .ref a, rfl, rfl, R2.wa, by rw [rf_snoc]; exact get_last _ _, ?_⟩
        have hdl : (rf (ws' ++ [(a, (row, sp, C))])).dropLast = rf ws' := by
          rw [rf_snoc]
          exact List.dropLast_concat
        rw [hdl]
        have hcm3 : Cmp (sn es) l e.2.1 (sn gs) (sn ws') (XA (sn es) l e.2.1 (row, sp, C) ((sn (Pf sp)).drop 0)) := fun m' h1 h2 h3 => by
          rcases hcm m' h1 h2 h3 with q | ⟨st, hst', q1, q2⟩ | q
          · exact .inl q
          · rw [sn_snoc] at hst'
            rcases List.mem_append.mp hst' with r | r
            · exact .inr (.inl ⟨st, r, q1, q2⟩)
            · rw [List.mem_singleton.mp r] at q1 q2
              obtain ⟨t, o, g1, g2, g3, g4, g5⟩ := good_step q2 hspy hspC
              exact .inr (.inr ⟨q1, (t, o), (hN.mem sp t o).mpr g2, g1, g4, g3, g5⟩)
          · exact q.elim
        have hv := vld_le hox hN
        have hm2 : m = wsum (sn es) l (sn ws') + 2 ^ al (sn es) l C := by
          rw [hm, sn_snoc, wsum_snoc]
        generalize upd H2 w (.lst (rf ws')) = H3 at R3 hx1 hx2 hx3 ⊢
        clear R2 hcm hso hm
        have hpw : (sn (Pf sp)).countP (vld l (C ++ [sp])) * 2 ^ al (sn es) l (C ++ [sp]) < 2 ^ al (sn es) l C := by
          have q1 : (sn (Pf sp)).countP (vld l (C ++ [sp])) < 2 ^ (sn (Pf sp)).countP (vld l (C ++ [sp])) := Nat.lt_two_pow_self
          have q2 : 2 ^ (al (sn es) l (C ++ [sp]) + (sn (Pf sp)).countP (vld l (C ++ [sp]))) ≤ 2 ^ al (sn es) l C := Nat.pow_le_pow_right (by omega) hv
          rw [Nat.pow_add, Nat.mul_comm] at q2
          exact Nat.lt_of_lt_of_le (Nat.mul_lt_mul_of_pos_right q1 (Nat.two_pow_pos _)) q2
        have hN1 : 1 ≤ 2 ^ al (sn es) l (C ++ [sp]) := Nat.two_pow_pos _
        obtain ⟨N2, hN2⟩ : ∃ N2, N2 = 2 ^ al (sn es) l (C ++ [sp]) := ⟨_, rfl⟩
        rw [← hN2] at hN1 hpw
        obtain ⟨B2, hB2⟩ : ∃ B2, B2 = wsum (sn es) l (sn ws') + (sn (Pf sp)).countP (vld l (C ++ [sp])) * N2 := ⟨_, rfl⟩
        obtain ⟨B, hB⟩ : ∃ B, B = gs.length + B2 := ⟨_, rfl⟩
        refine ⟨a, _, rfl, wol_le.seqT hx1, rfl, _, _, rfl, _, _, rfl, _, _, rfl, rfl, ?_⟩
        obtain ⟨la, hla, gla, hlr⟩ := hR.ro.get (i := sp) (by omega)
        have hrs : ∀ H' gs ws, RgS K H fl w fs H' gs ws → SqL K H' la (rf (Pf sp)) := fun H' _ _ r => SqL.of (wol_le _ _ (r.sm _ _ hlr))
        refine ⟨.ref D, rfl, .int (sp : Int), rfl, D, _, _, _, rfl, rfl, wol_le.seq (R3.sm.seq (SqL.of hR.ro.li)), atI_nat gla, la, rfl, ⟨_, hrs _ _ _ R3⟩, for_list (xs := rf (Pf sp)) (fun j σ H' => Same (wol [fl, w] H3) (wol [fl, w] H') ∧ ∃ v10 v11 gs ws, σ = [some (.ref p), some (.ref D), some (.int (l : Int)), some (.ref fl), some (.int (e.2.1 : Int)), some (.int (e.2.2 : Int)), some (.ref w), some (.ref ra), some (.int (sp : Int)), some (.ref ca), v10, v11] ∧ RgS K H fl w fs H' gs ws ∧ (∀ g ∈ sn gs, RingOk (sn es) l g) ∧ (∀ st ∈ sn ws, OkSt (sn es) n l e.2.1 st) ∧ Cmp (sn es) l e.2.1 (sn gs) (sn ws) (XA (sn es) l e.2.1 (row, sp, C) ((sn (Pf sp)).drop j)) ∧ gs.length + wsum (sn es) l (sn ws) + ((sn (Pf sp)).drop j).countP (vld l (C ++ [sp])) * N2 ≤ B ∧ wsum (sn es) l (sn ws) + ((sn (Pf sp)).drop j).countP (vld l (C ++ [sp])) * N2 ≤ B2)
          ⟨Same.refl _, v10, v11, gs, ws', rfl, R3, hgo, hso', hcm3, by rw [List.drop_zero]; omega, by rw [List.drop_zero]; omega⟩ (fun j σ H' _ ⟨_, _, _, _, _, _, s, _⟩ => hrs H' _ _ s) ?_ ?_⟩
        · clear hcm3 hso' hgo R3
          rintro j u σ H4 hj ⟨s4, v10, v11, gs, ws, rfl, R4, hgo, hso, hcm, hc1, hc2⟩
          obtain ⟨d, hd, rfl⟩ := rf_get hj
          have hdj : (sn (Pf sp))[j]? = some d.2 := sn_get hd
          have hem : (d.2.1, d.2.2) ∈ sn (Pf sp) := mem_at hdj
          have hway := (hN.mem sp d.2.1 d.2.2).mp hem
          have hPe : PrT (wol [fl] H) d.1 d.2 := hR.tg sp d (mem_at hd)
          have hdr : (sn (Pf sp)).drop j = d.2 :: (sn (Pf sp)).drop (j + 1) := drop_at hdj
          rw [hdr, List.countP_cons] at hc1 hc2
          rw [hdr] at hcm
          refine ⟨d.1, _, rfl, SqT.of (wol_le _ _ (R4.sm _ _ hPe)), rfl, _, _, rfl, _, _, rfl, rfl, ?_⟩
          have hC4 : Nts K (wol [fl, w] H4) ca (C ++ [sp]) := s4.seqT hx3
          have hR4 : Nts K (wol [fl, w] H4) ra row := s4.seqT hx2
          have hrl : row.length ≤ 40 := by
            have := nat_nodup (sn es).length row hox.nd fun t ht => (hox.bd t ht).2
            have := hW.eb
            omega
          have hCl : (C ++ [sp]).length ≤ 20 := by
            have := nat_nodup n (C ++ [sp]) hox.cn fun t ht => (hox.cb t ht).1
            omega
          have skip : vld l (C ++ [sp]) d.2 = false → (fun H' => Same (wol [fl, w] H3) (wol [fl, w] H') ∧ ∃ v10 v11 gs ws, [some (.ref p), some (.ref D), some (.int (l : Int)), some (.ref fl), some (.int (e.2.1 : Int)), some (.int (e.2.2 : Int)), some (.ref w), some (.ref ra), some (.int (sp : Int)), some (.ref ca), some (V.int (d.2.1 : Int)), some (V.int (d.2.2 : Int))] = [some (.ref p), some (.ref D), some (.int (l : Int)), some (.ref fl), some (.int (e.2.1 : Int)), some (.int (e.2.2 : Int)), some (.ref w), some (.ref ra), some (.int (sp : Int)), some (.ref ca), v10, v11] ∧ RgS K H fl w fs H' gs ws ∧ (∀ g ∈ sn gs, RingOk (sn es) l g) ∧ (∀ st ∈ sn ws, OkSt (sn es) n l e.2.1 st) ∧ Cmp (sn es) l e.2.1 (sn gs) (sn ws) (XA (sn es) l e.2.1 (row, sp, C) ((sn (Pf sp)).drop (j + 1))) ∧ gs.length + wsum (sn es) l (sn ws) + ((sn (Pf sp)).drop (j + 1)).countP (vld l (C ++ [sp])) * N2 ≤ B ∧ wsum (sn es) l (sn ws) + ((sn (Pf sp)).drop (j + 1)).countP (vld l (C ++ [sp])) * N2 ≤ B2) H4 := fun hv => ⟨s4, _, _, gs, ws, rfl, R4, hgo, hso, fun m' h1 h2 h3 => by
            rcases hcm m' h1 h2 h3 with q | q | ⟨q1, e', q2, q3, q4, q5, q6⟩
            · exact .inl q
            · exact .inr (.inl q)
            · rcases List.mem_cons.mp q2 with rfl | q2
              · have : vld l (C ++ [sp]) d.2 = true := decide_eq_true ⟨q3, q4⟩
                rw [hv] at this
                cases this
              · exact .inr (.inr ⟨q1, e', q2, q3, q4, q5, q6⟩), by rw [hv] at hc1; simpa using hc1, by rw [hv] at hc2; simpa using hc2⟩
          refine ⟨_, rfl, _, rfl, d.2.1, l, rfl, rfl, _, rfl, ?_⟩
          by_cases hlt : l < d.2.1
          · rw [decide_eq_false (by omega)]
            refine iteF ?_
            refine ⟨_, rfl, .ref ca, rfl, ca, C ++ [sp], d.2.2, rfl, rfl, .inr (wol_le.seqT hC4), _, rfl, ?_⟩
            by_cases hcc : d.2.2 ∈ C ++ [sp]
            · rw [decide_eq_true hcc]
              refine iteT ?_
              exact skip (decide_eq_false fun z => z.2 hcc)
            · rw [decide_eq_false hcc]
              refine iteF ?_
              have hvt : vld l (C ++ [sp]) d.2 = true := decide_eq_true ⟨hlt, hcc⟩
              rw [hvt, if_pos rfl, Nat.add_mul, Nat.one_mul] at hc1 hc2
              have hgl : fs.length + gs.length + 1 ≤ 1000 := by omega
              refine ⟨_, rfl, _, rfl, d.2.2, e.2.1, rfl, rfl, _, rfl, ?_⟩
              by_cases hoy : d.2.2 = e.2.1
              · rw [decide_eq_true hoy]
                refine iteT ?_
                refine ⟨.ref fl, rfl, .inl ⟨rfl, _, SqL.of R4.li⟩, ?_⟩
                refine ⟨_, rfl, _, rfl, by show 1 ≤ sizeLine; decide, fun u hu' => ?_⟩
                have hway' : Way (sn es) (sn es).length sp d.2.1 e.2.1 := by rw [← hoy]; exact hway
                have htr : d.2.1 ∉ row := hox.off hlt hway'
                have hnd2 : (row ++ [d.2.1]).Nodup := List.nodup_append.mpr ⟨hox.nd, List.pairwise_singleton _ _, fun x hx z hz => fun q => htr (by rw [← List.mem_singleton.mp hz, ← q]; exact hx)⟩
                have su := same_new (o := .tup [.int (d.2.1 : Int)]) hu'
                refine ⟨ra, u, nv row, _, rfl, rfl, su.seqT (wol_le.seqT hR4), SqT.of upd_same, by rw [nv_len, sizeLine_eq]; show row.length + 1 ≤ _; omega, fun c H5 s5 hc => ?_⟩
                rw [← nv_snoc] at hc
                refine ⟨c, iv (row ++ [d.2.1]), rfl, hc, fun ns' q hperm hpw hq => .inl ⟨q, _, rfl, SqL.of upd_same, fun r hr' => ?_⟩⟩
                obtain ⟨ys, rfl, ha, hy⟩ := asc_of hpw hperm hnd2
                have hro := (hox.ring hlt hway' ha hy).2 hnd2
                have s6 := ((su.trans s5).trans (same_new (o := .lst ((iv ys).map V.int)) hq)).trans (same_new (o := .tup ((iv ys).map V.int)) hr')
                have e6 : Nts K _ r ys := SqT.of (upd_same (H := upd H5 q (.lst ((iv ys).map V.int))) (a := r) (o := .tup ((iv ys).map V.int)))
                generalize upd (upd H5 q (.lst ((iv ys).map V.int))) r (.tup ((iv ys).map V.int)) = H6 at s6 e6 ⊢
                have R6 := R4.new s6
                refine ⟨fl, _, _, rfl, rfl, R6.li, small1001 (by rw [rf_len, List.length_append]; omega), ?_⟩
                have R7 := R6.putF e6
                have s7 : Same (wol [fl, w] H3) (wol [fl, w] (upd H6 fl (.lst (rf (fs ++ gs) ++ [V.ref r])))) := by
                  rw [wol_upd (by simp)]
                  exact s4.trans (wol_mono s6)
                generalize upd H6 fl (.lst (rf (fs ++ gs) ++ [V.ref r])) = H7 at R7 s7 ⊢
                refine ⟨.ref fl, rfl, fl, _, rfl, .inl (SqL.of R7.li), (rf (fs ++ (gs ++ [(r, ys)]))).length, 1000, rfl, rfl, _, rfl, ?_⟩
                rw [decide_eq_false (by rw [rf_len, List.length_append, List.length_append]; show ¬ 1000 < fs.length + (gs.length + 1); omega)]
                refine iteF ?_
                have hgg : ∀ t, t ∈ ys ↔ t ∈ row ++ [d.2.1] := hy
                refine ⟨s7, _, _, gs ++ [(r, ys)], ws, rfl, R7, fun g hg => ?_, hso, fun m' h1 h2 h3 => ?_, by rw [List.length_append]; show gs.length + 1 + _ + _ ≤ B; omega, by omega⟩
                · rw [sn_snoc] at hg
                  rcases List.mem_append.mp hg with z | z
                  · exact hgo g z
                  · rw [List.mem_singleton.mp z]
                    exact hro
                · rw [sn_snoc]
                  rcases hcm m' h1 h2 h3 with ⟨g, q1, q2⟩ | z | ⟨q1, e', q2, q3, q4, q5, q6⟩
                  · exact .inl ⟨g, List.mem_append_left _ q1, q2⟩
                  · exact .inr (.inl z)
                  · rcases List.mem_cons.mp q2 with rfl | q2
                    · refine .inl ⟨ys, List.mem_append_right _ (List.mem_singleton.mpr rfl), fun t ht' => ?_⟩
                      rcases List.mem_append.mp ((hgg t).mp ht') with z | z
                      · exact q1 t z
                      · rw [List.mem_singleton.mp z]
                        exact q5
                    · exact .inr (.inr ⟨q1, e', q2, q3, q4, q5, q6⟩)
              · rw [decide_eq_false hoy]
                refine iteF ?_
                have hon : d.2.2 < n := by
                  obtain ⟨c1, c2, c3⟩ := hW.en hway.1
                  rcases hway.2.2 with ⟨q1, q2⟩ | ⟨q1, q2⟩
                  · rw [← q2]
                    exact c2
                  · rw [← q1]
                    exact c3
                refine ⟨_, rfl, _, rfl, _, rfl, _, rfl, _, rfl, D, ls, Pf, n, sn es, d.2.2, e.2.1, l, ca, C ++ [sp], rfl, (hR.same (R4.sm.trans wol_le)), hls, hW, hN, wol_le.seqT hC4, hon, hoy, fun r H5 s5 hr5 => ?_⟩
                have R5 := R4.new s5
                have s45 := s4.trans (wol_mono s5)
                cases r with
                | false =>
                  refine ⟨_, rfl, ?_⟩
                  refine iteF ?_
                  refine ⟨s45, _, _, gs, ws, rfl, R5, hgo, hso, fun m' h1 h2 h3 => ?_, by omega, by omega⟩
                  rcases hcm m' h1 h2 h3 with q | q | ⟨q1, e', q2, q3, q4, q5, q6⟩
                  · exact .inl q
                  · exact .inr (.inl q)
                  · rcases List.mem_cons.mp q2 with rfl | q2
                    · rcases q6 with q6 | q6
                      · exact absurd q6 hoy
                      · exact (good_apart q6 (hr5 rfl)).elim
                    · exact .inr (.inr ⟨q1, e', q2, q3, q4, q5, q6⟩)
                | true =>
                  refine ⟨_, rfl, ?_⟩
                  refine iteT ?_
                  refine ⟨.ref w, rfl, .inl ⟨rfl, _, SqL.of R5.wa⟩, ?_⟩
                  refine ⟨_, rfl, _, rfl, by show 1 ≤ sizeLine; decide, fun u hu' => ?_⟩
                  have su := same_new (o := .tup [.int (d.2.1 : Int)]) hu'
                  refine ⟨ra, u, nv row, _, rfl, rfl, su.seqT (wol_le.seqT ((wol_mono s5).seqT hR4)), SqT.of upd_same, by rw [nv_len, sizeLine_eq]; show row.length + 1 ≤ _; omega, fun c H6 s6 hc => ?_⟩
                  rw [← nv_snoc] at hc
                  refine ⟨_, rfl, _, rfl, _, rfl, by show 1 ≤ sizeLine; decide, fun u2 hu2 => ?_⟩
                  have sv := same_new (o := .tup [.int (d.2.2 : Int)]) hu2
                  have s56 : Same H5 H6 := su.trans s6
                  refine ⟨ca, u2, nv (C ++ [sp]), _, rfl, rfl, (s56.trans sv).seqT (wol_le.seqT ((wol_mono s5).seqT hC4)), SqT.of upd_same, by rw [nv_len, sizeLine_eq]; show (C ++ [sp]).length + 1 ≤ _; omega, fun c2 H7 s7 hc2' => ?_⟩
                  rw [← nv_snoc] at hc2'
                  refine ⟨by show 3 ≤ sizeLine; decide, fun u3 hu3 => ?_⟩
                  have sn3 := same_new (o := .tup [.ref c, .int (d.2.2 : Int), .ref c2]) hu3
                  have e8 := upd_same (H := H7) (a := u3) (o := .tup [.ref c, .int (d.2.2 : Int), .ref c2])
                  have s58 : Same H5 _ := (s56.trans (sv.trans s7)).trans sn3
                  have hc8 := sn3.seqT (s7.seqT (sv.seqT hc))
                  have hc28 := sn3.seqT hc2'
                  generalize upd H7 u3 (.tup [.ref c, .int (d.2.2 : Int), .ref c2]) = H8 at sn3 e8 s58 hc8 hc28 ⊢
                  have R8 := R5.new s58
                  have hwl := wsum_len (sn es) l (sn ws)
                  rw [sn_len] at hwl
                  refine ⟨w, _, _, rfl, rfl, R8.wa, small1001 (by rw [rf_len]; omega), ?_⟩
                  have R9 := R8.putW (a := u3) (st := (row ++ [d.2.1], d.2.2, C ++ [sp])) ⟨c, c2, R8.tup (SqT.of e8), R8.tup hc8, R8.tup hc28⟩
                  have s9 : Same (wol [fl, w] H3) (wol [fl, w] (upd H8 w (.lst (rf ws ++ [V.ref u3])))) := by
                    rw [wol_upd (by simp)]
                    exact s45.trans (wol_mono s58)
                  have hst9 : OkSt (sn es) n l e.2.1 (row ++ [d.2.1], d.2.2, C ++ [sp]) := hox.step hlt hway hcc hon hoy
                  have hw9 : wsum (sn es) l (sn (ws ++ [(u3, (row ++ [d.2.1], d.2.2, C ++ [sp]))])) = wsum (sn es) l (sn ws) + N2 := by
                    rw [sn_snoc, wsum_snoc, hN2]
                  refine ⟨s9, _, _, gs, ws ++ [(u3, (row ++ [d.2.1], d.2.2, C ++ [sp]))], rfl, R9, hgo, fun st hs => ?_, fun m' h1 h2 h3 => ?_, by rw [hw9]; omega, by rw [hw9]; omega⟩
                  · rw [sn_snoc] at hs
                    rcases List.mem_append.mp hs with z | z
                    · exact hso st z
                    · rw [List.mem_singleton.mp z]
                      exact hst9
                  · rw [sn_snoc]
                    rcases hcm m' h1 h2 h3 with q | ⟨st, q1, q2⟩ | ⟨q1, e', q2, q3, q4, q5, q6⟩
                    · exact .inl q
                    · exact .inr (.inl ⟨st, List.mem_append_left _ q1, q2⟩)
                    · rcases List.mem_cons.mp q2 with rfl | q2
                      · refine .inr (.inl ⟨_, List.mem_append_right _ (List.mem_singleton.mpr rfl), fun t ht' => ?_, ?_⟩)
                        · rcases List.mem_append.mp ht' with z | z
                          · exact q1 t z
                          · rw [List.mem_singleton.mp z]
                            exact q5
                        · rcases q6 with q6 | q6
                          · exact absurd q6 hoy
                          · exact q6
                      · exact .inr (.inr ⟨q1, e', q2, q3, q4, q5, q6⟩)
          · rw [decide_eq_true (by omega)]
            refine iteT ?_
            exact skip (decide_eq_false fun z => hlt z.1)
        · rintro σ H4 ⟨s4, v10, v11, gs', ws, rfl, R4, hgo, hso, hcm, hc1, hc2⟩
          have hdn : (sn (Pf sp)).drop (rf (Pf sp)).length = [] := List.drop_eq_nil_of_le (by rw [rf_len, sn_len]; omega)
          rw [hdn] at hc1 hc2 hcm
          rw [List.countP_nil, Nat.zero_mul] at hc1 hc2
          refine ⟨wsum (sn es) l (sn ws), by omega, _, _, _, _, _, gs', ws, rfl, R4, hgo, hso, fun m' h1 h2 h3 => ?_, by omega, rfl⟩
          rcases hcm m' h1 h2 h3 with q | q | ⟨q1, e', q2, q3⟩
          · exact .inl q
          · exact .inr (.inl q)
          · simp at q2
end
end Fb

/-! FbX4 -/
set_option maxHeartbeats 4000000
/-! rings -/
namespace Fb
open PySem PySem.Spec PyProof.Rows L2
section
variable {P : Program} {w : World} {K : PySem.W.Frag} {mg : Str → Option Value} {base : Heap} {mt : Nat}
/-- what lies in the tuple: ascending picks, none empty, all even, and they span the even masks -/
def sp_rings (K : PySem.W.Frag) : Sp := fun vs H Q _ => ∃ (p n : Nat) (E : List (Nat × Nat)), vs = [.ref p] ∧ Web K H p (n, E) ∧ WebOk n E ∧ E.length ≤ 9 ∧
  ∀ H' r L, Same H H' → Pks K H' r L → L.length ≤ 1000 → (∀ g ∈ L, Asc g ∧ g ≠ [] ∧ (∀ t ∈ g, t < E.length) ∧ EvenM E (mk g)) → (∀ m, EvenM E m → Span (L.map mk) m) → Q (.ref r) H'
theorem ok_rings {f : Addr} {fd : FuncData} (F : Fun K "rings" "rings" srings f fd) (T : Bi mg mt) (cneighbours : C8.Cal P w K mg base 1 "neighbours" (sp_neighbours K) []) (crings_from : C8.Cal P w K mg base 2 "rings_from" (sp_rings_from K) []) : FnOk P w K mg base CX0 3 f fd ["web"] (sp_rings K) := by
  refine okC F scrings (fun vs H Q E h => ?_) (fun cdv A outer s H vs Q E hr hcd h => ?_)
  · obtain ⟨p, n, E, rfl, _⟩ := h
    rfl
  · obtain ⟨p, n, E, rfl, ⟨ta, hp, es, rfl, ht, hg⟩, hW, hE9, k⟩ := h
    have hn := hW.nb
    refine ⟨_, (pss_cons (ps_par (i := 1) (j := 2) (by rfl) scrings.nd rfl rfl (by decide) rfl rfl (pa_cons (C8.pe_c cneighbours hr (by decide) (by rfl) (pa_cons (pv 0) pa_nil)) (pa_cons (pe_lst pa_nil) pa_nil)) (by rfl))
      (pss_cons (ps_for PassesOwn.never rfl (pi_enumT (by rfl) T.enumerate (pa_cons (pe_ix ix_tup (pv 0) pe_int (fun _ _ => rfl)) pa_nil)) (pg_tup (n := 2) rfl (pgs_cons (pg_name (i := 3) scrings.nd rfl (Or.inl rfl)) (pgs_cons (pg_tup (n := 2) rfl (pgs_cons (pg_name (i := 4) scrings.nd rfl (Or.inl rfl)) (pgs_cons (pg_name (i := 5) scrings.nd rfl (Or.inl rfl)) pgs_nil))) pgs_nil)))
        (pss_one (ps_if (pt_cmpR op_eqN (pv 4) (pv 5) (nomark _))
          (pss_one (ps_expr (pe_bm PySem.F.plainAttrs_list PySem.F.slot_list_append PySem.F.type_list_append mt_append (pv 2) (pa_cons (pe_tup (pa_cons (pv 3) pa_nil)) pa_nil))))
          (pss_one (ps_expr (C8.pe_c crings_from hr (by decide) (by rfl) (pa_cons (pv 0) (pa_cons (pv 1) (pa_cons (pv 3) (pa_cons (pv 2) pa_nil))))))))))
      (pss_cons (ps_if (pt_cmpR op_gtN (pe_callB call_len_seq (by rfl) T.len (by decide +kernel) (pa_cons (pv 2) pa_nil)) (pe_glob (v := .int 1000) (by rfl) T.maxl ⟨_, rfl⟩) (nomark _))
        (pss_one ps_never)
        pss_nil)
      (pss_one (ps_ret (pe_tupleOf (by rfl) T.tuple (pe_callB cr_sortedLT (by rfl) T.sorted (by decide +kernel) (pa_cons (pv 2) pa_nil)))))))), ?_⟩
    have hweb : Web K H p (n, sn es) := ⟨ta, hp, es, rfl, ht, hg⟩
    refine ⟨_, rfl, p, n, sn es, rfl, hweb, hW, fun H1 D ls Pf s1 hR hls hN hPl => ?_⟩
    refine ⟨by show 0 ≤ sizeLine; decide, fun fl hfl => ⟨_, _, rfl, ?_⟩⟩
    refine ⟨.ref p, rfl, p, _, 1, .ref ta, rfl, rfl, (s1.trans (same_new hfl)).seqT hp, atI_nat (j := 1) rfl, ta, rf es, rfl, (s1.trans (same_new hfl)).seqT ht,
      for_it walk_enumT (fun i σ H' => ∃ v3 v4 v5 gs, σ = [some (.ref p), some (.ref D), some (.ref fl), v3, v4, v5] ∧ Same H1 (wol [fl] H') ∧ H' fl = some (.lst (rf gs)) ∧ Tg (Nts K) (wol [fl] H') gs ∧ (∀ g ∈ sn gs, Asc g ∧ g ≠ [] ∧ (∀ t ∈ g, t < (sn es).length) ∧ EvenM (sn es) (mk g)) ∧ (∀ l, l < i → ∀ m, EvenM (sn es) m → m.testBit l = true → (∀ j, j < l → m.testBit j = false) → ∃ g ∈ sn gs, l ∈ g ∧ ∀ t ∈ g, m.testBit t = true) ∧ gs.length + 2 ^ ((sn es).length - i) ≤ 2 ^ (sn es).length)
      ⟨none, none, none, [], rfl, le_wol (same_new hfl) (fun d hd => by rw [List.mem_singleton.mp hd]; exact hfl), upd_same, fun _ h => by simp at h, fun _ h => by simp [sn] at h, fun _ h => by omega, by simp⟩ (fun i σ H' _ ⟨_, _, _, _, _, s, _⟩ => (s1.trans (s.trans wol_le)).seqT ht) ?_ ?_⟩
    · rintro i y σ H3 H4 hi ⟨v3, v4, v5, gs, rfl, s3, h3, ht3, hgs, hcm, hcnt⟩ ⟨T, x1, x2, rfl, hTn, rfl, hx1, hx2⟩
      cases hx1
      obtain ⟨e, he, rfl⟩ := rf_get hx2
      have hil : i < es.length := (List.getElem?_eq_some_iff.mp he).1
      have hil' : i < (sn es).length := by rw [sn_len]; exact hil
      have hen := en_sn he
      have hge := hg e (mem_at he)
      have sT := same_new (o := .tup [.int (i : Int), .ref e.1]) hTn
      have eT := upd_same (H := H3) (a := T) (o := .tup [.int (i : Int), .ref e.1])
      have s4 := s3.trans (wol_mono sT)
      have h4 := sT _ _ h3
      have ht4 := ht3.mono mo_nts (wol_mono (ds := [fl]) sT)
      generalize upd H3 T (.tup [.int (i : Int), .ref e.1]) = H4 at sT eT s4 h4 ht4 ⊢
      refine ⟨T, _, rfl, SqT.of eT, rfl, _, _, rfl, _, _, rfl, ⟨e.1, _, rfl, (s1.trans (s4.trans wol_le)).seqT hge, rfl, _, _, rfl, _, _, rfl, rfl, rfl, ?_⟩⟩
      have hpw : 2 ^ ((sn es).length - i) = 2 ^ ((sn es).length - 1 - i) + 2 ^ ((sn es).length - (i + 1)) := by
        have q : (sn es).length - i = ((sn es).length - (i + 1)) + 1 := by omega
        have q2 : (sn es).length - 1 - i = (sn es).length - (i + 1) := by omega
        rw [q, q2, Nat.pow_succ]
        omega
      refine ⟨_, rfl, _, rfl, e.2.1, e.2.2, rfl, rfl, _, rfl, ?_⟩
      have hgl : gs.length ≤ 1000 := by
        have q1 : 2 ^ (sn es).length ≤ 2 ^ 9 := Nat.pow_le_pow_right (by omega) hE9
        exact Nat.le_trans (Nat.le_trans (Nat.le_of_add_right_le hcnt) q1) (by decide)
      by_cases hlp : e.2.1 = e.2.2
      · rw [decide_eq_true hlp]
        refine iteT ?_
        refine ⟨.ref fl, rfl, .inl ⟨rfl, _, SqL.of h4⟩, _, rfl, by show 1 ≤ sizeLine; decide, fun u hu' => ?_⟩
        have su := same_new (o := .tup [.int (i : Int)]) hu'
        have eu : Nts K (upd H4 u (.tup [.int (i : Int)])) u [i] := SqT.of upd_same
        have s5 := s4.trans (wol_mono (ds := [fl]) su)
        have h5 := su _ _ h4
        have ht5 := ht4.mono mo_nts (wol_mono (ds := [fl]) su)
        generalize upd H4 u (.tup [.int (i : Int)]) = H5 at eu s5 h5 ht5 ⊢
        refine ⟨fl, _, _, rfl, rfl, h5, small1001 (by rw [rf_len]; omega), ?_⟩
        have ew : wol [fl] (upd H5 fl (.lst (rf gs ++ [V.ref u]))) = wol [fl] H5 := wol_upd (by simp)
        have eu' : Nts K (wol [fl] H5) u [i] := sqt_wol (fun d hd ys r => by
          rw [List.mem_singleton.mp hd] at r
          rcases r with r | ⟨o, r⟩ <;> · rw [h5] at r; cases r) eu
        have hi1 : Asc [i] := List.pairwise_singleton _ _
        refine ⟨_, _, _, gs ++ [(u, [i])], rfl, by rw [ew]; exact s5, by rw [upd_same, rf_snoc], fun x hx => ?_, fun g hg' => ?_, fun l hl m h1 h2 h3' => ?_, ?_⟩
        · rw [ew]
          rcases List.mem_append.mp hx with z | z
          · exact ht5 x z
          · rw [List.mem_singleton.mp z]
            exact eu'
        · rw [sn_snoc] at hg'
          rcases List.mem_append.mp hg' with z | z
          · exact hgs g z
          · rw [List.mem_singleton.mp z]
            refine ⟨hi1, by simp, fun t ht' => by rw [List.mem_singleton.mp ht']; exact hil', fun j hj => ?_, fun f => ?_⟩
            · rw [mk_bit hi1]
              exact decide_eq_false fun m => by
                have := List.mem_singleton.mp m
                omega
            · rw [dmk_mk hi1 fun j hj => by rw [List.mem_singleton.mp hj]; exact hil']
              show (df (sn es) f i ^^ false) = false
              unfold df
              rw [hen, hlp, Bool.xor_self]
              rfl
        · rw [sn_snoc]
          by_cases q : l = i
          · subst q
            exact ⟨[l], List.mem_append_right _ (List.mem_singleton.mpr rfl), List.mem_singleton.mpr rfl, fun t ht' => by rw [List.mem_singleton.mp ht']; exact h2⟩
          · obtain ⟨g, g1, g2⟩ := hcm l (by omega) m h1 h2 h3'
            exact ⟨g, List.mem_append_left _ g1, g2⟩
        · rw [List.length_append]
          have := Nat.two_pow_pos ((sn es).length - 1 - i)
          rw [hpw] at hcnt
          show gs.length + 1 + _ ≤ _
          omega
      · rw [decide_eq_false hlp]
        refine iteF ?_
        refine ⟨_, rfl, _, rfl, _, rfl, _, rfl, p, D, i, fl, n, sn es, ls, Pf, gs, rfl, mo_web _ _ _ _ (s1.trans s4) hweb, hW, hR.same s4, hls, hN, fun x => by have := hPl x; omega, h4, ht4, hil', by rw [hen]; exact hlp, ?_, fun H5 gs' s5 h5 ht5 hro hcp hlen => ?_⟩
        · have : 2 ^ (sn es).length ≤ 2 ^ 9 := Nat.pow_le_pow_right (by omega) hE9
          have q9 : (2:Nat) ^ 9 = 512 := by decide
          rw [hpw] at hcnt
          have := Nat.two_pow_pos ((sn es).length - (i + 1))
          omega
        · refine ⟨_, _, _, gs ++ gs', rfl, s4.trans s5, h5, ht5, fun g hg' => ?_, fun l hl m h1 h2 h3' => ?_, ?_⟩
          · unfold sn at hg'
            rw [List.map_append] at hg'
            rcases List.mem_append.mp hg' with z | z
            · exact hgs g z
            · have r := hro g z
              exact ⟨r.asc, fun q => by have := r.mem; rw [q] at this; simp at this, fun t ht' => (r.bd t ht').2, r.ev⟩
          · have e5 : sn (gs ++ gs') = sn gs ++ sn gs' := List.map_append
            rw [e5]
            by_cases q : l = i
            · subst q
              obtain ⟨g, g1, g2⟩ := hcp m h1 h2 h3'
              exact ⟨g, List.mem_append_right _ g1, (hro g g1).mem, g2⟩
            · obtain ⟨g, g1, g2⟩ := hcm l (by omega) m h1 h2 h3'
              exact ⟨g, List.mem_append_left _ g1, g2⟩
          · rw [List.length_append]
            rw [hpw] at hcnt
            omega
    · rintro σ H3 ⟨v3, v4, v5, gs, rfl, s3, h3, ht3, hgs, hcm, hcnt⟩
      have hgl : gs.length ≤ 1000 := by
        have q1 : 2 ^ (sn es).length ≤ 2 ^ 9 := Nat.pow_le_pow_right (by omega) hE9
        exact Nat.le_trans (Nat.le_trans (Nat.le_of_add_right_le hcnt) q1) (by decide)
      rw [rf_len, ← sn_len] at hcm
      refine ⟨.ref fl, rfl, fl, _, rfl, .inl (SqL.of h3), (rf gs).length, 1000, rfl, rfl, _, rfl, ?_⟩
      rw [decide_eq_false (by rw [rf_len]; omega)]
      refine iteF ?_
      refine ⟨.ref fl, rfl, fl, rf gs, rfl, SqL.of h3, fun x hx => ?_, fun ys q hperm hq => .inl ⟨q, _, rfl, SqL.of upd_same, fun t ht' => ?_⟩⟩
      · obtain ⟨y, hy, rfl⟩ := List.mem_map.mp hx
        obtain ⟨_, y2, _⟩ := hgs y.2 (List.mem_map.mpr ⟨y, hy, rfl⟩)
        exact ⟨y.1, iv y.2, rfl, wol_le.seqT (ht3 y hy), fun z => y2 (by cases hq : y.2 with | nil => rfl | cons a b => rw [hq] at z; simp [iv] at z)⟩
      · obtain ⟨qs, hqs, rfl⟩ := perm_lift (fun x : Addr × List Nat => V.ref x.1) hperm rfl
        have s4 := (same_new (o := .lst (rf qs)) hq).trans (same_new (o := .tup (rf qs)) ht')
        have hmm : ∀ g, g ∈ sn qs ↔ g ∈ sn gs := fun g => (hqs.map (·.2)).mem_iff
        refine k _ t (sn qs) (s1.trans ((s3.trans wol_le).trans s4)) ⟨qs, rfl, SqT.of upd_same, fun x hx => s4.seqT (wol_le.seqT (ht3 x (hqs.mem_iff.mp hx)))⟩ (by rw [sn_len, hqs.length_eq]; exact hgl) (fun g hg => hgs g ((hmm g).mp hg)) ?_
        refine even_span (fun g hg => ?_) fun m l h1 h2 h3' => ?_
        · obtain ⟨a1, _, _, a4⟩ := hgs g ((hmm g).mp hg)
          exact ⟨a1, a4⟩
        · have hl : l < (sn es).length := by
            refine Nat.lt_of_not_le fun z => ?_
            have := h1.1 l z
            rw [h2] at this
            cases this
          obtain ⟨g, g1, g2⟩ := hcm l hl m h1 h2 h3'
          exact ⟨g, (hmm g).mpr g1, g2⟩
end
end Fb

/-! FbM4 -/
set_option maxHeartbeats 4000000
/-! Bonds: least cuts, pieces, lots; that none is missed. -/
namespace Fb
/-- the cut of a function -/
def cm (E : List (Nat × Nat)) (f : Nat → Bool) : Nat := mk ((List.range E.length).filter fun i => df E f i)
theorem cm_bit (E : List (Nat × Nat)) (f : Nat → Bool) (i : Nat) : (cm E f).testBit i = (decide (i < E.length) && df E f i) := by
  unfold cm
  rw [mk_bit (List.Pairwise.filter _ List.pairwise_lt_range)]
  by_cases h : i < E.length
  · cases q : df E f i with
    | true => exact (decide_eq_true (List.mem_filter.mpr ⟨List.mem_range.mpr h, q⟩)).trans (by simp [h])
    | false => exact (decide_eq_false fun m => by rw [(List.mem_filter.mp m).2] at q; cases q).trans (by simp)
  · rw [decide_eq_false h, Bool.false_and]
    exact decide_eq_false fun m => h (List.mem_range.mp (List.mem_filter.mp m).1)
theorem cm_cut (E : List (Nat × Nat)) (f : Nat → Bool) : CutM E (cm E f) := by
  refine ⟨fun i hi => ?_, f, fun i hi => ?_⟩
  · rw [cm_bit, decide_eq_false (by omega), Bool.false_and]
  · rw [cm_bit, decide_eq_true hi, Bool.true_and]
/-- a cut other than none within which there is no other -/
structure MinCut (E : List (Nat × Nat)) (c : Nat) : Prop where
  cut : CutM E c
  ne : c ≠ 0
  min : ∀ m, CutM E m → m ≠ 0 → (∀ i, m.testBit i = true → c.testBit i = true) → m = c
theorem sub_le {m c : Nat} (h : ∀ i, m.testBit i = true → c.testBit i = true) : m ≤ c := by
  have e : c &&& m = m := Nat.eq_of_testBit_eq fun i => by
    rw [Nat.testBit_and]
    cases q : m.testBit i with
    | true => rw [h i q]; rfl
    | false => exact Bool.and_false _
  rw [← e]
  exact Nat.and_le_left
theorem min_within {E : List (Nat × Nat)} : ∀ m, CutM E m → m ≠ 0 → ∃ c, MinCut E c ∧ ∀ i, c.testBit i = true → m.testBit i = true := by
  intro m
  induction m using Nat.strongRecOn with
  | _ m ih =>
    intro hc h0
    by_cases hx : ∃ m', CutM E m' ∧ m' ≠ 0 ∧ (∀ i, m'.testBit i = true → m.testBit i = true) ∧ m' ≠ m
    · obtain ⟨m', h1, h2, h3, h4⟩ := hx
      have := sub_le h3
      obtain ⟨c, c1, c2⟩ := ih m' (by omega) h1 h2
      exact ⟨c, c1, fun i hi => h3 i (c2 i hi)⟩
    · refine ⟨m, ⟨hc, h0, fun m' h1 h2 h3 => ?_⟩, fun i hi => hi⟩
      exact Classical.byContradiction fun h4 => hx ⟨m', h1, h2, h3, h4⟩
theorem cut_span {E : List (Nat × Nat)} {L : List (List Nat)} (h : ∀ c, MinCut E c → ∃ g ∈ L, mk g = c) : ∀ m, CutM E m → Span (L.map mk) m := by
  intro m
  induction m using Nat.strongRecOn with
  | _ m ih =>
    intro hc
    by_cases h0 : m = 0
    · rw [h0]
      exact span_zero _
    · obtain ⟨c, c1, c2⟩ := min_within m hc h0
      obtain ⟨g, g1, g2⟩ := h c c1
      have hlt : m ^^^ c < m := (xor_lt_iff c1.ne).mpr (c2 _ (Nat.testBit_log2 c1.ne))
      have a := ih _ hlt (cut_xor hc c1.cut)
      have b := span_xor a (span_mem (List.mem_map.mpr ⟨g, g1, g2⟩))
      rwa [xor_cancel] at b
/-- a piece: closed along ties, and hanging together -/
structure Pie (E : List (Nat × Nat)) (n : Nat) (ps : List Nat) : Prop where
  nd : ps.Nodup
  lt : ∀ x ∈ ps, x < n
  cl : ∀ t, t < E.length → ((en E t).1 ∈ ps ↔ (en E t).2 ∈ ps)
  con : ∀ f : Nat → Bool, (∀ t, t < E.length → df E f t = false) → ∀ x ∈ ps, ∀ y ∈ ps, f x = f y
/-- by ties within it, a side hangs together -/
def Hang (E : List (Nat × Nat)) (f : Nat → Bool) : Prop := ∀ h : Nat → Bool, (∀ t, t < E.length → f (en E t).1 = true → f (en E t).2 = true → df E h t = false) → ∀ x y, f x = true → f y = true → h x = h y
theorem cm_pos {E : List (Nat × Nat)} {n : Nat} {ps : List Nat} (hP : Pie E n ps) {g : Nat → Bool} {x y : Nat} (hx : x ∈ ps) (hy : y ∈ ps) (h : g x ≠ g y) : cm E g ≠ 0 := fun z => h (hP.con g (fun t ht => by
  have := cm_bit E g t
  rw [z, Nat.zero_testBit, decide_eq_true ht, Bool.true_and] at this
  exact this.symm) x hx y hy)
theorem side_hang {E : List (Nat × Nat)} {n : Nat} {ps : List Nat} {c : Nat} (hP : Pie E n ps) (hc : MinCut E c) {f : Nat → Bool} (hf : ∀ x, f x = true → x ∈ ps) (hb : ∀ i, i < E.length → c.testBit i = df E f i) : Hang E f := by
  have key : ∀ h : Nat → Bool, (∀ t, t < E.length → f (en E t).1 = true → f (en E t).2 = true → df E h t = false) → ∀ x y, f x = true → f y = true → h x = true → h y = false → False := by
    intro h hh x y hx hy h1 h2
    have sub : ∀ g : Nat → Bool, (∀ t, t < E.length → df E g t = true → df E f t = true) → ∀ i, (cm E g).testBit i = true → c.testBit i = true := fun g hg i hi => by
      rw [cm_bit, Bool.and_eq_true] at hi
      have hl := of_decide_eq_true hi.1
      rw [hb i hl]
      exact hg i hl hi.2
    have e1 : cm E (fun z => f z && h z) = c := by
      refine hc.min _ (cm_cut _ _) (cm_pos hP (hf x hx) (hf y hy) ?_) (sub _ fun t ht hd => ?_)
      · show (f x && h x) ≠ (f y && h y)
        rw [hx, hy, h1, h2]
        decide
      · have hd' : ((f (en E t).1 && h (en E t).1) ^^ (f (en E t).2 && h (en E t).2)) = true := hd
        show (f (en E t).1 ^^ f (en E t).2) = true
        cases a : f (en E t).1 <;> cases b : f (en E t).2 <;> rw [a, b] at hd'
        · cases hd'
        · rfl
        · rfl
        · have q : (h (en E t).1 ^^ h (en E t).2) = false := hh t ht a b
          rw [Bool.true_and, Bool.true_and, q] at hd'
          cases hd'
    have e2 : cm E (fun z => f z && !h z) = c := by
      refine hc.min _ (cm_cut _ _) (cm_pos hP (hf x hx) (hf y hy) ?_) (sub _ fun t ht hd => ?_)
      · show (f x && !h x) ≠ (f y && !h y)
        rw [hx, hy, h1, h2]
        decide
      · have hd' : ((f (en E t).1 && !h (en E t).1) ^^ (f (en E t).2 && !h (en E t).2)) = true := hd
        show (f (en E t).1 ^^ f (en E t).2) = true
        cases a : f (en E t).1 <;> cases b : f (en E t).2 <;> rw [a, b] at hd'
        · cases hd'
        · rfl
        · rfl
        · have q : (h (en E t).1 ^^ h (en E t).2) = false := hh t ht a b
          generalize h (en E t).1 = u at *
          generalize h (en E t).2 = v at *
          cases u <;> cases v <;> first | (cases hd'; done) | (cases q; done)
    have b0 : c.testBit c.log2 = true := Nat.testBit_log2 hc.ne
    have b1 := b0
    have b2 := b0
    rw [← e1, cm_bit, Bool.and_eq_true] at b1
    rw [← e2, cm_bit, Bool.and_eq_true] at b2
    rw [e1] at b1
    rw [e2] at b2
    have d1 : ((f (en E c.log2).1 && h (en E c.log2).1) ^^ (f (en E c.log2).2 && h (en E c.log2).2)) = true := b1.2
    have d2 : ((f (en E c.log2).1 && !h (en E c.log2).1) ^^ (f (en E c.log2).2 && !h (en E c.log2).2)) = true := b2.2
    have d3 : (f (en E c.log2).1 ^^ f (en E c.log2).2) = true := by
      have := hb c.log2 (of_decide_eq_true b1.1)
      rw [b0] at this
      exact this.symm
    generalize f (en E c.log2).1 = p at *
    generalize f (en E c.log2).2 = q at *
    generalize h (en E c.log2).1 = u at *
    generalize h (en E c.log2).2 = v at *
    cases p <;> cases q <;> cases u <;> cases v <;> first | (cases d1; done) | (cases d2; done) | (cases d3; done)
  intro h hh x y hx hy
  cases p : h x <;> cases q : h y
  · rfl
  · exact (key h hh y x hy hx q p).elim
  · exact (key h hh x y hx hy p q).elim
  · rfl
/-- the other side within a piece -/
def oth (ps : List Nat) (f : Nat → Bool) (x : Nat) : Bool := decide (x ∈ ps) && !f x
theorem oth_df {E : List (Nat × Nat)} {n : Nat} {ps : List Nat} (hP : Pie E n ps) {f : Nat → Bool} (hf : ∀ x, f x = true → x ∈ ps) {t : Nat} (ht : t < E.length) : df E (oth ps f) t = df E f t := by
  have h := hP.cl t ht
  have h1 := hf (en E t).1
  have h2 := hf (en E t).2
  show ((decide ((en E t).1 ∈ ps) && !f (en E t).1) ^^ (decide ((en E t).2 ∈ ps) && !f (en E t).2)) = (f (en E t).1 ^^ f (en E t).2)
  generalize (en E t).1 = a at *
  generalize (en E t).2 = b at *
  by_cases ha : a ∈ ps
  · have hb := h.mp ha
    rw [decide_eq_true ha, decide_eq_true hb]
    cases f a <;> cases f b <;> rfl
  · have hb : b ∉ ps := fun m => ha (h.mpr m)
    have fa : f a = false := by
      cases q : f a with
      | false => rfl
      | true => exact absurd (h1 q) ha
    have fb : f b = false := by
      cases q : f b with
      | false => rfl
      | true => exact absurd (h2 q) hb
    rw [decide_eq_false ha, decide_eq_false hb, fa, fb]
    rfl
/-- what the sides of a least cut are: within the piece, hanging together, and both some -/
structure Side (E : List (Nat × Nat)) (ps : List Nat) (f : Nat → Bool) : Prop where
  sub : ∀ x, f x = true → x ∈ ps
  h1 : Hang E f
  h2 : Hang E (oth ps f)
  ex : ∃ x ∈ ps, f x = false
/-- the spots of a piece off some, in lots -/
structure Lots (E : List (Nat × Nat)) (ps : List Nat) (fi : Nat → Bool) (L : List (Nat → Bool)) : Prop where
  sub : ∀ f ∈ L, ∀ x, f x = true → x ∈ ps ∧ fi x = false
  ne : ∀ f ∈ L, ∃ x, f x = true
  cov : ∀ x ∈ ps, fi x = false → ∃ f ∈ L, f x = true
  dis : L.Pairwise fun f g => ∀ x, f x = true → g x = false
  clo : ∀ f ∈ L, ∀ x t y, f x = true → Way E E.length x t y → fi y = false → f y = true
/-- the other side lies in one lot -/
theorem Lots.one {E : List (Nat × Nat)} {ps : List Nat} {fi : Nat → Bool} {L : List (Nat → Bool)} (h : Lots E ps fi L) {f : Nat → Bool} (hf : Side E ps f) (hi : ∀ x, fi x = true → f x = true) {g : Nat → Bool} (hg : g ∈ L) {x y : Nat} (hx : x ∈ ps) (hy : y ∈ ps) (fx : f x = false) (fy : f y = false) : g x = g y := by
  have o : ∀ {z}, oth ps f z = true → z ∈ ps ∧ f z = false := fun {z} q => by
    have q' : (decide (z ∈ ps) && !f z) = true := q
    rw [Bool.and_eq_true] at q'
    refine ⟨of_decide_eq_true q'.1, ?_⟩
    cases e : f z with
    | false => rfl
    | true => rw [e] at q'; cases q'.2
  have no : ∀ {z}, f z = false → fi z = false := fun {z} q => by
    cases e : fi z with
    | false => rfl
    | true => rw [hi z e] at q; cases q
  refine hf.h2 g (fun t ht a b => ?_) x y ?_ ?_
  · obtain ⟨a1, a2⟩ := o a
    obtain ⟨b1, b2⟩ := o b
    by_cases e : (en E t).1 = (en E t).2
    · unfold df
      rw [e]
      exact Bool.xor_self _
    · have u := h.clo g hg (en E t).1 t (en E t).2
      have v := h.clo g hg (en E t).2 t (en E t).1
      have u' : g (en E t).1 = true → g (en E t).2 = true := fun q => u q ⟨ht, e, .inl ⟨rfl, rfl⟩⟩ (no b2)
      have v' : g (en E t).2 = true → g (en E t).1 = true := fun q => v q ⟨ht, fun z => e z.symm, .inr ⟨rfl, rfl⟩⟩ (no a2)
      unfold df
      cases p : g (en E t).1 <;> cases q : g (en E t).2
      · rfl
      · rw [v' q] at p
        cases p
      · rw [u' p] at q
        cases q
      · rfl
  · show (decide (x ∈ ps) && !f x) = true
    rw [decide_eq_true hx, fx]
    rfl
  · show (decide (y ∈ ps) && !f y) = true
    rw [decide_eq_true hy, fy]
    rfl
/-- what settled_sides tells: the inner spots, the lot that is left -/
structure Stl (E : List (Nat × Nat)) (ps : List Nat) (fi fo fj fl : Nat → Bool) : Prop where
  sub : ∀ x, fl x = true → x ∈ ps
  ne : ∃ x, fl x = true
  eq : ∀ x, fj x = oth ps fl x
  le : ∀ x, fi x = true → fj x = true
  out : ∀ x, fo x = true → fl x = true
  ok : ∀ f, Side E ps f → (∀ x, fi x = true → f x = true) → (∀ x, fo x = true → f x = false) → ∀ x, fj x = true → f x = true
theorem oth_oth {ps : List Nat} {f : Nat → Bool} (h : ∀ x, f x = true → x ∈ ps) (x : Nat) : oth ps (oth ps f) x = f x := by
  show (decide (x ∈ ps) && !(decide (x ∈ ps) && !f x)) = f x
  by_cases hx : x ∈ ps
  · rw [decide_eq_true hx]
    cases f x <;> rfl
  · rw [decide_eq_false hx]
    cases q : f x with
    | false => rfl
    | true => exact absurd (h x q) hx
theorem oth_true {ps : List Nat} {f : Nat → Bool} {x : Nat} : oth ps f x = true ↔ x ∈ ps ∧ f x = false := by
  show (decide (x ∈ ps) && !f x) = true ↔ _
  rw [Bool.and_eq_true, decide_eq_true_iff]
  cases f x <;> simp
theorem stl_none {E : List (Nat × Nat)} {ps : List Nat} {fi : Nat → Bool} {L : List (Nat → Bool)} (h : Lots E ps fi L) (hz : L ≠ []) (hi : ∀ x, fi x = true → x ∈ ps) : Stl E ps fi (fun _ => false) fi (oth ps fi) := by
  refine ⟨fun x hx => (oth_true.mp hx).1, ?_, fun x => (oth_oth hi x).symm, fun x hx => hx, fun x hx => (by cases hx), fun f _ h1 _ => h1⟩
  cases L with
  | nil => exact absurd rfl hz
  | cons g L =>
    obtain ⟨x, hx⟩ := h.ne g (List.mem_cons_self ..)
    exact ⟨x, oth_true.mpr (h.sub g (List.mem_cons_self ..) x hx)⟩
theorem stl_one {E : List (Nat × Nat)} {ps : List Nat} {fi fo : Nat → Bool} {L : List (Nat → Bool)} (h : Lots E ps fi L) (hi : ∀ x, fi x = true → x ∈ ps) (ho : ∀ x, fo x = true → x ∈ ps ∧ fi x = false) (hex : ∃ x, fo x = true) {p : (Nat → Bool) → Bool} (hp : ∀ g, p g = true ↔ ∃ x, fo x = true ∧ g x = true) {g : Nat → Bool} (hg : L.filter p = [g]) :
    Stl E ps fi fo (oth ps g) g := by
  have hgL : g ∈ L := (List.mem_filter.mp (by rw [hg]; exact List.mem_singleton.mpr rfl : g ∈ L.filter p)).1
  refine ⟨fun x hx => (h.sub g hgL x hx).1, h.ne g hgL, fun _ => rfl, fun x hx => ?_, fun x hx => ?_, fun f hf h1 h2 x hx => ?_⟩
  · refine oth_true.mpr ⟨hi x hx, ?_⟩
    cases q : g x with
    | false => rfl
    | true => rw [(h.sub g hgL x q).2] at hx; cases hx
  · obtain ⟨g', a, b⟩ := h.cov x (ho x hx).1 (ho x hx).2
    have : g' ∈ L.filter p := List.mem_filter.mpr ⟨a, (hp g').mpr ⟨x, hx, b⟩⟩
    rw [hg] at this
    rw [← List.mem_singleton.mp this]
    exact b
  · obtain ⟨a, b⟩ := oth_true.mp hx
    obtain ⟨o, c, d⟩ := (hp g).mp (List.mem_filter.mp (by rw [hg]; exact List.mem_singleton.mpr rfl : g ∈ L.filter p)).2
    cases q : f x with
    | true => rfl
    | false =>
      have := h.one hf h1 hgL a (ho o c).1 q (h2 o c)
      rw [b, d] at this
      cases this
theorem stl_nil {E : List (Nat × Nat)} {ps : List Nat} {fi : Nat → Bool} (h : Lots E ps fi []) {f : Nat → Bool} (hf : Side E ps f) (hi : ∀ x, fi x = true → f x = true) : False := by
  obtain ⟨x, hx, fx⟩ := hf.ex
  obtain ⟨g, hg, _⟩ := h.cov x hx (by
    cases q : fi x with
    | false => rfl
    | true => rw [hi x q] at fx; cases fx)
  simp at hg
theorem stl_many {E : List (Nat × Nat)} {ps : List Nat} {fi fo : Nat → Bool} {L : List (Nat → Bool)} (h : Lots E ps fi L) (ho : ∀ x, fo x = true → x ∈ ps ∧ fi x = false) (hex : ∃ x, fo x = true) {p : (Nat → Bool) → Bool} (hp : ∀ g, p g = true ↔ ∃ x, fo x = true ∧ g x = true) (hl : (L.filter p).length ≠ 1)
    {f : Nat → Bool} (hf : Side E ps f) (hi : ∀ x, fi x = true → f x = true) (hfo : ∀ x, fo x = true → f x = false) : False := by
  have hd : (L.filter p).Pairwise fun f g => ∀ x, f x = true → g x = false := h.dis.sublist List.filter_sublist
  have hm : ∀ g ∈ L.filter p, g ∈ L ∧ ∃ x, fo x = true ∧ g x = true := fun g hg => ⟨(List.mem_filter.mp hg).1, (hp g).mp (List.mem_filter.mp hg).2⟩
  cases e : L.filter p with
  | nil =>
    obtain ⟨x, hx⟩ := hex
    obtain ⟨g, a, b⟩ := h.cov x (ho x hx).1 (ho x hx).2
    have : g ∈ L.filter p := List.mem_filter.mpr ⟨a, (hp g).mpr ⟨x, hx, b⟩⟩
    rw [e] at this
    simp at this
  | cons g1 r =>
    cases r with
    | nil => rw [e] at hl; exact hl rfl
    | cons g2 r =>
      rw [e] at hd hm
      obtain ⟨a1, x1, b1, c1⟩ := hm g1 (List.mem_cons_self ..)
      obtain ⟨a2, x2, b2, c2⟩ := hm g2 (List.mem_cons_of_mem _ (List.mem_cons_self ..))
      have d := (List.pairwise_cons.mp hd).1 g2 (List.mem_cons_self ..)
      have := h.one hf hi a1 (ho x1 b1).1 (ho x2 b2).1 (hfo x1 b1) (hfo x2 b2)
      rw [c1] at this
      rw [d x2 this.symm] at c2
      cases c2
/-- a least cut that is still open -/
def Cov (E : List (Nat × Nat)) (ps : List Nat) (c : Nat) (fi fo : Nat → Bool) : Prop := ∃ f, Side E ps f ∧ (∀ i, i < E.length → c.testBit i = df E f i) ∧ (∀ x, fi x = true → f x = true) ∧ (∀ x, fo x = true → f x = false)
theorem cov_start {E : List (Nat × Nat)} {n : Nat} {ps : List Nat} (hP : Pie E n ps) {c : Nat} (hc : MinCut E c) {t x0 : Nat} (ht : t < E.length) (hb : c.testBit t = true) (hp : (en E t).1 ∈ ps) (h0 : x0 ∈ ps) : Cov E ps c (fun x => decide (x = x0)) fun _ => false := by
  obtain ⟨_, f0, hf0⟩ := hc.cut
  -- the side of x0 within the piece
  have hp2 : (en E t).2 ∈ ps := (hP.cl t ht).mp hp
  have gb : ∀ i, i < E.length → df E (fun x => decide (x ∈ ps) && (f0 x == f0 x0)) i = true → c.testBit i = true := fun i hi hd => by
    rw [hf0 i hi]
    have hd' : ((decide ((en E i).1 ∈ ps) && (f0 (en E i).1 == f0 x0)) ^^ (decide ((en E i).2 ∈ ps) && (f0 (en E i).2 == f0 x0))) = true := hd
    have h := hP.cl i hi
    show (f0 (en E i).1 ^^ f0 (en E i).2) = true
    rw [dec_congr h] at hd'
    generalize decide ((en E i).2 ∈ ps) = d at hd'
    generalize f0 (en E i).1 = a at *
    generalize f0 (en E i).2 = b at *
    generalize f0 x0 = z at *
    cases d <;> cases a <;> cases b <;> cases z <;> first | rfl | (cases hd'; done)
  have htb : df E (fun x => decide (x ∈ ps) && (f0 x == f0 x0)) t = true := by
    have := hf0 t ht
    rw [hb] at this
    have this' : true = (f0 (en E t).1 ^^ f0 (en E t).2) := this
    show ((decide ((en E t).1 ∈ ps) && (f0 (en E t).1 == f0 x0)) ^^ (decide ((en E t).2 ∈ ps) && (f0 (en E t).2 == f0 x0))) = true
    rw [decide_eq_true hp, decide_eq_true hp2]
    generalize f0 (en E t).1 = a at *
    generalize f0 (en E t).2 = b at *
    generalize f0 x0 = z at *
    cases a <;> cases b <;> cases z <;> first | rfl | (cases this'; done)
  have e : cm E (fun x => decide (x ∈ ps) && (f0 x == f0 x0)) = c := by
    refine hc.min _ (cm_cut _ _) (fun z => ?_) fun i hi => ?_
    · have := cm_bit E (fun x => decide (x ∈ ps) && (f0 x == f0 x0)) t
      rw [z, Nat.zero_testBit, decide_eq_true ht, htb] at this
      cases this
    · rw [cm_bit, Bool.and_eq_true] at hi
      exact gb i (of_decide_eq_true hi.1) hi.2
  have sub : ∀ x, (decide (x ∈ ps) && (f0 x == f0 x0)) = true → x ∈ ps := fun x hx => by
    rw [Bool.and_eq_true] at hx
    exact of_decide_eq_true hx.1
  have bits : ∀ i, i < E.length → c.testBit i = df E (fun x => decide (x ∈ ps) && (f0 x == f0 x0)) i := fun i hi => by
    have := cm_bit E (fun x => decide (x ∈ ps) && (f0 x == f0 x0)) i
    rw [e, decide_eq_true hi, Bool.true_and] at this
    exact this
  refine ⟨fun x => decide (x ∈ ps) && (f0 x == f0 x0), ⟨sub, side_hang hP hc sub bits, side_hang hP hc (fun x hx => (oth_true.mp hx).1) fun i hi => ?_, ?_⟩, bits, fun x hx => ?_, fun x hx => by cases hx⟩
  · rw [oth_df hP sub hi]
    exact bits i hi
  · have htb' : ((decide ((en E t).1 ∈ ps) && (f0 (en E t).1 == f0 x0)) ^^ (decide ((en E t).2 ∈ ps) && (f0 (en E t).2 == f0 x0))) = true := htb
    cases q : (decide ((en E t).1 ∈ ps) && (f0 (en E t).1 == f0 x0)) with
    | false => exact ⟨_, hp, q⟩
    | true =>
      rw [q] at htb'
      refine ⟨_, hp2, ?_⟩
      show (decide ((en E t).2 ∈ ps) && (f0 (en E t).2 == f0 x0)) = false
      generalize (decide ((en E t).2 ∈ ps) && (f0 (en E t).2 == f0 x0)) = u at htb'
      cases u <;> first | rfl | cases htb'
  · rw [of_decide_eq_true hx]
    show (decide (x0 ∈ ps) && (f0 x0 == f0 x0)) = true
    rw [decide_eq_true h0]
    simp
/-- the next spot is on one of both sides -/
theorem cov_step {E : List (Nat × Nat)} {ps : List Nat} {c : Nat} {fi fo fj fl : Nat → Bool} (h : Stl E ps fi fo fj fl) (hc : Cov E ps c fi fo) (e : Nat) : Cov E ps c (fun x => if x = e then true else fj x) fo ∨ Cov E ps c fj fun x => if x = e then true else fo x := by
  obtain ⟨f, f1, f2, f3, f4⟩ := hc
  have f5 := h.ok f f1 f3 f4
  cases q : f e with
  | true =>
    refine .inl ⟨f, f1, f2, fun x hx => ?_, f4⟩
    by_cases z : x = e
    · rw [z, q]
    · exact f5 x ((if_neg z).symm.trans hx)
  | false =>
    refine .inr ⟨f, f1, f2, f5, fun x hx => ?_⟩
    by_cases z : x = e
    · rw [z, q]
    · exact f4 x ((if_neg z).symm.trans hx)
/-- no spot is next: the cut is there -/
theorem cov_end {E : List (Nat × Nat)} {ps : List Nat} {c : Nat} {fi fo fj fl : Nat → Bool} (h : Stl E ps fi fo fj fl) (hc : Cov E ps c fi fo) {x0 : Nat} (h0 : fi x0 = true) (hz : ∀ x, fl x = true → fo x = false → ∀ t y, Way E E.length x t y → fj y = false) : ∀ i, i < E.length → c.testBit i = df E fj i := by
  obtain ⟨f, f1, f2, f3, f4⟩ := hc
  have f5 := h.ok f f1 f3 f4
  have go : ∀ {x t y}, Way E E.length x t y → f x = true → f y = true → fj y = true → fj x = true := fun {x t y} hw hx hy hj => by
    cases q : fj x with
    | true => rfl
    | false =>
      have l : fl x = true := by
        have e := h.eq x
        rw [q] at e
        have e' : false = (decide (x ∈ ps) && !fl x) := e
        rw [decide_eq_true (f1.sub x hx)] at e'
        cases u : fl x with
        | true => rfl
        | false => rw [u] at e'; cases e'
      have o : fo x = false := by
        cases u : fo x with
        | false => rfl
        | true => rw [f4 x u] at hx; cases hx
      rw [hz x l o t y hw] at hj
      cases hj
  have eq : ∀ x, f x = fj x := fun x => by
    cases q : f x with
    | false =>
      cases u : fj x with
      | false => rfl
      | true => rw [f5 x u] at q; cases q
    | true =>
      have := f1.h1 fj (fun t ht a b => by
        by_cases e : (en E t).1 = (en E t).2
        · unfold df
          rw [e]
          exact Bool.xor_self _
        · have u : fj (en E t).2 = true → fj (en E t).1 = true := go ⟨ht, e, .inl ⟨rfl, rfl⟩⟩ a b
          have v : fj (en E t).1 = true → fj (en E t).2 = true := go ⟨ht, fun z => e z.symm, .inr ⟨rfl, rfl⟩⟩ b a
          unfold df
          cases p : fj (en E t).1 <;> cases q : fj (en E t).2
          · rfl
          · rw [u q] at p
            cases p
          · rw [v p] at q
            cases q
          · rfl) x x0 q (f3 x0 h0)
      rw [this, h.le x0 h0]
  intro i hi
  rw [f2 i hi]
  unfold df
  rw [eq, eq]
/-- how many spots are on no side yet -/
def opn (ps : List Nat) (fi fo : Nat → Bool) : Nat := ps.countP fun x => !fi x && !fo x
theorem cp_le {p q : Nat → Bool} : ∀ {l : List Nat}, (∀ x ∈ l, p x = true → q x = true) → l.countP p ≤ l.countP q
  | [], _ => Nat.le_refl _
  | x :: l, h => by
    have ih := cp_le (l := l) fun y hy => h y (List.mem_cons_of_mem _ hy)
    have hx := h x (List.mem_cons_self ..)
    rw [List.countP_cons, List.countP_cons]
    by_cases hp : p x = true
    · rw [if_pos hp, if_pos (hx hp)]
      omega
    · rw [if_neg hp]
      omega
theorem cp_lt {p q : Nat → Bool} {e : Nat} : ∀ {l : List Nat}, (∀ x ∈ l, p x = true → q x = true) → e ∈ l → q e = true → p e = false → l.countP p + 1 ≤ l.countP q
  | [], _, he, _, _ => by simp at he
  | x :: l, h, he, hq, hp => by
    have h' : ∀ y ∈ l, p y = true → q y = true := fun y hy => h y (List.mem_cons_of_mem _ hy)
    rw [List.countP_cons, List.countP_cons]
    by_cases hx : x = e
    · have ih := cp_le h'
      rw [hx, hq, hp]
      simp only [Bool.false_eq_true, if_false, if_true]
      omega
    · have hel : e ∈ l := by
        rcases List.mem_cons.mp he with q | q
        · exact absurd q.symm hx
        · exact q
      have ih := cp_lt h' hel hq hp
      have hx2 := h x (List.mem_cons_self ..)
      by_cases hpx : p x = true
      · rw [if_pos hpx, if_pos (hx2 hpx)]
        omega
      · rw [if_neg hpx]
        omega
def wt (ps : List Nat) (fi fo : Nat → Bool) : Nat := 2 ^ (opn ps fi fo + 1) - 1
theorem wt_pos (ps : List Nat) (fi fo : Nat → Bool) : 1 ≤ wt ps fi fo := by
  unfold wt
  have := Nat.two_pow_pos (opn ps fi fo)
  rw [Nat.pow_succ]
  omega
theorem wt_step {ps : List Nat} {fi fo fj : Nat → Bool} {e : Nat} (h : ∀ x, fi x = true → fj x = true) (he : e ∈ ps) (hj : fj e = false) (ho : fo e = false) :
    wt ps (fun x => if x = e then true else fj x) fo + wt ps fj (fun x => if x = e then true else fo x) + 1 ≤ wt ps fi fo := by
  have ife : ∀ {fj : Nat → Bool} {x : Nat}, (!(if x = e then true else fj x)) = true → (!fj x) = true := fun {fj x} q => by
    by_cases z : x = e
    · rw [if_pos z] at q
      cases q
    · rw [if_neg z] at q
      exact q
  have a : opn ps (fun x => if x = e then true else fj x) fo + 1 ≤ opn ps fj fo := cp_lt (e := e) (fun x _ hx => by
    rw [Bool.and_eq_true] at hx ⊢
    exact ⟨ife hx.1, hx.2⟩) he (by rw [hj, ho]; rfl) (by simp)
  have b : opn ps fj (fun x => if x = e then true else fo x) + 1 ≤ opn ps fj fo := cp_lt (e := e) (fun x _ hx => by
    rw [Bool.and_eq_true] at hx ⊢
    exact ⟨hx.1, ife hx.2⟩) he (by rw [hj, ho]; rfl) (by simp)
  have c : opn ps fj fo ≤ opn ps fi fo := cp_le fun x _ hx => by
    rw [Bool.and_eq_true] at hx ⊢
    refine ⟨?_, hx.2⟩
    cases q : fi x with
    | false => rfl
    | true => rw [h x q] at hx; cases hx.1
  unfold wt
  generalize opn ps (fun x => if x = e then true else fj x) fo = k1 at *
  generalize opn ps fj (fun x => if x = e then true else fo x) = k2 at *
  generalize opn ps fj fo = k at *
  generalize opn ps fi fo = k' at *
  have p1 : 2 ^ (k1 + 1) ≤ 2 ^ k' := Nat.pow_le_pow_right (by omega) (by omega)
  have p2 : 2 ^ (k2 + 1) ≤ 2 ^ k' := Nat.pow_le_pow_right (by omega) (by omega)
  have p3 := Nat.two_pow_pos (k1 + 1)
  have p4 := Nat.two_pow_pos (k2 + 1)
  rw [Nat.pow_succ 2 k']
  omega
theorem wt_start {ps : List Nat} {x0 : Nat} (h : x0 ∈ ps) (hl : ps.length ≤ 6) : wt ps (fun x => decide (x = x0)) (fun _ => false) ≤ 63 := by
  have a : opn ps (fun x => decide (x = x0)) (fun _ => false) + 1 ≤ ps.countP fun _ => true := cp_lt (e := x0) (fun x _ _ => rfl) h rfl (by simp)
  rw [List.countP_true] at a
  unfold wt
  have : 2 ^ (opn ps (fun x => decide (x = x0)) (fun _ => false) + 1) ≤ 2 ^ 6 := Nat.pow_le_pow_right (by omega) (by omega)
  have q : (2 : Nat) ^ 6 = 64 := by decide
  omega
/-- what is told as a bond -/
structure BondOk (E : List (Nat × Nat)) (g : List Nat) : Prop where
  asc : Asc g
  ne : g ≠ []
  lt : ∀ t ∈ g, t < E.length
  cut : CutM E (mk g)
theorem Stl.bits {E : List (Nat × Nat)} {n : Nat} {ps : List Nat} {fi fo fj fl : Nat → Bool} (hP : Pie E n ps) (h : Stl E ps fi fo fj fl) {i : Nat} (hi : i < E.length) : ((fj (en E i).1 ^^ fj (en E i).2) && (fl (en E i).1 || fl (en E i).2)) = df E fj i := by
  have c := hP.cl i hi
  have e1 := h.eq (en E i).1
  have e2 := h.eq (en E i).2
  unfold df
  rw [e1, e2]
  show (((decide ((en E i).1 ∈ ps) && !fl (en E i).1) ^^ (decide ((en E i).2 ∈ ps) && !fl (en E i).2)) && (fl (en E i).1 || fl (en E i).2)) = ((decide ((en E i).1 ∈ ps) && !fl (en E i).1) ^^ (decide ((en E i).2 ∈ ps) && !fl (en E i).2))
  have d : decide ((en E i).1 ∈ ps) = decide ((en E i).2 ∈ ps) := by
    by_cases q : (en E i).1 ∈ ps
    · rw [decide_eq_true q, decide_eq_true (c.mp q)]
    · rw [decide_eq_false q, decide_eq_false fun z => q (c.mpr z)]
  rw [d]
  generalize decide ((en E i).2 ∈ ps) = a
  generalize fl (en E i).1 = b
  generalize fl (en E i).2 = c
  cases a <;> cases b <;> cases c <;> rfl
theorem Stl.bond {E : List (Nat × Nat)} {n : Nat} {ps : List Nat} {fi fo fj fl : Nat → Bool} (hP : Pie E n ps) (h : Stl E ps fi fo fj fl) {x0 : Nat} (h0 : fi x0 = true) : BondOk E ((List.range E.length).filter fun i => df E fj i) := by
  refine ⟨List.Pairwise.filter _ List.pairwise_lt_range, fun z => ?_, fun t ht => List.mem_range.mp (List.mem_filter.mp ht).1, cm_cut E fj⟩
  have hx := h.le x0 h0
  have hx1 : x0 ∈ ps := by
    rw [h.eq] at hx
    exact (oth_true.mp hx).1
  obtain ⟨y, hy⟩ := h.ne
  have hy2 : fj y = false := by
    rw [h.eq]
    show (decide (y ∈ ps) && !fl y) = false
    rw [hy]
    exact Bool.and_false _
  have := cm_pos hP (g := fj) hx1 (h.sub y hy) (by rw [hx, hy2]; decide)
  unfold cm at this
  rw [z] at this
  exact this rfl
theorem cov_fin {E : List (Nat × Nat)} {ps : List Nat} {c : Nat} {fi fo fj fl : Nat → Bool} (h : Stl E ps fi fo fj fl) (hm : MinCut E c) (hc : Cov E ps c fi fo) {x0 : Nat} (h0 : fi x0 = true) (hz : ∀ x, fl x = true → fo x = false → ∀ t y, Way E E.length x t y → fj y = false) : mk ((List.range E.length).filter fun i => df E fj i) = c := by
  have b := cov_end h hc h0 hz
  refine Nat.eq_of_testBit_eq fun i => ?_
  have := cm_bit E fj i
  unfold cm at this
  rw [this]
  by_cases hi : i < E.length
  · rw [decide_eq_true hi, Bool.true_and, b i hi]
  · rw [decide_eq_false hi, Bool.false_and, hm.cut.1 i (by omega)]
/-- states of bonds_of_piece -/
structure OkB (ps : List Nat) (x0 : Nat) (st : (Nat → Bool) × (Nat → Bool)) : Prop where
  i : ∀ x, st.1 x = true → x ∈ ps
  o : ∀ x, st.2 x = true → x ∈ ps ∧ st.1 x = false
  z : st.1 x0 = true
theorem OkB.in {E : List (Nat × Nat)} {ps : List Nat} {x0 e : Nat} {fi fo fj fl : Nat → Bool} (h : OkB ps x0 (fi, fo)) (s : Stl E ps fi fo fj fl) (he : fl e = true) (ho : fo e = false) : OkB ps x0 (fun x => if x = e then true else fj x, fo) := by
  refine ⟨fun x hx => ?_, fun x hx => ⟨(h.o x hx).1, ?_⟩, ?_⟩
  · by_cases q : x = e
    · rw [q]
      exact s.sub e he
    · have hx' : fj x = true := (if_neg q).symm.trans hx
      rw [s.eq] at hx'
      exact (oth_true.mp hx').1
  · show (if x = e then true else fj x) = false
    have hx' : fo x = true := hx
    have q : ¬ x = e := fun q => by
      rw [q, ho] at hx'
      cases hx'
    rw [if_neg q, s.eq]
    show (decide (x ∈ ps) && !fl x) = false
    rw [s.out x hx']
    exact Bool.and_false _
  · show (if x0 = e then true else fj x0) = true
    by_cases q : x0 = e
    · rw [if_pos q]
    · rw [if_neg q]
      exact s.le x0 h.z
theorem Stl.off {E : List (Nat × Nat)} {ps : List Nat} {fi fo fj fl : Nat → Bool} (s : Stl E ps fi fo fj fl) {e : Nat} (he : fl e = true) : fj e = false := by
  rw [s.eq]
  show (decide (e ∈ ps) && !fl e) = false
  rw [he]
  exact Bool.and_false _
theorem OkB.out {E : List (Nat × Nat)} {ps : List Nat} {x0 e : Nat} {fi fo fj fl : Nat → Bool} (h : OkB ps x0 (fi, fo)) (s : Stl E ps fi fo fj fl) (he : fl e = true) : OkB ps x0 (fj, fun x => if x = e then true else fo x) := by
  refine ⟨fun x hx => ?_, fun x hx => ?_, s.le x0 h.z⟩
  · have hx' : fj x = true := hx
    rw [s.eq] at hx'
    exact (oth_true.mp hx').1
  · by_cases q : x = e
    · rw [q]
      exact ⟨s.sub e he, s.off he⟩
    · have hx' : fo x = true := (if_neg q).symm.trans hx
      exact ⟨(h.o x hx').1, s.off (s.out x hx')⟩
def wts (ps : List Nat) (ws : List ((Nat → Bool) × (Nat → Bool))) : Nat := (ws.map fun st => wt ps st.1 st.2).sum
theorem wts_snoc (ps : List Nat) (ws : List ((Nat → Bool) × (Nat → Bool))) (st : (Nat → Bool) × (Nat → Bool)) : wts ps (ws ++ [st]) = wts ps ws + wt ps st.1 st.2 := by
  unfold wts
  simp
theorem wts_len (ps : List Nat) : ∀ ws : List ((Nat → Bool) × (Nat → Bool)), ws.length ≤ wts ps ws
  | [] => Nat.le_refl _
  | st :: ws => by
    have := wts_len ps ws
    have h : wts ps (st :: ws) = wt ps st.1 st.2 + wts ps ws := rfl
    have := wt_pos ps st.1 st.2
    rw [h, List.length_cons]
    omega
/-- no least cut of the piece is lost -/
def CmpB (E : List (Nat × Nat)) (ps : List Nat) (gs : List (List Nat)) (ws : List ((Nat → Bool) × (Nat → Bool))) : Prop := ∀ c, MinCut E c → (∃ t, t < E.length ∧ c.testBit t = true ∧ (en E t).1 ∈ ps) → (∃ g ∈ gs, mk g = c) ∨ ∃ st ∈ ws, Cov E ps c st.1 st.2
end Fb

/-! FbY1 -/
set_option maxHeartbeats 4000000
/-! parts_beside -/
namespace Fb
open PySem PySem.Spec PyProof.Rows L2
/-- a dict of the spots of which f tells -/
def DS (H : Hp) (a : Addr) (f : Nat → Bool) : Prop := ∃ kvs F, H a = some (.dK kvs) ∧ ND kvs F ∧ ∀ z, (F z).isSome = f z
theorem mo_ds : Mo DS := fun _ _ _ _ e ⟨kvs, F, h1, h2, h3⟩ => ⟨kvs, F, e _ _ h1, h2, h3⟩
theorem DS.up {H H' : Hp} {a : Addr} {f : Nat → Bool} (h : DS H a f) (e : H' a = H a) : DS H' a f := by
  obtain ⟨kvs, F, h1, h2, h3⟩ := h
  exact ⟨kvs, F, e.trans h1, h2, h3⟩
theorem DS.fn {H : Hp} {a : Addr} {f g : Nat → Bool} (h : DS H a f) (e : ∀ z, f z = g z) : DS H a g := by
  obtain ⟨kvs, F, h1, h2, h3⟩ := h
  exact ⟨kvs, F, h1, h2, fun z => (h3 z).trans (e z)⟩
theorem DS.get {H : Hp} {a : Addr} {f : Nat → Bool} (h : DS H a f) (n : Nat) : ∃ v, DGet H a (.int (n : Int)) v ∧ v.isSome = f n := by
  obtain ⟨kvs, F, h1, h2, h3⟩ := h
  exact ⟨F n, dg h2 (.inl h1) n, h3 n⟩
theorem DS.put {H : Hp} {a : Addr} {f : Nat → Bool} (h : DS H a f) (hb : ∀ z, f z = true → z < 1000) (n : Nat) : ∃ o, DPut H a (.int (n : Int)) (.bl true) (upd H a o) ∧ DS (upd H a o) a (fun z => if z = n then true else f z) := by
  obtain ⟨kvs, F, h1, h2, h3⟩ := h
  have hl : kvs.length ≤ 1000 := h2.len fun z hz => by
    cases q : F z with
    | none => rfl
    | some v =>
      have := hb z (by rw [← h3, q]; rfl)
      omega
  refine ⟨_, dpu h1 (by omega) n _, _, _, upd_same, h2.put n (.bl true), fun z => ?_⟩
  show (if z = n then some (V.bl true) else F z).isSome = if z = n then true else f z
  by_cases q : z = n
  · rw [if_pos q, if_pos q]
    rfl
  · rw [if_neg q, if_neg q]
    exact h3 z
theorem DS.none {H : Hp} {a b : Addr} {f : Nat → Bool} (h : DS H a f) (hb : H b = none) : a ≠ b := by
  obtain ⟨kvs, F, h1, _⟩ := h
  exact ne_of_none h1 hb
theorem DS.wol {H : Hp} {a : Addr} {f : Nat → Bool} (h : DS H a f) {ds : List Addr} (hd : a ∉ ds) : DS (wol ds H) a f := h.up (wol_out hd)
/-- the lists and dicts at work -/
structure PbS (H0 : Hp) (r g l w : Addr) (H : Hp) (Ls : List (Addr × (Nat → Bool))) (gf lf : Nat → Bool) (W : List Nat) : Prop where
  sm : Same H0 H
  nr : H0 r = none
  ng : H0 g = none
  nl : H0 l = none
  nw : H0 w = none
  hr : H r = some (.lst (rf Ls))
  hg : DS H g gf
  hl : DS H l lf
  hw : H w = some (.lst (nv W))
  rw : r ≠ w
  gl : g ≠ l
  tg : Tg DS (wol [r, g, l, w] H) Ls
theorem DS.nel {H : Hp} {a b : Addr} {f : Nat → Bool} {xs : List V} (h : DS H a f) (hb : H b = some (.lst xs)) : a ≠ b := by
  obtain ⟨kvs, F, h1, _⟩ := h
  exact ne_lt h1 hb (fun z => by cases z)
section
variable {H0 H H' : Hp} {r g l w : Addr} {Ls : List (Addr × (Nat → Bool))} {gf lf : Nat → Bool} {W : List Nat}
theorem PbS.new (h : PbS H0 r g l w H Ls gf lf W) (s : Same H H') : PbS H0 r g l w H' Ls gf lf W :=
  ⟨h.sm.trans s, h.nr, h.ng, h.nl, h.nw, s _ _ h.hr, mo_ds _ _ _ _ s h.hg, mo_ds _ _ _ _ s h.hl, s _ _ h.hw, h.rw, h.gl, h.tg.mono mo_ds (wol_mono s)⟩
theorem PbS.setW (h : PbS H0 r g l w H Ls gf lf W) (W' : List Nat) : PbS H0 r g l w (upd H w (.lst (nv W'))) Ls gf lf W' :=
  ⟨same_at h.sm h.nw, h.nr, h.ng, h.nl, h.nw, by rw [upd_ne h.rw]; exact h.hr, h.hg.up (upd_ne (h.hg.nel h.hw)), h.hl.up (upd_ne (h.hl.nel h.hw)), upd_same, h.rw, h.gl, by rw [wol_upd (by simp)]; exact h.tg⟩
theorem PbS.putG (h : PbS H0 r g l w H Ls gf lf W) {o : HO} {gf' : Nat → Bool} (hd : DS (upd H g o) g gf') : PbS H0 r g l w (upd H g o) Ls gf' lf W :=
  ⟨same_at h.sm h.ng, h.nr, h.ng, h.nl, h.nw, by rw [upd_ne (h.hg.nel h.hr).symm]; exact h.hr, hd, h.hl.up (upd_ne h.gl.symm), by rw [upd_ne (h.hg.nel h.hw).symm]; exact h.hw, h.rw, h.gl, by rw [wol_upd (by simp)]; exact h.tg⟩
theorem PbS.putL (h : PbS H0 r g l w H Ls gf lf W) {o : HO} {lf' : Nat → Bool} (hd : DS (upd H l o) l lf') : PbS H0 r g l w (upd H l o) Ls gf lf' W :=
  ⟨same_at h.sm h.nl, h.nr, h.ng, h.nl, h.nw, by rw [upd_ne (h.hl.nel h.hr).symm]; exact h.hr, h.hg.up (upd_ne h.gl), hd, by rw [upd_ne (h.hl.nel h.hw).symm]; exact h.hw, h.rw, h.gl, by rw [wol_upd (by simp)]; exact h.tg⟩
end
/-- lots so far: those done, and the one at work -/
structure LtS (E : List (Nat × Nat)) (ps : List Nat) (fi : Nat → Bool) (L : List (Nat → Bool)) (i : Nat) (gf : Nat → Bool) : Prop where
  sub : ∀ f ∈ L, ∀ x, f x = true → x ∈ ps ∧ fi x = false
  ne : ∀ f ∈ L, ∃ x, f x = true
  cov : ∀ x ∈ ps.take i, fi x = false → ∃ f ∈ L, f x = true
  dis : L.Pairwise fun f g => ∀ x, f x = true → g x = false
  clo : ∀ f ∈ L, ∀ x t y, f x = true → Way E E.length x t y → fi y = false → f y = true
  gon : ∀ x, gf x = true ↔ ∃ f ∈ L, f x = true
structure LtW (E : List (Nat × Nat)) (ps : List Nat) (fi : Nat → Bool) (L : List (Nat → Bool)) (gf lf : Nat → Bool) (W : List Nat) : Prop where
  sub : ∀ x, lf x = true → x ∈ ps ∧ fi x = false
  dis : ∀ f ∈ L, ∀ x, f x = true → lf x = false
  gon : ∀ x, gf x = true ↔ lf x = true ∨ ∃ f ∈ L, f x = true
  wps : ∀ x ∈ W, x ∈ ps
  clo : ∀ x t y, lf x = true → Way E E.length x t y → fi y = false → lf y = true ∨ y ∈ W
theorem LtS.start {E : List (Nat × Nat)} {ps : List Nat} {fi : Nat → Bool} : LtS E ps fi [] 0 fun _ => false :=
  ⟨fun _ h => by simp at h, fun _ h => by simp at h, fun _ h => by simp at h, List.Pairwise.nil, fun _ h => by simp at h, fun x => by simp⟩
theorem take1 {ps : List Nat} {i x : Nat} (h : ps[i]? = some x) {z : Nat} : z ∈ ps.take (i + 1) ↔ z ∈ ps.take i ∨ z = x := by
  rw [List.take_add_one, h, Option.toList_some, List.mem_append, List.mem_singleton]
theorem LtS.skip {E : List (Nat × Nat)} {ps : List Nat} {fi : Nat → Bool} {L : List (Nat → Bool)} {i x : Nat} {gf : Nat → Bool} (h : LtS E ps fi L i gf) (hx : ps[i]? = some x) (hs : fi x = true ∨ gf x = true) : LtS E ps fi L (i + 1) gf := by
  refine ⟨h.sub, h.ne, fun z hz hf => ?_, h.dis, h.clo, h.gon⟩
  rcases (take1 hx).mp hz with m | m
  · exact h.cov z m hf
  · subst m
    rcases hs with q | q
    · rw [hf] at q
      cases q
    · exact (h.gon z).mp q
theorem LtS.done {E : List (Nat × Nat)} {ps : List Nat} {fi : Nat → Bool} {L : List (Nat → Bool)} {gf : Nat → Bool} (h : LtS E ps fi L ps.length gf) : Lots E ps fi L :=
  ⟨h.sub, h.ne, fun x hx hf => h.cov x (by rw [List.take_length]; exact hx) hf, h.dis, h.clo⟩
theorem LtS.put {E : List (Nat × Nat)} {ps : List Nat} {fi : Nat → Bool} {L : List (Nat → Bool)} {i x : Nat} {gf gf' lf : Nat → Bool} (h : LtS E ps fi L i gf) (hx : ps[i]? = some x) (hw : LtW E ps fi L gf' lf []) (hl : lf x = true) : LtS E ps fi (L ++ [lf]) (i + 1) gf' := by
  refine ⟨fun f hf z hz => ?_, fun f hf => ?_, fun z hz hf => ?_, List.pairwise_append.mpr ⟨h.dis, List.pairwise_singleton _ _, fun f hf f' hf' z hz => ?_⟩, fun f hf z t y hz hway hy => ?_, fun z => ?_⟩
  · rcases List.mem_append.mp hf with m | m
    · exact h.sub f m z hz
    · rw [List.mem_singleton.mp m] at hz
      exact hw.sub z hz
  · rcases List.mem_append.mp hf with m | m
    · exact h.ne f m
    · rw [List.mem_singleton.mp m]
      exact ⟨x, hl⟩
  · rcases (take1 hx).mp hz with m | m
    · obtain ⟨f, f1, f2⟩ := h.cov z m hf
      exact ⟨f, List.mem_append_left _ f1, f2⟩
    · rw [m]
      exact ⟨lf, List.mem_append_right _ (List.mem_singleton.mpr rfl), hl⟩
  · rw [List.mem_singleton.mp hf']
    exact hw.dis f hf z hz
  · rcases List.mem_append.mp hf with m | m
    · exact h.clo f m z t y hz hway hy
    · rw [List.mem_singleton.mp m] at hz ⊢
      rcases hw.clo z t y hz hway hy with q | q
      · exact q
      · simp at q
  · rw [hw.gon z]
    constructor
    · rintro (q | ⟨f, f1, f2⟩)
      · exact ⟨lf, List.mem_append_right _ (List.mem_singleton.mpr rfl), q⟩
      · exact ⟨f, List.mem_append_left _ f1, f2⟩
    · rintro ⟨f, f1, f2⟩
      rcases List.mem_append.mp f1 with m | m
      · exact .inr ⟨f, m, f2⟩
      · rw [List.mem_singleton.mp m] at f2
        exact .inl f2
theorem lot_count {E : List (Nat × Nat)} {n : Nat} : ∀ {L : List (Nat → Bool)}, (∀ f ∈ L, ∃ x, x < n ∧ f x = true) → (L.Pairwise fun f g => ∀ x, f x = true → g x = false) → ∃ xs : List Nat, xs.length = L.length ∧ xs.Nodup ∧ ∀ x ∈ xs, x < n ∧ ∃ f ∈ L, f x = true
  | [], _, _ => ⟨[], rfl, List.Pairwise.nil, fun _ h => by simp at h⟩
  | f :: L, h, hp => by
    obtain ⟨p1, p2⟩ := List.pairwise_cons.mp hp
    obtain ⟨xs, x1, x2, x3⟩ := lot_count (E := E) (fun g hg => h g (List.mem_cons_of_mem _ hg)) p2
    obtain ⟨x, a, b⟩ := h f (List.mem_cons_self ..)
    refine ⟨x :: xs, by rw [List.length_cons, List.length_cons, x1], List.nodup_cons.mpr ⟨fun m => ?_, x2⟩, fun y hy => ?_⟩
    · obtain ⟨_, g, g1, g2⟩ := x3 x m
      rw [p1 g g1 x b] at g2
      cases g2
    · rcases List.mem_cons.mp hy with q | q
      · rw [q]
        exact ⟨a, f, List.mem_cons_self .., b⟩
      · obtain ⟨c, g, g1, g2⟩ := x3 y q
        exact ⟨c, g, List.mem_cons_of_mem _ g1, g2⟩
theorem LtS.count {E : List (Nat × Nat)} {n : Nat} {ps : List Nat} {fi : Nat → Bool} {L : List (Nat → Bool)} {i : Nat} {gf : Nat → Bool} (h : LtS E ps fi L i gf) (hP : Pie E n ps) : L.length ≤ n := by
  obtain ⟨xs, x1, x2, x3⟩ := lot_count (E := E) (n := n) (L := L) (fun f hf => by
    obtain ⟨x, hx⟩ := h.ne f hf
    exact ⟨x, hP.lt x (h.sub f hf x hx).1, hx⟩) h.dis
  rw [← x1]
  exact nat_nodup n xs x2 fun x hx => (x3 x hx).1
theorem Way.sym {E : List (Nat × Nat)} {k x t y : Nat} (h : Way E k x t y) : Way E k y t x := ⟨h.1, fun z => h.2.1 z.symm, h.2.2.elim (fun q => .inr q) (fun q => .inl q)⟩
theorem Way.pie {E : List (Nat × Nat)} {n : Nat} {ps : List Nat} (hP : Pie E n ps) {x t y : Nat} (h : Way E E.length x t y) (hx : x ∈ ps) : y ∈ ps := by
  have c := hP.cl t h.1
  rcases h.2.2 with ⟨q1, q2⟩ | ⟨q1, q2⟩
  · rw [q1, q2] at c
    exact c.mp hx
  · rw [q1, q2] at c
    exact c.mpr hx
/-- a spot that is inner, or gone already, is taken away -/
theorem LtW.drop {E : List (Nat × Nat)} {ps : List Nat} {fi : Nat → Bool} {L : List (Nat → Bool)} {i : Nat} {gf gf' lf : Nat → Bool} {W : List Nat} {s : Nat} (hL : LtS E ps fi L i gf) (h : LtW E ps fi L gf' lf (W ++ [s])) (hs : fi s = true ∨ gf' s = true) : LtW E ps fi L gf' lf W := by
  refine ⟨h.sub, h.dis, h.gon, fun x hx => h.wps x (List.mem_append_left _ hx), fun x t y hx hw hy => ?_⟩
  rcases h.clo x t y hx hw hy with q | q
  · exact .inl q
  · rcases List.mem_append.mp q with q | q
    · exact .inr q
    · have e := List.mem_singleton.mp q
      subst e
      rcases hs with z | z
      · rw [hy] at z
        cases z
      · rcases (h.gon y).mp z with z | ⟨f, f1, f2⟩
        · exact .inl z
        · have a := hL.clo f f1 y t x f2 hw.sym (h.sub x hx).2
          rw [h.dis f f1 x a] at hx
          cases hx
/-- a spot is put into the lot, and what stands beside it waits -/
theorem LtW.add {E : List (Nat × Nat)} {n : Nat} {ps : List Nat} (hP : Pie E n ps) {fi : Nat → Bool} {L : List (Nat → Bool)} {gf lf : Nat → Bool} {W X : List Nat} {s : Nat} (h : LtW E ps fi L gf lf (W ++ [s])) (hs : fi s = false) (hg : gf s = false) (hX : ∀ y, y ∈ X ↔ ∃ t, Way E E.length s t y) :
    LtW E ps fi L (fun z => if z = s then true else gf z) (fun z => if z = s then true else lf z) (W ++ X) := by
  have hsp : s ∈ ps := h.wps s (List.mem_append_right _ (List.mem_singleton.mpr rfl))
  refine ⟨fun x hx => ?_, fun f hf x hx => ?_, fun x => ?_, fun x hx => ?_, fun x t y hx hw hy => ?_⟩
  · by_cases q : x = s
    · rw [q]
      exact ⟨hsp, hs⟩
    · exact h.sub x ((if_neg q).symm.trans hx)
  · show (if x = s then true else lf x) = false
    by_cases q : x = s
    · rw [q] at hx
      rw [(h.gon s).mpr (.inr ⟨f, hf, hx⟩)] at hg
      cases hg
    · rw [if_neg q]
      exact h.dis f hf x hx
  · show (if x = s then true else gf x) = true ↔ (if x = s then true else lf x) = true ∨ _
    by_cases q : x = s
    · rw [if_pos q, if_pos q]
      simp
    · rw [if_neg q, if_neg q]
      exact h.gon x
  · rcases List.mem_append.mp hx with m | m
    · exact h.wps x (List.mem_append_left _ m)
    · obtain ⟨t, ht⟩ := (hX x).mp m
      exact ht.pie hP hsp
  · show (if y = s then true else lf y) = true ∨ _
    by_cases q : x = s
    · rw [q] at hw
      exact .inr (List.mem_append_right _ ((hX y).mpr ⟨t, hw⟩))
    · by_cases q2 : y = s
      · rw [if_pos q2]
        exact .inl rfl
      · rw [if_neg q2]
        rcases h.clo x t y ((if_neg q).symm.trans hx) hw hy with z | z
        · exact .inl z
        · rcases List.mem_append.mp z with z | z
          · exact .inr (List.mem_append_left _ z)
          · exact absurd (List.mem_singleton.mp z) q2
/-- how many are not told -/
def ctf (n : Nat) (f : Nat → Bool) : Nat := (List.range n).countP fun z => !f z
theorem ctf_le (n : Nat) (f : Nat → Bool) : ctf n f ≤ n := by
  unfold ctf
  have := List.countP_le_length (p := fun z => !f z) (l := List.range n)
  rwa [List.length_range] at this
theorem ctf_put {n s : Nat} {f : Nat → Bool} (h : s < n) (hf : f s = false) : ctf n (fun z => if z = s then true else f z) + 1 ≤ ctf n f :=
  cp_lt (e := s) (fun x _ hx => by
    have hx' : (!(if x = s then true else f x)) = true := hx
    by_cases q : x = s
    · rw [if_pos q] at hx'
      cases hx'
    · rw [if_neg q] at hx'
      exact hx') (List.mem_range.mpr h) (by rw [hf]; rfl) (by simp)
theorem wol_sub {ds ds' : List Addr} {H : Hp} (h : ∀ b ∈ ds', b ∈ ds) : Same (wol ds H) (wol ds' H) := fun b o e => by
  obtain ⟨e1, e2⟩ := wol_some e
  rw [wol_out fun m => e2 (h b m)]
  exact e1
theorem Lots.count {E : List (Nat × Nat)} {n : Nat} {ps : List Nat} {fi : Nat → Bool} {L : List (Nat → Bool)} (h : Lots E ps fi L) (hP : Pie E n ps) : L.length ≤ n := by
  obtain ⟨xs, x1, x2, x3⟩ := lot_count (E := E) (n := n) (L := L) (fun f hf => by
    obtain ⟨x, hx⟩ := h.ne f hf
    exact ⟨x, hP.lt x (h.sub f hf x hx).1, hx⟩) h.dis
  rw [← x1]
  exact nat_nodup n xs x2 fun x hx => (x3 x hx).1
-- parts_beside: slots 0=near 1=piece 2=inner 3=lots 4=gone 5=first 6=lot 7=waiting 8=spot 9=tie 10=other; cells 
abbrev sparts_beside : Stmt := topS 17
abbrev Nparts_beside : List Str := ["near", "piece", "inner", "lots", "gone", "first", "lot", "waiting", "spot", "tie", "other"]
theorem scparts_beside : FnScope Nparts_beside ["near", "piece", "inner"] (defScope sparts_beside) := ⟨rfl, rfl, rfl, by decide +kernel, rfl, by decide +kernel, by decide +kernel⟩
section
variable {P : Program} {w : World} {K : PySem.W.Frag} {mg : Str → Option Value} {base : Heap} {mt : Nat}
def sp_parts_beside (K : PySem.W.Frag) : Sp := fun vs H Q _ => ∃ (D : Addr) (ls : List Addr) (Pf : Nat → List (Addr × (Nat × Nat))) (n : Nat) (E : List (Nat × Nat)) (pa : Addr) (ps : List Nat) (ia : Addr) (fi : Nat → Bool), vs = [.ref D, .ref pa, .ref ia] ∧ PRows H D ls Pf ∧ ls.length = n ∧ WebOk n E ∧ NRow E E.length Pf ∧ (∀ x, (Pf x).length ≤ 80) ∧ SqL K H pa (nv ps) ∧ Pie E n ps ∧ DS H ia fi ∧
  ∀ H' r Ls, Same H H' → H' r = some (.lst (rf Ls)) → Tg DS H' Ls → Lots E ps fi (sn Ls) → Q (.ref r) H'
theorem ok_parts_beside {f : Addr} {fd : FuncData} (F : Fun K "parts_beside" "parts_beside" sparts_beside f fd) (T : Bi mg mt) : FnOk P w K mg base CX0 1 f fd ["near", "piece", "inner"] (sp_parts_beside K) := by
  refine okC F scparts_beside (fun vs H Q E h => ?_) (fun cdv A outer s H vs Q E hr hcd h => ?_)
  · obtain ⟨D, ls, Pf, n, E, pa, ps, ia, fi, rfl, _⟩ := h
    rfl
  · obtain ⟨D, ls, Pf, n, E, pa, ps, ia, fi, rfl, hR, hls, hW, hN, hPl, hpa, hP, hia, k⟩ := h
    have hn := hW.nb
    have hu := hu_of hr
    refine ⟨_, (pss_cons (ps_par (i := 3) (j := 4) (by rfl) scparts_beside.nd rfl rfl (by decide) rfl rfl (pa_cons (pe_lst pa_nil) (pa_cons pe_dnewK pa_nil)) (by rfl))
      (pss_cons (ps_for PassesOwn.never rfl (pi_list (pv 1)) (pg_name (i := 5) scparts_beside.nd rfl (Or.inl rfl))
        (pss_one (ps_if (PW.pt (pw_and (pt_cmp (pc_dnotin hu (pv 5) (pv 2))) (pw_and1 (pt_cmp (pc_dnotin hu (pv 5) (pv 4))))))
          (pss_cons (ps_par (i := 6) (j := 7) (by rfl) scparts_beside.nd rfl rfl (by decide) rfl rfl (pa_cons pe_dnewK (pa_cons (pe_lst (pa_cons (pv 5) pa_nil)) pa_nil)) (by rfl))
          (pss_cons (ps_while PassesOwn.never (pt_truthK K (pv 7) (by intro _; rfl))
            (pss_cons (ps_set (i := 8) scparts_beside.nd rfl (Or.inl rfl) (pe_bm0 PySem.F.plainAttrs_list PySem.F.slot_list_pop PySem.F.type_list_pop mt_pop (pv 7)))
            (pss_one (ps_if (PW.pt (pw_and (pt_cmp (pc_dnotin hu (pv 8) (pv 2))) (pw_and1 (pt_cmp (pc_dnotin hu (pv 8) (pv 4))))))
              (pss_cons (ps_dput hu (pv 4) (pv 8) pe_bl rfl)
              (pss_cons (ps_dput hu (pv 6) (pv 8) pe_bl rfl)
              (pss_one (ps_expr (pe_bm PySem.F.plainAttrs_list PySem.F.slot_list_extend PySem.F.type_list_extend mt_extend (pv 7) (pa_cons (pe_lc (own := [("tie", 9), ("other", 10)]) rfl scparts_beside.nd (pi_list (pe_ix ix_list (pv 0) (pv 8) (fun _ _ => rfl))) (blkOk_by (N := Nparts_beside) (sc := (defScope sparts_beside)) (by decide +kernel)) (fun _ _ _ _ _ => (pg_tupK K (n := 2) rfl (pgs_cons (pg_name (i := 9) scparts_beside.nd rfl (Or.inl rfl)) (pgs_cons (pg_name (i := 10) scparts_beside.nd rfl (Or.inl rfl)) pgs_nil)))) (fun _ _ _ _ _ => pts_nil) (fun _ _ _ _ _ => (pv 10))) pa_nil))))))
              pss_nil))))
          (pss_one (ps_expr (pe_bm PySem.F.plainAttrs_list PySem.F.slot_list_append PySem.F.type_list_append mt_append (pv 3) (pa_cons (pv 6) pa_nil))))))
          pss_nil)))
      (pss_one (ps_ret (pv 3))))), ?_⟩
    have hpl : ps.length ≤ n := nat_nodup n ps hP.nd hP.lt
    refine ⟨by show 0 ≤ sizeLine; decide, fun r hr0 => ?_⟩
    have s1 := same_new (o := .lst []) hr0
    intro g hg0
    have s2 := s1.trans (same_new (o := .dK []) hg0)
    have h2r : (upd (upd H r (.lst [])) g (.dK [])) r = some (.lst []) := (same_new hg0) _ _ upd_same
    have hg0' : H g = none := s1.free hg0
    have hrg : r ≠ g := ne_of_none upd_same hg0
    refine ⟨_, _, rfl, .ref pa, rfl, pa, rfl, ⟨_, s2.seq hpa⟩, for_list (xs := nv ps) (fun i σ H' => ∃ v5 v6 v7 v8 v9 v10 Ls gf, σ = [some (.ref D), some (.ref pa), some (.ref ia), some (.ref r), some (.ref g), v5, v6, v7, v8, v9, v10] ∧ Same H H' ∧ H' r = some (.lst (rf Ls)) ∧ DS H' g gf ∧ Tg DS (wol [r, g] H') Ls ∧ LtS E ps fi (sn Ls) i gf)
      ⟨none, none, none, none, none, none, [], fun _ => false, rfl, s2, h2r, ⟨_, _, upd_same, ND.nil, fun _ => rfl⟩, fun _ h => by simp at h, LtS.start⟩ (fun i σ H' _ ⟨_, _, _, _, _, _, _, _, _, s, _⟩ => s.seq hpa) ?_ ?_⟩
    · rintro i u σ H3 hi ⟨v5, v6, v7, v8, v9, v10, Ls, gf, rfl, s3, h3r, h3g, h3t, hL⟩
      obtain ⟨x, hx, rfl⟩ := nv_get hi
      have hxp := mem_at hx
      obtain ⟨v, hv, hvs⟩ := (mo_ds _ _ _ _ s3 hia).get x
      refine ⟨_, rfl, .ref ia, rfl, ia, _, rfl, hv, _, rfl, ?_⟩
      cases hfx : fi x with
      | true =>
        rw [hfx] at hvs
        cases v with
        | none => cases hvs
        | some v =>
          refine iteF (iteF ?_)
          exact ⟨_, v6, v7, v8, v9, v10, Ls, gf, rfl, s3, h3r, h3g, h3t, hL.skip hx (.inl hfx)⟩
      | false =>
        rw [hfx] at hvs
        cases v with
        | some v => cases hvs
        | none =>
          refine iteT ?_
          obtain ⟨v, hv, hvs⟩ := h3g.get x
          refine ⟨_, rfl, .ref g, rfl, g, _, rfl, hv, _, rfl, ?_⟩
          cases hgx : gf x with
          | true =>
            rw [hgx] at hvs
            cases v with
            | none => cases hvs
            | some v =>
              refine iteF ?_
              exact ⟨_, v6, v7, v8, v9, v10, Ls, gf, rfl, s3, h3r, h3g, h3t, hL.skip hx (.inr hgx)⟩
          | false =>
            rw [hgx] at hvs
            cases v with
            | some v => cases hvs
            | none =>
              refine iteT ?_
              intro l hl0
              refine ⟨_, rfl, by show 1 ≤ sizeLine; decide, fun w hw0 => ⟨_, _, rfl, ?_⟩⟩
              have sl := same_new (o := .dK []) hl0
              have sw := same_new (o := .lst [.int (x : Int)]) hw0
              have hPb : PbS H r g l w (upd (upd H3 l (.dK [])) w (.lst [.int (x : Int)])) Ls gf (fun _ => false) [x] := by
                refine ⟨s3.trans (sl.trans sw), hr0, hg0', s3.free hl0, s3.free (sl.free hw0), sw _ _ (sl _ _ h3r), mo_ds _ _ _ _ (sl.trans sw) h3g, mo_ds _ _ _ _ sw ⟨_, _, upd_same, ND.nil, fun _ => rfl⟩, upd_same, ne_of_none (sl _ _ h3r) hw0, h3g.none hl0, h3t.mono mo_ds ?_⟩
                intro b o e
                obtain ⟨e1, e2⟩ := wol_some e
                have e3 : b ≠ l := ne_of_none e1 hl0
                have e4 : b ≠ w := ne_of_none (sl _ _ e1) hw0
                rw [wol_out]
                · exact sw _ _ (sl _ _ e1)
                · intro m
                  simp only [List.mem_cons, List.not_mem_nil, or_false] at m e2
                  rcases m with m | m | m | m
                  · exact e2 (.inl m)
                  · exact e2 (.inr m)
                  · exact e3 m
                  · exact e4 m
              have hx0 : ∀ f ∈ sn Ls, f x = false := fun f hf => by
                cases q : f x with
                | false => rfl
                | true =>
                  rw [(hL.gon x).mpr ⟨f, hf, q⟩] at hgx
                  cases hgx
              refine while_m (fun m σ H' => ∃ v8 v9 v10 gf lf W, σ = [some (.ref D), some (.ref pa), some (.ref ia), some (.ref r), some (.ref g), some (.int (x : Int)), some (.ref l), some (.ref w), v8, v9, v10] ∧ PbS H r g l w H' Ls gf lf W ∧ LtW E ps fi (sn Ls) gf lf W ∧ (lf x = true ∨ x ∈ W) ∧ m = 81 * ctf n gf + W.length ∧ m ≤ 2000)
                (81 * ctf n gf + 1) ⟨v8, v9, v10, gf, fun _ => false, [x], rfl, hPb, ⟨fun z h => by (cases h), fun f _ z _ => rfl, fun z => by rw [hL.gon z]; simp, fun z hz => by rw [List.mem_singleton.mp hz]; exact hxp, fun z t y h => by (cases h)⟩, .inr (List.mem_singleton.mpr rfl), rfl, by have := ctf_le n gf; omega⟩ ?_
              · clear hPb h3r h3g h3t sl sw hl0 hw0 hgx hvs hv
                rintro m σ H4 ⟨v8, v9, v10, gf', lf, W, rfl, hPb, hLW, hxw, rfl, hm⟩
                refine ⟨.ref w, rfl, !(nv W).isEmpty, .inl ⟨_, SqL.of hPb.hw, rfl⟩, ?_⟩
                rcases List.eq_nil_or_concat W with rfl | ⟨W', sp, rfl⟩
                · refine iteF ?_
                  have hlx : lf x = true := by
                    rcases hxw with q | q
                    · exact q
                    · simp at q
                  have hil : (rf Ls).length ≤ 100 := by
                    rw [rf_len, ← sn_len]
                    have := hL.count hP
                    omega
                  refine ⟨.ref r, rfl, .inl ⟨rfl, _, SqL.of hPb.hr⟩, _, rfl, r, _, _, rfl, rfl, hPb.hr, small1001 (by omega), ?_⟩
                  have e : wol [r, g] (upd H4 r (.lst (rf Ls ++ [V.ref l]))) = wol [r, g] H4 := wol_upd (by simp)
                  have hlr : l ≠ r := hPb.hl.nel hPb.hr
                  have hgr : g ≠ r := hPb.hg.nel hPb.hr
                  refine ⟨_, _, _, _, _, _, Ls ++ [(l, lf)], gf', rfl, same_at hPb.sm hr0, by rw [upd_same, rf_snoc], hPb.hg.up (upd_ne hgr), ?_, ?_⟩
                  · rw [e]
                    intro y hy
                    rcases List.mem_append.mp hy with q | q
                    · exact mo_ds _ _ _ _ (wol_sub (by simp)) (hPb.tg y q)
                    · rw [List.mem_singleton.mp q]
                      exact hPb.hl.wol (by simp [hlr, hPb.gl.symm])
                  · rw [sn_snoc]
                    exact hL.put hx hLW hlx
                · rw [List.concat_eq_append] at *
                  have hne : (!(nv (W' ++ [sp])).isEmpty) = true := by
                    rw [nv_snoc]
                    cases nv W' <;> rfl
                  rw [hne]
                  refine iteT ?_
                  have hWl : (W' ++ [sp]).length = W'.length + 1 := by rw [List.length_append]; rfl
                  rw [hWl] at hm ⊢
                  refine ⟨fun σ' H' => ∃ m', m' < 81 * ctf n gf' + (W'.length + 1) ∧ ∃ v8 v9 v10 gf lf W, σ' = [some (.ref D), some (.ref pa), some (.ref ia), some (.ref r), some (.ref g), some (.int (x : Int)), some (.ref l), some (.ref w), v8, v9, v10] ∧ PbS H r g l w H' Ls gf lf W ∧ LtW E ps fi (sn Ls) gf lf W ∧ (lf x = true ∨ x ∈ W) ∧ m' = 81 * ctf n gf + W.length ∧ m' ≤ 2000, fun σ' H' h => h, ?_⟩
                  have hspp := hLW.wps sp (List.mem_append_right _ (List.mem_singleton.mpr rfl))
                  have hspn := hP.lt sp hspp
                  refine ⟨.ref w, rfl, .inl ⟨rfl, _, SqL.of hPb.hw⟩, w, _, .int (sp : Int), rfl, rfl, hPb.hw, by rw [nv_snoc]; exact get_last _ _, ?_⟩
                  have hdl : (nv (W' ++ [sp])).dropLast = nv W' := by
                    rw [nv_snoc]
                    exact List.dropLast_concat
                  rw [hdl]
                  have hPb5 := hPb.setW W'
                  generalize upd H4 w (.lst (nv W')) = H5 at hPb5 ⊢
                  have skip : (fi sp = true ∨ gf' sp = true) → ∃ m', m' < 81 * ctf n gf' + (W'.length + 1) ∧ ∃ u8 u9 u10 gf lf W, [some (.ref D), some (.ref pa), some (.ref ia), some (.ref r), some (.ref g), some (.int (x : Int)), some (.ref l), some (.ref w), some (V.int (sp : Int)), v9, v10] = [some (.ref D), some (.ref pa), some (.ref ia), some (.ref r), some (.ref g), some (.int (x : Int)), some (.ref l), some (.ref w), u8, u9, u10] ∧ PbS H r g l w H5 Ls gf lf W ∧ LtW E ps fi (sn Ls) gf lf W ∧ (lf x = true ∨ x ∈ W) ∧ m' = 81 * ctf n gf + W.length ∧ m' ≤ 2000 := fun hs => by
                    refine ⟨81 * ctf n gf' + W'.length, by omega, _, _, _, gf', lf, W', rfl, hPb5, hLW.drop hL hs, ?_, rfl, by omega⟩
                    rcases hxw with q | q
                    · exact .inl q
                    · rcases List.mem_append.mp q with q | q
                      · exact .inr q
                      · have e := List.mem_singleton.mp q
                        rw [← e] at hs
                        rcases hs with z | z
                        · rw [hfx] at z
                          cases z
                        · rcases (hLW.gon x).mp z with z | ⟨f, f1, f2⟩
                          · exact .inl z
                          · rw [hx0 f f1] at f2
                            cases f2
                  obtain ⟨v, hv, hvs⟩ := (mo_ds _ _ _ _ hPb5.sm hia).get sp
                  refine ⟨_, rfl, .ref ia, rfl, ia, _, rfl, hv, _, rfl, ?_⟩
                  cases hfs : fi sp with
                  | true =>
                    rw [hfs] at hvs
                    cases v with
                    | none => cases hvs
                    | some v =>
                      refine iteF (iteF ?_)
                      exact skip (.inl hfs)
                  | false =>
                    rw [hfs] at hvs
                    cases v with
                    | some v => cases hvs
                    | none =>
                      refine iteT ?_
                      obtain ⟨v, hv, hvs⟩ := hPb5.hg.get sp
                      refine ⟨_, rfl, .ref g, rfl, g, _, rfl, hv, _, rfl, ?_⟩
                      cases hgs : gf' sp with
                      | true =>
                        rw [hgs] at hvs
                        cases v with
                        | none => cases hvs
                        | some v =>
                          refine iteF ?_
                          exact skip (.inr hgs)
                      | false =>
                        rw [hgs] at hvs
                        cases v with
                        | some v => cases hvs
                        | none =>
                          refine iteT ?_
                          clear skip
                          have hgb : ∀ z, gf' z = true → z ∈ ps := fun z hz => by
                            rcases (hLW.gon z).mp hz with q | ⟨f, f1, f2⟩
                            · exact (hLW.sub z q).1
                            · exact (hL.sub f f1 z f2).1
                          obtain ⟨o1, hd1, hD1⟩ := hPb5.hg.put (fun z hz => by have := hP.lt z (hgb z hz); omega) sp
                          refine ⟨.ref g, rfl, _, rfl, g, _, rfl, hd1, ?_⟩
                          have hPb6 := hPb5.putG hD1
                          generalize upd H5 g o1 = H6 at hPb6 ⊢
                          obtain ⟨o2, hd2, hD2⟩ := hPb6.hl.put (fun z hz => by have := hP.lt z (hLW.sub z hz).1; omega) sp
                          refine ⟨.ref l, rfl, _, rfl, l, _, rfl, hd2, ?_⟩
                          have hPb7 := hPb6.putL hD2
                          generalize upd H6 l o2 = H7 at hPb7 ⊢
                          obtain ⟨ra, hra, gra, hrr⟩ := hR.ro.get (i := sp) (by omega)
                          have hrs : ∀ H', Same H H' → SqL K H' ra (rf (Pf sp)) := fun H' s => SqL.of (s _ _ hrr)
                          refine ⟨.ref w, rfl, .inl ⟨rfl, _, SqL.of hPb7.hw⟩, .ref D, rfl, .int (sp : Int), rfl, D, _, _, _, rfl, rfl, hPb7.sm.seq (SqL.of hR.ro.li), atI_nat gra, ra, rfl, ⟨_, hrs _ hPb7.sm⟩, fun b hb => ?_⟩
                          refine lc_acc walk_list (fun i => ((sn (Pf sp))[i]?).map fun e => V.int (e.2 : Int)) (by rw [rf_len]; have := hPl sp; omega) hb (fun _ s => hrs _ (hPb7.sm.trans s)) (fun i y H8 H9 Ky Kn hi s y1 ky kn => ?_) fun H8 s8 e8 => ?_
                          · obtain ⟨rfl, hy⟩ := y1
                            obtain ⟨d, hd, rfl⟩ := rf_get hy
                            have hPe : PrT H d.1 d.2 := hR.tg sp d (mem_at hd)
                            exact ⟨d.1, _, rfl, SqT.of ((hPb7.sm.trans s) _ _ hPe), rfl, _, _, rfl, _, _, rfl, rfl, rfl, _, rfl, ky _ _ (by rw [sn_get hd]; rfl) (Same.refl _)⟩
                          · obtain ⟨X, hXd⟩ : ∃ X, X = (sn (Pf sp)).map (·.2) := ⟨_, rfl⟩
                            have eX : (List.range (rf (Pf sp)).length).filterMap (fun i => ((sn (Pf sp))[i]?).map fun e => V.int (e.2 : Int)) = nv X := by
                              rw [rf_len, ← sn_len, range_fm, hXd]
                              unfold nv iv
                              rw [List.map_map, List.map_map]
                              rfl
                            rw [eX] at e8
                            have hXl : X.length ≤ 80 := by
                              rw [hXd, List.length_map, sn_len]
                              exact hPl sp
                            have hX : ∀ y, y ∈ X ↔ ∃ t, Way E E.length sp t y := fun y => by
                              rw [hXd, List.mem_map]
                              constructor
                              · rintro ⟨e, he, rfl⟩
                                exact ⟨e.1, (hN.mem sp e.1 e.2).mp he⟩
                              · rintro ⟨t, ht⟩
                                exact ⟨(t, y), (hN.mem sp t y).mpr ht, rfl⟩
                            refine ⟨w, b, _, _, rfl, rfl, s8 _ _ hPb7.hw, e8, by rw [nv_len, nv_len, sizeLine_eq]; omega, ?_⟩
                            have ea : nv W' ++ nv X = nv (W' ++ X) := by
                              unfold nv iv
                              rw [List.map_append, List.map_append]
                            rw [ea]
                            have hct := ctf_put hspn hgs
                            have hWX : (W' ++ X).length = W'.length + X.length := List.length_append
                            refine ⟨81 * ctf n (fun z => if z = sp then true else gf' z) + (W' ++ X).length, by rw [hWX]; omega, _, _, _, _, _, W' ++ X, rfl, (hPb7.new s8).setW _, hLW.add hP hfs hgs hX, ?_, rfl, by rw [hWX]; omega⟩
                            by_cases q : x = sp
                            · exact .inl (if_pos q)
                            · rcases hxw with z | z
                              · exact .inl ((if_neg q).trans z)
                              · rcases List.mem_append.mp z with z | z
                                · exact .inr (List.mem_append_left _ z)
                                · exact absurd (List.mem_singleton.mp z) q
    · rintro σ H3 ⟨v5, v6, v7, v8, v9, v10, Ls, gf, rfl, s3, h3r, h3g, h3t, hL⟩
      rw [nv_len] at hL
      exact ⟨.ref r, rfl, k H3 r Ls s3 h3r (h3t.mono mo_ds wol_le) hL.done⟩
end
end Fb

/-! FbY2 -/
set_option maxHeartbeats 4000000
/-! settled_sides -/
namespace Fb
open PySem PySem.Spec PyProof.Rows L2
theorem DS.ex {H : Hp} {a : Addr} {f : Nat → Bool} (h : DS H a f) : ∃ kvs, ∃ ns : List Nat, H a = some (.dK kvs) ∧ kvs.map (·.1) = ns.map (fun n : Nat => (Sum.inl (n : Int) : Key)) ∧ ns.Nodup ∧ ∀ n, n ∈ ns ↔ f n = true := by
  obtain ⟨kvs, F, h1, h2, h3⟩ := h
  obtain ⟨ns, e1, e2, e3⟩ := h2.keys
  exact ⟨kvs, ns, h1, e1, e2, fun n => by rw [e3, h3]⟩
theorem same_unlock {H H' : Hp} {d : Addr} {u : HO} {od : Obj} (hd : H d = some u) (s : Same (upd H d (.frz od u)) H') : Same H (upd H' d u) := fun b o e => by
  by_cases q : b = d
  · rw [q] at e ⊢
    rw [upd_same, ← hd]
    exact e
  · rw [upd_ne q]
    exact s b o ((upd_ne q).trans e)
theorem DS.getL {H H' : Hp} {a d : Addr} {f : Nat → Bool} {od : Obj} {kvs : List (Key × V)} (h : DS H a f) (hd : H d = some (.dK kvs)) (s : Same (upd H d (.frz od (.dK kvs))) H') (n : Nat) : ∃ v, DGet H' a (.int (n : Int)) v ∧ v.isSome = f n := by
  obtain ⟨kvs', F, h1, h2, h3⟩ := h
  refine ⟨F n, dg h2 ?_ n, h3 n⟩
  by_cases q : a = d
  · subst q
    rw [hd] at h1
    cases h1
    exact .inr ⟨od, s _ _ upd_same⟩
  · exact .inl (s _ _ ((upd_ne q).trans h1))
theorem fm_filter (p : (Nat → Bool) → Bool) : ∀ Ls : List (Addr × (Nat → Bool)), Ls.filterMap (fun y => if p y.2 = true then some (V.ref y.1) else none) = rf (Ls.filter fun y => p y.2)
  | [] => rfl
  | y :: Ls => by
    have ih := fm_filter p Ls
    by_cases h : p y.2 = true
    · rw [List.filterMap_cons, if_pos h, List.filter_cons, if_pos h, ih]
      rfl
    · rw [List.filterMap_cons, if_neg h, List.filter_cons, if_neg h, ih]
theorem sn_filter (p : (Nat → Bool) → Bool) : ∀ Ls : List (Addr × (Nat → Bool)), sn (Ls.filter fun y => p y.2) = (sn Ls).filter p
  | [] => rfl
  | y :: Ls => by
    have ih := sn_filter p Ls
    have e : sn (y :: Ls) = y.2 :: sn Ls := rfl
    by_cases h : p y.2 = true
    · rw [List.filter_cons, if_pos h, e, List.filter_cons, if_pos h, ← ih]
      rfl
    · rw [List.filter_cons, if_neg h, e, List.filter_cons, if_neg h, ih]
-- settled_sides: slots 0=near 1=piece 2=inner 3=outer 4=lots 5=spot 6=mine 7=lot; cells inner outer mine
abbrev ssettled_sides : Stmt := topS 18
abbrev Nsettled_sides : List Str := ["near", "piece", "inner", "outer", "lots", "spot", "mine", "lot"]
theorem scsettled_sides : FnScope Nsettled_sides ["near", "piece", "inner", "outer"] (defScope ssettled_sides) := ⟨rfl, rfl, rfl, by decide +kernel, rfl, by decide +kernel, by decide +kernel⟩
section
variable {P : Program} {w : World} {K : PySem.W.Frag} {mg : Str → Option Value} {base : Heap} {mt : Nat}
def sp_settled_sides (K : PySem.W.Frag) : Sp := fun vs H Q _ => ∃ (D : Addr) (ls : List Addr) (Pf : Nat → List (Addr × (Nat × Nat))) (n : Nat) (E : List (Nat × Nat)) (pa : Addr) (ps : List Nat) (ia : Addr) (fi : Nat → Bool) (oa : Addr) (fo : Nat → Bool), vs = [.ref D, .ref pa, .ref ia, .ref oa] ∧ PRows H D ls Pf ∧ ls.length = n ∧ WebOk n E ∧ NRow E E.length Pf ∧ (∀ x, (Pf x).length ≤ 80) ∧ SqL K H pa (nv ps) ∧ Pie E n ps ∧ DS H ia fi ∧ DS H oa fo ∧
  (∀ x, fi x = true → x ∈ ps) ∧ (∀ x, fo x = true → x ∈ ps ∧ fi x = false) ∧
  (∀ H', Same H H' → (∀ f, Side E ps f → (∀ x, fi x = true → f x = true) → (∀ x, fo x = true → f x = false) → False) → Q .non H') ∧
  (∀ H' r ja la fj fl, Same H H' → SqT K H' r [.ref ja, .ref la] → DS H' ja fj → DS H' la fl → Stl E ps fi fo fj fl → Q (.ref r) H')
theorem ok_settled_sides {f : Addr} {fd : FuncData} (F : Fun K "settled_sides" "settled_sides" ssettled_sides f fd) (T : Bi mg mt) (cparts_beside : C8.Cal P w K mg base 1 "parts_beside" (sp_parts_beside K) []) : FnOk P w K mg base CX0 2 f fd ["near", "piece", "inner", "outer"] (sp_settled_sides K) := by
  refine okC F scsettled_sides (fun vs H Q E h => ?_) (fun cdv A outer s H vs Q E hr hcd h => ?_)
  · obtain ⟨D, ls, Pf, n, E, pa, ps, ia, fi, oa, fo, rfl, _⟩ := h
    rfl
  · obtain ⟨D, ls, Pf, n, E, pa, ps, ia, fi, oa, fo, rfl, hR, hls, hW, hN, hPl, hpa, hP, hia, hoa, hi, ho, k1, k2⟩ := h
    have hn := hW.nb
    have hu := hu_of hr
    refine ⟨_, (pss_cons (ps_set (i := 4) scsettled_sides.nd rfl (Or.inl rfl) (C8.pe_c cparts_beside hr (by decide) (by rfl) (pa_cons (pv 0) (pa_cons (pv 1) (pa_cons (pv 2) pa_nil)))))
      (pss_cons (ps_if (pt_not (pt_truthK K (pv 4) (by intro _; rfl)))
        (pss_one (ps_ret pe_non))
        pss_nil)
      (pss_cons (ps_if (pt_not (pt_truthK K (pv 3) (by intro _; rfl)))
        (pss_one (ps_ret (pe_tup (pa_cons (pv 2) (pa_cons (pe_dc (own := [("spot", 5)]) rfl scsettled_sides.nd (pi_list (pv 1)) (blkOk_by (N := Nsettled_sides) (sc := (defScope ssettled_sides)) (by decide +kernel)) (fun _ _ _ _ _ => (pg_name (i := 5) scsettled_sides.nd rfl (Or.inl rfl))) (fun _ _ _ _ _ => (pts_one (pt_cmp (pc_dnotin hu (pv 5) (pv 2))))) (fun _ _ _ _ _ => (pv 5)) (fun _ _ _ _ _ => pe_bl)) pa_nil)))))
        pss_nil)
      (pss_cons (ps_set (i := 6) scsettled_sides.nd rfl (Or.inr rfl) (pe_lc (own := [("lot", 7)]) rfl scsettled_sides.nd (pi_list (pv 4)) (blkOk_by (N := Nsettled_sides) (sc := (defScope ssettled_sides)) (by decide +kernel)) (fun _ _ _ _ _ => (pg_name (i := 7) scsettled_sides.nd rfl (Or.inr rfl))) (fun _ _ _ _ _ => (pts_one (pt_val (pe_callB (cr_anyK K rfl) (by rfl) T.any (by decide +kernel) (pa_cons (pe_lock (pe_lc (own := [("spot", 5)]) rfl scsettled_sides.nd (pi_keys (pv 3)) (blkOk_by (N := Nsettled_sides) (sc := (relS (lcSc ((defBody ssettled_sides).getD 3 (topS 0))) (defScope ssettled_sides))) (by decide +kernel)) (fun _ _ _ _ _ => (pg_name (i := 5) scsettled_sides.nd rfl (Or.inl rfl))) (fun _ _ _ _ _ => pts_nil) (fun _ _ _ _ _ => (pe_cmp (pc_din hu (pv 5) (pv 7)))))) pa_nil))))) (fun _ _ _ _ _ => (pv 7))))
      (pss_cons (ps_if (pt_cmpR op_neN (pe_callB call_len_seq (by rfl) T.len (by decide +kernel) (pa_cons (pv 6) pa_nil)) pe_int (nomark _))
        (pss_one (ps_ret pe_non))
        pss_nil)
      (pss_one (ps_ret (pe_tup (pa_cons (pe_dc (own := [("spot", 5)]) rfl scsettled_sides.nd (pi_list (pv 1)) (blkOk_by (N := Nsettled_sides) (sc := (defScope ssettled_sides)) (by decide +kernel)) (fun _ _ _ _ _ => (pg_name (i := 5) scsettled_sides.nd rfl (Or.inl rfl))) (fun _ _ _ _ _ => (pts_one (pt_cmp (pc_dnotin hu (pv 5) (pe_ix (ix_listK K) (pv 6) pe_int (fun _ _ => rfl)))))) (fun _ _ _ _ _ => (pv 5)) (fun _ _ _ _ _ => pe_bl)) (pa_cons (pe_ix ix_list (pv 6) pe_int (fun _ _ => rfl)) pa_nil)))))))))), ?_⟩
    have hpl : ps.length ≤ n := nat_nodup n ps hP.nd hP.lt
    have hpb : ∀ x ∈ ps, x < 1000 := fun x hx => by have := hP.lt x hx; omega
    refine ⟨_, rfl, _, rfl, _, rfl, D, ls, Pf, n, E, pa, ps, ia, fi, rfl, hR, hls, hW, hN, hPl, hpa, hP, hia, fun H1 r Ls s1 hr1 ht1 hL => ?_⟩
    refine ⟨.ref r, rfl, !(rf Ls).isEmpty, .inl ⟨_, SqL.of hr1, rfl⟩, ?_⟩
    cases Ls with
    | nil => exact iteT (k1 H1 s1 fun f hf h1 _ => stl_nil hL hf h1)
    | cons y0 Lr =>
      refine iteF ?_
      obtain ⟨Ls, hLs⟩ : ∃ Ls, Ls = y0 :: Lr := ⟨_, rfl⟩
      rw [← hLs] at hr1 ht1 hL
      have hLn : sn Ls ≠ [] := by
        rw [hLs]
        exact fun z => by cases z
      obtain ⟨kvs, ns, ko, kmp, knd, km⟩ := (mo_ds _ _ _ _ s1 hoa).ex
      refine ⟨.ref oa, rfl, !kvs.isEmpty, .inr (.inr ⟨kvs, ko, rfl⟩), ?_⟩
      cases hke : kvs.isEmpty with
      | true =>
        refine iteT ?_
        have hfo : fo = fun _ => false := funext fun x => by
          cases q : fo x with
          | false => rfl
          | true =>
            have := (km x).mpr q
            have e : kvs = [] := List.isEmpty_iff.mp hke
            rw [e] at kmp
            have e2 : ns = [] := by
              cases ns with
              | nil => rfl
              | cons a b => cases kmp
            rw [e2] at this
            simp at this
        refine ⟨_, rfl, .ref pa, rfl, pa, rfl, ⟨_, s1.seq hpa⟩, fun D2 hD2 => ?_⟩
        refine dc_true walk_list (fun z => !fi z) (nv_len ps) hpb hD2 (fun _ s => s.seq (s1.seq hpa)) (fun i z H2 Ky Kn hz s ky kn => ?_) fun H2 kv2 F2 s2 e2 nd2 hF2 => ?_
        · obtain ⟨v, hv, hvs⟩ := (mo_ds _ _ _ _ (s1.trans s) hia).get z
          refine ⟨rfl, _, rfl, .ref ia, rfl, ia, _, rfl, hv, _, rfl, ?_⟩
          cases v with
          | none => exact iteT ⟨_, rfl, ky (by rw [← hvs]; rfl)⟩
          | some v => exact iteF (kn (by rw [← hvs]; rfl))
        · refine ⟨by show 2 ≤ sizeLine; decide, fun q hq => ?_⟩
          have sq := same_new (o := .tup [.ref ia, .ref D2]) hq
          refine k2 _ q ia D2 fi (oth ps fi) (s1.trans (s2.trans sq)) (SqT.of upd_same) (mo_ds _ _ _ _ (s1.trans (s2.trans sq)) hia) (mo_ds _ _ _ _ sq ⟨kv2, F2, e2, nd2, fun z => ?_⟩) ?_
          · rw [hF2]
            by_cases c : z ∈ ps ∧ (!fi z) = true
            · rw [if_pos c]
              show true = (decide (z ∈ ps) && !fi z)
              rw [decide_eq_true c.1, c.2]
              rfl
            · rw [if_neg c]
              show false = (decide (z ∈ ps) && !fi z)
              cases q1 : (decide (z ∈ ps) && !fi z) with
              | false => rfl
              | true =>
                rw [Bool.and_eq_true] at q1
                exact absurd ⟨of_decide_eq_true q1.1, q1.2⟩ c
          · rw [hfo]
            exact stl_none hL hLn hi
      | false =>
        refine iteF ?_
        have hex : ∃ x, fo x = true := by
          cases ns with
          | nil =>
            have e : kvs = [] := List.map_eq_nil_iff.mp kmp
            rw [e] at hke
            cases hke
          | cons a b => exact ⟨a, (km a).mp (List.mem_cons_self ..)⟩
        have hp : ∀ g : Nat → Bool, ns.any g = true ↔ ∃ x, fo x = true ∧ g x = true := fun g => by
          rw [List.any_eq_true]
          exact ⟨fun ⟨x, h1, h2⟩ => ⟨x, (km x).mp h1, h2⟩, fun ⟨x, h1, h2⟩ => ⟨x, (km x).mpr h1, h2⟩⟩
        have hkl : kvs.length = ns.length := by
          have := congrArg List.length kmp
          simpa using this
        have hnl : ns.length ≤ n := nat_nodup n ns knd fun x hx => hP.lt x (ho x ((km x).mp hx)).1
        have hLl : (rf Ls).length ≤ 1000 := by
          rw [rf_len, ← sn_len]
          have := hL.count hP
          omega
        refine ⟨.ref r, rfl, r, rfl, ⟨_, SqL.of hr1⟩, fun m hm => ?_⟩
        refine lc_acc walk_list (fun i => (Ls[i]?).bind fun y => if ns.any y.2 = true then some (V.ref y.1) else none) (by omega) hm (fun _ s => SqL.of (s _ _ hr1)) (fun i y H2 H3 Ky Kn hi2 s y1 ky kn => ?_) fun H2 s2 e2 => ?_
        · obtain ⟨rfl, hy⟩ := y1
          obtain ⟨d, hd, rfl⟩ := rf_get hy
          rw [hd] at ky kn
          simp only [Option.bind_some] at ky kn
          have hds : DS H3 d.1 d.2 := mo_ds _ _ _ _ s (ht1 d (mem_at hd))
          have ko3 := s _ _ ko
          refine ⟨rfl, oa, .dK kvs, ko3, True.intro, fun od => ⟨.ref oa, rfl, oa, od, rfl, .inl ⟨kvs, upd_same, fun b hb => ?_⟩⟩⟩
          refine lc_acc walk_keys (fun i => (ns[i]?).map fun z => V.bl (d.2 z)) (by omega) hb (fun _ s => s _ _ upd_same) (fun i x G1 G2 Ky2 Kn2 hi3 s3 y2 ky2 kn2 => ?_) fun G1 s3 e3 => ?_
          · obtain ⟨rfl, kk, v, hkv, rfl⟩ := y2
            have e1 : (kvs.map (·.1))[i]? = some kk := by
              rw [List.getElem?_map, hkv]
              rfl
            rw [kmp, List.getElem?_map] at e1
            cases e4 : ns[i]? with
            | none =>
              rw [e4] at e1
              cases e1
            | some z =>
              rw [e4] at e1
              have e5 : kk = .inl (z : Int) := (Option.some.inj e1).symm
              subst e5
              obtain ⟨v, hv, hvs⟩ := hds.getL ko3 s3 z
              exact ⟨rfl, _, rfl, .ref d.1, rfl, d.1, _, rfl, hv, ky2 _ _ (by rw [e4, Option.map_some, ← hvs]) (Same.refl _)⟩
          · have eb : (List.range kvs.length).filterMap (fun i => (ns[i]?).map fun z => V.bl (d.2 z)) = (ns.map d.2).map V.bl := by
              rw [hkl, range_fm, List.map_map]
              rfl
            rw [eb] at e3
            refine ⟨s3 _ _ upd_same, ?_⟩
            have hbo : b ≠ oa := fun q => by
              rw [q, upd_same] at hb
              cases hb
            have su : Same H3 (upd G1 oa (.dK kvs)) := same_unlock ko3 s3
            refine ⟨b, ns.map d.2, rfl, SqL.of (by rw [upd_ne hbo]; exact e3), _, rfl, ?_⟩
            have ea : (ns.map d.2).any id = ns.any d.2 := by
              rw [List.any_map]
              rfl
            rw [ea]
            refine ite2 (fun h => ⟨_, rfl, ky _ _ (if_pos h) su⟩) fun h => kn (if_neg h) _ su
        · rw [rf_len, range_fmb, fm_filter] at e2
          have hsm := sn_filter (fun g => ns.any g) Ls
          have hmL : ∀ y ∈ Ls.filter (fun y => ns.any y.2), y ∈ Ls := fun y hy => (List.mem_filter.mp hy).1
          generalize (Ls.filter fun y => ns.any y.2) = Ms at e2 hsm hmL
          refine ⟨.ref m, rfl, m, _, rfl, .inl (SqL.of e2), (rf Ms).length, 1, rfl, rfl, _, rfl, ?_⟩
          have s12 := s1.trans s2
          by_cases hM1 : Ms.length = 1
          · rw [decide_eq_true (show (rf Ms).length = 1 by rw [rf_len]; exact hM1)]
            refine iteF ?_
            obtain ⟨y, rfl⟩ : ∃ y, Ms = [y] := List.length_eq_one_iff.mp hM1
            have hy := hmL y (List.mem_singleton.mpr rfl)
            have hyd : DS H1 y.1 y.2 := ht1 y hy
            have stl := stl_one hL hi ho hex (p := fun g => ns.any g) hp hsm.symm
            refine ⟨.ref pa, rfl, pa, rfl, ⟨_, s12.seq hpa⟩, fun D2 hD2 => ?_⟩
            refine dc_true walk_list (fun z => !y.2 z) (nv_len ps) hpb hD2 (fun _ s => s.seq (s12.seq hpa)) (fun i z H3 Ky Kn hz s ky kn => ?_) fun H3 kv2 F2 s3 e3 nd2 hF2 => ?_
            · obtain ⟨v, hv, hvs⟩ := (mo_ds _ _ _ _ (s2.trans s) hyd).get z
              refine ⟨rfl, _, rfl, .ref m, rfl, m, _, 0, .ref y.1, rfl, rfl, SqL.of (s _ _ e2), atI_nat (j := 0) rfl, y.1, _, rfl, hv, _, rfl, ?_⟩
              cases v with
              | none => exact iteT ⟨_, rfl, ky (by rw [← hvs]; rfl)⟩
              | some v => exact iteF (kn (by rw [← hvs]; rfl))
            · refine ⟨.ref m, rfl, m, _, 0, .ref y.1, rfl, rfl, SqL.of (s3 _ _ e2), atI_nat (j := 0) rfl, by show 2 ≤ sizeLine; decide, fun q hq => ?_⟩
              have sq := same_new (o := .tup [.ref D2, .ref y.1]) hq
              refine k2 _ q D2 y.1 (oth ps y.2) y.2 (s12.trans (s3.trans sq)) (SqT.of upd_same) (mo_ds _ _ _ _ sq ⟨kv2, F2, e3, nd2, fun z => ?_⟩) (mo_ds _ _ _ _ (s2.trans (s3.trans sq)) hyd) stl
              rw [hF2]
              by_cases c : z ∈ ps ∧ (!y.2 z) = true
              · rw [if_pos c]
                show true = (decide (z ∈ ps) && !y.2 z)
                rw [decide_eq_true c.1, c.2]
                rfl
              · rw [if_neg c]
                show false = (decide (z ∈ ps) && !y.2 z)
                cases q1 : (decide (z ∈ ps) && !y.2 z) with
                | false => rfl
                | true =>
                  rw [Bool.and_eq_true] at q1
                  exact absurd ⟨of_decide_eq_true q1.1, q1.2⟩ c
          · rw [decide_eq_false (show ¬ (rf Ms).length = 1 by rw [rf_len]; exact hM1)]
            refine iteT ?_
            refine k1 H2 s12 fun f hf h1 h2 => stl_many hL ho hex (p := fun g => ns.any g) hp (by rw [← hsm, sn_len]; exact hM1) hf h1 h2
end
end Fb

/-! FbY3 -/
set_option maxHeartbeats 4000000
/-! bonds_of_piece -/
namespace Fb
open PySem PySem.Spec PyProof.Rows L2
theorem merge_app : ∀ (more acc : List (Key × V)), (∀ p ∈ more, p.1 ∉ acc.map (·.1)) → (more.map (·.1)).Nodup → mergeK acc more = acc ++ more
  | [], acc, _, _ => by
    show acc = acc ++ []
    rw [List.append_nil]
  | p :: r, acc, h, nd => by
    rw [List.map_cons] at nd
    obtain ⟨n1, n2⟩ := List.nodup_cons.mp nd
    have e : valV acc p.1 = none := by
      cases q : valV acc p.1 with
      | none => rfl
      | some v => exact absurd (valV_in q) (h p (List.mem_cons_self ..))
    show mergeK (putK acc p.1 p.2) r = _
    rw [putK_new p.2 e, merge_app r _ (fun q hq m => ?_) n2, List.append_assoc]
    · rfl
    · rw [List.map_append] at m
      rcases List.mem_append.mp m with m | m
      · exact h q (List.mem_cons_of_mem _ hq) m
      · have : q.1 = p.1 := List.mem_singleton.mp m
        exact n1 (by rw [← this]; exact List.mem_map.mpr ⟨q, hq, rfl⟩)
theorem ND.merge {kvs : List (Key × V)} {F : Nat → Option V} (h : ND kvs F) : mergeK [] kvs = kvs := by
  rw [merge_app kvs [] (fun p _ => by simp) h.nd]
  rfl
/-- {**d, n: True} -/
theorem spread_ds {td tk tv : TE} {σ : L2.St} {H : Hp} {Q : VK} {a : Addr} {f : Nat → Bool} {n : Nat} (h : DS H a f) (hb : ∀ z, f z = true → z < 1000) (hd : ∀ H' (Q' : VK), Same H H' → Q' (.ref a) H' → td σ H' Q') (hk : ∀ H' (Q' : VK), Same H H' → Q' (.int (n : Int)) H' → tk σ H' Q') (hv : ∀ H' (Q' : VK), Q' (.bl true) H' → tv σ H' Q')
    (hQ : ∀ p H', Same H H' → DS H' p (fun z => if z = n then true else f z) → Q (.ref p) H') : tSpread td tk tv σ H Q := by
  intro p hp
  have sp := same_new (o := .dK []) hp
  obtain ⟨kvs, F, h1, h2, h3⟩ := h
  have hap : a ≠ p := ne_of_none h1 hp
  have hl : kvs.length ≤ 1000 := h2.len fun z hz => by
    cases q : F z with
    | none => rfl
    | some v =>
      have := hb z (by rw [← h3, q]; rfl)
      omega
  refine hd _ _ sp ⟨a, kvs, rfl, sp _ _ h1, hap, upd_same, hl, fun q hq => ?_⟩
  rw [h2.merge, upd_upd] at hq ⊢
  have sq := same_new (o := .dK []) hq
  have hpq : p ≠ q := fun e => by
    rw [← e, upd_same] at hq
    cases hq
  have s2 : Same H (upd H p (.dK kvs)) := same_new hp
  refine hk _ _ (s2.trans sq) (hv _ _ ⟨.inl (n : Int), rfl, upd_same, by rw [upd_ne hpq, upd_same], ?_⟩)
  have hHq : H q = none := s2.free hq
  refine hQ p _ (same_at (same_at (s2.trans sq) hHq) hp) ⟨_, _, upd_same, h2.put n (.bl true), fun z => ?_⟩
  show (if z = n then some (V.bl true) else F z).isSome = if z = n then true else f z
  by_cases q : z = n
  · rw [if_pos q, if_pos q]
    rfl
  · rw [if_neg q, if_neg q]
    exact h3 z
theorem cons_i {ta : TE} {tr : TA} {σ : L2.St} {H : Hp} {Q : List V → Hp → Prop} (h : ta σ H fun x H1 => tr σ H1 fun xs H2 => Q (x :: xs) H2) : tCons ta tr σ H Q := h
theorem tup_i {t : TA} {σ : L2.St} {H : Hp} {Q : VK} (h : t σ H fun xs H1 => xs.length ≤ sizeLine ∧ ∀ p, H1 p = none → Q (.ref p) (upd H1 p (.tup xs))) : tTup t σ H Q := h
/-- a state that waits -/
def WtB (K : PySem.W.Frag) (H : Hp) (a : Addr) (st : (Nat → Bool) × (Nat → Bool)) : Prop := ∃ ia oa, SqT K H a [.ref ia, .ref oa] ∧ DS H ia st.1 ∧ DS H oa st.2
theorem mo_wtb {K : PySem.W.Frag} : Mo (WtB K) := fun _ _ _ _ e ⟨ia, oa, h1, h2, h3⟩ => ⟨ia, oa, e.seqT h1, mo_ds _ _ _ _ e h2, mo_ds _ _ _ _ e h3⟩
/-- the lists found and waiting -/
structure BgS (K : PySem.W.Frag) (H0 : Hp) (fl w : Addr) (fs : List (Addr × List Nat)) (H : Hp) (gs : List (Addr × List Nat)) (ws : List (Addr × ((Nat → Bool) × (Nat → Bool)))) : Prop where
  sm : Same (wol [fl] H0) (wol [fl, w] H)
  li : H fl = some (.lst (rf (fs ++ gs)))
  wa : H w = some (.lst (rf ws))
  ne : fl ≠ w
  no : wol [fl] H0 w = none
  ft : Tg (Nts K) (wol [fl, w] H) (fs ++ gs)
  wt : Tg (WtB K) (wol [fl, w] H) ws
section
variable {K : PySem.W.Frag} {H0 H H' : Hp} {fl w : Addr} {fs gs : List (Addr × List Nat)} {ws : List (Addr × ((Nat → Bool) × (Nat → Bool)))}
theorem BgS.new (h : BgS K H0 fl w fs H gs ws) (s : Same H H') : BgS K H0 fl w fs H' gs ws :=
  ⟨h.sm.trans (wol_mono s), s _ _ h.li, s _ _ h.wa, h.ne, h.no, h.ft.mono mo_nts (wol_mono s), h.wt.mono mo_wtb (wol_mono s)⟩
theorem BgS.tup (h : BgS K H0 fl w fs H gs ws) {a : Addr} {xs : List V} (hx : SqT K H a xs) : SqT K (wol [fl, w] H) a xs := by
  refine sqt_wol (fun d hd ys r => ?_) hx
  rcases List.mem_cons.mp hd with rfl | hd
  · rcases r with r | ⟨o, r⟩ <;> · rw [h.li] at r; cases r
  · rw [List.mem_singleton.mp hd] at r
    rcases r with r | ⟨o, r⟩ <;> · rw [h.wa] at r; cases r
theorem BgS.ds (h : BgS K H0 fl w fs H gs ws) {a : Addr} {f : Nat → Bool} (hx : DS H a f) : DS (wol [fl, w] H) a f :=
  hx.wol (by
    intro m
    rcases List.mem_cons.mp m with m | m
    · exact hx.nel h.li m
    · exact hx.nel h.wa (List.mem_singleton.mp m))
theorem BgS.putF (h : BgS K H0 fl w fs H gs ws) {a : Addr} {g : List Nat} (hx : Nts K H a g) : BgS K H0 fl w fs (upd H fl (.lst (rf (fs ++ gs) ++ [V.ref a]))) (gs ++ [(a, g)]) ws := by
  have e : wol [fl, w] (upd H fl (.lst (rf (fs ++ gs) ++ [V.ref a]))) = wol [fl, w] H := wol_upd (by simp)
  refine ⟨by rw [e]; exact h.sm, by rw [upd_same, ← List.append_assoc, rf_snoc], by rw [upd_ne h.ne.symm]; exact h.wa, h.ne, h.no, ?_, by rw [e]; exact h.wt⟩
  rw [e, ← List.append_assoc]
  intro p hp
  rcases List.mem_append.mp hp with m | m
  · exact h.ft p m
  · rw [List.mem_singleton.mp m]
    exact h.tup hx
theorem BgS.putW (h : BgS K H0 fl w fs H gs ws) {a ia oa : Addr} {st : (Nat → Bool) × (Nat → Bool)} (ht : SqT K H a [.ref ia, .ref oa]) (hi : DS H ia st.1) (ho : DS H oa st.2) : BgS K H0 fl w fs (upd H w (.lst (rf ws ++ [V.ref a]))) gs (ws ++ [(a, st)]) := by
  have e : wol [fl, w] (upd H w (.lst (rf ws ++ [V.ref a]))) = wol [fl, w] H := wol_upd (by simp)
  refine ⟨by rw [e]; exact h.sm, by rw [upd_ne h.ne]; exact h.li, by rw [upd_same, rf_snoc], h.ne, h.no, by rw [e]; exact h.ft, ?_⟩
  rw [e]
  intro p hp
  rcases List.mem_append.mp hp with m | m
  · exact h.wt p m
  · rw [List.mem_singleton.mp m]
    exact ⟨ia, oa, h.tup ht, h.ds hi, h.ds ho⟩
theorem BgS.popW {x : Addr × ((Nat → Bool) × (Nat → Bool))} (h : BgS K H0 fl w fs H gs (ws ++ [x])) : BgS K H0 fl w fs (upd H w (.lst (rf ws))) gs ws ∧ WtB K (upd H w (.lst (rf ws))) x.1 x.2 := by
  have e : wol [fl, w] (upd H w (.lst (rf ws))) = wol [fl, w] H := wol_upd (by simp)
  refine ⟨⟨by rw [e]; exact h.sm, by rw [upd_ne h.ne]; exact h.li, upd_same, h.ne, h.no, by rw [e]; exact h.ft, ?_⟩, ?_⟩
  · rw [e]
    exact fun p hp => h.wt p (List.mem_append_left _ hp)
  · refine mo_wtb _ _ _ _ wol_le (?_ : WtB K (wol [fl, w] (upd H w (.lst (rf ws)))) x.1 x.2)
    rw [e]
    exact h.wt x (List.mem_append_right _ (List.mem_singleton.mpr rfl))
theorem BgS.end (h : BgS K H0 fl w fs H gs ws) : Same (wol [fl] H0) (wol [fl] H) ∧ Tg (Nts K) (wol [fl] H) (fs ++ gs) := by
  have e : Same (wol [fl, w] H) (wol [fl] H) := wol_sub (by simp)
  exact ⟨h.sm.trans e, h.ft.mono mo_nts e⟩
end
-- bonds_of_piece: slots 0=web 1=near 2=piece 3=found 4=waiting 5=inner 6=outer 7=settled 8=left 9=edge 10=spot 11=tie 12=other 13=low 14=high; cells near inner outer left
abbrev sbonds_of_piece : Stmt := topS 19
abbrev Nbonds_of_piece : List Str := ["web", "near", "piece", "found", "waiting", "inner", "outer", "settled", "left", "edge", "spot", "tie", "other", "low", "high"]
theorem scbonds_of_piece : FnScope Nbonds_of_piece ["web", "near", "piece", "found"] (defScope sbonds_of_piece) := ⟨rfl, rfl, rfl, by decide +kernel, rfl, by decide +kernel, by decide +kernel⟩
section
variable {P : Program} {w : World} {K : PySem.W.Frag} {mg : Str → Option Value} {base : Heap} {mt : Nat}
def sp_bonds_of_piece (K : PySem.W.Frag) : Sp := fun vs H Q _ => ∃ (p D pa fl : Addr) (n : Nat) (E : List (Nat × Nat)) (ls : List Addr) (Pf : Nat → List (Addr × (Nat × Nat))) (ps : List Nat) (fs : List (Addr × List Nat)), vs = [.ref p, .ref D, .ref pa, .ref fl] ∧ Web K (wol [fl] H) p (n, E) ∧ WebOk n E ∧
  PRows (wol [fl] H) D ls Pf ∧ ls.length = n ∧ NRow E E.length Pf ∧ (∀ x, (Pf x).length ≤ 80) ∧ SqL K (wol [fl] H) pa (nv ps) ∧ Pie E n ps ∧ 1 ≤ ps.length ∧ ps.length ≤ 6 ∧ H fl = some (.lst (rf fs)) ∧ Tg (Nts K) (wol [fl] H) fs ∧ fs.length + 63 ≤ 1000 ∧
  ∀ H' gs, Same (wol [fl] H) (wol [fl] H') → H' fl = some (.lst (rf (fs ++ gs))) → Tg (Nts K) (wol [fl] H') (fs ++ gs) → (∀ g ∈ sn gs, BondOk E g) → (∀ c, MinCut E c → (∃ t, t < E.length ∧ c.testBit t = true ∧ (en E t).1 ∈ ps) → ∃ g ∈ sn gs, mk g = c) → gs.length ≤ 63 → Q .non H'
theorem ok_bonds_of_piece {f : Addr} {fd : FuncData} (F : Fun K "bonds_of_piece" "bonds_of_piece" sbonds_of_piece f fd) (T : Bi mg mt) (csettled_sides : C8.Cal P w K mg base 2 "settled_sides" (sp_settled_sides K) []) : FnOk P w K mg base CX0 3 f fd ["web", "near", "piece", "found"] (sp_bonds_of_piece K) := by
  refine okC F scbonds_of_piece (fun vs H Q E h => ?_) (fun cdv A outer s H vs Q E hr hcd h => ?_)
  · obtain ⟨p, D, pa, fl, n, E, ls, Pf, ps, fs, rfl, _⟩ := h
    rfl
  · obtain ⟨p, D, pa, fl, n, E, ls, Pf, ps, fs, rfl, hweb, hW, hR, hls, hN, hPl, hpa, hP, hp1, hp6, hfl, hft, hcap, k⟩ := h
    have hn := hW.nb
    have hu := hu_of hr
    obtain ⟨ta, hp, es, rfl, ht, hg⟩ := hweb
    have heb := hW.eb
    refine ⟨_, (pss_cons (ps_set (i := 4) scbonds_of_piece.nd rfl (Or.inl rfl) (pe_lst (pa_cons (pe_tup (pa_cons (pe_disp (pps_cons (pe_ix ix_list (pv 2) pe_int (fun _ _ => rfl)) pe_bl pps_nil) (by rfl) (by rfl) (fun z => by cases z) (by decide)) (pa_cons pe_dnewK pa_nil))) pa_nil)))
      (pss_one (ps_while PassesOwn.never (pt_truthK K (pv 4) (by intro _; rfl))
        (pss_cons (ps_asg (pe_bm0 PySem.F.plainAttrs_list PySem.F.slot_list_pop PySem.F.type_list_pop mt_pop (pv 4)) (pg_tup (n := 2) rfl (pgs_cons (pg_name (i := 5) scbonds_of_piece.nd rfl (Or.inr rfl)) (pgs_cons (pg_name (i := 6) scbonds_of_piece.nd rfl (Or.inr rfl)) pgs_nil))))
        (pss_cons (ps_set (i := 7) scbonds_of_piece.nd rfl (Or.inl rfl) (C8.pe_c csettled_sides hr (by decide) (by rfl) (pa_cons (pv 1) (pa_cons (pv 2) (pa_cons (pv 5) (pa_cons (pv 6) pa_nil))))))
        (pss_cons (ps_if (pt_cmpR op_isN (pv 7) pe_non (nomark _))
          (pss_one ps_continue)
          pss_nil)
        (pss_cons (ps_asg (pv 7) (pg_tup (n := 2) rfl (pgs_cons (pg_name (i := 5) scbonds_of_piece.nd rfl (Or.inr rfl)) (pgs_cons (pg_name (i := 8) scbonds_of_piece.nd rfl (Or.inr rfl)) pgs_nil))))
        (pss_cons (ps_setLc (i := 9) (own := [("spot", 10)]) rfl scbonds_of_piece.nd rfl rfl (sw_true rfl rfl rfl (by decide +kernel)) (pi_list (pe_callB (call_sortedDI rfl) (by rfl) T.sorted (by decide +kernel) (pa_cons (pv 8) pa_nil))) (blkOk_by (N := Nbonds_of_piece) (sc := (defScope sbonds_of_piece)) (by decide +kernel)) (fun _ _ _ _ _ => (pg_name (i := 10) scbonds_of_piece.nd rfl (Or.inl rfl))) (fun _ _ _ _ _ => (pts_one (PW.pt (pw_and (pt_cmp (pc_dnotin hu (pv 10) (pv 6))) (pw_and1 (pt_val (pe_callB (cr_anyK K rfl) (by rfl) T.any (by decide +kernel) (pa_cons (pe_lc (own := [("tie", 11), ("other", 12)]) rfl scbonds_of_piece.nd (pi_listK K (pe_ix (ix_listK K) (pv 1) (pv 10) (fun _ _ => rfl))) (blkOk_by (N := Nbonds_of_piece) (sc := (relS (lcSc ((whBody ((defBody sbonds_of_piece).getD 1 (topS 0))).getD 4 (topS 0))) (defScope sbonds_of_piece))) (by decide +kernel)) (fun _ _ _ _ _ => (pg_tupK K (n := 2) rfl (pgs_cons (pg_name (i := 11) scbonds_of_piece.nd rfl (Or.inl rfl)) (pgs_cons (pg_name (i := 12) scbonds_of_piece.nd rfl (Or.inl rfl)) pgs_nil)))) (fun _ _ _ _ _ => pts_nil) (fun _ _ _ _ _ => (pe_cmp (pc_din hu (pv 12) (pv 5))))) pa_nil)))))))) (fun _ _ _ _ _ => (pv 10)))
        (pss_cons (ps_if (pt_truthK K (pv 9) (by intro _; rfl))
          (pss_cons (ps_expr (pe_bm PySem.F.plainAttrs_list PySem.F.slot_list_append PySem.F.type_list_append mt_append (pv 4) (pa_cons (pe_tup (pa_cons (pe_spread (pv 5) (pe_ix ix_list (pv 9) pe_int (fun _ _ => rfl)) pe_bl) (pa_cons (pv 6) pa_nil))) pa_nil)))
          (pss_cons (ps_expr (pe_bm PySem.F.plainAttrs_list PySem.F.slot_list_append PySem.F.type_list_append mt_append (pv 4) (pa_cons (pe_tup (pa_cons (pv 5) (pa_cons (pe_spread (pv 6) (pe_ix ix_list (pv 9) pe_int (fun _ _ => rfl)) pe_bl) pa_nil))) pa_nil)))
          (pss_one ps_continue)))
          pss_nil)
        (pss_cons (ps_expr (pe_bm PySem.F.plainAttrs_list PySem.F.slot_list_append PySem.F.type_list_append mt_append (pv 3) (pa_cons (pe_tupleOf (by rfl) T.tuple (pe_lc (own := [("tie", 11), ("low", 13), ("high", 14)]) rfl scbonds_of_piece.nd (pi_enumT (by rfl) T.enumerate (pa_cons (pe_ix ix_tup (pv 0) pe_int (fun _ _ => rfl)) pa_nil)) (blkOk_by (N := Nbonds_of_piece) (sc := (defScope sbonds_of_piece)) (by decide +kernel)) (fun _ _ _ _ _ => (pg_tupK K (n := 2) rfl (pgs_cons (pg_name (i := 11) scbonds_of_piece.nd rfl (Or.inl rfl)) (pgs_cons (pg_tupK K (n := 2) rfl (pgs_cons (pg_name (i := 13) scbonds_of_piece.nd rfl (Or.inl rfl)) (pgs_cons (pg_name (i := 14) scbonds_of_piece.nd rfl (Or.inl rfl)) pgs_nil))) pgs_nil)))) (fun _ _ _ _ _ => (pts_one (PW.pt (pw_and (pt_cmpR op_ne (pe_cmp (pc_din hu (pv 13) (pv 5))) (pe_cmp (pc_din hu (pv 14) (pv 5))) (nomark _)) (pw_and1 (PW.pt (pw_or (pt_cmp (pc_din hu (pv 13) (pv 8))) (pw_or1 (pt_cmp (pc_din hu (pv 14) (pv 8))))))))))) (fun _ _ _ _ _ => (pv 11)))) pa_nil)))
        (pss_one (ps_if (pt_cmpR op_gtN (pe_callB call_len_seq (by rfl) T.len (by decide +kernel) (pa_cons (pv 3) pa_nil)) (pe_glob (v := .int 1000) (by rfl) T.maxl ⟨_, rfl⟩) (nomark _))
          (pss_one ps_never)
          pss_nil)))))))))))), ?_⟩
    have hpb : ∀ x ∈ ps, x < 1000 := fun x hx => by have := hP.lt x hx; omega
    obtain ⟨x0, hx0⟩ : ∃ x, ps[0]? = some x := ⟨_, List.getElem?_eq_getElem (by omega)⟩
    have hx0p := mem_at hx0
    intro d hd
    have sa := same_new (o := .dK []) hd
    refine ⟨.ref pa, rfl, pa, _, 0, .int (x0 : Int), rfl, rfl, sa.seq (wol_le.seq hpa), atI_nat (j := 0) (nv_at hx0), upd_same, [(.inl (x0 : Int), .bl true)], rfl, by show 1 ≤ 15; decide, ?_⟩
    have em : mergeK [] [((.inl (x0 : Int) : Key), V.bl true)] = putK [] (.inl (x0 : Int)) (.bl true) := rfl
    rw [em, upd_upd]
    have sd := same_new (o := .dK (putK [] (.inl (x0 : Int)) (.bl true))) hd
    have hdd : DS (upd H d (.dK (putK [] (.inl (x0 : Int)) (.bl true)))) d fun x => decide (x = x0) := ⟨_, _, upd_same, ND.nil.put x0 (.bl true), fun z => by
      by_cases q : z = x0
      · rw [if_pos q]
        exact (decide_eq_true q).symm
      · rw [if_neg q]
        exact (decide_eq_false q).symm⟩
    generalize upd H d (.dK (putK [] (.inl (x0 : Int)) (.bl true))) = Ha at sd hdd ⊢
    intro o ho
    have so := same_new (o := .dK []) ho
    have hdo : DS (upd Ha o (.dK [])) o fun _ => false := ⟨_, _, upd_same, ND.nil, fun z => rfl⟩
    generalize upd Ha o (.dK []) = Hb at so hdo ⊢
    refine ⟨by show 2 ≤ sizeLine; decide, fun t ht' => ?_⟩
    have st := same_new (o := .tup [.ref d, .ref o]) ht'
    have et := upd_same (H := Hb) (a := t) (o := .tup [.ref d, .ref o])
    generalize upd Hb t (.tup [.ref d, .ref o]) = Hc at st et ⊢
    refine ⟨by show 1 ≤ sizeLine; decide, fun w hw => ?_⟩
    have s0 : Same H Hc := (sd.trans so).trans st
    have hnw : H w = none := s0.free hw
    have hflw : fl ≠ w := ne_of_none (s0 _ _ hfl) hw
    have hlc : BgS K H fl w fs (upd Hc w (.lst [])) [] [] := by
      have ew : wol [fl, w] (upd Hc w (.lst [])) = wol [fl, w] Hc := wol_upd (by simp)
      have sm : Same (wol [fl] H) (wol [fl, w] Hc) := by
        have e2 : wol [fl, w] Hc = wol [w] (wol [fl] Hc) := by
          funext b
          unfold wol
          by_cases q1 : b = fl <;> by_cases q2 : b = w <;> simp [q1, q2]
        rw [e2]
        exact le_wol (wol_mono s0) fun d hd => by rw [List.mem_singleton.mp hd]; exact wol_none hnw
      refine ⟨by rw [ew]; exact sm, by rw [upd_ne hflw, List.append_nil]; exact s0 _ _ hfl, upd_same, hflw, wol_none hnw, by rw [ew, List.append_nil]; exact hft.mono mo_nts sm, fun _ h => by simp at h⟩
    have swn := same_new (o := .lst []) hw
    have hlc := hlc.putW (a := t) (ia := d) (oa := o) (st := (fun x => decide (x = x0), fun _ => false)) (swn.seqT (SqT.of et)) (mo_ds _ _ _ _ ((so.trans st).trans swn) hdd) (mo_ds _ _ _ _ (st.trans swn) hdo)
    rw [upd_upd] at hlc
    have hlc : BgS K H fl w fs (upd Hc w (.lst [.ref t])) [] [(t, (fun x => decide (x = x0), fun _ => false))] := hlc
    generalize upd Hc w (.lst [.ref t]) = H1 at hlc ⊢
    clear swn s0 st et hdo so sd hdd hw sa hd ho ht'
    have hw1 := wt_start hx0p hp6
    refine while_m (fun m σ H' => ∃ v5 v6 v7 v8 v9 v10 v11 v12 v13 v14 gs ws, σ = [some (.ref p), some (.ref D), some (.ref pa), some (.ref fl), some (.ref w), v5, v6, v7, v8, v9, v10, v11, v12, v13, v14] ∧ BgS K H fl w fs H' gs ws ∧ (∀ g ∈ sn gs, BondOk (sn es) g) ∧ (∀ st ∈ sn ws, OkB ps x0 st) ∧ CmpB (sn es) ps (sn gs) (sn ws) ∧ m = wts ps (sn ws) ∧ gs.length + m ≤ 63)
      (wts ps [(fun x => decide (x = x0), fun _ => false)]) ⟨none, none, none, none, none, none, none, none, none, none, [], _, rfl, hlc, fun g hg => by simp [sn] at hg, fun st hst' => ?_, fun c hc ⟨u, hu1, hu2, hu3⟩ => .inr ⟨_, List.mem_singleton.mpr rfl, cov_start hP hc hu1 hu2 hu3 hx0p⟩, rfl, by show 0 + (wt ps (fun x => decide (x = x0)) (fun _ => false) + 0) ≤ 63; omega⟩ ?_
    · rw [List.mem_singleton.mp hst']
      exact ⟨fun x hx => by rw [of_decide_eq_true hx]; exact hx0p, fun x hx => by (cases hx), decide_eq_true rfl⟩
    · clear hlc
      rintro m σ H2 ⟨v5, v6, v7, v8, v9, v10, v11, v12, v13, v14, gs, ws, rfl, R2, hgo, hso, hcm, rfl, hcnt⟩
      refine ⟨.ref w, rfl, !(rf ws).isEmpty, .inl ⟨_, SqL.of R2.wa, rfl⟩, ?_⟩
      rcases List.eq_nil_or_concat ws with rfl | ⟨ws', x, rfl⟩
      · refine iteF ?_
        obtain ⟨z1, z2⟩ := R2.end
        refine k H2 gs z1 R2.li z2 hgo (fun c h1 h2 => ?_) (by omega)
        rcases hcm c h1 h2 with q | ⟨st, hst', _⟩
        · exact q
        · simp [sn] at hst'
      · rw [List.concat_eq_append] at *
        have hne' : (!(rf (ws' ++ [x])).isEmpty) = true := by
          rw [rf_snoc]
          cases rf ws' <;> rfl
        rw [hne']
        refine iteT ?_
        obtain ⟨a, fi, fo⟩ := x
        obtain ⟨R3, ia, oa, hx1, hx2, hx3⟩ := R2.popW
        have hx1 : SqT K (upd H2 w (.lst (rf ws'))) a [.ref ia, .ref oa] := hx1
        have hx2 : DS (upd H2 w (.lst (rf ws'))) ia fi := hx2
        have hx3 : DS (upd H2 w (.lst (rf ws'))) oa fo := hx3
        have hox : OkB ps x0 (fi, fo) := hso _ (by rw [sn_snoc]; exact List.mem_append_right _ (List.mem_singleton.mpr rfl))
        have hso' : ∀ st ∈ sn ws', OkB ps x0 st := fun st h => hso st (by rw [sn_snoc]; exact List.mem_append_left _ h)
        have hwe : wts ps (sn (ws' ++ [(a, fi, fo)])) = wts ps (sn ws') + wt ps fi fo := by rw [sn_snoc, wts_snoc]
        rw [hwe] at hcnt ⊢
        have hwp := wt_pos ps fi fo
        refine ⟨fun σ' H' => ∃ m', m' < wts ps (sn ws') + wt ps fi fo ∧ ∃ v5 v6 v7 v8 v9 v10 v11 v12 v13 v14 gs ws, σ' = [some (.ref p), some (.ref D), some (.ref pa), some (.ref fl), some (.ref w), v5, v6, v7, v8, v9, v10, v11, v12, v13, v14] ∧ BgS K H fl w fs H' gs ws ∧ (∀ g ∈ sn gs, BondOk (sn es) g) ∧ (∀ st ∈ sn ws, OkB ps x0 st) ∧ CmpB (sn es) ps (sn gs) (sn ws) ∧ m' = wts ps (sn ws) ∧ gs.length + m' ≤ 63, fun σ' H' h => h, ?_⟩
        refine ⟨.ref w, rfl, .inl ⟨rfl, _, SqL.of R2.wa⟩, w, _, .ref a, rfl, rfl, R2.wa, by rw [rf_snoc]; exact get_last _ _, ?_⟩
        have hdl : (rf (ws' ++ [(a, fi, fo)])).dropLast = rf ws' := by
          rw [rf_snoc]
          exact List.dropLast_concat
        rw [hdl]
        generalize upd H2 w (.lst (rf ws')) = H3 at R3 hx1 hx2 hx3 ⊢
        refine ⟨a, _, rfl, hx1, rfl, _, _, rfl, _, _, rfl, rfl, ?_⟩
        have s3 : Same (wol [fl] H) H3 := R3.sm.trans wol_le
        refine ⟨_, rfl, _, rfl, _, rfl, _, rfl, D, ls, Pf, n, sn es, pa, ps, ia, fi, oa, fo, rfl, hR.same s3, hls, hW, hN, hPl, s3.seq hpa, hP, hx2, hx3, hox.i, hox.o, fun H4 s4 hno => ?_, fun H4 r ja la fj fl' s4 hr4 hj4 hl4 stl => ?_⟩
        · refine ⟨_, rfl, rfl, _, rfl, ?_⟩
          rw [decide_eq_true rfl]
          refine iteT ?_
          refine ⟨wts ps (sn ws'), by omega, _, _, _, _, _, _, _, _, _, _, gs, ws', rfl, R3.new s4, hgo, hso', fun c h1 h2 => ?_, rfl, by omega⟩
          rcases hcm c h1 h2 with q | ⟨st, hst', q⟩
          · exact .inl q
          · rw [sn_snoc] at hst'
            rcases List.mem_append.mp hst' with z | z
            · exact .inr ⟨st, z, q⟩
            · rw [List.mem_singleton.mp z] at q
              obtain ⟨f, f1, _, f3, f4⟩ := q
              exact (hno f f1 f3 f4).elim
        · refine ⟨_, rfl, rfl, _, rfl, ?_⟩
          rw [decide_eq_false (fun z => by cases z)]
          refine iteF ?_
          refine ⟨_, rfl, r, _, rfl, hr4, rfl, _, _, rfl, _, _, rfl, rfl, ?_⟩
          have R4 := R3.new s4
          have s04 : Same (wol [fl] H) H4 := s3.trans s4
          have hoa4 := mo_ds _ _ _ _ s4 hx3
          obtain ⟨kvl, nsl, kl1, kl2, kl3, kl4⟩ := hl4.ex
          have hnl : nsl.length ≤ n := nat_nodup n nsl kl3 fun x hx => hP.lt x (stl.sub x ((kl4 x).mp hx))
          refine ⟨.ref la, rfl, la, kvl, iv nsl, rfl, .inl kl1, by rw [kl2]; unfold iv; rw [List.map_map]; rfl, by rw [iv_len]; omega, fun ys q hperm hpw hq => ?_⟩
          obtain ⟨zs, rfl, hza, hzm⟩ := asc_of hpw hperm kl3
          have sq := same_new (o := .lst ((iv zs).map V.int)) hq
          have eq5 : (upd H4 q (.lst ((iv zs).map V.int))) q = some (.lst (nv zs)) := upd_same
          generalize upd H4 q (.lst ((iv zs).map V.int)) = H5 at sq eq5 ⊢
          have hzl : ∀ z, z ∈ zs ↔ fl' z = true := fun z => (hzm z).trans (kl4 z)
          have hzn : zs.length ≤ n := nat_nodup n zs (hza.imp fun h => Nat.ne_of_lt h) fun x hx => hP.lt x (stl.sub x ((hzl x).mp hx))
          refine ⟨q, rfl, ⟨_, SqL.of eq5⟩, fun D2 hD2 => ?_⟩
          refine lc_acc walk_list (fun i => (zs[i]?).bind fun z => if (!fo z && (sn (Pf z)).any fun e => fj e.2) = true then some (V.int (z : Int)) else none) (by rw [nv_len]; omega) hD2 (fun _ s => SqL.of (s _ _ eq5)) (fun i y H6 H7 Ky Kn hi s y1 ky kn => ?_) fun H6 s6 e6 => ?_
          · obtain ⟨rfl, hy⟩ := y1
            obtain ⟨z, hz, rfl⟩ := nv_get hy
            rw [hz] at ky kn
            simp only [Option.bind_some] at ky kn
            have s47 := sq.trans s
            obtain ⟨v, hv, hvs⟩ := (mo_ds _ _ _ _ s47 hoa4).get z
            refine ⟨rfl, _, rfl, .ref oa, rfl, oa, _, rfl, hv, _, rfl, ?_⟩
            cases hfz : fo z with
            | true =>
              rw [hfz] at hvs
              cases v with
              | none => cases hvs
              | some v => exact iteF (iteF (kn (by rw [hfz]; rfl) _ (Same.refl _)))
            | false =>
              rw [hfz] at hvs
              cases v with
              | some v => cases hvs
              | none =>
                refine iteT ?_
                rw [hfz] at ky kn
                have hzn' : z < n := hP.lt z (stl.sub z ((hzl z).mp (mem_at hz)))
                obtain ⟨ra, hra, gra, hrr⟩ := hR.ro.get (i := z) (by omega)
                have hrs : ∀ H', Same H7 H' → SqL K H' ra (rf (Pf z)) := fun H' s => SqL.of (s _ _ (s47 _ _ (s04 _ _ hrr)))
                refine ⟨.ref D, rfl, .int (z : Int), rfl, D, _, _, _, rfl, rfl, s47.seq (s04.seq (SqL.of hR.ro.li)), atI_nat gra, ra, rfl, ⟨_, hrs _ (Same.refl _)⟩, fun b hb => ?_⟩
                refine lc_acc walk_list (fun i => ((sn (Pf z))[i]?).map fun e => V.bl (fj e.2)) (by rw [rf_len]; have := hPl z; omega) hb (fun _ s => hrs _ s) (fun i x G1 G2 Ky2 Kn2 hi3 s3 y2 ky2 kn2 => ?_) fun G1 s3 e3 => ?_
                · obtain ⟨rfl, hy⟩ := y2
                  obtain ⟨c, hc, rfl⟩ := rf_get hy
                  have hPe : PrT (wol [fl] H) c.1 c.2 := hR.tg z c (mem_at hc)
                  obtain ⟨v, hv, hvs⟩ := (mo_ds _ _ _ _ (s47.trans s3) hj4).get c.2.2
                  exact ⟨c.1, _, rfl, SqT.of ((s04.trans (s47.trans s3)) _ _ hPe), rfl, _, _, rfl, _, _, rfl, rfl, rfl, _, rfl, .ref ja, rfl, ja, _, rfl, hv, ky2 _ _ (by rw [sn_get hc, Option.map_some, ← hvs]) (Same.refl _)⟩
                · have eb : (List.range (rf (Pf z)).length).filterMap (fun i => ((sn (Pf z))[i]?).map fun e => V.bl (fj e.2)) = ((sn (Pf z)).map fun e => fj e.2).map V.bl := by
                    rw [rf_len, ← sn_len, range_fm, List.map_map]
                    rfl
                  rw [eb] at e3
                  refine ⟨b, (sn (Pf z)).map fun e => fj e.2, rfl, SqL.of e3, _, rfl, ?_⟩
                  have ea : ((sn (Pf z)).map fun e => fj e.2).any id = (sn (Pf z)).any fun e => fj e.2 := by
                    rw [List.any_map]
                    rfl
                  rw [ea]
                  exact ite2 (fun h => ⟨_, rfl, ky _ _ (if_pos h) s3⟩) fun h => kn (if_neg h) _ s3
          · rw [nv_len, range_fmb, fm_if] at e6
            have hem : ∀ z, z ∈ zs.filter (fun z => !fo z && (sn (Pf z)).any fun e => fj e.2) ↔ fl' z = true ∧ fo z = false ∧ ∃ t y, Way (sn es) (sn es).length z t y ∧ fj y = true := fun z => by
              rw [List.mem_filter, hzl, Bool.and_eq_true, List.any_eq_true]
              constructor
              · rintro ⟨h1, h2, e, h3, h4⟩
                exact ⟨h1, by simpa using h2, e.1, e.2, (hN.mem z e.1 e.2).mp h3, h4⟩
              · rintro ⟨h1, h2, t, y, h3, h4⟩
                exact ⟨h1, by rw [h2]; rfl, (t, y), (hN.mem z t y).mpr h3, h4⟩
            generalize zs.filter (fun z => !fo z && (sn (Pf z)).any fun e => fj e.2) = eg at e6 hem
            have s46 := sq.trans s6
            have R6 := R4.new s46
            have hj6 := mo_ds _ _ _ _ s46 hj4
            have hl6 := mo_ds _ _ _ _ s46 hl4
            have ho6 := mo_ds _ _ _ _ s46 hoa4
            refine ⟨.ref D2, rfl, !(nv eg).isEmpty, .inl ⟨_, SqL.of e6, rfl⟩, ?_⟩
            cases eg with
            | nil =>
              refine iteF ?_
              have hend : ∀ x, fl' x = true → fo x = false → ∀ t y, Way (sn es) (sn es).length x t y → fj y = false := fun x h1 h2 t y h3 => by
                cases q : fj y with
                | false => rfl
                | true =>
                  have := (hem x).mpr ⟨h1, h2, t, y, h3, q⟩
                  simp at this
              have hbd := stl.bond hP hox.z
              have hp0 := s04.trans s46
              refine ⟨.ref fl, rfl, .inl ⟨rfl, _, SqL.of R6.li⟩, ?_⟩
              refine ⟨.ref p, rfl, p, _, 1, .ref ta, rfl, rfl, hp0.seqT hp, atI_nat (j := 1) rfl, ta, rf es, rfl, hp0.seqT ht, fun D3 hD3 => ?_⟩
              refine lc_acc walk_enumT (fun i => if df (sn es) fj i = true then some (V.int (i : Int)) else none) (by rw [rf_len, ← sn_len]; omega) hD3 (fun _ s => s.seqT (hp0.seqT ht)) (fun i y H7 H8 Ky Kn hi s y1 ky kn => ?_) fun H7 s7 e7 => ?_
              · obtain ⟨T, x1, x2, rfl, hTn, rfl, hy1, hy2⟩ := y1
                cases hy1
                obtain ⟨c, hc, rfl⟩ := rf_get hy2
                have sT := same_new (o := .tup [.int (i : Int), .ref c.1]) hTn
                have hci := en_sn hc
                have hil : i < (sn es).length := by
                  rw [sn_len]
                  exact (List.getElem?_eq_some_iff.mp hc).1
                have hbt := stl.bits hP hil
                rw [hci] at hbt
                have gc := hg c (mem_at hc)
                have s68 := s.trans sT
                obtain ⟨v1, hv1, hvs1⟩ := (mo_ds _ _ _ _ s68 hj6).get c.2.1
                obtain ⟨v2, hv2, hvs2⟩ := (mo_ds _ _ _ _ s68 hj6).get c.2.2
                obtain ⟨v3, hv3, hvs3⟩ := (mo_ds _ _ _ _ s68 hl6).get c.2.1
                obtain ⟨v4, hv4, hvs4⟩ := (mo_ds _ _ _ _ s68 hl6).get c.2.2
                refine ⟨T, _, rfl, SqT.of upd_same, rfl, _, _, rfl, _, _, rfl, ⟨c.1, _, rfl, (hp0.trans s68).seqT gc, rfl, _, _, rfl, _, _, rfl, rfl, rfl, rfl, ?_⟩⟩
                refine ⟨_, rfl, .ref ja, rfl, ja, _, rfl, hv1, _, rfl, .ref ja, rfl, ja, _, rfl, hv2, rfl, _, rfl, ?_⟩
                rw [← hbt] at ky kn
                have eb : (!decide (V.bl v1.isSome = V.bl v2.isSome)) = (fj c.2.1 ^^ fj c.2.2) := by
                  rw [hvs1, hvs2]
                  cases fj c.2.1 <;> cases fj c.2.2 <;> rfl
                show (if (!decide (V.bl v1.isSome = V.bl v2.isSome)) = true then _ else _)
                rw [eb]
                refine ite2 (fun h1 => ?_) fun h1 => iteF (kn ?_ _ sT)
                · refine ⟨_, rfl, .ref la, rfl, la, _, rfl, hv3, _, rfl, ?_⟩
                  rw [hvs3]
                  cases h3 : fl' c.2.1 with
                  | true => exact iteT (iteT ⟨_, rfl, ky _ _ (if_pos (by rw [h1, h3]; rfl)) sT⟩)
                  | false =>
                    refine iteF ⟨_, rfl, .ref la, rfl, la, _, rfl, hv4, _, rfl, ?_⟩
                    rw [hvs4]
                    cases h4 : fl' c.2.2 with
                    | true => exact iteT ⟨_, rfl, ky _ _ (if_pos (by rw [h1, h4, Bool.or_true]; rfl)) sT⟩
                    | false => exact iteF (kn (if_neg (by rw [h3, h4]; simp)) _ sT)
                · refine if_neg fun z => h1 ?_
                  rw [Bool.and_eq_true] at z
                  exact z.1
              · rw [fm_if (fun i => df (sn es) fj i), rf_len, ← sn_len] at e7
                have hcf := fun c h1 h2 => cov_fin (c := c) stl h1 h2 hox.z hend
                generalize ((List.range (sn es).length).filter fun i => df (sn es) fj i) = res at e7 hbd hcf
                refine .inl ⟨D3, _, rfl, SqL.of e7, fun r7 hr7 => ?_⟩
                have sr := same_new (o := .tup (nv res)) hr7
                have er := upd_same (H := H7) (a := r7) (o := .tup (nv res))
                generalize upd H7 r7 (.tup (nv res)) = H8 at sr er ⊢
                have R8 := R6.new (s7.trans sr)
                refine ⟨fl, _, _, rfl, rfl, R8.li, small1001 (by rw [rf_len, List.length_append]; omega), ?_⟩
                have R9 := R8.putF (a := r7) (g := res) (SqT.of er)
                generalize upd H8 fl (.lst (rf (fs ++ gs) ++ [V.ref r7])) = H9 at R9 ⊢
                refine ⟨.ref fl, rfl, fl, _, rfl, .inl (SqL.of R9.li), (rf (fs ++ (gs ++ [(r7, res)]))).length, 1000, rfl, rfl, _, rfl, ?_⟩
                rw [decide_eq_false (by rw [rf_len, List.length_append, List.length_append]; show ¬ 1000 < fs.length + (gs.length + 1); omega)]
                refine iteF ?_
                refine ⟨wts ps (sn ws'), by omega, _, _, _, _, _, _, _, _, _, _, gs ++ [(r7, res)], ws', rfl, R9, fun g hg' => ?_, hso', fun c h1 h2 => ?_, rfl, by rw [List.length_append]; show gs.length + 1 + _ ≤ 63; omega⟩
                · rw [sn_snoc] at hg'
                  rcases List.mem_append.mp hg' with z | z
                  · exact hgo g z
                  · rw [List.mem_singleton.mp z]
                    exact hbd
                · rw [sn_snoc]
                  rcases hcm c h1 h2 with ⟨g, q1, q2⟩ | ⟨st, hst', q⟩
                  · exact .inl ⟨g, List.mem_append_left _ q1, q2⟩
                  · rw [sn_snoc] at hst'
                    rcases List.mem_append.mp hst' with z | z
                    · exact .inr ⟨st, z, q⟩
                    · rw [List.mem_singleton.mp z] at q
                      exact .inl ⟨res, List.mem_append_right _ (List.mem_singleton.mpr rfl), hcf c h1 q⟩
            | cons e er =>
              refine iteT ?_
              obtain ⟨he1, he2, _⟩ := (hem e).mp (List.mem_cons_self ..)
              have hjb : ∀ z, fj z = true → z < 1000 := fun z hz => by
                rw [stl.eq] at hz
                exact hpb z (oth_true.mp hz).1
              have hob : ∀ z, fo z = true → z < 1000 := fun z hz => hpb z (hox.o z hz).1
              have hwl := wts_len ps (sn ws')
              rw [sn_len] at hwl
              refine ⟨.ref w, rfl, .inl ⟨rfl, _, SqL.of R6.wa⟩, ?_⟩
              refine cons_i (tup_i (cons_i (spread_ds (n := e) hj6 hjb ?_ ?_ ?_ ?_)))
              · exact fun H' Q' s q => ⟨_, rfl, q⟩
              · exact fun H' Q' s q => ⟨.ref D2, rfl, D2, _, 0, .int (e : Int), rfl, rfl, SqL.of (s _ _ e6), atI_nat (j := 0) rfl, q⟩
              · exact fun H' Q' q => q
              intro u1 H7 s7 hu1
              refine ⟨_, rfl, by show 2 ≤ sizeLine; decide, fun t1 ht1 => ?_⟩
              have st1 := same_new (o := .tup [.ref u1, .ref oa]) ht1
              have et1 := upd_same (H := H7) (a := t1) (o := .tup [.ref u1, .ref oa])
              generalize upd H7 t1 (.tup [.ref u1, .ref oa]) = H8 at st1 et1 ⊢
              have s68 := s7.trans st1
              have R8 := R6.new s68
              have hj8 := mo_ds _ _ _ _ s68 hj6
              have ho8 := mo_ds _ _ _ _ s68 ho6
              have e8 := s68 _ _ e6
              refine ⟨w, _, _, rfl, rfl, R8.wa, small1001 (by rw [rf_len]; omega), ?_⟩
              have R9 := R8.putW (a := t1) (ia := u1) (oa := oa) (st := (fun x => if x = e then true else fj x, fo)) (SqT.of et1) (mo_ds _ _ _ _ st1 hu1) ho8
              have hwD : w ≠ D2 := ne_of_none (R4.new sq).wa hD2
              have hj9 : DS (upd H8 w (.lst (rf ws' ++ [V.ref t1]))) ja fj := hj8.up (upd_ne (hj8.nel R8.wa))
              have ho9 : DS (upd H8 w (.lst (rf ws' ++ [V.ref t1]))) oa fo := ho8.up (upd_ne (ho8.nel R8.wa))
              have e9 : (upd H8 w (.lst (rf ws' ++ [V.ref t1]))) D2 = some (.lst (nv (e :: er))) := by
                rw [upd_ne hwD.symm]
                exact e8
              generalize upd H8 w (.lst (rf ws' ++ [V.ref t1])) = H9 at R9 hj9 ho9 e9 ⊢
              refine ⟨.ref w, rfl, .inl ⟨rfl, _, SqL.of R9.wa⟩, _, rfl, ?_⟩
              refine cons_i (spread_ds (n := e) ho9 hob ?_ ?_ ?_ ?_)
              · exact fun H' Q' s q => ⟨_, rfl, q⟩
              · exact fun H' Q' s q => ⟨.ref D2, rfl, D2, _, 0, .int (e : Int), rfl, rfl, SqL.of (s _ _ e9), atI_nat (j := 0) rfl, q⟩
              · exact fun H' Q' q => q
              intro u2 H10 s10 hu2
              refine ⟨by show 2 ≤ sizeLine; decide, fun t2 ht2 => ?_⟩
              have st2 := same_new (o := .tup [.ref ja, .ref u2]) ht2
              have et2 := upd_same (H := H10) (a := t2) (o := .tup [.ref ja, .ref u2])
              generalize upd H10 t2 (.tup [.ref ja, .ref u2]) = H11 at st2 et2 ⊢
              have s911 := s10.trans st2
              have R11 := R9.new s911
              refine ⟨w, _, _, rfl, rfl, R11.wa, small1001 (by rw [rf_len, List.length_append]; show ws'.length + 1 ≤ _; omega), ?_⟩
              have R12 := R11.putW (a := t2) (ia := ja) (oa := u2) (st := (fj, fun x => if x = e then true else fo x)) (SqT.of et2) (mo_ds _ _ _ _ s911 hj9) (mo_ds _ _ _ _ st2 hu2)
              have hws := wt_step (ps := ps) (fi := fi) (fo := fo) (fj := fj) (e := e) stl.le (stl.sub e he1) (stl.off he1) he2
              have hw12 : wts ps (sn (ws' ++ [(t1, (fun x => if x = e then true else fj x, fo))] ++ [(t2, (fj, fun x => if x = e then true else fo x))])) = wts ps (sn ws') + wt ps (fun x => if x = e then true else fj x) fo + wt ps fj (fun x => if x = e then true else fo x) := by
                rw [sn_snoc, wts_snoc, sn_snoc, wts_snoc]
              refine ⟨_, ?_, _, _, _, _, _, _, _, _, _, _, gs, _, rfl, R12, hgo, fun st hst => ?_, fun c h1 h2 => ?_, rfl, ?_⟩
              · rw [hw12]
                omega
              · rw [sn_snoc, sn_snoc] at hst
                rcases List.mem_append.mp hst with z | z
                · rcases List.mem_append.mp z with z | z
                  · exact hso' st z
                  · rw [List.mem_singleton.mp z]
                    exact hox.in stl he1 he2
                · rw [List.mem_singleton.mp z]
                  exact hox.out stl he1
              · rw [sn_snoc, sn_snoc]
                rcases hcm c h1 h2 with q | ⟨st, hst', q⟩
                · exact .inl q
                · rw [sn_snoc] at hst'
                  rcases List.mem_append.mp hst' with z | z
                  · exact .inr ⟨st, List.mem_append_left _ (List.mem_append_left _ z), q⟩
                  · rw [List.mem_singleton.mp z] at q
                    rcases cov_step stl q e with q | q
                    · exact .inr ⟨_, List.mem_append_left _ (List.mem_append_right _ (List.mem_singleton.mpr rfl)), q⟩
                    · exact .inr ⟨_, List.mem_append_right _ (List.mem_singleton.mpr rfl), q⟩
              · rw [hw12]
                omega
end
end Fb

/-! FbY4 -/
set_option maxHeartbeats 4000000
/-! bonds -/
namespace Fb
open PySem PySem.Spec PyProof.Rows L2
/-- the spots below i with a mark -/
def grp (i : Nat) (ms : List Nat) (μ : Nat) : List Nat := (List.range i).filter fun x => decide (ms.getD x 0 = μ)
theorem grp_mem {i : Nat} {ms : List Nat} {μ x : Nat} : x ∈ grp i ms μ ↔ x < i ∧ ms.getD x 0 = μ := by
  unfold grp
  rw [List.mem_filter, List.mem_range, decide_eq_true_iff]
theorem grp_nd (i : Nat) (ms : List Nat) (μ : Nat) : (grp i ms μ).Nodup := List.Pairwise.filter _ List.nodup_range
theorem grp_len (i : Nat) (ms : List Nat) (μ : Nat) : (grp i ms μ).length ≤ i := nat_nodup i _ (grp_nd i ms μ) fun x hx => (grp_mem.mp hx).1
theorem grp_succ (i : Nat) (ms : List Nat) (μ : Nat) : grp (i + 1) ms μ = grp i ms μ ++ if ms.getD i 0 = μ then [i] else [] := by
  unfold grp
  rw [List.range_succ, List.filter_append]
  congr 1
  by_cases h : ms.getD i 0 = μ
  · rw [if_pos h, List.filter_cons, if_pos (decide_eq_true h)]
    rfl
  · rw [if_neg h, List.filter_cons, if_neg (by rw [decide_eq_false h]; exact Bool.false_ne_true)]
    rfl
theorem grp_pie {n : Nat} {E : List (Nat × Nat)} {ms : List Nat} (hW : WebOk n E) (h1 : ∀ e ∈ E, ms.getD e.1 0 = ms.getD e.2 0) (h2 : ∀ x y, x < n → y < n → ms.getD x 0 = ms.getD y 0 → ∀ f, Con E f → f x = f y) (μ : Nat) : Pie E n (grp n ms μ) := by
  refine ⟨grp_nd n ms μ, fun x hx => (grp_mem.mp hx).1, fun t ht => ?_, fun f hf x hx y hy => ?_⟩
  · have hm : en E t ∈ E := by
      unfold en
      rw [List.getD_eq_getElem?_getD, List.getElem?_eq_getElem ht]
      exact List.getElem_mem ht
    have := h1 _ hm
    obtain ⟨_, b2, b3⟩ := hW.en ht
    rw [grp_mem, grp_mem, this]
    exact ⟨fun h => ⟨b2, h.2⟩, fun h => ⟨b3, h.2⟩⟩
  · obtain ⟨x1, x2⟩ := grp_mem.mp hx
    obtain ⟨y1, y2⟩ := grp_mem.mp hy
    refine h2 x y x1 y1 (x2.trans y2.symm) f fun e he => ?_
    obtain ⟨i, hi⟩ := List.getElem?_of_mem he
    have hil := (List.getElem?_eq_some_iff.mp hi).1
    have := hf i hil
    unfold df en at this
    rw [List.getD_eq_getElem?_getD, hi] at this
    have this' : (f e.1 ^^ f e.2) = false := this
    generalize f e.1 = a at *
    generalize f e.2 = b at *
    cases a <;> cases b <;> first | rfl | (cases this'; done)
/-- the spots in lists by their marks, at work -/
structure GrS (G H : Hp) (lo : Addr) (ms : List Nat) (i : Nat) (kvs : List (Key × V)) (A : Nat → Option Addr) : Prop where
  sm : Same (wol [lo] G) H
  di : H lo = some (.dK kvs)
  nd : ND kvs fun μ => (A μ).map V.ref
  at' : ∀ μ a, A μ = some a → H a = some (.lst (nv (grp i ms μ))) ∧ G a = none
  ks : ∀ μ, (A μ).isSome = true ↔ grp i ms μ ≠ []
  inj : ∀ μ ν a, A μ = some a → A ν = some a → μ = ν
  lo : ∃ o, G lo = some o
section
variable {G H H' : Hp} {lo : Addr} {ms : List Nat} {i : Nat} {kvs : List (Key × V)} {A : Nat → Option Addr}
theorem GrS.new (h : GrS G H lo ms i kvs A) (s : Same H H') : GrS G H' lo ms i kvs A :=
  ⟨h.sm.trans s, s _ _ h.di, h.nd, fun μ a e => ⟨s _ _ (h.at' μ a e).1, (h.at' μ a e).2⟩, h.ks, h.inj, h.lo⟩
theorem GrS.keys (h : GrS G H lo ms i kvs A) : ∃ ns : List Nat, kvs.map (·.1) = ns.map (fun n : Nat => (Sum.inl (n : Int) : Key)) ∧ ns.Nodup ∧ (∀ μ, μ ∈ ns ↔ grp i ms μ ≠ []) ∧ ns.length ≤ i ∧ kvs.length = ns.length := by
  obtain ⟨ns, e1, e2, e3⟩ := h.nd.keys
  have hk : ∀ μ, μ ∈ ns ↔ grp i ms μ ≠ [] := fun μ => by
    rw [e3, ← h.ks]
    cases A μ <;> rfl
  refine ⟨ns, e1, e2, hk, ?_, ?_⟩
  · have := nd_le e2 (m := (List.range i).map fun x => ms.getD x 0) fun μ hμ => by
      obtain ⟨x, hx⟩ := List.exists_mem_of_ne_nil _ ((hk μ).mp hμ)
      obtain ⟨a, b⟩ := grp_mem.mp hx
      exact List.mem_map.mpr ⟨x, List.mem_range.mpr a, b⟩
    rwa [List.length_map, List.length_range] at this
  · have := congrArg List.length e1
    simpa using this
/-- a spot whose mark is known -/
theorem GrS.old (h : GrS G H lo ms i kvs A) {a : Addr} (ha : A (ms.getD i 0) = some a) : GrS G (upd H a (.lst (nv (grp i ms (ms.getD i 0)) ++ [.int (i : Int)]))) lo ms (i + 1) kvs A := by
  obtain ⟨h1, h2⟩ := h.at' _ _ ha
  have hne : lo ≠ a := fun e => by
    obtain ⟨o, ho⟩ := h.lo
    rw [e, h2] at ho
    cases ho
  refine ⟨same_at h.sm ?_, by rw [upd_ne hne]; exact h.di, h.nd, fun μ b hb => ?_, fun μ => ?_, h.inj, h.lo⟩
  · unfold wol
    split
    · rfl
    · exact h2
  · by_cases q : μ = ms.getD i 0
    · subst q
      rw [ha] at hb
      cases hb
      refine ⟨?_, h2⟩
      rw [upd_same, grp_succ, if_pos rfl, nv_snoc]
    · have hba : b ≠ a := fun e => q (h.inj _ _ _ (by rw [← e]; exact hb) ha)
      rw [upd_ne hba, grp_succ, if_neg (fun z => q z.symm), List.append_nil]
      exact h.at' μ b hb
  · rw [h.ks, grp_succ]
    by_cases q : ms.getD i 0 = μ
    · rw [if_pos q]
      have : grp i ms μ ≠ [] := (h.ks μ).mp (by rw [← q, ha]; rfl)
      simp [this]
    · rw [if_neg q, List.append_nil]
/-- a spot with a new mark -/
theorem GrS.put (h : GrS G H lo ms i kvs A) (ha : A (ms.getD i 0) = none) {l : Addr} (hl : H l = none) :
    GrS G (upd (upd (upd H l (.lst [])) lo (.dK (putK kvs (.inl (ms.getD i 0 : Nat)) (.ref l)))) l (.lst ([] ++ [.int (i : Int)]))) lo ms (i + 1) (putK kvs (.inl (ms.getD i 0 : Nat)) (.ref l)) (fun μ => if μ = ms.getD i 0 then some l else A μ) := by
  have hne : lo ≠ l := ne_of_none h.di hl
  have hGl : G l = none := by
    cases q : G l with
    | none => rfl
    | some o =>
      have := h.sm l o (by rw [wol_out (by simp [hne.symm])]; exact q)
      rw [hl] at this
      cases this
  have hg0 : grp i ms (ms.getD i 0) = [] := by
    cases q : grp i ms (ms.getD i 0) with
    | nil => rfl
    | cons a b =>
      have := (h.ks (ms.getD i 0)).mpr (by rw [q]; exact fun z => by cases z)
      rw [ha] at this
      cases this
  have wl : wol [lo] G l = none := by
    rw [wol_out (by simp [hne.symm])]
    exact hGl
  refine ⟨same_at (same_at (same_at h.sm wl) (wol_in (by simp))) wl, by rw [upd_ne hne, upd_same], (h.nd.put (ms.getD i 0) (.ref l)).fn fun μ => ?_, fun μ b hb => ?_, fun μ => ?_, fun μ ν b h1 h2 => ?_, h.lo⟩
  · show (if μ = ms.getD i 0 then some (V.ref l) else _) = Option.map V.ref (if μ = ms.getD i 0 then some l else A μ)
    split <;> rfl
  · have hb' : (if μ = ms.getD i 0 then some l else A μ) = some b := hb
    by_cases q : μ = ms.getD i 0
    · rw [if_pos q] at hb'
      cases hb'
      refine ⟨?_, hGl⟩
      rw [upd_same, grp_succ, q, if_pos rfl, hg0]
      rfl
    · rw [if_neg q] at hb'
      obtain ⟨h1, h2⟩ := h.at' μ b hb'
      have hbl : b ≠ l := ne_of_none h1 hl
      have hbo : b ≠ lo := fun e => by
        obtain ⟨o, ho⟩ := h.lo
        rw [← e, h2] at ho
        cases ho
      rw [upd_ne hbl, upd_ne hbo, upd_ne hbl, grp_succ, if_neg (fun z => q z.symm), List.append_nil]
      exact ⟨h1, h2⟩
  · show (if μ = ms.getD i 0 then some l else A μ).isSome = true ↔ _
    rw [grp_succ]
    by_cases q : μ = ms.getD i 0
    · rw [if_pos q, if_pos q.symm]
      simp
    · rw [if_neg q, if_neg (fun z => q z.symm), List.append_nil]
      exact h.ks μ
  · have h1' : (if μ = ms.getD i 0 then some l else A μ) = some b := h1
    have h2' : (if ν = ms.getD i 0 then some l else A ν) = some b := h2
    have nl : ∀ {κ : Nat}, A κ = some l → False := fun {κ} e => by
      have := (h.at' κ l e).1
      rw [hl] at this
      cases this
    by_cases q : μ = ms.getD i 0
    · by_cases q2 : ν = ms.getD i 0
      · rw [q, q2]
      · rw [if_pos q] at h1'
        rw [if_neg q2] at h2'
        cases h1'
        exact (nl h2').elim
    · by_cases q2 : ν = ms.getD i 0
      · rw [if_neg q] at h1'
        rw [if_pos q2] at h2'
        cases h2'
        exact (nl h1').elim
      · rw [if_neg q] at h1'
        rw [if_neg q2] at h2'
        exact h.inj μ ν b h1' h2'
end
-- bonds: slots 0=web 1=near 2=found 3=lots 4=spot 5=mark; cells 
abbrev sbonds : Stmt := topS 20
abbrev Nbonds : List Str := ["web", "near", "found", "lots", "spot", "mark"]
theorem scbonds : FnScope Nbonds ["web"] (defScope sbonds) := ⟨rfl, rfl, rfl, by decide +kernel, rfl, by decide +kernel, by decide +kernel⟩
section
variable {P : Program} {w : World} {K : PySem.W.Frag} {mg : Str → Option Value} {base : Heap} {mt : Nat}
def sp_bonds (K : PySem.W.Frag) : Sp := fun vs H Q _ => ∃ (p n : Nat) (E : List (Nat × Nat)), vs = [.ref p] ∧ Web K H p (n, E) ∧ WebOk n E ∧ n ≤ 6 ∧
  ∀ H' r L, Same H H' → Pks K H' r L → L.length ≤ 1000 → (∀ g ∈ L, BondOk E g) → (∀ m, CutM E m → Span (L.map mk) m) → Q (.ref r) H'
theorem ok_bonds {f : Addr} {fd : FuncData} (F : Fun K "bonds" "bonds" sbonds f fd) (T : Bi mg mt) (cneighbours : C8.Cal P w K mg base 1 "neighbours" (sp_neighbours K) []) (cpiece_marks : C8.Cal P w K mg base 1 "piece_marks" (sp_piece_marks K) []) (cbonds_of_piece : C8.Cal P w K mg base 3 "bonds_of_piece" (sp_bonds_of_piece K) []) : FnOk P w K mg base CX0 4 f fd ["web"] (sp_bonds K) := by
  refine okC F scbonds (fun vs H Q E h => ?_) (fun cdv A outer s H vs Q E hr hcd h => ?_)
  · obtain ⟨p, n, E, rfl, _⟩ := h
    rfl
  · obtain ⟨p, n, E, rfl, hweb, hW, hn6, k⟩ := h
    have hn := hW.nb
    have heb := hW.eb
    have hu := hu_of hr
    have hweb0 := hweb
    obtain ⟨ta, hp, es, rfl, ht, hg⟩ := hweb0
    refine ⟨_, (pss_cons (ps_par3 (i := 1) (j := 2) (l := 3) (by rfl) scbonds.nd rfl rfl rfl (by decide) (by decide) (by decide) rfl rfl rfl (pa_cons (C8.pe_c cneighbours hr (by decide) (by rfl) (pa_cons (pv 0) pa_nil)) (pa_cons (pe_lst pa_nil) (pa_cons pe_dnewK pa_nil))) (by rfl))
      (pss_cons (ps_for PassesOwn.never rfl (pi_enum (by rfl) T.enumerate (pa_cons (C8.pe_c cpiece_marks hr (by decide) (by rfl) (pa_cons (pe_ix ix_tup (pv 0) pe_int (fun _ _ => rfl)) (pa_cons (pe_ix ix_tup (pv 0) pe_int (fun _ _ => rfl)) pa_nil))) pa_nil)) (pg_tup (n := 2) rfl (pgs_cons (pg_name (i := 4) scbonds.nd rfl (Or.inl rfl)) (pgs_cons (pg_name (i := 5) scbonds.nd rfl (Or.inl rfl)) pgs_nil)))
        (pss_one (ps_expr (pe_bm PySem.F.plainAttrs_list PySem.F.slot_list_append PySem.F.type_list_append mt_append (pe_dsetd (pv 3) (pv 5) (pe_lst pa_nil) ⟨by rfl, by rfl, by rfl, by rfl⟩) (pa_cons (pv 4) pa_nil)))))
      (pss_cons (ps_for PassesOwn.never rfl (pi_list (pe_callB (call_sortedDI rfl) (by rfl) T.sorted (by decide +kernel) (pa_cons (pv 3) pa_nil))) (pg_name (i := 5) scbonds.nd rfl (Or.inl rfl))
        (pss_one (ps_if (pt_cmpR op_gtN (pe_callB call_len_seq (by rfl) T.len (by decide +kernel) (pa_cons (pe_dget hu (pv 3) (pv 5) (fun _ _ => rfl)) pa_nil)) pe_int (nomark _))
          (pss_one (ps_expr (C8.pe_c cbonds_of_piece hr (by decide) (by rfl) (pa_cons (pv 0) (pa_cons (pv 1) (pa_cons (pe_dget hu (pv 3) (pv 5) (fun _ _ => rfl)) (pa_cons (pv 2) pa_nil)))))))
          pss_nil)))
      (pss_one (ps_ret (pe_tupleOf (by rfl) T.tuple (pe_callB cr_sortedLT (by rfl) T.sorted (by decide +kernel) (pa_cons (pv 2) pa_nil)))))))), ?_⟩
    refine ⟨_, rfl, p, n, sn es, rfl, hweb, hW, fun H1 D ls Pf s1 hR hls hN hPl => ?_⟩
    refine ⟨by show 0 ≤ sizeLine; decide, fun fl hfl => ?_⟩
    intro lo hlo
    have sf := same_new (o := .lst []) hfl
    have slo := same_new (o := .dK []) hlo
    have hlo1 : H1 lo = none := sf.free hlo
    have hflo : fl ≠ lo := ne_of_none upd_same hlo
    refine ⟨_, _, _, rfl, ?_⟩
    have s2 : Same H1 (upd (upd H1 fl (.lst [])) lo (.dK [])) := sf.trans slo
    have e2 : (upd (upd H1 fl (.lst [])) lo (.dK [])) fl = some (.lst []) := slo _ _ upd_same
    have e2l : (upd (upd H1 fl (.lst [])) lo (.dK [])) lo = some (.dK []) := upd_same
    generalize upd (upd H1 fl (.lst [])) lo (.dK []) = H2 at s2 e2 e2l ⊢
    have s12 := s1.trans s2
    refine ⟨.ref p, rfl, p, _, 0, .int (n : Int), rfl, rfl, s12.seqT hp, atI_nat (j := 0) rfl, .ref p, rfl, p, _, 1, .ref ta, rfl, rfl, s12.seqT hp, atI_nat (j := 1) rfl, ta, n, es, rfl, .inr (s12.seqT ht), fun e he => mo_prs _ _ _ _ s12 (hg e he), fun e he => ?_, hn, by rw [← sn_len]; exact heb, fun H3 m ms s3 hmn hm hml hmt hms => ?_⟩
    · have := hW.ok e he
      omega
    have e3 := s3 _ _ e2
    have e3l := s3 _ _ e2l
    refine ⟨m, nv ms, rfl, SqL.of hm, for_it walk_enum (fun i σ H' => ∃ v4 v5 kvs A, σ = [some (.ref p), some (.ref D), some (.ref fl), some (.ref lo), v4, v5] ∧ GrS H3 H' lo ms i kvs A)
      ⟨none, none, [], fun _ => none, rfl, ⟨wol_le, e3l, ND.nil, fun μ a e => (by cases e), fun μ => by simp [grp], fun μ ν a e => (by cases e), ⟨_, e3l⟩⟩⟩ (fun i σ H' _ ⟨_, _, _, _, _, s⟩ => SqL.of (s.sm _ _ (by rw [wol_out (by simpa using ne_lt hm e3l (fun z => by cases z))]; exact hm))) ?_ ?_⟩
    · rintro i y σ H4 H5 hi ⟨v4, v5, kvs, A, rfl, hG⟩ ⟨T, x1, x2, rfl, hTn, rfl, hx1, hx2⟩
      cases hx1
      obtain ⟨μ, hμ, rfl⟩ := nv_get hx2
      have hmi : ms.getD i 0 = μ := by
        rw [List.getD_eq_getElem?_getD, hμ]
        rfl
      have hil : i < n := by
        rw [nv_len] at hi
        omega
      have sT := same_new (o := .tup [.int (i : Int), .int (μ : Int)]) hTn
      have eT := upd_same (H := H4) (a := T) (o := .tup [.int (i : Int), .int (μ : Int)])
      have hG5 := hG.new sT
      generalize upd H4 T (.tup [.int (i : Int), .int (μ : Int)]) = H5 at sT eT hG5 ⊢
      refine ⟨T, _, rfl, SqT.of eT, rfl, _, _, rfl, _, _, rfl, rfl, ?_⟩
      obtain ⟨ns, _, _, _, hnl, hkl⟩ := hG5.keys
      have hkz : kvs.length < sizeLine := by
        rw [sizeLine_eq]
        omega
      refine ⟨.ref lo, rfl, lo, rfl, .inl ⟨kvs, .inl hG5.di⟩, _, rfl, by show 0 ≤ sizeLine; decide, fun l hl => ⟨kvs, .inl (μ : Int), (same_new hl) _ _ hG5.di, rfl, hkz, fun v hv => ?_, fun hv => ?_⟩⟩
      · rw [hG5.nd.get] at hv
        cases hA : A μ with
        | none =>
          rw [hA] at hv
          cases hv
        | some a =>
          rw [hA] at hv
          have ev : v = .ref a := (Option.some.inj hv).symm
          subst ev
          have hG6 := hG5.new (same_new (o := .lst []) hl)
          obtain ⟨h1, _⟩ := hG6.at' μ a hA
          refine ⟨.inl ⟨rfl, _, SqL.of h1⟩, _, rfl, a, _, _, rfl, rfl, h1, small1001 (by rw [nv_len]; have := grp_len i ms μ; omega), ?_⟩
          have := hG6.old (by rw [hmi]; exact hA)
          rw [hmi] at this
          exact ⟨_, _, kvs, A, rfl, this⟩
      · have hA : A μ = none := by
          rw [hG5.nd.get] at hv
          cases q : A μ with
          | none => rfl
          | some a =>
            rw [q] at hv
            cases hv
        have hlo' : l ≠ lo := fun e => by
          rw [e, hG5.di] at hl
          cases hl
        have h1 : (upd (upd H5 l (.lst [])) lo (.dK (putK kvs (.inl (μ : Int)) (.ref l)))) l = some (.lst []) := by rw [upd_ne hlo', upd_same]
        refine ⟨.inl ⟨rfl, _, SqL.of h1⟩, _, rfl, l, [], _, rfl, rfl, h1, small1001 (by show 0 ≤ 100000; omega), ?_⟩
        have := hG5.put (by rw [hmi]; exact hA) hl
        rw [hmi] at this
        exact ⟨_, _, _, _, rfl, this⟩
    · rintro σ H4 ⟨v4, v5, kvs, A, rfl, hG⟩
      rw [nv_len, hml] at hG
      obtain ⟨ns, kn1, kn2, kn3, hnl, hkl⟩ := hG.keys
      have kls : kvs.map (·.1) = (iv ns).map Sum.inl := by
        rw [kn1]
        unfold iv
        rw [List.map_map]
        rfl
      refine ⟨.ref lo, rfl, lo, kvs, iv ns, rfl, .inl hG.di, kls, by rw [iv_len]; omega, fun ys q hperm hpw hq => ?_⟩
      obtain ⟨zs, rfl, hza, hzm⟩ := asc_of hpw hperm kn2
      have hzn : zs.length ≤ n := by
        have := nd_le (l := zs) (m := ns) (hza.imp fun h => Nat.ne_of_lt h) fun x hx => (hzm x).mp hx
        omega
      have sq := same_new (o := .lst ((iv zs).map V.int)) hq
      have eq5 : (upd H4 q (.lst ((iv zs).map V.int))) q = some (.lst (nv zs)) := upd_same
      have hG5 := hG.new sq
      generalize upd H4 q (.lst ((iv zs).map V.int)) = H5 at sq eq5 hG5 ⊢
      have s24 : Same (wol [lo] H3) H4 := hG.sm
      have h4f : H4 fl = some (.lst []) := s24 _ _ (by rw [wol_out (by simpa using hflo)]; exact e3)
      have hqf : q ≠ fl := fun e => by
        rw [e, h4f] at hq
        cases hq
      have h5f : H5 fl = some (.lst []) := sq _ _ h4f
      -- the web and its rows, off the list found
      have h1w : Same H1 (wol [fl] H5) := le_wol ((show Same H1 (wol [lo] H3) from le_wol (s2.trans s3) fun d hd => by rw [List.mem_singleton.mp hd]; exact hlo1).trans (s24.trans sq)) fun d hd => by rw [List.mem_singleton.mp hd]; exact hfl
      have hdi : (wol [fl] H5) lo = some (.dK kvs) := by
        rw [wol_out (by simpa using hflo.symm)]
        exact hG5.di
      have hAt : ∀ μ a, A μ = some a → (wol [fl] H5) a = some (.lst (nv (grp n ms μ))) := fun μ a e => by
        obtain ⟨h1, h2⟩ := hG5.at' μ a e
        rw [wol_out]
        · exact h1
        · intro m
          rw [List.mem_singleton.mp m, e3] at h2
          cases h2
      have hq5 : (wol [fl] H5) q = some (.lst (nv zs)) := by
        rw [wol_out (by simpa using hqf)]
        exact eq5
      refine ⟨q, rfl, ⟨_, SqL.of eq5⟩, for_list (xs := nv zs) (fun j σ H' => ∃ v4 v5 gs, σ = [some (.ref p), some (.ref D), some (.ref fl), some (.ref lo), v4, v5] ∧ Same (wol [fl] H5) (wol [fl] H') ∧ H' fl = some (.lst (rf gs)) ∧ Tg (Nts K) (wol [fl] H') gs ∧ (∀ g ∈ sn gs, BondOk (sn es) g) ∧ (∀ μ ∈ zs.take j, ∀ c, MinCut (sn es) c → (∃ t, t < (sn es).length ∧ c.testBit t = true ∧ ms.getD (en (sn es) t).1 0 = μ) → ∃ g ∈ sn gs, mk g = c) ∧ gs.length ≤ 63 * j)
        ⟨v4, v5, [], rfl, Same.refl _, h5f, fun _ h => by simp at h, fun _ h => by simp [sn] at h, fun _ h => by simp at h, Nat.le_refl _⟩ (fun j σ H' _ ⟨_, _, _, _, s, _⟩ => SqL.of (wol_le _ _ (s _ _ hq5))) ?_ ?_⟩
      · rintro j u σ H6 hj ⟨v4, v5, gs, rfl, s6, h6f, ht6, hgs, hcm, hcnt⟩
        obtain ⟨μ, hμ, rfl⟩ := nv_get hj
        have hjl : j < zs.length := (List.getElem?_eq_some_iff.mp hμ).1
        have hμn := (hzm μ).mp (mem_at hμ)
        obtain ⟨a, hA⟩ : ∃ a, A μ = some a := by
          cases q : A μ with
          | none =>
            have := (hG5.ks μ).mpr ((kn3 μ).mp hμn)
            rw [q] at this
            cases this
          | some a => exact ⟨a, rfl⟩
        have hdl : DGet H6 lo (.int (μ : Int)) (some (.ref a)) := by
          have e : (fun μ => (A μ).map V.ref) μ = some (V.ref a) := by
            show (A μ).map V.ref = _
            rw [hA]
            rfl
          rw [← e]
          exact dg hG5.nd (.inl (wol_le _ _ (s6 _ _ hdi))) μ
        have h6a : (wol [fl] H6) a = some (.lst (nv (grp n ms μ))) := s6 _ _ (hAt μ a hA)
        have hgl := grp_len n ms μ
        have hP := grp_pie hW hmt hms μ
        refine ⟨.ref lo, rfl, _, rfl, lo, _, rfl, hdl, a, _, rfl, .inl (SqL.of (wol_le _ _ h6a)), (nv (grp n ms μ)).length, 1, rfl, rfl, _, rfl, ?_⟩
        have hck : ∀ κ ∈ zs.take (j + 1), κ ∈ zs.take j ∨ κ = μ := fun κ hκ => by
          rw [List.take_add_one, hμ, Option.toList_some] at hκ
          rcases List.mem_append.mp hκ with m | m
          · exact .inl m
          · exact .inr (List.mem_singleton.mp m)
        by_cases hl1 : 1 < (grp n ms μ).length
        · rw [decide_eq_true (show 1 < (nv (grp n ms μ)).length by rw [nv_len]; exact hl1)]
          refine iteT ?_
          refine ⟨_, rfl, _, rfl, .ref lo, rfl, _, rfl, lo, _, rfl, hdl, _, rfl, p, D, a, fl, n, sn es, ls, Pf, grp n ms μ, gs, rfl, mo_web _ _ _ _ (s1.trans (h1w.trans s6)) hweb, hW, hR.same (h1w.trans s6), hls, hN, hPl, SqL.of h6a, hP, by omega, by omega, h6f, ht6, by omega, fun H7 gs' s7 h7f ht7 hbo hcp hlen => ?_⟩
          have e7 : sn (gs ++ gs') = sn gs ++ sn gs' := List.map_append
          refine ⟨_, _, gs ++ gs', rfl, s6.trans s7, h7f, ht7, fun g hg' => ?_, fun κ hκ c h1 h2 => ?_, by rw [List.length_append]; omega⟩
          · rw [e7] at hg'
            rcases List.mem_append.mp hg' with z | z
            · exact hgs g z
            · exact hbo g z
          · rw [e7]
            rcases hck κ hκ with z | z
            · obtain ⟨g, g1, g2⟩ := hcm κ z c h1 h2
              exact ⟨g, List.mem_append_left _ g1, g2⟩
            · obtain ⟨t, t1, t2, t3⟩ := h2
              obtain ⟨g, g1, g2⟩ := hcp c h1 ⟨t, t1, t2, grp_mem.mpr ⟨(hW.en t1).2.2, by rw [t3, z]⟩⟩
              exact ⟨g, List.mem_append_right _ g1, g2⟩
        · rw [decide_eq_false (show ¬ 1 < (nv (grp n ms μ)).length by rw [nv_len]; exact hl1)]
          refine iteF ?_
          refine ⟨_, _, gs, rfl, s6, h6f, ht6, hgs, fun κ hκ c h1 h2 => ?_, by omega⟩
          rcases hck κ hκ with z | z
          · exact hcm κ z c h1 h2
          · exfalso
            obtain ⟨t, t1, t2, t3⟩ := h2
            obtain ⟨_, f, hf⟩ := h1.cut
            have hd := hf t t1
            rw [t2] at hd
            have x1 : (en (sn es) t).1 ∈ grp n ms μ := grp_mem.mpr ⟨(hW.en t1).2.2, by rw [t3, z]⟩
            have x2 : (en (sn es) t).2 ∈ grp n ms μ := (hP.cl t t1).mp x1
            have hne : (en (sn es) t).1 ≠ (en (sn es) t).2 := fun e => by
              unfold df at hd
              rw [e, Bool.xor_self] at hd
              cases hd
            have := nd_le (l := [(en (sn es) t).1, (en (sn es) t).2]) (m := grp n ms μ) (List.nodup_cons.mpr ⟨fun m => hne (List.mem_singleton.mp m), List.pairwise_singleton _ _⟩) fun x hx => by
              rcases List.mem_cons.mp hx with q | q
              · rw [q]
                exact x1
              · rw [List.mem_singleton.mp q]
                exact x2
            exact hl1 this
      · rintro σ H6 ⟨v4, v5, gs, rfl, s6, h6f, ht6, hgs, hcm, hcnt⟩
        rw [nv_len, List.take_length] at hcm
        rw [nv_len] at hcnt
        have hgl : gs.length ≤ 1000 := by omega
        refine ⟨.ref fl, rfl, fl, rf gs, rfl, SqL.of h6f, fun x hx => ?_, fun ys q7 hperm hq7 => .inl ⟨q7, _, rfl, SqL.of upd_same, fun t ht' => ?_⟩⟩
        · obtain ⟨y, hy, rfl⟩ := List.mem_map.mp hx
          have y2 := (hgs y.2 (List.mem_map.mpr ⟨y, hy, rfl⟩)).ne
          exact ⟨y.1, iv y.2, rfl, wol_le.seqT (ht6 y hy), fun z => y2 (by cases hq : y.2 with | nil => rfl | cons a b => rw [hq] at z; simp [iv] at z)⟩
        · obtain ⟨qs, hqs, rfl⟩ := perm_lift (fun x : Addr × List Nat => V.ref x.1) hperm rfl
          have s7 := (same_new (o := .lst (rf qs)) hq7).trans (same_new (o := .tup (rf qs)) ht')
          have hmm : ∀ g, g ∈ sn qs ↔ g ∈ sn gs := fun g => (hqs.map (·.2)).mem_iff
          refine k _ t (sn qs) ((s1.trans ((h1w.trans s6).trans wol_le)).trans s7) ⟨qs, rfl, SqT.of upd_same, fun x hx => s7.seqT (wol_le.seqT (ht6 x (hqs.mem_iff.mp hx)))⟩ (by rw [sn_len, hqs.length_eq]; exact hgl) (fun g hg => hgs g ((hmm g).mp hg)) ?_
          refine cut_span fun c hc => ?_
          have hb := Nat.testBit_log2 hc.ne
          have hl : c.log2 < (sn es).length := by
            refine Nat.lt_of_not_le fun z => ?_
            have := hc.cut.1 _ z
            rw [hb] at this
            cases this
          have hx : (en (sn es) c.log2).1 ∈ grp n ms (ms.getD (en (sn es) c.log2).1 0) := grp_mem.mpr ⟨(hW.en hl).2.2, rfl⟩
          obtain ⟨g, g1, g2⟩ := hcm _ ((hzm _).mpr ((kn3 _).mpr (List.ne_nil_of_mem hx))) c hc ⟨_, hl, hb, rfl⟩
          exact ⟨g, (hmm g).mpr g1, g2⟩
end
end Fb

/-! FbM5 -/
set_option maxHeartbeats 4000000
/-! Rings of a forest's rest, bonds of a forest: bases with own ties. -/
namespace Fb
/-- picks with own ties that span all that P tells -/
structure Bas (m : Nat) (P : Nat → Prop) (rs : List Nat) (L : List (List Nat)) : Prop where
  len : L.length = rs.length
  asc : ∀ g ∈ L, Asc g
  lt : ∀ g ∈ L, ∀ u ∈ g, u < m
  own : ∀ (j k : Nat) g r, L[j]? = some g → rs[k]? = some r → (r ∈ g ↔ j = k)
  all : ∀ g ∈ L, P (mk g)
  sp : ∀ x, P x ↔ Span (L.map mk) x
theorem mk_at {L : List (List Nat)} {j a : Nat} (h : (L.map mk)[j]? = some a) : ∃ g, L[j]? = some g ∧ a = mk g := by
  rw [List.getElem?_map] at h
  cases q : L[j]? with
  | none => rw [q] at h; cases h
  | some g => rw [q] at h; exact ⟨g, rfl, (Option.some.inj h).symm⟩
theorem bas_of {m : Nat} {P : Nat → Prop} {rs : List Nat} {L : List (List Nat)} (h0 : P 0) (hx : ∀ a b, P a → P b → P (a ^^^ b)) (hl : L.length = rs.length) (ha : ∀ g ∈ L, Asc g) (hlt : ∀ g ∈ L, ∀ u ∈ g, u < m)
    (ho : ∀ (j k : Nat) g r, L[j]? = some g → rs[k]? = some r → (r ∈ g ↔ j = k)) (hP : ∀ g ∈ L, P (mk g)) (hz : ∀ x, P x → (∀ r ∈ rs, x.testBit r = false) → x = 0) : Bas m P rs L := by
  have hPm : ∀ a ∈ L.map mk, P a := fun a ha' => by
    obtain ⟨g, hg, rfl⟩ := List.mem_map.mp ha'
    exact hP g hg
  refine ⟨hl, ha, hlt, ho, hP, fun x => ⟨fun hx' => basis_span h0 hx hPm (by rw [List.length_map]; exact hl) (fun j k a r h1 h2 => ?_) hz hx', span_closed h0 hx hPm⟩⟩
  obtain ⟨g, hg, rfl⟩ := mk_at h1
  rw [mk_bit (ha g (List.mem_of_getElem? hg))]
  exact dec_congr (ho j k g r hg h2)
/-- the places are told by the own ties -/
theorem bas_told {m : Nat} {P : Nat → Prop} {rs : List Nat} {L : List (List Nat)} (h : Bas m P rs L) {q t : List Nat} (hq : Asc q) (ht : Asc t) (hb : ∀ i ∈ t, i < L.length) (hs : sel (L.map mk) (mk t) = mk q) : t = (List.range rs.length).filter fun k => decide (rs.getD k 0 ∈ q) := by
  refine asc_ext ht (List.Pairwise.filter _ List.pairwise_lt_range) fun k => ?_
  rw [List.mem_filter, List.mem_range, decide_eq_true_iff]
  have key : k < rs.length → (k ∈ t ↔ rs.getD k 0 ∈ q) := fun hk => by
    have hr : rs[k]? = some rs[k] := List.getElem?_eq_getElem hk
    have e : rs.getD k 0 = rs[k] := by rw [List.getD_eq_getElem?_getD, hr]; rfl
    have b := sel_bit (b := rs[k]) (ms := L.map mk) (k := k) (mk t) (fun j a hj => by
      obtain ⟨g, hg, rfl⟩ := mk_at hj
      rw [mk_bit (h.asc g (List.mem_of_getElem? hg))]
      exact dec_congr (h.own j k g _ hg hr)) (by rw [List.length_map, h.len]; exact hk)
    rw [hs, mk_bit hq, mk_bit ht] at b
    rw [e]
    constructor
    · intro z
      rw [decide_eq_true z] at b
      exact of_decide_eq_true b
    · intro z
      rw [decide_eq_true z] at b
      exact of_decide_eq_true b.symm
  constructor
  · intro z
    have hk := hb k z
    rw [h.len] at hk
    exact ⟨hk, (key hk).mp z⟩
  · rintro ⟨a, b⟩
    exact (key a).mpr b
theorem nodup_ix {α : Type} {l : List α} (h : l.Nodup) {i j : Nat} {a : α} (hi : l[i]? = some a) (hj : l[j]? = some a) : i = j := by
  obtain ⟨h1, e1⟩ := List.getElem?_eq_some_iff.mp hi
  obtain ⟨h2, e2⟩ := List.getElem?_eq_some_iff.mp hj
  rcases Nat.lt_trichotomy i j with q | q | q
  · exact absurd (e1.trans e2.symm) ((List.pairwise_iff_getElem.mp h) i j h1 h2 q)
  · exact q
  · exact absurd (e2.trans e1.symm) ((List.pairwise_iff_getElem.mp h) j i h2 h1 q)
/-- the ties that are not in the forest -/
def rst (m : Nat) (F : List Nat) : List Nat := (List.range m).filter fun i => !decide (i ∈ F)
theorem rst_mem {m : Nat} {F : List Nat} {i : Nat} : i ∈ rst m F ↔ i < m ∧ i ∉ F := by
  unfold rst
  rw [List.mem_filter, List.mem_range]
  by_cases h : i ∈ F <;> simp [h]
theorem rst_asc (m : Nat) (F : List Nat) : Asc (rst m F) := List.Pairwise.filter _ List.pairwise_lt_range
/-- what ring_with tells of a tie -/
def RngOf (E : List (Nat × Nat)) (F : List Nat) (t : Nat) (g : List Nat) : Prop := Asc g ∧ (∀ u ∈ g, u < E.length ∧ (u = t ∨ u ∈ F)) ∧ t ∈ g ∧ EvenM E (mk g)
/-- what bond_with tells of a tie -/
def BndOf (E : List (Nat × Nat)) (F : List Nat) (t : Nat) (g : List Nat) : Prop := Asc g ∧ (∀ u ∈ g, u < E.length) ∧ t ∈ g ∧ (∀ u ∈ F, u ≠ t → u ∉ g) ∧ CutM E (mk g)
theorem out_bas {E : List (Nat × Nat)} {F : List Nat} (hF : Fir E F) {L : List (List Nat)} (hl : L.length = (rst E.length F).length) (h : ∀ (j : Nat) g, L[j]? = some g → RngOf E F ((rst E.length F).getD j 0) g) : Bas E.length (EvenM E) (rst E.length F) L := by
  have at' : ∀ g ∈ L, ∃ t, RngOf E F t g := fun g hg => by
    obtain ⟨j, hj⟩ := List.getElem?_of_mem hg
    exact ⟨_, h j g hj⟩
  refine bas_of (even_zero E) (fun a b => even_xor) hl (fun g hg => (at' g hg).elim fun _ x => x.1) (fun g hg u hu => (at' g hg).elim fun _ x => (x.2.1 u hu).1) (fun j k g r hj hk => ?_) (fun g hg => (at' g hg).elim fun _ x => x.2.2.2) fun x hx hz => ?_
  · obtain ⟨g1, g2, g3, g4⟩ := h j g hj
    have hr := rst_mem.mp (List.mem_of_getElem? hk)
    have hjl : j < (rst E.length F).length := by
      rw [← hl]
      exact (List.getElem?_eq_some_iff.mp hj).1
    have ej : (rst E.length F)[j]? = some ((rst E.length F).getD j 0) := by
      rw [List.getD_eq_getElem?_getD, List.getElem?_eq_getElem hjl]
      rfl
    constructor
    · intro z
      rcases (g2 r z).2 with q | q
      · rw [← q] at ej
        exact nodup_ix ((rst_asc E.length F).imp fun h => Nat.ne_of_lt h) ej hk
      · exact absurd q hr.2
    · intro z
      subst z
      rw [ej] at hk
      cases hk
      exact g3
  · refine even_in_forest hF.fst hx fun i hi => ?_
    by_cases hil : i < E.length
    · exact hz i (rst_mem.mpr ⟨hil, hi⟩)
    · exact hx.1 i (by omega)
theorem in_bas {E : List (Nat × Nat)} {F : List Nat} (hF : Fir E F) {L : List (List Nat)} (hl : L.length = F.length) (h : ∀ (j : Nat) g, L[j]? = some g → BndOf E F (F.getD j 0) g) : Bas E.length (CutM E) F L := by
  have at' : ∀ g ∈ L, ∃ t, BndOf E F t g := fun g hg => by
    obtain ⟨j, hj⟩ := List.getElem?_of_mem hg
    exact ⟨_, h j g hj⟩
  refine bas_of (cut_zero E) (fun a b => cut_xor) hl (fun g hg => (at' g hg).elim fun _ x => x.1) (fun g hg u hu => (at' g hg).elim fun _ x => x.2.1 u hu) (fun j k g r hj hk => ?_) (fun g hg => (at' g hg).elim fun _ x => x.2.2.2.2) fun x hx hz => cut_off_forest hF.fst hx hz
  obtain ⟨g1, g2, g3, g4, g5⟩ := h j g hj
  have hjl : j < F.length := by
    rw [← hl]
    exact (List.getElem?_eq_some_iff.mp hj).1
  have ej : F[j]? = some (F.getD j 0) := by
    rw [List.getD_eq_getElem?_getD, List.getElem?_eq_getElem hjl]
    rfl
  constructor
  · intro z
    by_cases q : r = F.getD j 0
    · rw [← q] at ej
      exact nodup_ix (hF.fst.asc.imp fun h => Nat.ne_of_lt h) ej hk
    · exact absurd z (g4 r (List.mem_of_getElem? hk) q)
  · intro z
    subst z
    rw [ej] at hk
    cases hk
    exact g3
/-- a sum of some of them stays within the ties -/
theorem xl_lt {m : Nat} {L : List (List Nat)} (ha : ∀ g ∈ L, Asc g) (h : ∀ g ∈ L, ∀ u ∈ g, u < m) {t : List Nat} (ht : Asc t) (e : mk t = xl (L.map mk)) : ∀ u ∈ t, u < m := fun u hu => by
  refine Nat.lt_of_not_le fun hm => ?_
  have hb := xl_bound (B := m) (l := L.map mk) (fun a ha' i hi => by
    obtain ⟨g, hg, rfl⟩ := List.mem_map.mp ha'
    rw [mk_bit (ha g hg)]
    exact decide_eq_false fun z => by
      have := h g hg i z
      omega) u hm
  rw [← e, mk_bit ht, decide_eq_true hu] at hb
  cases hb
end Fb

/-! FbZ1 -/
set_option maxHeartbeats 4000000
/-! _law_by_web -/
namespace Fb
open PySem PySem.Spec PyProof.Rows L2
section
variable {K : PySem.W.Frag} {J : It} {n : Nat} {Gd : Hp → Prop} {Y : Nat → Hp → V → Hp → Prop}
/-- a comprehension of new picks -/
theorem lc_pk (w : Walk J n Gd Y) {g : TG} {tt : TT} {te : TE} {vs : List Nat} {σ : L2.St} {H1 : Hp} {D : Addr} {Qd : Hp → Prop} (Φ : Nat → List Nat → Prop) (hn : n ≤ 100000) (hD : H1 D = none) (hG : ∀ H, Same H1 H → Gd H)
    (hs : ∀ i x H H' (Ky : V → Hp → Prop) (Kn : Hp → Prop), i < n → Same H1 H → Y i H x H' → (∀ a g H4, Same H H4 → Nts K H4 a g → Φ i g → Ky (.ref a) H4) →
      g x (wipe σ vs) H' fun σ2 H2 => wipe σ2 vs = wipe σ vs ∧ tt σ2 H2 fun b H3 => if b = true then te σ2 H3 Ky else Kn H3)
    (hd : ∀ H ps, Same H1 H → H D = some (.lst (rf ps)) → Tg (Nts K) H ps → ps.length = n → (∀ i g, (sn ps)[i]? = some g → Φ i g) → Qd H) :
    ∃ W : Nat → Nat → Hp → Prop, (∃ m, W 0 m (upd H1 D (.lst []))) ∧ ∀ i m H, W i m H →
      (J.stop i H ∧ Qd H) ∨ (J.go i H ∧ ∃ Nx : Hp → Prop, (∀ H', Nx H' → ∃ m', m' < m ∧ W (i + 1) m' H') ∧ ∀ x H', J.yld i H x H' → g x (wipe σ vs) H' fun σ2 H2 => wipe σ2 vs = wipe σ vs ∧ tt σ2 H2 fun b H3 =>
        if b = true then te σ2 H3 fun y H4 => ∃ acc, H4 D = some (.lst acc) ∧ acc.length < sizeLine ∧ Nx (upd H4 D (.lst (acc ++ [y]))) else Nx H3) := by
  refine lc_it w (fun i H => ∃ ps : List (Addr × List Nat), Same H1 H ∧ H D = some (.lst (rf ps)) ∧ Tg (Nts K) (wol [D] H) ps ∧ ps.length = i ∧ ∀ j g, (sn ps)[j]? = some g → Φ j g)
    ⟨[], same_new hD, upd_same, fun _ h => by simp at h, rfl, fun j g h => by simp [sn] at h⟩ (fun i H hi ⟨_, s, _⟩ => hG H s) (fun i x H H' hi ⟨ps, s, e, t, hl, hp⟩ y => ?_) fun H ⟨ps, s, e, t, hl, hp⟩ => hd H ps s e (t.mono mo_nts wol_le) hl hp
  refine hs i x H H' _ _ hi s y fun a q H4 s4 hq hΦ => ⟨_, s4 _ _ e, by rw [rf_len, hl, sizeLine_eq]; omega, ps ++ [(a, q)], same_at (s.trans s4) hD, by rw [upd_same, rf_snoc], ?_, by rw [List.length_append, hl]; rfl, fun j g hj => ?_⟩
  · rw [wol_upd (by simp)]
    intro x hx
    rcases List.mem_append.mp hx with m | m
    · exact mo_nts _ _ _ _ (wol_mono s4) (t x m)
    · rw [List.mem_singleton.mp m]
      refine sqt_wol (fun d hd' ys r => ?_) hq
      rw [List.mem_singleton.mp hd'] at r
      rcases r with r | ⟨o, r⟩ <;> (rw [s4 _ _ e] at r; cases r)
  · rw [sn_snoc, List.getElem?_append] at hj
    split at hj
    · exact hp j g hj
    · rename_i hge
      rw [sn_len] at hj hge
      have hj0 : j - ps.length = 0 := by
        have := (List.getElem?_eq_some_iff.mp hj).1
        simp only [List.length_cons, List.length_nil] at this
        omega
      rw [hj0] at hj
      cases hj
      have : j = i := by omega
      rw [this]
      exact hΦ
end
theorem walk_rngA {n : Nat} : Walk (Itr 0 ((n : Nat) : Int).toNat) n (fun _ => True) (YAt (nv (List.range n))) :=
  walk_rngN.mono (fun _ h => h) fun i H x H' hi _ y => ⟨y.1, by rw [y.2]; exact nv_at (by simp [hi])⟩
theorem Lake.pks {K : PySem.W.Frag} {G H : Hp} {p f : Addr} {T : Nat} (h : Lake K G H p f T) {a : Addr} {L : List (List Nat)} (hx : Pks K H a L) : Pks K (wol [p, f] H) a L := by
  obtain ⟨ps, e, h1, h2⟩ := hx
  exact ⟨ps, e, h.tup h1, fun x hx => h.tup (h2 x hx)⟩
theorem nil_i {σ : L2.St} {H : Hp} {Q : List V → Hp → Prop} (h : Q [] H) : tNil σ H Q := h
/-- a tuple stays as a list is changed -/
theorem sqt_put {K : PySem.W.Frag} {H : Hp} {d a : Addr} {xs ys : List V} {o : HO} (hd : H d = some (.lst ys)) (h : SqT K H a xs) : SqT K (upd H d o) a xs := by
  have h1 : SqT K (wol [d] H) a xs := sqt_wol (fun b hb zs r => by
    rw [List.mem_singleton.mp hb] at r
    rcases r with r | ⟨o, r⟩ <;> (rw [hd] at r; cases r)) h
  have e : wol [d] (upd H d o) = wol [d] H := wol_upd (by simp)
  rw [← e] at h1
  exact wol_le.seqT h1
/-- the places of a pick's ties -/
def plc (rs q : List Nat) : List Nat := (List.range rs.length).filter fun k => decide (rs.getD k 0 ∈ q)
/-- what is due: none, or the places -/
def Due (K : PySem.W.Frag) (H : Hp) (v : V) (r : Bool) (t : List Nat) : Prop := (r = false ∧ v = .non) ∨ (r = true ∧ ∃ a, v = .ref a ∧ Nts K H a t)
theorem Due.mono {K : PySem.W.Frag} {H H' : Hp} {v : V} {r : Bool} {t : List Nat} (h : Due K H v r t) (s : Same H H') : Due K H' v r t := h.imp id fun ⟨a, b, c, d⟩ => ⟨a, b, c, s.seqT d⟩
theorem Due.put {K : PySem.W.Frag} {H : Hp} {v : V} {r : Bool} {t : List Nat} {d : Addr} {ys : List V} {o : HO} (h : Due K H v r t) (hd : H d = some (.lst ys)) : Due K (upd H d o) v r t := h.imp id fun ⟨a, b, c, e⟩ => ⟨a, b, c, sqt_put hd e⟩
def dueD (r : Bool) (t : List Nat) : PyData := if r = true then pd t else .none
theorem Due.data {K : PySem.W.Frag} {H : Hp} {v : V} {r : Bool} {t : List Nat} (h : Due K H v r t) : Dp K H v (dueD r t) := by
  unfold dueD
  rcases h with ⟨rfl, rfl⟩ | ⟨rfl, a, rfl, hn⟩
  · rw [if_neg Bool.false_ne_true]
    exact .non
  · rw [if_pos rfl]
    exact dp_nts hn
theorem rep_due {r : Bool} {t : List Nat} (ha : Asc t) (hb : ∀ n ∈ t, n ≤ 1000) : RepD (dueD r t) 1 1001 := by
  unfold dueD
  split
  · exact rep_pd hb (small_len ha hb)
  · exact RepD.none.mono (by decide) (by decide)
theorem summ_due {K : PySem.W.Frag} {m : Nat} {P : Nat → Prop} {rs : List Nat} {L : List (List Nat)} (hB : Bas m P rs L) {q : List Nat} {r : Bool} (hr : r = true ↔ Span (L.map mk) (mk q)) {H : Hp} {a b : Addr} {Q : VK} {E : XK} (h1 : Pks K H a L) (h2 : L.length ≤ 1000) (h3 : Small L) (h4 : Nts K H b q) (h5 : Asc q) (h6 : ∀ n ∈ q, n ≤ 1000)
    (hk : ∀ v H', Same H H' → Due K H' v r (plc rs q) → Q v H') : sp_summands K [.ref a, .ref b] H Q E := by
  refine ⟨a, b, L, q, rfl, h1, h2, h3, h4, h5, h6, fun hns _ H' s => hk .non H' s (.inl ⟨?_, rfl⟩), fun p H' t s hn ha hb hs _ => hk (.ref p) H' s (.inr ⟨hr.mpr ⟨_, hs⟩, p, rfl, ?_⟩)⟩
  · cases r with
    | false => rfl
    | true => exact absurd (hr.mp rfl) hns
  · have e := bas_told hB h5 ha hb hs
    unfold plc
    rw [← e]
    exact hn
-- _law_by_web: slots 0=_law_lake_here 1=_law_net_here 2=_law_count 3=_law_forest 4=_law_around 5=_law_across 6=_law_rest 7=_law_at 8=_law_outs 9=_law_ins 10=_law_some 11=_law_own 12=_law_kinds 13=_law_due 14=_law_k; cells _law_lake_here _law_net_here _law_forest _law_own
abbrev s_law_by_web : Stmt := topS 46
abbrev N_law_by_web : List Str := ["_law_lake_here", "_law_net_here", "_law_count", "_law_forest", "_law_around", "_law_across", "_law_rest", "_law_at", "_law_outs", "_law_ins", "_law_some", "_law_own", "_law_kinds", "_law_due", "_law_k"]
theorem sc_law_by_web : FnScope N_law_by_web ["_law_lake_here", "_law_net_here"] (defScope s_law_by_web) := ⟨rfl, rfl, rfl, by decide +kernel, rfl, by decide +kernel, by decide +kernel⟩
section
variable {P : Program} {w : World} {K : PySem.W.Frag} {mg : Str → Option Value} {base : Heap} {mt : Nat}
def sp_law_by_web (K : PySem.W.Frag) : Sp := fun vs H Q _ => ∃ (G : Hp) (p f a : Addr) (T n : Nat) (E : List (Nat × Nat)), vs = [.ref p, .ref a] ∧ Lake K G H p f T ∧ Web K (wol [p, f] H) a (n, E) ∧ WebOk n E ∧ n ≤ 6 ∧ E.length ≤ 9 ∧ T + 10000 ≤ 1000000000 ∧
  ∀ H', Q (.bl true) H'
theorem ok_law_by_web {f : Addr} {fd : FuncData} (F : Fun K "_law_by_web" "_law_by_web" s_law_by_web f fd) (T : Bi mg mt) (cfirst_forest : C8.Cal P w K mg base 1 "first_forest" (sp_first_forest K) []) (crings : C8.Cal P w K mg base 3 "rings" (sp_rings K) []) (cbonds : C8.Cal P w K mg base 4 "bonds" (sp_bonds K) []) (c_law_sum : C8.Cal P w K mg base 1 "_law_sum" (sp_law_sum K) []) (c_law_is_met : C8.Cal P w K mg base 2 "_law_is_met" (sp_law_is_met K) []) (cring_with : C8.Cal P w K mg base 2 "ring_with" (sp_ring_with K) []) (cbond_with : C8.Cal P w K mg base 2 "bond_with" (sp_bond_with K) []) (c_law_is_told : CalG P w K mg base 3 "_law_is_told" (sp_law_is_told K)) (cis_even : C8.Cal P w K mg base 2 "is_even" (sp_is_even K) []) (cis_cut : C8.Cal P w K mg base 2 "is_cut" (sp_is_cut K) []) (csummands : C8.Cal P w K mg base 2 "summands" (sp_summands K) []) (c_law_draw : C8.Cal P w K mg base 1 "_law_draw" (sp_law_draw K) []) : FnG P w K mg base CX0 5 f fd ["_law_lake_here", "_law_net_here"] (sp_law_by_web K) := by
  refine okG F sc_law_by_web (fun vs H Q E h => ?_) (fun cdv A outer s H vs Q E hgu hr hcd h => ?_)
  · obtain ⟨G, p, f, a, T, n, E, rfl, _⟩ := h
    rfl
  · obtain ⟨G, p, f, a, U, n, E, rfl, hL, hweb, hW, hn6, hE9, hU, k⟩ := h
    have hu64 := hr.units
    have heb := hW.eb
    have hweb0 := hweb
    obtain ⟨ta, hp, es, rfl, ht, hg⟩ := hweb0
    refine ⟨_, (pss_cons (ps_set (i := 2) sc_law_by_web.nd rfl (Or.inl rfl) (pe_callB call_len_seq (by rfl) T.len (by decide +kernel) (pa_cons (pe_ix ix_tup (pv 1) pe_int (fun _ _ => rfl)) pa_nil)))
      (pss_cons (ps_asg (pe_tup (pa_cons (C8.pe_c cfirst_forest hr (by decide) (by rfl) (pa_cons (pv 1) pa_nil)) (pa_cons (C8.pe_c crings hr (by decide) (by rfl) (pa_cons (pv 1) pa_nil)) (pa_cons (C8.pe_c cbonds hr (by decide) (by rfl) (pa_cons (pv 1) pa_nil)) pa_nil)))) (pg_tup (n := 3) rfl (pgs_cons (pg_name (i := 3) sc_law_by_web.nd rfl (Or.inr rfl)) (pgs_cons (pg_name (i := 4) sc_law_by_web.nd rfl (Or.inl rfl)) (pgs_cons (pg_name (i := 5) sc_law_by_web.nd rfl (Or.inl rfl)) pgs_nil)))))
      (pss_cons (ps_setLc (i := 6) (own := [("_law_at", 7)]) rfl sc_law_by_web.nd rfl rfl (sw_true rfl rfl rfl (by decide +kernel)) (pi_range1 (by rfl) T.range (pa_cons (pv 2) pa_nil)) (blkOk_by (N := N_law_by_web) (sc := (defScope s_law_by_web)) (by decide +kernel)) (fun _ _ _ _ _ => (pg_name (i := 7) sc_law_by_web.nd rfl (Or.inl rfl))) (fun _ _ _ _ _ => (pts_one (pt_cmpR (op_notinN K) (pv 7) (pv 3) (by with_unfolding_all rfl)))) (fun _ _ _ _ _ => (pv 7)))
      (pss_cons (ps_par (i := 8) (j := 9) (by rfl) sc_law_by_web.nd rfl rfl (by decide) rfl rfl (pa_cons (pe_tupleOf (by rfl) T.tuple (pe_lc (own := [("_law_at", 7)]) rfl sc_law_by_web.nd (pi_list (pv 6)) (blkOk_by (N := N_law_by_web) (sc := (defScope s_law_by_web)) (by decide +kernel)) (fun _ _ _ _ _ => (pg_name (i := 7) sc_law_by_web.nd rfl (Or.inl rfl))) (fun _ _ _ _ _ => pts_nil) (fun _ _ _ _ _ => (C8.pe_c cring_with hr (by decide) (by rfl) (pa_cons (pv 1) (pa_cons (pv 7) pa_nil)))))) (pa_cons (pe_tupleOf (by rfl) T.tuple (pe_lc (own := [("_law_at", 7)]) rfl sc_law_by_web.nd (pi_tup (pv 3)) (blkOk_by (N := N_law_by_web) (sc := (defScope s_law_by_web)) (by decide +kernel)) (fun _ _ _ _ _ => (pg_name (i := 7) sc_law_by_web.nd rfl (Or.inl rfl))) (fun _ _ _ _ _ => pts_nil) (fun _ _ _ _ _ => (C8.pe_c cbond_with hr (by decide) (by rfl) (pa_cons (pv 1) (pa_cons (pv 7) pa_nil)))))) pa_nil)) (by rfl))
      (pss_cons (ps_set (i := 10) sc_law_by_web.nd rfl (Or.inl rfl) (pe_lst (pa_cons (pe_tupleOf (by rfl) T.tuple (pe_lc (own := [("_law_at", 7)]) rfl sc_law_by_web.nd (pi_range1 (by rfl) T.range (pa_cons (pv 2) pa_nil)) (blkOk_by (N := N_law_by_web) (sc := (defScope s_law_by_web)) (by decide +kernel)) (fun _ _ _ _ _ => (pg_name (i := 7) sc_law_by_web.nd rfl (Or.inl rfl))) (fun _ _ _ _ _ => (pts_one (pt_cmpR op_eqN (C8.pe_c c_law_draw hr (by decide) (by rfl) (pa_cons (pv 0) (pa_cons pe_int pa_nil))) pe_int (nomark _)))) (fun _ _ _ _ _ => (pv 7)))) (pa_cons (pe_tup pa_nil) (pa_cons (pe_tupRg rfl (by rfl) T.tuple (prg_1 (by rfl) T.range (pv 2))) pa_nil)))))
      (pss_cons (ps_expr (pe_bm PySem.F.plainAttrs_list PySem.F.slot_list_append PySem.F.type_list_append mt_append (pv 10) (pa_cons (C8.pe_c c_law_sum hr (by decide) (by rfl) (pa_cons (pe_lc (own := [("_law_own", 11)]) rfl sc_law_by_web.nd (pi_tup (pv 8)) (blkOk_by (N := N_law_by_web) (sc := (defScope s_law_by_web)) (by decide +kernel)) (fun _ _ _ _ _ => (pg_name (i := 11) sc_law_by_web.nd rfl (Or.inl rfl))) (fun _ _ _ _ _ => (pts_one (pt_cmpR op_eqN (C8.pe_c c_law_draw hr (by decide) (by rfl) (pa_cons (pv 0) (pa_cons pe_int pa_nil))) pe_int (nomark _)))) (fun _ _ _ _ _ => (pv 11))) pa_nil)) pa_nil)))
      (pss_cons (ps_expr (pe_bm PySem.F.plainAttrs_list PySem.F.slot_list_append PySem.F.type_list_append mt_append (pv 10) (pa_cons (C8.pe_c c_law_sum hr (by decide) (by rfl) (pa_cons (pe_lc (own := [("_law_own", 11)]) rfl sc_law_by_web.nd (pi_tup (pv 9)) (blkOk_by (N := N_law_by_web) (sc := (defScope s_law_by_web)) (by decide +kernel)) (fun _ _ _ _ _ => (pg_name (i := 11) sc_law_by_web.nd rfl (Or.inl rfl))) (fun _ _ _ _ _ => (pts_one (pt_cmpR op_eqN (C8.pe_c c_law_draw hr (by decide) (by rfl) (pa_cons (pv 0) (pa_cons pe_int pa_nil))) pe_int (nomark _)))) (fun _ _ _ _ _ => (pv 11))) pa_nil)) pa_nil)))
      (pss_cons (ps_for PassesOwn.never rfl (pi_list (pv 10)) (pg_name (i := 11) sc_law_by_web.nd rfl (Or.inr rfl))
        (pss_cons (ps_set (i := 12) sc_law_by_web.nd rfl (Or.inl rfl) (pe_lst (pa_cons (C8.pe_c c_law_is_met hr (by decide) (by rfl) (pa_cons (pv 8) (pa_cons (pv 11) pa_nil))) (pa_cons (C8.pe_c c_law_is_met hr (by decide) (by rfl) (pa_cons (pv 9) (pa_cons (pv 11) pa_nil))) pa_nil))))
        (pss_cons (ps_if (pt_cmpR op_ne (pe_callB (call_rep hgu hu64) (by rfl) T.repr (by decide +kernel) (pa_cons (pe_lst (pa_cons (C8.pe_c cis_even hr (by decide) (by rfl) (pa_cons (pv 1) (pa_cons (pv 11) pa_nil))) (pa_cons (C8.pe_c cis_cut hr (by decide) (by rfl) (pa_cons (pv 1) (pa_cons (pv 11) pa_nil))) pa_nil))) pa_nil)) (pe_callB (call_rep hgu hu64) (by rfl) T.repr (by decide +kernel) (pa_cons (pv 12) pa_nil)) (nomark _))
          (pss_one (ps_ret pe_bl))
          pss_nil)
        (pss_cons (ps_if (PW.pt (pw_or (pt_not (pt_val (pe_cG c_law_is_told hgu hr (by decide) (by rfl) (pa_cons (pv 4) (pa_cons (pv 11) (pa_cons (pe_ix ix_list (pv 12) pe_int (fun _ _ => rfl)) pa_nil)))))) (pw_or1 (pt_not (pt_val (pe_cG c_law_is_told hgu hr (by decide) (by rfl) (pa_cons (pv 5) (pa_cons (pv 11) (pa_cons (pe_ix ix_list (pv 12) pe_int (fun _ _ => rfl)) pa_nil)))))))))
          (pss_one (ps_ret pe_bl))
          pss_nil)
        (pss_cons (ps_set (i := 13) sc_law_by_web.nd rfl (Or.inl rfl) (pe_lst (pa_cons pe_non (pa_cons pe_non pa_nil))))
        (C8.pss_cut (ps_if (pt_val (pe_ix ix_list (pv 12) pe_int (fun _ _ => rfl)))
          (pss_one (ps_asg (pe_tupleOf (by rfl) T.tuple (pe_lc (own := [("_law_k", 14), ("_law_at", 7)]) rfl sc_law_by_web.nd (pi_enum (by rfl) T.enumerate (pa_cons (pv 6) pa_nil)) (blkOk_by (N := N_law_by_web) (sc := (defScope s_law_by_web)) (by decide +kernel)) (fun _ _ _ _ _ => (pg_tupK K (n := 2) rfl (pgs_cons (pg_name (i := 14) sc_law_by_web.nd rfl (Or.inl rfl)) (pgs_cons (pg_name (i := 7) sc_law_by_web.nd rfl (Or.inl rfl)) pgs_nil)))) (fun _ _ _ _ _ => (pts_one (pt_cmpR (op_inN K) (pv 7) (pv 11) (by with_unfolding_all rfl)))) (fun _ _ _ _ _ => (pv 14)))) (pg_sub (pv 13) pe_int set_listN)))
          pss_nil)
        (C8.pss_cut (ps_if (pt_val (pe_ix ix_list (pv 12) pe_int (fun _ _ => rfl)))
          (pss_one (ps_asg (pe_tupleOf (by rfl) T.tuple (pe_lc (own := [("_law_k", 14), ("_law_at", 7)]) rfl sc_law_by_web.nd (pi_enumT (by rfl) T.enumerate (pa_cons (pv 3) pa_nil)) (blkOk_by (N := N_law_by_web) (sc := (defScope s_law_by_web)) (by decide +kernel)) (fun _ _ _ _ _ => (pg_tupK K (n := 2) rfl (pgs_cons (pg_name (i := 14) sc_law_by_web.nd rfl (Or.inl rfl)) (pgs_cons (pg_name (i := 7) sc_law_by_web.nd rfl (Or.inl rfl)) pgs_nil)))) (fun _ _ _ _ _ => (pts_one (pt_cmpR (op_inN K) (pv 7) (pv 11) (by with_unfolding_all rfl)))) (fun _ _ _ _ _ => (pv 14)))) (pg_sub (pv 13) pe_int set_listN)))
          pss_nil)
        (pss_one (ps_if (pt_cmpR op_ne (pe_callB (call_rep hgu hu64) (by rfl) T.repr (by decide +kernel) (pa_cons (pe_lst (pa_cons (C8.pe_c csummands hr (by decide) (by rfl) (pa_cons (pv 8) (pa_cons (pv 11) pa_nil))) (pa_cons (C8.pe_c csummands hr (by decide) (by rfl) (pa_cons (pv 9) (pa_cons (pv 11) pa_nil))) pa_nil))) pa_nil)) (pe_callB (call_rep hgu hu64) (by rfl) T.repr (by decide +kernel) (pa_cons (pv 13) pa_nil)) (nomark _))
          (pss_one (ps_ret pe_bl))
          pss_nil)))))))))
      (pss_one (ps_ret pe_bl)))))))))), ?_⟩
    -- count
    refine ⟨.ref a, rfl, a, _, 1, .ref ta, rfl, rfl, wol_le.seqT hp, atI_nat (j := 1) rfl, ta, rf es, rfl, .inr (wol_le.seqT ht), ?_⟩
    have hcl : (rf es).length = (sn es).length := by rw [rf_len, sn_len]
    rw [hcl]
    have hwebH : Web K H a (n, sn es) := mo_web _ _ _ _ wol_le hweb
    -- forest, around, across
    refine ⟨.ref a, rfl, a, n, sn es, rfl, hwebH, hW, fun H1 fa F s1 hF1 hFir => ?_⟩
    refine ⟨.ref a, rfl, a, n, sn es, rfl, mo_web _ _ _ _ s1 hwebH, hW, hE9, fun H2 ra Lr s2 hPr hlr hgr hsr => ?_⟩
    have s12 := s1.trans s2
    refine ⟨.ref a, rfl, a, n, sn es, rfl, mo_web _ _ _ _ s12 hwebH, hW, hn6, fun H3 ba Lb s3 hPb hlb hgb hsb => ⟨by show 3 ≤ sizeLine; decide, fun u hu' => ?_⟩⟩
    have su := same_new (o := .tup [.ref fa, .ref ra, .ref ba]) hu'
    refine ⟨u, _, rfl, SqT.of upd_same, rfl, _, _, rfl, _, _, rfl, _, _, rfl, rfl, ?_⟩
    have s13 := (s12.trans s3).trans su
    have hF3 := ((s2.trans s3).trans su).seqT hF1
    have hPr3 := mo_pks _ _ _ _ (s3.trans su) hPr
    have hPb3 := mo_pks _ _ _ _ su hPb
    generalize upd H3 u (.tup [.ref fa, .ref ra, .ref ba]) = H4 at su s13 hF3 hPr3 hPb3 ⊢
    clear hPr hPb hF1 su hu'
    -- rest
    refine ⟨_, rfl, ((sn es).length : Int), rfl, by omega, by omega, fun D hD => ?_⟩
    refine lc_acc walk_rngN (fun i => if (!decide (i ∈ F)) = true then some (V.int (i : Int)) else none) (by omega) hD (fun _ _ => True.intro) (fun i x H5 H6 Ky Kn hi s y ky kn => ?_) fun H5 s5 e5 => ?_
    · obtain ⟨rfl, rfl⟩ := y
      refine ⟨rfl, _, rfl, .ref fa, rfl, fa, F, i, rfl, rfl, .inr (s.seqT hF3), _, rfl, ?_⟩
      exact ite2 (fun h => ⟨_, rfl, ky _ _ (if_pos h) (Same.refl _)⟩) fun h => kn (if_neg h) _ (Same.refl _)
    rw [fm_if (fun i => !decide (i ∈ F)) (List.range (sn es).length)] at e5
    have e5 : H5 D = some (.lst (nv (rst (sn es).length F))) := e5
    have hrm : ∀ i, i ∈ rst (sn es).length F ↔ i < (sn es).length ∧ i ∉ F := fun i => rst_mem
    have hrl : (rst (sn es).length F).length ≤ 9 := by
      have := nat_nodup (sn es).length _ ((rst_asc (sn es).length F).imp fun h => Nat.ne_of_lt h) fun x hx => ((hrm x).mp hx).1
      omega
    have hFl : F.length ≤ 9 := by
      have := nat_nodup (sn es).length _ (hFir.fst.asc.imp fun h => Nat.ne_of_lt h) fun x hx => hFir.fst.lt x hx
      omega
    have s15 := s13.trans s5
    have hF5 := s5.seqT hF3
    have getD_of : ∀ {l : List Nat} {i t : Nat}, l[i]? = some t → l.getD i 0 = t := fun {l i t} h => by
      rw [List.getD_eq_getElem?_getD, h]
      rfl
    -- outs
    refine ⟨.ref D, rfl, D, rfl, ⟨_, SqL.of e5⟩, fun D2 hD2 => ?_⟩
    refine lc_pk (K := K) walk_list (fun i g => RngOf (sn es) F ((rst (sn es).length F).getD i 0) g) (by rw [nv_len]; omega) hD2 (fun _ s => SqL.of (s _ _ e5)) (fun i x H6 H7 Ky Kn hi s y ky => ?_) fun H6 os s6 e6 hto hol hΦo => ?_
    · obtain ⟨rfl, hx⟩ := y
      obtain ⟨t, ht', rfl⟩ := nv_get hx
      obtain ⟨t1, t2⟩ := (hrm t).mp (mem_at ht')
      exact ⟨rfl, .ref a, rfl, _, rfl, a, n, sn es, F, t, rfl, mo_web _ _ _ _ (s15.trans s) hwebH, hW, hFir, t1, t2, fun H8 b g s8 hb h1 h2 h3 h4 => ky b g H8 s8 hb (by rw [getD_of ht']; exact ⟨h1, h2, h3, h4⟩)⟩
    refine .inl ⟨D2, _, rfl, SqL.of e6, fun oa hoa => ?_⟩
    have so := same_new (o := .tup (rf os)) hoa
    have hos : Pks K (upd H6 oa (.tup (rf os))) oa (sn os) := ⟨os, rfl, SqT.of upd_same, hto.mono mo_nts so⟩
    have hob := out_bas hFir (L := sn os) (by rw [sn_len, hol, nv_len]) hΦo
    generalize upd H6 oa (.tup (rf os)) = H7 at so hos ⊢
    have s57 := s6.trans so
    have s17 := s15.trans s57
    have hF7 := s57.seqT hF5
    -- ins
    refine ⟨.ref fa, rfl, fa, rfl, ⟨_, hF7⟩, fun D3 hD3 => ?_⟩
    refine lc_pk (K := K) walk_tup (fun i g => BndOf (sn es) F (F.getD i 0) g) (by rw [nv_len]; omega) hD3 (fun _ s => s.seqT hF7) (fun i x H8 H9 Ky Kn hi s y ky => ?_) fun H8 is s8 e8 hti hil hΦi => ?_
    · obtain ⟨rfl, hx⟩ := y
      obtain ⟨t, ht', rfl⟩ := nv_get hx
      exact ⟨rfl, .ref a, rfl, _, rfl, a, n, sn es, F, t, rfl, mo_web _ _ _ _ (s17.trans s) hwebH, hW, hFir, mem_at ht', fun H10 b g s10 hb h1 h2 h3 h4 h5 => ky b g H10 s10 hb (by rw [getD_of ht']; exact ⟨h1, h2, h3, h4, h5⟩)⟩
    refine .inl ⟨D3, _, rfl, SqL.of e8, fun ia hia => ?_⟩
    have si := same_new (o := .tup (rf is)) hia
    have his : Pks K (upd H8 ia (.tup (rf is))) ia (sn is) := ⟨is, rfl, SqT.of upd_same, hti.mono mo_nts si⟩
    have hib := in_bas hFir (L := sn is) (by rw [sn_len, hil, nv_len]) hΦi
    generalize upd H8 ia (.tup (rf is)) = H9 at si his ⊢
    have s79 := s8.trans si
    have s19 := s17.trans s79
    have e9 : H9 D = some (.lst (nv (rst (sn es).length F))) := (s57.trans s79) _ _ e5
    have hF9 := s79.seqT hF7
    have hos9 := mo_pks _ _ _ _ s79 hos
    have hPr9 := mo_pks _ _ _ _ ((s5.trans s57).trans s79) hPr3
    have hPb9 := mo_pks _ _ _ _ ((s5.trans s57).trans s79) hPb3
    have hol' : (sn os).length ≤ 9 := by rw [hob.len]; exact hrl
    have hil' : (sn is).length ≤ 9 := by rw [hib.len]; exact hFl
    have hDo : D ∉ [p, f] := (hL.new s13).out hD
    clear hΦo hΦi hto hti hol hil e6 e8 hD hD2 hD3 hoa hia so si s6 s8 s57 s79 hos hF7 hF5 hF3 e5 hPr3 hPb3
    have hL9 := hL.new s19
    refine ⟨_, _, rfl, ?_⟩
    -- some
    refine ⟨_, rfl, ((sn es).length : Int), rfl, by omega, by omega, fun D4 hD4 => ?_⟩
    refine lc_dr walk_rngA (nv (List.range (sn es).length)) (by rw [nv_len, List.length_range]) (by omega) hL9 hD4 (fun _ _ => True.intro) (fun i x H H' y => y) (fun j x H10 Ky Kn hx hL10 s10 ky kn => ?_) fun H10 ys hsub hL10 s10 e10 => ?_
    · refine ⟨rfl, .ref p, rfl, G, p, f, 2, _, rfl, hL10, by decide, by have := (List.getElem?_eq_some_iff.mp hx).1; rw [nv_len, List.length_range] at this; omega, fun H11 r11 hL11 s11 hr11 => ⟨r11, 0, rfl, rfl, _, rfl, ?_⟩⟩
      refine ite2 (fun _ => ⟨_, rfl, ky _ hL11 s11⟩) (fun _ => kn _ hL11 s11)
    obtain ⟨ms, rfl, hms⟩ := nv_sub hsub
    refine .inl ⟨D4, _, rfl, SqL.of e10, fun t1 ht1 => ?_⟩
    have st1 := same_new (o := .tup (nv ms)) ht1
    refine ⟨Nat.zero_le _, fun t2 ht2 => ?_⟩
    have st2 := same_new (o := .tup []) ht2
    refine ⟨_, rfl, ((sn es).length : Int), rfl, RgOk.of_le (by omega) (by omega) (by omega) (by omega), fun t3 ht3 => ?_⟩
    have st3 := same_new (o := .tup (rgV 0 ((sn es).length : Int))) ht3
    refine ⟨by show 3 ≤ sizeLine; decide, fun l hl => ?_⟩
    have n1 : Nts K (upd H10 t1 (.tup (nv ms))) t1 ms := SqT.of upd_same
    have n2 : Nts K (upd (upd H10 t1 (.tup (nv ms))) t2 (.tup [])) t2 [] := SqT.of upd_same
    have n3 : Nts K (upd (upd (upd H10 t1 (.tup (nv ms))) t2 (.tup [])) t3 (.tup (rgV 0 ((sn es).length : Int)))) t3 (List.range (sn es).length) := by
      unfold Nts
      rw [← rgV_nat]
      exact SqT.of upd_same
    have n1 := (st2.trans st3).seqT n1
    have n2 := st3.seqT n2
    have sa := (st1.trans st2).trans st3
    have hLa := hL10.new sa
    have s9a := s10.trans (wol_mono (ds := [p, f]) sa)
    generalize upd (upd (upd H10 t1 (.tup (nv ms))) t2 (.tup [])) t3 (.tup (rgV 0 ((sn es).length : Int))) = Ha at hl n1 n2 n3 hLa s9a ⊢
    clear sa st1 st2 st3 ht1 ht2 ht3
    have lo := hLa.out hl
    have hl9 : H9 l = none := free_le s9a lo hl
    have sln := same_new (o := .lst []) hl
    have F0 : Fnd K G H9 p f l (U + (sn es).length) (upd Ha l (.lst [])) [] := ⟨hLa.new sln, s9a.trans (wol_mono sln), hl9, lo, hL9.free hl9, upd_same, fun _ h => by simp at h, fun _ h => by simp [sn] at h⟩
    have hmsA : Asc ms ∧ ∀ x ∈ ms, x ≤ 1000 := ⟨List.pairwise_lt_range.sublist hms, fun x hx => by have := List.mem_range.mp (hms.subset hx); omega⟩
    have hnlA : Asc [] ∧ ∀ x ∈ ([] : List Nat), x ≤ 1000 := ⟨List.Pairwise.nil, fun _ h => by simp at h⟩
    have hrgA : Asc (List.range (sn es).length) ∧ ∀ x ∈ List.range (sn es).length, x ≤ 1000 := ⟨List.pairwise_lt_range, fun x hx => by have := List.mem_range.mp hx; omega⟩
    have F1 := F0.put (F0.tup (sln.seqT n1)) hmsA
    rw [upd_upd] at F1
    have F2 := F1.put (F1.tup ((same_new hl).seqT n2)) hnlA
    rw [upd_upd] at F2
    have F3 := F2.put (F2.tup ((same_new hl).seqT n3)) hrgA
    rw [upd_upd] at F3
    have F3 : Fnd K G H9 p f l (U + (sn es).length) (upd Ha l (.lst [.ref t1, .ref t2, .ref t3])) [(t1, ms), (t2, []), (t3, List.range (sn es).length)] := F3
    have hlt3 : ∀ q ∈ sn [(t1, ms), (t2, []), (t3, List.range (sn es).length)], ∀ x ∈ q, x < (sn es).length := fun q hq x hx => by
      rcases List.mem_cons.mp hq with e | hq
      · rw [e] at hx
        exact List.mem_range.mp (hms.subset hx)
      rcases List.mem_cons.mp hq with e | hq
      · rw [e] at hx
        simp at hx
      · rw [List.mem_singleton.mp hq] at hx
        exact List.mem_range.mp hx
    generalize upd Ha l (.lst [.ref t1, .ref t2, .ref t3]) = Hb at F3 ⊢
    clear F0 F1 F2 sln n1 n2 n3
    obtain ⟨ps3, hps3⟩ : ∃ ps3, ps3 = [(t1, ms), (t2, []), (t3, List.range (sn es).length)] := ⟨_, rfl⟩
    have hps3l : ps3.length = 3 := by rw [hps3]; rfl
    rw [← hps3] at F3 hlt3
    -- the sums
    obtain ⟨qo, eqo, hoT, hog⟩ := id (hL9.pks hos9)
    obtain ⟨qi, eqi, hiT, hig⟩ := id (hL9.pks his)
    have hso : Small (sn qo) := fun g hg => by
      rw [eqo] at hg
      exact ⟨hob.asc g hg, fun x hx => by have := hob.lt g hg x hx; omega⟩
    have hsi : Small (sn qi) := fun g hg => by
      rw [eqi] at hg
      exact ⟨hib.asc g hg, fun x hx => by have := hib.lt g hg x hx; omega⟩
    have hqol : qo.length ≤ 9 := by rw [← sn_len, eqo]; exact hol'
    have hqil : qi.length ≤ 9 := by rw [← sn_len, eqi]; exact hil'
    refine ⟨.ref l, rfl, .inl ⟨rfl, _, SqL.of F3.li⟩, .ref oa, rfl, oa, rfl, ⟨_, wol_le.seqT (F3.sm.seqT hoT)⟩, fun D5 hD5 => ?_⟩
    refine lc_dr (walk_tup (K := K) (a := oa) (xs := rf qo)) (rf qo) rfl (by rw [rf_len]; omega) F3.lk hD5 (fun H s => wol_le.seqT (s.seqT (F3.sm.seqT hoT))) (fun i x H H' y => y) (fun j x H12 Ky Kn hx hL12 s12 ky kn => ?_) fun H12 ys hsub hL12 s12 e12 => ?_
    · refine ⟨rfl, .ref p, rfl, G, p, f, 2, _, rfl, hL12, by decide, by have := (List.getElem?_eq_some_iff.mp hx).1; rw [rf_len] at this; omega, fun H13 r13 hL13 s13 hr13 => ⟨r13, 0, rfl, rfl, _, rfl, ?_⟩⟩
      refine ite2 (fun _ => ⟨_, rfl, ky _ hL13 s13⟩) (fun _ => kn _ hL13 s13)
    obtain ⟨qs, rfl, hqs⟩ := rf_sub hsub
    have F4 := F3.step hL12 s12
    refine ⟨D5, sn qs, rfl, .inl ⟨qs, rfl, SqL.of e12, fun x hx => wol_le.seqT (F4.sm.seqT (hog x (hqs.subset hx)))⟩, by rw [sn_len]; have := hqs.length_le; omega, fun g hg => by
      obtain ⟨x, hx, rfl⟩ := List.mem_map.mp hg
      exact hso x.2 (List.mem_map.mpr ⟨x, hqs.subset hx, rfl⟩), fun r5 H13 t5 s13 hr5 ha5 hm5 hb5 => ?_⟩
    have F5 := F4.new s13
    have hlt5 : ∀ x ∈ t5, x < (sn es).length := xl_lt (L := sn qs) (fun g hg => by
      obtain ⟨x, hx, rfl⟩ := List.mem_map.mp hg
      exact (hso x.2 (List.mem_map.mpr ⟨x, hqs.subset hx, rfl⟩)).1) (fun g hg => by
      obtain ⟨x, hx, rfl⟩ := List.mem_map.mp hg
      exact hob.lt x.2 (by rw [← eqo]; exact List.mem_map.mpr ⟨x, hqs.subset hx, rfl⟩)) ha5 hm5
    refine ⟨l, _, _, rfl, rfl, F5.li, small1001 (by rw [rf_len, hps3l]; omega), ?_⟩
    have F6 := F5.put (r := r5) (t := t5) (F5.tup hr5) ⟨ha5, hb5⟩
    generalize upd H13 l (.lst (rf ps3 ++ [V.ref r5])) = H14 at F6 ⊢
    refine ⟨.ref l, rfl, .inl ⟨rfl, _, SqL.of F6.li⟩, .ref ia, rfl, ia, rfl, ⟨_, wol_le.seqT (F6.sm.seqT hiT)⟩, fun D6 hD6 => ?_⟩
    have hU6 : (rf qo).length ≤ 9 := by rw [rf_len]; exact hqol
    refine lc_dr (walk_tup (K := K) (a := ia) (xs := rf qi)) (rf qi) rfl (by rw [rf_len]; omega) F6.lk hD6 (fun H s => wol_le.seqT (s.seqT (F6.sm.seqT hiT))) (fun i x H H' y => y) (fun j x H15 Ky Kn hx hL15 s15 ky kn => ?_) fun H15 ys hsub6 hL15 s15 e15 => ?_
    · refine ⟨rfl, .ref p, rfl, G, p, f, 2, _, rfl, hL15, by decide, by have := (List.getElem?_eq_some_iff.mp hx).1; rw [rf_len] at this; omega, fun H16 r16 hL16 s16 hr16 => ⟨r16, 0, rfl, rfl, _, rfl, ?_⟩⟩
      refine ite2 (fun _ => ⟨_, rfl, ky _ hL16 s16⟩) (fun _ => kn _ hL16 s16)
    obtain ⟨qs6, rfl, hqs6⟩ := rf_sub hsub6
    have F7 := F6.step hL15 s15
    refine ⟨D6, sn qs6, rfl, .inl ⟨qs6, rfl, SqL.of e15, fun x hx => wol_le.seqT (F7.sm.seqT (hig x (hqs6.subset hx)))⟩, by rw [sn_len]; have := hqs6.length_le; omega, fun g hg => by
      obtain ⟨x, hx, rfl⟩ := List.mem_map.mp hg
      exact hsi x.2 (List.mem_map.mpr ⟨x, hqs6.subset hx, rfl⟩), fun r8 H16 t8 s16 hr8 ha8 hm8 hb8 => ?_⟩
    have F8 := F7.new s16
    have hlt8 : ∀ x ∈ t8, x < (sn es).length := xl_lt (L := sn qs6) (fun g hg => by
      obtain ⟨x, hx, rfl⟩ := List.mem_map.mp hg
      exact (hsi x.2 (List.mem_map.mpr ⟨x, hqs6.subset hx, rfl⟩)).1) (fun g hg => by
      obtain ⟨x, hx, rfl⟩ := List.mem_map.mp hg
      exact hib.lt x.2 (by rw [← eqi]; exact List.mem_map.mpr ⟨x, hqs6.subset hx, rfl⟩)) ha8 hm8
    refine ⟨l, _, _, rfl, rfl, F8.li, small1001 (by rw [rf_len, List.length_append, hps3l]; show 3 + 1 ≤ _; omega), ?_⟩
    have F9 := F8.put (r := r8) (t := t8) (F8.tup hr8) ⟨ha8, hb8⟩
    have hlt9 : ∀ q ∈ sn (ps3 ++ [(r5, t5)] ++ [(r8, t8)]), ∀ x ∈ q, x < (sn es).length := fun q hq => by
      rw [sn_snoc, sn_snoc] at hq
      rcases List.mem_append.mp hq with m | m
      · rcases List.mem_append.mp m with m | m
        · exact hlt3 q m
        · rw [List.mem_singleton.mp m]
          exact hlt5
      · rw [List.mem_singleton.mp m]
        exact hlt8
    generalize upd H16 l (.lst (rf (ps3 ++ [(r5, t5)]) ++ [V.ref r8])) = Hz at F9 ⊢
    generalize ps3 ++ [(r5, t5)] ++ [(r8, t8)] = ps at F9 hlt9
    clear F8 F7 F6 F5 F4 F3 hlt8 hlt5 hlt3 hr8 hr5 s16 s15 s13 s12 hL15 hL12 e15 e12 hD6 hD5
    -- all that is known now
    have s9z : Same (wol [p, f] H9) Hz := F9.sm.trans wol_le
    have wz : Web K Hz a (n, sn es) := mo_web _ _ _ _ ((wol_mono s19).trans s9z) hweb
    have hoz := mo_pks _ _ _ _ s9z (hL9.pks hos9)
    have hiz := mo_pks _ _ _ _ s9z (hL9.pks his)
    have hrz := mo_pks _ _ _ _ s9z (hL9.pks hPr9)
    have hbz := mo_pks _ _ _ _ s9z (hL9.pks hPb9)
    have hFz := s9z.seqT (hL9.tup hF9)
    have hDz : Hz D = some (.lst (nv (rst (sn es).length F))) := s9z _ _ (by rw [wol_out hDo]; exact e9)
    have hlz := F9.li
    have hpz : Tg (Nts K) Hz ps := F9.tg.mono mo_nts wol_le
    have hsz := F9.sl
    have hrL : ∀ g ∈ Lr, Asc g ∧ ∀ x ∈ g, x ≤ 1000 := fun g hg => by
      obtain ⟨g1, _, g3, _⟩ := hgr g hg
      exact ⟨g1, fun x hx => by have := g3 x hx; omega⟩
    have hbL : ∀ g ∈ Lb, Asc g ∧ ∀ x ∈ g, x ≤ 1000 := fun g hg => ⟨(hgb g hg).asc, fun x hx => by have := (hgb g hg).lt x hx; omega⟩
    have hso' : Small (sn os) := by rw [← eqo]; exact hso
    have hsi' : Small (sn is) := by rw [← eqi]; exact hsi
    have hrsp : ∀ m, EvenM (sn es) m ↔ Span (Lr.map mk) m := fun m => ⟨hsr m, span_closed (even_zero _) (fun a b => even_xor) fun a ha => by
      obtain ⟨g, hg, rfl⟩ := List.mem_map.mp ha
      exact (hgr g hg).2.2.2⟩
    have hbsp : ∀ m, CutM (sn es) m ↔ Span (Lb.map mk) m := fun m => ⟨hsb m, span_closed (cut_zero _) (fun a b => cut_xor) fun a ha => by
      obtain ⟨g, hg, rfl⟩ := List.mem_map.mp ha
      exact (hgb g hg).cut⟩
    clear F9 s9z s19 s17 s15 s13 s12 hL10 hL9 hLa s9a hPr9 hPb9 hos9 his hF9 e9 hoT hiT hog hig s10 e10
    refine ⟨.ref l, rfl, l, rfl, ⟨_, SqL.of hlz⟩, for_list (xs := rf ps) (fun j σ H' => ∃ v11 v12 v13, σ = [some (.ref p), some (.ref a), some (.int ((sn es).length : Int)), some (.ref fa), some (.ref ra), some (.ref ba), some (.ref D), none, some (.ref oa), some (.ref ia), some (.ref l), v11, v12, v13, none] ∧ Same Hz H')
      ⟨none, none, none, rfl, Same.refl _⟩ (fun j σ H' _ ⟨_, _, _, _, s⟩ => SqL.of (s _ _ hlz)) ?_ ?_⟩
    · rintro j u σ H1' hj ⟨v11, v12, v13, rfl, sz⟩
      obtain ⟨x, hx, rfl⟩ := rf_get hj
      have hxm := mem_at hx
      have hxs : x.2 ∈ sn ps := List.mem_map.mpr ⟨x, hxm, rfl⟩
      obtain ⟨xA, xB⟩ := hsz x.2 hxs
      have xL := hlt9 x.2 hxs
      have xN := hpz x hxm
      obtain ⟨q, hq⟩ : ∃ q, q = x.2 := ⟨_, rfl⟩
      rw [← hq] at xA xB xL xN
      -- kinds
      refine ⟨.ref oa, rfl, .ref x.1, rfl, oa, x.1, sn os, q, rfl, mo_pks _ _ _ _ sz hoz, by omega, hso', sz.seqT xN, xA, xB, fun r1 H2' s2' hr1 => ?_⟩
      have sz2 := sz.trans s2'
      refine ⟨.ref ia, rfl, .ref x.1, rfl, ia, x.1, sn is, q, rfl, mo_pks _ _ _ _ sz2 hiz, by omega, hsi', sz2.seqT xN, xA, xB, fun r2 H3' s3' hr2 => ⟨by show 2 ≤ sizeLine; decide, fun kd hkd => ?_⟩⟩
      have sk := same_new (o := .lst [.bl r1, .bl r2]) hkd
      have ek := upd_same (H := H3') (a := kd) (o := .lst [.bl r1, .bl r2])
      have sz4 := (sz2.trans s3').trans sk
      generalize upd H3' kd (.lst [.bl r1, .bl r2]) = H4' at sk ek sz4 ⊢
      clear sk hkd s3' sz2 s2' sz
      -- repr
      refine ⟨.ref a, rfl, .ref x.1, rfl, a, x.1, n, sn es, q, rfl, mo_web _ _ _ _ sz4 wz, hW, sz4.seqT xN, xA, xL, fun e1 H5' s5' he1 => ?_⟩
      have sz5 := sz4.trans s5'
      refine ⟨.ref a, rfl, .ref x.1, rfl, a, x.1, n, sn es, q, rfl, mo_web _ _ _ _ sz5 wz, hW, sz5.seqT xN, xA, xL, fun e2 H6' s6' he2 => ⟨by show 2 ≤ sizeLine; decide, fun ev hev => ?_⟩⟩
      have eq1 : e1 = r1 := by
        have : e1 = true ↔ r1 = true := by rw [he1, hr1, hob.sp]
        cases e1 <;> cases r1 <;> simp_all
      have eq2 : e2 = r2 := by
        have : e2 = true ↔ r2 = true := by rw [he2, hr2, hib.sp]
        cases e2 <;> cases r2 <;> simp_all
      subst eq1 eq2
      have sv := same_new (o := .lst [.bl e1, .bl e2]) hev
      have evv := upd_same (H := H6') (a := ev) (o := .lst [.bl e1, .bl e2])
      have ek7 := (s5'.trans s6').trans sv _ _ ek
      have sz7 := (sz5.trans s6').trans sv
      generalize upd H6' ev (.lst [.bl e1, .bl e2]) = H7' at sv evv ek7 sz7 ⊢
      clear sv hev s6' s5' sz5 sz4 ek
      have rb := RepD.two (RepD.bool e1) (RepD.bool e2)
      refine ⟨.ref ev, _, rfl, .lst (SqL.of evv) (.cons (.bl e1) (.cons (.bl e2) .nil)), .inr ⟨ev, rfl⟩, rb.sh, rb.hd, Nat.le_trans rb.dp (by decide), rb.fits (by decide), .ref kd, rfl, .ref kd, _, rfl, .lst (SqL.of ek7) (.cons (.bl e1) (.cons (.bl e2) .nil)), .inr ⟨kd, rfl⟩, rb.sh, rb.hd, Nat.le_trans rb.dp (by decide), rb.fits (by decide), rfl, _, rfl, ?_⟩
      rw [decide_eq_true rfl]
      refine iteF ?_
      -- is_told
      refine ⟨.ref ra, rfl, .ref x.1, rfl, .ref kd, rfl, kd, _, 0, .bl e1, rfl, rfl, SqL.of ek7, atI_nat (j := 0) rfl, ra, x.1, e1, Lr, q, rfl, mo_pks _ _ _ _ sz7 hrz, hlr, hrL, sz7.seqT xN, xA, xB, by rw [he1, hrsp], fun H8' s8' => ⟨true, rfl, iteF ?_⟩⟩
      have sz8 := sz7.trans s8'
      have ek8 := s8' _ _ ek7
      refine ⟨.ref ba, rfl, .ref x.1, rfl, .ref kd, rfl, kd, _, 1, .bl e2, rfl, rfl, SqL.of ek8, atI_nat (j := 1) rfl, ba, x.1, e2, Lb, q, rfl, mo_pks _ _ _ _ sz8 hbz, hlb, hbL, sz8.seqT xN, xA, xB, by rw [he2, hbsp], fun H9' s9' => ⟨true, rfl, iteF ?_⟩⟩
      have sz9 := sz8.trans s9'
      have ek9 := s9' _ _ ek8
      clear sz8 ek8 s8' s9' sz7 ek7 evv
      -- due
      refine ⟨by show 2 ≤ sizeLine; decide, fun du hdu => ?_⟩
      have sd := same_new (o := .lst [.non, .non]) hdu
      have ed := upd_same (H := H9') (a := du) (o := .lst [.non, .non])
      refine ⟨fun σ' H' => ∃ v0, σ' = [some (.ref p), some (.ref a), some (.int ((sn es).length : Int)), some (.ref fa), some (.ref ra), some (.ref ba), some (.ref D), none, some (.ref oa), some (.ref ia), some (.ref l), some (.ref x.1), some (.ref kd), some (.ref du), none] ∧ Same H9' H' ∧ H' du = some (.lst [v0, .non]) ∧ Due K H' v0 e1 (plc (rst (sn es).length F) q), ?_, ?_⟩
      · refine ⟨.ref kd, rfl, kd, _, 0, .bl e1, rfl, rfl, SqL.of (sd _ _ ek9), atI_nat (j := 0) rfl, e1, rfl, ?_⟩
        cases he : e1 with
        | false =>
          refine iteF ?_
          exact ⟨.non, rfl, sd, ed, .inl ⟨rfl, rfl⟩⟩
        | true =>
          refine iteT ?_
          refine ⟨.ref D, rfl, D, _, rfl, SqL.of ((sz9.trans sd) _ _ hDz), fun D5 hD5 => ?_⟩
          refine lc_acc walk_enum (fun i => if decide ((rst (sn es).length F).getD i 0 ∈ q) = true then some (V.int (i : Int)) else none) (by rw [nv_len]; omega) hD5 (fun _ s => SqL.of (s _ _ ((sz9.trans sd) _ _ hDz))) (fun i y G1 G2 Ky Kn hi s y1 ky kn => ?_) fun G1 s1' e1' => ?_
          · obtain ⟨T, x1, x2, rfl, hTn, rfl, hx1, hx2⟩ := y1
            cases hx1
            obtain ⟨κ, hκ, rfl⟩ := nv_get hx2
            have sT := same_new (o := .tup [.int (i : Int), .int (κ : Int)]) hTn
            rw [getD_of hκ] at ky kn
            refine ⟨T, _, rfl, SqT.of upd_same, rfl, _, _, rfl, _, _, rfl, rfl, rfl, ?_⟩
            refine ⟨_, rfl, .ref x.1, rfl, x.1, q, κ, rfl, rfl, .inr ((((sz9.trans sd).trans s).trans sT).seqT xN), _, rfl, ?_⟩
            exact ite2 (fun h => ⟨_, rfl, ky _ _ (if_pos h) sT⟩) fun h => kn (if_neg h) _ sT
          · rw [nv_len, fm_if (fun i => decide ((rst (sn es).length F).getD i 0 ∈ q)) (List.range (rst (sn es).length F).length)] at e1'
            refine .inl ⟨D5, _, rfl, SqL.of e1', fun t ht' => ?_⟩
            have st := same_new (o := .tup (nv (plc (rst (sn es).length F) q))) ht'
            have nt : Nts K (upd G1 t (.tup (nv (plc (rst (sn es).length F) q)))) t (plc (rst (sn es).length F) q) := SqT.of upd_same
            have ed2 := (s1'.trans st) _ _ ed
            refine ⟨.ref du, rfl, du, _, 0, rfl, rfl, ed2, by show 0 < 2; decide, ?_⟩
            have htd : t ≠ du := fun e => by
              have := (s1' _ _ ed)
              rw [e, this] at ht'
              cases ht'
            refine ⟨.ref t, rfl, same_at ((sd.trans s1').trans st) hdu, upd_same, .inr ⟨rfl, t, rfl, sqt_put ed2 nt⟩⟩
      · rintro σ1 H10' ⟨v0, rfl, s10', ed10, hd0⟩
        clear sd ed
        have ek10 := s10' _ _ ek9
        have sz10 := sz9.trans s10'
        refine ⟨fun σ' H' => ∃ v0 v1, σ' = [some (.ref p), some (.ref a), some (.int ((sn es).length : Int)), some (.ref fa), some (.ref ra), some (.ref ba), some (.ref D), none, some (.ref oa), some (.ref ia), some (.ref l), some (.ref x.1), some (.ref kd), some (.ref du), none] ∧ Same H9' H' ∧ H' du = some (.lst [v0, v1]) ∧ Due K H' v0 e1 (plc (rst (sn es).length F) q) ∧ Due K H' v1 e2 (plc F q), ?_, ?_⟩
        · refine ⟨.ref kd, rfl, kd, _, 1, .bl e2, rfl, rfl, SqL.of ek10, atI_nat (j := 1) rfl, e2, rfl, ?_⟩
          cases he : e2 with
          | false =>
            refine iteF ?_
            exact ⟨v0, .non, rfl, s10', ed10, hd0, .inl ⟨rfl, rfl⟩⟩
          | true =>
            refine iteT ?_
            refine ⟨.ref fa, rfl, fa, _, rfl, sz10.seqT hFz, fun D5 hD5 => ?_⟩
            refine lc_acc walk_enumT (fun i => if decide (F.getD i 0 ∈ q) = true then some (V.int (i : Int)) else none) (by rw [nv_len]; omega) hD5 (fun _ s => s.seqT (sz10.seqT hFz)) (fun i y G1 G2 Ky Kn hi s y1 ky kn => ?_) fun G1 s1' e1' => ?_
            · obtain ⟨T, x1, x2, rfl, hTn, rfl, hx1, hx2⟩ := y1
              cases hx1
              obtain ⟨κ, hκ, rfl⟩ := nv_get hx2
              have sT := same_new (o := .tup [.int (i : Int), .int (κ : Int)]) hTn
              rw [getD_of hκ] at ky kn
              refine ⟨T, _, rfl, SqT.of upd_same, rfl, _, _, rfl, _, _, rfl, rfl, rfl, ?_⟩
              refine ⟨_, rfl, .ref x.1, rfl, x.1, q, κ, rfl, rfl, .inr (((sz10.trans s).trans sT).seqT xN), _, rfl, ?_⟩
              exact ite2 (fun h => ⟨_, rfl, ky _ _ (if_pos h) sT⟩) fun h => kn (if_neg h) _ sT
            · rw [nv_len, fm_if (fun i => decide (F.getD i 0 ∈ q)) (List.range F.length)] at e1'
              refine .inl ⟨D5, _, rfl, SqL.of e1', fun t ht' => ?_⟩
              have st := same_new (o := .tup (nv (plc F q))) ht'
              have nt : Nts K (upd G1 t (.tup (nv (plc F q)))) t (plc F q) := SqT.of upd_same
              have ed2 := (s1'.trans st) _ _ ed10
              refine ⟨.ref du, rfl, du, _, 1, rfl, rfl, ed2, by show 1 < 2; decide, ?_⟩
              refine ⟨v0, .ref t, rfl, same_at ((s10'.trans s1').trans st) hdu, upd_same, (hd0.mono (s1'.trans st)).put ed2, .inr ⟨rfl, t, rfl, sqt_put ed2 nt⟩⟩
        · clear ek10 sz10 s10' ed10 hd0
          rintro σ2 H11' ⟨v0, v1, rfl, s11', ed11, hd0, hd1⟩
          have sz11 := sz9.trans s11'
          -- summands
          refine ⟨.ref oa, rfl, .ref x.1, rfl, ?_⟩
          refine nil_i ?_
          refine summ_due hob hr1 (mo_pks _ _ _ _ sz11 hoz) (by omega) hso' (sz11.seqT xN) xA xB fun w0 H12' s12' hw0 => ?_
          have sz12 := sz11.trans s12'
          refine ⟨.ref ia, rfl, .ref x.1, rfl, ?_⟩
          refine nil_i ?_
          refine summ_due hib hr2 (mo_pks _ _ _ _ sz12 hiz) (by omega) hsi' (sz12.seqT xN) xA xB fun w1 H13' s13' hw1 => ?_
          refine ⟨by show 2 ≤ sizeLine; decide, fun sl hsl => ?_⟩
          have ss := same_new (o := .lst [w0, w1]) hsl
          have plA : ∀ {rs : List Nat}, rs.length ≤ 9 → Asc (plc rs q) ∧ ∀ x ∈ plc rs q, x ≤ 1000 := fun {rs} hrs => ⟨List.Pairwise.filter _ List.pairwise_lt_range, fun x hx => by
            have := List.mem_range.mp (List.mem_filter.mp hx).1
            omega⟩
          have rd := RepD.two (rep_due (r := e1) (plA hrl).1 (plA hrl).2) (rep_due (r := e2) (plA hFl).1 (plA hFl).2)
          refine ⟨.ref sl, _, rfl, .lst (SqL.of upd_same) (.cons (hw0.mono (s13'.trans ss)).data (.cons (hw1.mono ss).data .nil)), .inr ⟨sl, rfl⟩, rd.sh, rd.hd, Nat.le_trans rd.dp (by decide), rd.fits (by decide), .ref du, rfl, .ref du, _, rfl, .lst (SqL.of (((s12'.trans s13').trans ss) _ _ ed11)) (.cons (hd0.mono ((s12'.trans s13').trans ss)).data (.cons (hd1.mono ((s12'.trans s13').trans ss)).data .nil)), .inr ⟨du, rfl⟩, rd.sh, rd.hd, Nat.le_trans rd.dp (by decide), rd.fits (by decide), rfl, _, rfl, ?_⟩
          rw [decide_eq_true rfl]
          refine iteF ?_
          exact ⟨_, _, _, rfl, (sz12.trans s13').trans ss⟩
    · rintro σ H1' ⟨v11, v12, v13, rfl, sz⟩
      exact k _
end
end Fb

/-! FbZ2 -/
set_option maxHeartbeats 4000000
/-! law -/
namespace Fb
open PySem PySem.Spec PyProof.Rows L2
theorem summ_res {K : PySem.W.Frag} {L : List (List Nat)} {q : List Nat} {H : Hp} {a b : Addr} {Q : VK} {E : XK} (h1 : Pks K H a L) (h2 : L.length ≤ 1000) (h3 : Small L) (h4 : Nts K H b q) (h5 : Asc q) (h6 : ∀ n ∈ q, n ≤ 1000)
    (hk : ∀ v H', Same H H' → Res K L q H' v → Q v H') : sp_summands K [.ref a, .ref b] H Q E :=
  ⟨a, b, L, q, rfl, h1, h2, h3, h4, h5, h6, fun hns hT H' s => hk .non H' s (.inl ⟨rfl, hT, hns⟩), fun p H' t s hn ha hb hs hT => hk (.ref p) H' s (.inr ⟨p, t, rfl, hn, hT, ha, hb, hs⟩)⟩
theorem res0 : resD [] [] = pd [] := by
  have h : sumT (([] : List (List Nat)).map mk) (mk []) = some [] := by decide +kernel
  unfold resD
  rw [h]
theorem res1 : resD [] [0] = .none := by
  have h : sumT (([] : List (List Nat)).map mk) (mk [0]) = none := by decide +kernel
  unfold resD
  rw [h]
theorem res2 : resD [[0, 1, 3], [0, 2, 4], [1, 2, 5]] [3, 4, 5] = pd [0, 1, 2] := by
  have h : sumT ([[0, 1, 3], [0, 2, 4], [1, 2, 5]].map mk) (mk [3, 4, 5]) = some [0, 1, 2] := by decide +kernel
  unfold resD
  rw [h]
-- law: slots 0=_law_script 1=_law_lake_here 2=_law_turn 3=_law_ground_here 4=_law_heap_here 5=_law_step 6=_law_goal_here 7=_law_is_due 8=_law_found; cells 
abbrev slaw : Stmt := topS 47
abbrev Nlaw : List Str := ["_law_script", "_law_lake_here", "_law_turn", "_law_ground_here", "_law_heap_here", "_law_step", "_law_goal_here", "_law_is_due", "_law_found"]
theorem sclaw : FnScope Nlaw ["_law_script"] (defScope slaw) := ⟨rfl, rfl, rfl, by decide +kernel, rfl, by decide +kernel, by decide +kernel⟩
section
variable {P : Program} {w : World} {K : PySem.W.Frag} {mg : Str → Option Value} {base : Heap} {mt : Nat}
def sp_law (K : PySem.W.Frag) : Sp := fun vs H Q _ => ∃ (a : Addr) (ns : List Int), vs = [.ref a] ∧ SqL K H a (ns.map V.int) ∧ ns.length ≤ 63 ∧ (∀ z ∈ ns, Builtin.Int.intBits z ≤ 1048576) ∧
  ∀ H', Q (.bl true) H'
theorem ok_law {f : Addr} {fd : FuncData} (F : Fun K "law" "law" slaw f fd) (T : Bi mg mt) (c_law_lake : C8.Cal P w K mg base 1 "_law_lake" (sp_law_lake K) []) (c_law_ground : C8.Cal P w K mg base 3 "_law_ground" (sp_law_ground K) []) (c_law_heap : C8.Cal P w K mg base 3 "_law_heap" (sp_law_heap K) []) (c_law_goal : C8.Cal P w K mg base 3 "_law_goal" (sp_law_goal K) []) (csummands : C8.Cal P w K mg base 2 "summands" (sp_summands K) []) (c_law_is_any : C8.Cal P w K mg base 2 "_law_is_any" (sp_law_is_any K) []) (c_law_by_sums : CalG P w K mg base 3 "_law_by_sums" (sp_law_by_sums K)) (c_law_is_told : CalG P w K mg base 3 "_law_is_told" (sp_law_is_told K)) (c_law_by_web : CalG P w K mg base 5 "_law_by_web" (sp_law_by_web K)) (c_law_draw : C8.Cal P w K mg base 1 "_law_draw" (sp_law_draw K) []) (c_law_is_met : C8.Cal P w K mg base 2 "_law_is_met" (sp_law_is_met K) []) (c_law_net : C8.Cal P w K mg base 4 "_law_net" (sp_law_net K) []) : FnG P w K mg base CX0 6 f fd ["_law_script"] (sp_law K) := by
  refine okG F sclaw (fun vs H Q E h => ?_) (fun cdv A outer s H vs Q E hgu hr hcd h => ?_)
  · obtain ⟨a, ns, rfl, _⟩ := h
    rfl
  · obtain ⟨a, ns, rfl, hS, hl, hb, k⟩ := h
    have hu64 := hr.units
    refine ⟨_, (pss_cons (ps_set (i := 1) sclaw.nd rfl (Or.inl rfl) (C8.pe_c c_law_lake hr (by decide) (by rfl) (pa_cons (pv 0) pa_nil)))
      (pss_cons (ps_for PassesOwn.never rfl (pi_range1 (by rfl) T.range (pa_cons pe_int pa_nil)) (pg_name (i := 2) sclaw.nd rfl (Or.inl rfl))
        (pss_cons (ps_set (i := 3) sclaw.nd rfl (Or.inl rfl) (C8.pe_c c_law_ground hr (by decide) (by rfl) (pa_cons (pv 1) (pa_cons (pe_op op_addN pe_int (C8.pe_c c_law_draw hr (by decide) (by rfl) (pa_cons (pv 1) (pa_cons pe_int pa_nil)))) pa_nil))))
        (pss_cons (ps_set (i := 4) sclaw.nd rfl (Or.inl rfl) (C8.pe_c c_law_heap hr (by decide) (by rfl) (pa_cons (pv 1) (pa_cons (pv 3) (pa_cons pe_int pa_nil)))))
        (pss_cons (ps_for PassesOwn.never rfl (pi_range1 (by rfl) T.range (pa_cons pe_int pa_nil)) (pg_name (i := 5) sclaw.nd rfl (Or.inl rfl))
          (pss_cons (ps_set (i := 6) sclaw.nd rfl (Or.inl rfl) (C8.pe_c c_law_goal hr (by decide) (by rfl) (pa_cons (pv 1) (pa_cons (pv 3) (pa_cons (pv 4) pa_nil)))))
          (pss_cons (ps_set (i := 7) sclaw.nd rfl (Or.inl rfl) (C8.pe_c c_law_is_any hr (by decide) (by rfl) (pa_cons (pv 4) (pa_cons (pv 6) pa_nil))))
          (pss_one (ps_if (PW.pt (pw_or (pt_cmpR op_ne (pv 7) (C8.pe_c c_law_is_met hr (by decide) (by rfl) (pa_cons (pv 4) (pa_cons (pv 6) pa_nil))) (nomark _)) (pw_or1 (pt_not (pt_val (pe_cG c_law_is_told hgu hr (by decide) (by rfl) (pa_cons (pv 4) (pa_cons (pv 6) (pa_cons (pv 7) pa_nil)))))))))
            (pss_one (ps_ret pe_bl))
            pss_nil)))))
        (pss_one (ps_if (pt_not (pt_val (pe_cG c_law_by_sums hgu hr (by decide) (by rfl) (pa_cons (pv 1) (pa_cons (pv 4) pa_nil)))))
          (pss_one (ps_ret pe_bl))
          pss_nil))))))
      (pss_cons (ps_set (i := 3) sclaw.nd rfl (Or.inl rfl) (C8.pe_c c_law_ground hr (by decide) (by rfl) (pa_cons (pv 1) (pa_cons pe_int pa_nil))))
      (pss_cons (ps_set (i := 4) sclaw.nd rfl (Or.inl rfl) (C8.pe_c c_law_heap hr (by decide) (by rfl) (pa_cons (pv 1) (pa_cons (pv 3) (pa_cons pe_int pa_nil)))))
      (pss_cons (ps_for PassesOwn.never rfl (pi_range1 (by rfl) T.range (pa_cons pe_int pa_nil)) (pg_name (i := 5) sclaw.nd rfl (Or.inl rfl))
        (pss_cons (ps_set (i := 6) sclaw.nd rfl (Or.inl rfl) (C8.pe_c c_law_goal hr (by decide) (by rfl) (pa_cons (pv 1) (pa_cons (pv 3) (pa_cons (pv 4) pa_nil)))))
        (pss_one (ps_if (pt_not (pt_val (pe_cG c_law_is_told hgu hr (by decide) (by rfl) (pa_cons (pv 4) (pa_cons (pv 6) (pa_cons (C8.pe_c c_law_is_met hr (by decide) (by rfl) (pa_cons (pv 4) (pa_cons (pv 6) pa_nil))) pa_nil))))))
          (pss_one (ps_ret pe_bl))
          pss_nil))))
      (pss_cons (ps_if (PW.pt (pw_or (pt_not (pt_val (pe_cG c_law_by_sums hgu hr (by decide) (by rfl) (pa_cons (pv 1) (pa_cons (pv 4) pa_nil))))) (pw_or1 (pt_not (pt_val (pe_cG c_law_by_web hgu hr (by decide) (by rfl) (pa_cons (pv 1) (pa_cons (C8.pe_c c_law_net hr (by decide) (by rfl) (pa_cons (pv 1) (pa_cons pe_int (pa_cons pe_int pa_nil)))) pa_nil))))))))
        (pss_one (ps_ret pe_bl))
        pss_nil)
      (pss_cons (ps_set (i := 8) sclaw.nd rfl (Or.inl rfl) (pe_lst (pa_cons (C8.pe_c csummands hr (by decide) (by rfl) (pa_cons (pe_tup pa_nil) (pa_cons (pe_tup pa_nil) pa_nil))) (pa_cons (C8.pe_c csummands hr (by decide) (by rfl) (pa_cons (pe_tup pa_nil) (pa_cons (pe_tup (pa_cons pe_int pa_nil)) pa_nil))) (pa_cons (C8.pe_c csummands hr (by decide) (by rfl) (pa_cons (pe_tup (pa_cons (pe_tup (pa_cons pe_int (pa_cons pe_int (pa_cons pe_int pa_nil)))) (pa_cons (pe_tup (pa_cons pe_int (pa_cons pe_int (pa_cons pe_int pa_nil)))) (pa_cons (pe_tup (pa_cons pe_int (pa_cons pe_int (pa_cons pe_int pa_nil)))) pa_nil)))) (pa_cons (pe_tup (pa_cons pe_int (pa_cons pe_int (pa_cons pe_int pa_nil)))) pa_nil))) pa_nil)))))
      (pss_one (ps_ret (pe_cmpR op_eq (pe_callB (call_rep hgu hu64) (by rfl) T.repr (by decide +kernel) (pa_cons (pv 8) pa_nil)) (pe_callB (call_rep hgu hu64) (by rfl) T.repr (by decide +kernel) (pa_cons (pe_lst (pa_cons (pe_tup pa_nil) (pa_cons pe_non (pa_cons (pe_tup (pa_cons pe_int (pa_cons pe_int (pa_cons pe_int pa_nil)))) pa_nil)))) pa_nil)) (nomark _))))))))))), ?_⟩
    refine ⟨.ref a, rfl, a, ns, rfl, hS, hl, hb, fun H1 p f hL1 s1 => ?_⟩
    obtain ⟨G, hG⟩ : ∃ G, G = wol [p, f] H1 := ⟨_, rfl⟩
    rw [← hG] at hL1
    refine ⟨(5 : Int), rfl, by omega, by omega,
      for_it (walk_rngN (n := 5)) (fun i σ H' => ∃ v2 v3 v4 v5 v6 v7 v8, σ = [some (.ref a), some (.ref p), v2, v3, v4, v5, v6, v7, v8] ∧ Lake K G H' p f (20000 * i))
      ⟨none, none, none, none, none, none, none, rfl, hL1⟩ (fun _ _ _ _ _ => True.intro) ?_ ?_⟩
    · rintro i y σ H2 H3 hi ⟨v2, v3, v4, v5, v6, v7, v8, rfl, hL3⟩ ⟨rfl, rfl⟩
      refine ⟨.ref p, rfl, .ref p, rfl, G, p, f, 6, _, rfl, hL3, by decide, by omega, fun H4 r4 hL4 s4 hr4 => ⟨2, r4, rfl, rfl, G, p, f, 2 + r4, _, rfl, hL4, by omega, by omega, by omega, fun H5 g gs h5g hgo hgn hga hgne hgb hL5 s5 => ?_⟩⟩
      have h5s : SqL K (wol [p, f] H5) g (nv gs) := SqL.of (by rw [wol_out hgo]; exact h5g)
      refine ⟨.ref p, rfl, .ref g, rfl, G, p, f, g, 7, _, gs, rfl, hL5, h5s, hga, hgne, hgb, by decide, by omega, fun H6 h L hP6 hLl hSm hL6 s6 => ?_⟩
      have h6s := s6.seq h5s
      refine ⟨(3 : Int), rfl, by omega, by omega,
        for_it (walk_rngN (n := 3)) (fun j σ H' => ∃ v5 v6 v7 v8, σ = [some (.ref a), some (.ref p), some (.int (i : Int)), some (.ref g), some (.ref h), v5, v6, v7, v8] ∧ Lake K G H' p f (20000 * i + 6000 + 1000 * j) ∧ Same (wol [p, f] H6) (wol [p, f] H'))
        ⟨v5, v6, v7, v8, rfl, hL6.mono (by omega), Same.refl _⟩ (fun _ _ _ _ _ => True.intro) ?_ ?_⟩
      · rintro j y σ H7 H8 hj ⟨v5, v6, v7, v8, rfl, hL8, s8⟩ ⟨rfl, rfl⟩
        have hP8 := mo_pks _ _ _ _ s8 hP6
        refine ⟨.ref p, rfl, .ref g, rfl, .ref h, rfl, G, p, f, g, h, _, gs, L, rfl, hL8, s8.seq h6s, hga, hgne, hgb, hP8, by omega, hSm, by omega, fun H9 t q hN9 hq hL9 s9 => ?_⟩
        have hP9 := mo_pks _ _ _ _ (s9.trans wol_le) hP8
        have hN9' := wol_le.seqT hN9
        refine ⟨.ref h, rfl, .ref t, rfl, h, t, L, q, rfl, hP9, by omega, hSm, hN9', hq.1, hq.2, fun r1 H10 s10 hr1 => ?_⟩
        have hL10 := hL9.new s10
        refine ⟨.bl r1, rfl, .ref h, rfl, .ref t, rfl, h, t, L, q, rfl, mo_pks _ _ _ _ s10 hP9, by omega, hSm, s10.seqT hN9', hq.1, hq.2, fun r2 H11 s11 hr2 => ⟨rfl, _, rfl, ?_⟩⟩
        have er : r2 = r1 := by
          have : r2 = true ↔ r1 = true := by rw [hr1, hr2]
          cases r1 <;> cases r2 <;> simp_all
        subst er
        rw [decide_eq_true rfl]
        refine iteF ?_
        have s911 := s10.trans s11
        refine ⟨.ref h, rfl, .ref t, rfl, .bl r2, rfl, h, t, r2, L, q, rfl, mo_pks _ _ _ _ s911 hP9, by omega, hSm, s911.seqT hN9', hq.1, hq.2, hr2, fun H12 s12 => ⟨true, rfl, iteF ?_⟩⟩
        exact ⟨_, _, _, v8, rfl, (hL9.new (s911.trans s12)).mono (by omega), (s8.trans s9).trans (wol_mono (s911.trans s12))⟩
      · rintro σ H7 ⟨v5, v6, v7, v8, rfl, hL7, s7⟩
        refine ⟨.ref p, rfl, .ref h, rfl, G, p, f, h, _, L, rfl, hL7, mo_pks _ _ _ _ s7 hP6, by omega, hSm, by omega, fun H8 hL8 s8 => ⟨true, rfl, iteF ?_⟩⟩
        exact ⟨_, _, _, _, _, _, _, rfl, hL8.mono (by omega)⟩
    · rintro σ H2 ⟨v2, v3, v4, v5, v6, v7, v8, rfl, hL2⟩
      refine ⟨.ref p, rfl, G, p, f, 30, _, rfl, hL2, by decide, by decide, by omega, fun H5 g gs h5g hgo hgn hga hgne hgb hL5 s5 => ?_⟩
      have h5s : SqL K (wol [p, f] H5) g (nv gs) := SqL.of (by rw [wol_out hgo]; exact h5g)
      refine ⟨.ref p, rfl, .ref g, rfl, G, p, f, g, 24, _, gs, rfl, hL5, h5s, hga, hgne, hgb, by decide, by omega, fun H6 h L hP6 hLl hSm hL6 s6 => ?_⟩
      have h6s := s6.seq h5s
      refine ⟨(2 : Int), rfl, by omega, by omega,
        for_it (walk_rngN (n := 2)) (fun j σ H' => ∃ v2 v5 v6 v7 v8, σ = [some (.ref a), some (.ref p), v2, some (.ref g), some (.ref h), v5, v6, v7, v8] ∧ Lake K G H' p f (110000 + 1000 * j) ∧ Same (wol [p, f] H6) (wol [p, f] H'))
        ⟨v2, v5, v6, v7, v8, rfl, hL6.mono (by omega), Same.refl _⟩ (fun _ _ _ _ _ => True.intro) ?_ ?_⟩
      · rintro j y σ H7 H8 hj ⟨v2, v5, v6, v7, v8, rfl, hL8, s8⟩ ⟨rfl, rfl⟩
        have hP8 := mo_pks _ _ _ _ s8 hP6
        refine ⟨.ref p, rfl, .ref g, rfl, .ref h, rfl, G, p, f, g, h, _, gs, L, rfl, hL8, s8.seq h6s, hga, hgne, hgb, hP8, by omega, hSm, by omega, fun H9 t q hN9 hq hL9 s9 => ?_⟩
        have hP9 := mo_pks _ _ _ _ (s9.trans wol_le) hP8
        have hN9' := wol_le.seqT hN9
        refine ⟨.ref h, rfl, .ref t, rfl, .ref h, rfl, .ref t, rfl, h, t, L, q, rfl, hP9, by omega, hSm, hN9', hq.1, hq.2, fun r1 H10 s10 hr1 => ?_⟩
        refine ⟨h, t, r1, L, q, rfl, mo_pks _ _ _ _ s10 hP9, by omega, hSm, s10.seqT hN9', hq.1, hq.2, hr1, fun H12 s12 => ⟨true, rfl, iteF ?_⟩⟩
        exact ⟨v2, _, _, v7, v8, rfl, (hL9.new (s10.trans s12)).mono (by omega), (s8.trans s9).trans (wol_mono (s10.trans s12))⟩
      · rintro σ H7 ⟨v2, v5, v6, v7, v8, rfl, hL7, s7⟩
        refine ⟨.ref p, rfl, .ref h, rfl, G, p, f, h, _, L, rfl, hL7, mo_pks _ _ _ _ s7 hP6, by omega, hSm, by omega, fun H8 hL8 s8 => ⟨true, rfl, iteF ?_⟩⟩
        refine ⟨.ref p, rfl, .ref p, rfl, G, p, f, 6, 8, _, rfl, hL8, by decide, by decide, by decide, by omega, fun H9 r n E hweb hn1 hn6 hE8 hE hL9 s9 => ?_⟩
        refine ⟨G, p, f, r, _, n, E, rfl, hL9, hweb, ⟨hn1, by omega, by omega, hE⟩, hn6, by omega, by omega, fun H10 => ⟨true, rfl, iteF ?_⟩⟩
        -- found
        have sml : ∀ {L : List (List Nat)}, (∀ l ∈ L, Asc l ∧ ∀ n ∈ l, n ≤ 1000) → Small L := fun h => h
        refine ⟨Nat.zero_le _, fun x1 hx1 => ⟨Nat.zero_le _, fun x2 hx2 => ?_⟩⟩
        have n1 : Pks K (upd H10 x1 (.tup [])) x1 [] := ⟨[], rfl, SqT.of upd_same, fun _ h => by simp at h⟩
        have n2 : Nts K (upd (upd H10 x1 (.tup [])) x2 (.tup [])) x2 [] := SqT.of upd_same
        refine nil_i ?_
        refine summ_res (mo_pks _ _ _ _ (same_new hx2) n1) (Nat.zero_le _) (fun _ h => by simp at h) n2 List.Pairwise.nil (fun _ h => by simp at h) fun v1 H11 s11 hv1 => ?_
        clear n1 n2
        refine ⟨Nat.zero_le _, fun x3 hx3 => ⟨by show 1 ≤ sizeLine; decide, fun x4 hx4 => ?_⟩⟩
        have n3 : Pks K (upd H11 x3 (.tup [])) x3 [] := ⟨[], rfl, SqT.of upd_same, fun _ h => by simp at h⟩
        have n4 : Nts K (upd (upd H11 x3 (.tup [])) x4 (.tup [.int 0])) x4 [0] := SqT.of upd_same
        have s34 := (same_new (o := .tup []) hx3).trans (same_new (o := .tup [.int 0]) hx4)
        refine nil_i ?_
        refine summ_res (mo_pks _ _ _ _ (same_new hx4) n3) (Nat.zero_le _) (fun _ h => by simp at h) n4 (List.pairwise_singleton _ _) (fun n h => by rw [List.mem_singleton.mp h]; omega) fun v2 H12 s12 hv2 => ?_
        have hv1 := hv1.mono (s34.trans s12)
        clear n3 n4
        refine ⟨by show 3 ≤ sizeLine; decide, fun y1 hy1 => ⟨by show 3 ≤ sizeLine; decide, fun y2 hy2 => ⟨by show 3 ≤ sizeLine; decide, fun y3 hy3 => ⟨by show 3 ≤ sizeLine; decide, fun y4 hy4 => ⟨by show 3 ≤ sizeLine; decide, fun y5 hy5 => ?_⟩⟩⟩⟩⟩
        have m1 : Nts K (upd H12 y1 (.tup [.int 0, .int 1, .int 3])) y1 [0, 1, 3] := SqT.of upd_same
        have t2 := same_new (o := .tup [.int 0, .int 2, .int 4]) hy2
        have m2 : Nts K (upd (upd H12 y1 (.tup [.int 0, .int 1, .int 3])) y2 (.tup [.int 0, .int 2, .int 4])) y2 [0, 2, 4] := SqT.of upd_same
        have t3 := same_new (o := .tup [.int 1, .int 2, .int 5]) hy3
        have m3 : Nts K (upd (upd (upd H12 y1 (.tup [.int 0, .int 1, .int 3])) y2 (.tup [.int 0, .int 2, .int 4])) y3 (.tup [.int 1, .int 2, .int 5])) y3 [1, 2, 5] := SqT.of upd_same
        have t4 := same_new (o := .tup [.ref y1, .ref y2, .ref y3]) hy4
        have t5 := same_new (o := .tup [.int 3, .int 4, .int 5]) hy5
        have m4 := upd_same (H := upd (upd (upd H12 y1 (.tup [.int 0, .int 1, .int 3])) y2 (.tup [.int 0, .int 2, .int 4])) y3 (.tup [.int 1, .int 2, .int 5])) (a := y4) (o := .tup [.ref y1, .ref y2, .ref y3])
        have m5 : Nts K (upd (upd (upd (upd (upd H12 y1 (.tup [.int 0, .int 1, .int 3])) y2 (.tup [.int 0, .int 2, .int 4])) y3 (.tup [.int 1, .int 2, .int 5])) y4 (.tup [.ref y1, .ref y2, .ref y3])) y5 (.tup [.int 3, .int 4, .int 5])) y5 [3, 4, 5] := SqT.of upd_same
        have m1 := t5.seqT (t4.seqT (t3.seqT (t2.seqT m1)))
        have m2 := t5.seqT (t4.seqT (t3.seqT m2))
        have m3 := t5.seqT (t4.seqT m3)
        have m4 := t5 _ _ m4
        have sy := ((((same_new (o := .tup [.int 0, .int 1, .int 3]) hy1).trans t2).trans t3).trans t4).trans t5
        clear t2 t3 t4 t5
        generalize upd (upd (upd (upd (upd H12 y1 (.tup [.int 0, .int 1, .int 3])) y2 (.tup [.int 0, .int 2, .int 4])) y3 (.tup [.int 1, .int 2, .int 5])) y4 (.tup [.ref y1, .ref y2, .ref y3])) y5 (.tup [.int 3, .int 4, .int 5]) = H13 at m1 m2 m3 m4 m5 sy ⊢
        have hv1 := hv1.mono sy
        have hv2 := hv2.mono sy
        refine nil_i ?_
        refine summ_res (L := [[0, 1, 3], [0, 2, 4], [1, 2, 5]]) ⟨[(y1, [0, 1, 3]), (y2, [0, 2, 4]), (y3, [1, 2, 5])], rfl, SqT.of m4, fun x hx => ?_⟩ (by decide) (fun l hl => ?_) m5 (by decide) (by decide) fun v3 H14 s14 hv3 => ?_
        · rcases List.mem_cons.mp hx with rfl | hx
          · exact m1
          rcases List.mem_cons.mp hx with rfl | hx
          · exact m2
          · rw [List.mem_singleton.mp hx]
            exact m3
        · rcases List.mem_cons.mp hl with rfl | hl
          · exact ⟨by decide, by decide⟩
          rcases List.mem_cons.mp hl with rfl | hl
          · exact ⟨by decide, by decide⟩
          · rw [List.mem_singleton.mp hl]
            exact ⟨by decide, by decide⟩
        have hv1 := hv1.mono s14
        have hv2 := hv2.mono s14
        refine ⟨by show 3 ≤ sizeLine; decide, fun fd hfd => ?_⟩
        have sf := same_new (o := .lst [v1, v2, v3]) hfd
        obtain ⟨d1, _, _⟩ := (hv1.mono sf).data (Nat.zero_le _)
        obtain ⟨d2, _, _⟩ := (hv2.mono sf).data (Nat.zero_le _)
        obtain ⟨d3, _, _⟩ := (hv3.mono sf).data (by decide)
        rw [res0] at d1
        rw [res1] at d2
        rw [res2] at d3
        have ef := upd_same (H := H14) (a := fd) (o := .lst [v1, v2, v3])
        generalize upd H14 fd (.lst [v1, v2, v3]) = H15 at d1 d2 d3 ef ⊢
        have hrep : RepD (.list [pd [], .none, pd [0, 1, 2]]) 2 10000 := by
          refine (RepD.list (k := 1) (m := 1001) fun d hd => ?_).mono (Nat.le_refl _) (by show 3 * 1002 ≤ 10000; decide)
          rcases List.mem_cons.mp hd with rfl | hd
          · exact rep_pd (fun _ h => by simp at h) (by decide)
          rcases List.mem_cons.mp hd with rfl | hd
          · exact RepD.none.mono (by decide) (by decide)
          · rw [List.mem_singleton.mp hd]
            exact rep_pd (by decide) (by decide)
        refine ⟨.ref fd, rfl, .ref fd, _, rfl, .lst (SqL.of ef) (.cons d1 (.cons d2 (.cons d3 .nil))), .inr ⟨fd, rfl⟩, hrep.sh, hrep.hd, Nat.le_trans hrep.dp (by decide), hrep.fits (by decide), ?_⟩
        refine ⟨Nat.zero_le _, fun z1 hz1 => ⟨by show 3 ≤ sizeLine; decide, fun z2 hz2 => ⟨by show 3 ≤ sizeLine; decide, fun z3 hz3 => ?_⟩⟩⟩
        have sz2 := same_new (o := .tup [.int 0, .int 1, .int 2]) hz2
        have sz3 := same_new (o := .lst [.ref z1, .non, .ref z2]) hz3
        have p1 : Nts K (upd H15 z1 (.tup [])) z1 [] := SqT.of upd_same
        have p2 : Nts K (upd (upd H15 z1 (.tup [])) z2 (.tup [.int 0, .int 1, .int 2])) z2 [0, 1, 2] := SqT.of upd_same
        refine ⟨.ref z3, _, rfl, .lst (SqL.of upd_same) (.cons (dp_nts ((sz2.trans sz3).seqT p1)) (.cons .non (.cons (dp_nts (sz3.seqT p2)) .nil))), .inr ⟨z3, rfl⟩, hrep.sh, hrep.hd, Nat.le_trans hrep.dp (by decide), hrep.fits (by decide), rfl, ?_⟩
        show Q (.bl (decide (V.str (showV (.list [pd [], .none, pd [0, 1, 2]])) = V.str (showV (.list [pd [], .none, pd [0, 1, 2]]))))) _
        rw [decide_eq_true rfl]
        exact k _
end
end Fb

/-! FbEnd -/
set_option maxHeartbeats 4000000
/-! The end: what the top has left; the law. -/
namespace Fb
open PySem PySem.Spec PyProof.Rows L2
def g1 : List Value → List Value → List Value
  | [], ws => ws
  | _ :: _, _ => []
def g2 : List Value → List Value → List Value
  | [], ws => ws.reverse
  | _ :: _, _ => []
theorem kb_sum_of {K : PySem.W.Frag} {f : Addr} {fd : FuncData} (F : Fun K "sum_of" "sum_of" ssum_of f fd) : KBinds K fd ["picks"] ["picks"] g1 gv1 := by
  obtain ⟨oc, od, kV, doc, pm, an, cdv, ct, osl, rfl, lk, hcd⟩ := F.ex
  refine ⟨fun s us ws _ hl => ?_, fun {vs us zs ws} r1 r2 => ?_⟩
  · match us, ws, hl with
    | [], [w], _ => exact .of_eq rfl
  · cases r1 with
    | nil => exact r2
    | cons _ _ => exact .nil
theorem kb_summands {K : PySem.W.Frag} {f : Addr} {fd : FuncData} (F : Fun K "summands" "summands" ssummands f fd) : KBinds K fd ["picks", "pick"] ["pick", "picks"] g2 gv2 := by
  obtain ⟨oc, od, kV, doc, pm, an, cdv, ct, osl, rfl, lk, hcd⟩ := F.ex
  refine ⟨fun s us ws _ hl => ?_, fun {vs us zs ws} r1 r2 => ?_⟩
  · cases us with
    | nil =>
      have h2 : ws.length = 2 := by
        have h3 : ws.reverse.length = 2 := hl
        rwa [List.length_reverse] at h3
      match ws, h2 with
      | [v, w], _ => exact .of_eq rfl
    | cons _ _ => cases hl
  · cases r1 with
    | nil =>
      show Vals zs.reverse ws.reverse
      induction r2 with
      | nil => exact .nil
      | cons r _ ih =>
        rw [List.reverse_cons, List.reverse_cons]
        exact ih.append (.cons r .nil)
    | cons _ _ => exact .nil
theorem all_mk {l : PySem.W.OpenLaw} {w : World} {K : PySem.W.Frag} {h : Heap} {mg : Str → Option Value} {mt : Nat} {fa f0 f1 f2 f3 f4 f5 f6 f7 f8 f9 f10 f11 f12 f13 f14 f15 f16 f17 f18 f19 f20 f21 f22 f23 f24 f25 f26 f27 f28 f29 f30 f31 f32 f33 f34 f35 f36 f37 f38 : Addr} (X : K.In h) (G : h.Ns mainGlobals mg) (hfa : mg "law" = some (.ref fa))
    {od0 an0 : Option Addr} {sl0 : Array (Option Value)} {oc0 kV0 dc0 pm0 cd0 ct0 : Value}
    {od1 an1 : Option Addr} {sl1 : Array (Option Value)} {oc1 kV1 dc1 pm1 cd1 ct1 : Value}
    {od2 an2 : Option Addr} {sl2 : Array (Option Value)} {oc2 kV2 dc2 pm2 cd2 ct2 : Value}
    {od3 an3 : Option Addr} {sl3 : Array (Option Value)} {oc3 kV3 dc3 pm3 cd3 ct3 : Value}
    {od4 an4 : Option Addr} {sl4 : Array (Option Value)} {oc4 kV4 dc4 pm4 cd4 ct4 : Value}
    {od5 an5 : Option Addr} {sl5 : Array (Option Value)} {oc5 kV5 dc5 pm5 cd5 ct5 : Value}
    {od6 an6 : Option Addr} {sl6 : Array (Option Value)} {oc6 kV6 dc6 pm6 cd6 ct6 : Value}
    {od7 an7 : Option Addr} {sl7 : Array (Option Value)} {oc7 kV7 dc7 pm7 cd7 ct7 : Value}
    {od8 an8 : Option Addr} {sl8 : Array (Option Value)} {oc8 kV8 dc8 pm8 cd8 ct8 : Value}
    {od9 an9 : Option Addr} {sl9 : Array (Option Value)} {oc9 kV9 dc9 pm9 cd9 ct9 : Value}
    {od10 an10 : Option Addr} {sl10 : Array (Option Value)} {oc10 kV10 dc10 pm10 cd10 ct10 : Value}
    {od11 an11 : Option Addr} {sl11 : Array (Option Value)} {oc11 kV11 dc11 pm11 cd11 ct11 : Value}
    {od12 an12 : Option Addr} {sl12 : Array (Option Value)} {oc12 kV12 dc12 pm12 cd12 ct12 : Value}
    {od13 an13 : Option Addr} {sl13 : Array (Option Value)} {oc13 kV13 dc13 pm13 cd13 ct13 : Value}
    {od14 an14 : Option Addr} {sl14 : Array (Option Value)} {oc14 kV14 dc14 pm14 cd14 ct14 : Value}
    {od15 an15 : Option Addr} {sl15 : Array (Option Value)} {oc15 kV15 dc15 pm15 cd15 ct15 : Value}
    {od16 an16 : Option Addr} {sl16 : Array (Option Value)} {oc16 kV16 dc16 pm16 cd16 ct16 : Value}
    {od17 an17 : Option Addr} {sl17 : Array (Option Value)} {oc17 kV17 dc17 pm17 cd17 ct17 : Value}
    {od18 an18 : Option Addr} {sl18 : Array (Option Value)} {oc18 kV18 dc18 pm18 cd18 ct18 : Value}
    {od19 an19 : Option Addr} {sl19 : Array (Option Value)} {oc19 kV19 dc19 pm19 cd19 ct19 : Value}
    {od20 an20 : Option Addr} {sl20 : Array (Option Value)} {oc20 kV20 dc20 pm20 cd20 ct20 : Value}
    {od21 an21 : Option Addr} {sl21 : Array (Option Value)} {oc21 kV21 dc21 pm21 cd21 ct21 : Value}
    {od22 an22 : Option Addr} {sl22 : Array (Option Value)} {oc22 kV22 dc22 pm22 cd22 ct22 : Value}
    {od23 an23 : Option Addr} {sl23 : Array (Option Value)} {oc23 kV23 dc23 pm23 cd23 ct23 : Value}
    {od24 an24 : Option Addr} {sl24 : Array (Option Value)} {oc24 kV24 dc24 pm24 cd24 ct24 : Value}
    {od25 an25 : Option Addr} {sl25 : Array (Option Value)} {oc25 kV25 dc25 pm25 cd25 ct25 : Value}
    {od26 an26 : Option Addr} {sl26 : Array (Option Value)} {oc26 kV26 dc26 pm26 cd26 ct26 : Value}
    {od27 an27 : Option Addr} {sl27 : Array (Option Value)} {oc27 kV27 dc27 pm27 cd27 ct27 : Value}
    {od28 an28 : Option Addr} {sl28 : Array (Option Value)} {oc28 kV28 dc28 pm28 cd28 ct28 : Value}
    {od29 an29 : Option Addr} {sl29 : Array (Option Value)} {oc29 kV29 dc29 pm29 cd29 ct29 : Value}
    {od30 an30 : Option Addr} {sl30 : Array (Option Value)} {oc30 kV30 dc30 pm30 cd30 ct30 : Value}
    {od31 an31 : Option Addr} {sl31 : Array (Option Value)} {oc31 kV31 dc31 pm31 cd31 ct31 : Value}
    {od32 an32 : Option Addr} {sl32 : Array (Option Value)} {oc32 kV32 dc32 pm32 cd32 ct32 : Value}
    {od33 an33 : Option Addr} {sl33 : Array (Option Value)} {oc33 kV33 dc33 pm33 cd33 ct33 : Value}
    {od34 an34 : Option Addr} {sl34 : Array (Option Value)} {oc34 kV34 dc34 pm34 cd34 ct34 : Value}
    {od35 an35 : Option Addr} {sl35 : Array (Option Value)} {oc35 kV35 dc35 pm35 cd35 ct35 : Value}
    {od36 an36 : Option Addr} {sl36 : Array (Option Value)} {oc36 kV36 dc36 pm36 cd36 ct36 : Value}
    {od37 an37 : Option Addr} {sl37 : Array (Option Value)} {oc37 kV37 dc37 pm37 cd37 ct37 : Value}
    {od38 an38 : Option Addr} {sl38 : Array (Option Value)} {oc38 kV38 dc38 pm38 cd38 ct38 : Value}
    (a0 : PySem.W.nsIn K mainGlobals "_law_lake" = some (some (.ref f0))) (l0 : K.lookup f0 = some ⟨oc0, od0, .func (PySem.W.fnOf "_law_lake" "_law_lake" (defArgs s_law_lake) (defBody s_law_lake) (defScope s_law_lake) .none kV0 dc0 pm0 an0 cd0 ct0), sl0⟩) (c0 : PySem.W.codeIn K cd0 "_law_lake" = true) (k0 : PySem.W.keepIn K (.ref f0) = true)
    (a1 : PySem.W.nsIn K mainGlobals "_law_draw" = some (some (.ref f1))) (l1 : K.lookup f1 = some ⟨oc1, od1, .func (PySem.W.fnOf "_law_draw" "_law_draw" (defArgs s_law_draw) (defBody s_law_draw) (defScope s_law_draw) .none kV1 dc1 pm1 an1 cd1 ct1), sl1⟩) (c1 : PySem.W.codeIn K cd1 "_law_draw" = true) (k1 : PySem.W.keepIn K (.ref f1) = true)
    (a2 : PySem.W.nsIn K mainGlobals "_law_one" = some (some (.ref f2))) (l2 : K.lookup f2 = some ⟨oc2, od2, .func (PySem.W.fnOf "_law_one" "_law_one" (defArgs s_law_one) (defBody s_law_one) (defScope s_law_one) .none kV2 dc2 pm2 an2 cd2 ct2), sl2⟩) (c2 : PySem.W.codeIn K cd2 "_law_one" = true) (k2 : PySem.W.keepIn K (.ref f2) = true)
    (a3 : PySem.W.nsIn K mainGlobals "_law_ground" = some (some (.ref f3))) (l3 : K.lookup f3 = some ⟨oc3, od3, .func (PySem.W.fnOf "_law_ground" "_law_ground" (defArgs s_law_ground) (defBody s_law_ground) (defScope s_law_ground) .none kV3 dc3 pm3 an3 cd3 ct3), sl3⟩) (c3 : PySem.W.codeIn K cd3 "_law_ground" = true) (k3 : PySem.W.keepIn K (.ref f3) = true)
    (a4 : PySem.W.nsIn K mainGlobals "_law_mixed" = some (some (.ref f4))) (l4 : K.lookup f4 = some ⟨oc4, od4, .func (PySem.W.fnOf "_law_mixed" "_law_mixed" (defArgs s_law_mixed) (defBody s_law_mixed) (defScope s_law_mixed) .none kV4 dc4 pm4 an4 cd4 ct4), sl4⟩) (c4 : PySem.W.codeIn K cd4 "_law_mixed" = true) (k4 : PySem.W.keepIn K (.ref f4) = true)
    (a5 : PySem.W.nsIn K mainGlobals "_law_sum" = some (some (.ref f5))) (l5 : K.lookup f5 = some ⟨oc5, od5, .func (PySem.W.fnOf "_law_sum" "_law_sum" (defArgs s_law_sum) (defBody s_law_sum) (defScope s_law_sum) .none kV5 dc5 pm5 an5 cd5 ct5), sl5⟩) (c5 : PySem.W.codeIn K cd5 "_law_sum" = true) (k5 : PySem.W.keepIn K (.ref f5) = true)
    (a6 : PySem.W.nsIn K mainGlobals "_law_heap" = some (some (.ref f6))) (l6 : K.lookup f6 = some ⟨oc6, od6, .func (PySem.W.fnOf "_law_heap" "_law_heap" (defArgs s_law_heap) (defBody s_law_heap) (defScope s_law_heap) .none kV6 dc6 pm6 an6 cd6 ct6), sl6⟩) (c6 : PySem.W.codeIn K cd6 "_law_heap" = true) (k6 : PySem.W.keepIn K (.ref f6) = true)
    (a7 : PySem.W.nsIn K mainGlobals "_law_goal" = some (some (.ref f7))) (l7 : K.lookup f7 = some ⟨oc7, od7, .func (PySem.W.fnOf "_law_goal" "_law_goal" (defArgs s_law_goal) (defBody s_law_goal) (defScope s_law_goal) .none kV7 dc7 pm7 an7 cd7 ct7), sl7⟩) (c7 : PySem.W.codeIn K cd7 "_law_goal" = true) (k7 : PySem.W.keepIn K (.ref f7) = true)
    (a8 : PySem.W.nsIn K mainGlobals "pick_mask" = some (some (.ref f8))) (l8 : K.lookup f8 = some ⟨oc8, od8, .func (PySem.W.fnOf "pick_mask" "pick_mask" (defArgs spick_mask) (defBody spick_mask) (defScope spick_mask) .none kV8 dc8 pm8 an8 cd8 ct8), sl8⟩) (c8 : PySem.W.codeIn K cd8 "pick_mask" = true) (k8 : PySem.W.keepIn K (.ref f8) = true)
    (a9 : PySem.W.nsIn K mainGlobals "summands" = some (some (.ref f9))) (l9 : K.lookup f9 = some ⟨oc9, od9, .func (PySem.W.fnOf "summands" "summands" (defArgs ssummands) (defBody ssummands) (defScope ssummands) .none kV9 dc9 pm9 an9 cd9 ct9), sl9⟩) (c9 : PySem.W.codeIn K cd9 "summands" = true) (k9 : PySem.W.keepIn K (.ref f9) = true)
    (a10 : PySem.W.nsIn K mainGlobals "_law_mark" = some (some (.ref f10))) (l10 : K.lookup f10 = some ⟨oc10, od10, .func (PySem.W.fnOf "_law_mark" "_law_mark" (defArgs s_law_mark) (defBody s_law_mark) (defScope s_law_mark) .none kV10 dc10 pm10 an10 cd10 ct10), sl10⟩) (c10 : PySem.W.codeIn K cd10 "_law_mark" = true) (k10 : PySem.W.keepIn K (.ref f10) = true)
    (a11 : PySem.W.nsIn K mainGlobals "_law_is_any" = some (some (.ref f11))) (l11 : K.lookup f11 = some ⟨oc11, od11, .func (PySem.W.fnOf "_law_is_any" "_law_is_any" (defArgs s_law_is_any) (defBody s_law_is_any) (defScope s_law_is_any) .none kV11 dc11 pm11 an11 cd11 ct11), sl11⟩) (c11 : PySem.W.codeIn K cd11 "_law_is_any" = true) (k11 : PySem.W.keepIn K (.ref f11) = true)
    (a12 : PySem.W.nsIn K mainGlobals "sum_of" = some (some (.ref f12))) (l12 : K.lookup f12 = some ⟨oc12, od12, .func (PySem.W.fnOf "sum_of" "sum_of" (defArgs ssum_of) (defBody ssum_of) (defScope ssum_of) .none kV12 dc12 pm12 an12 cd12 ct12), sl12⟩) (c12 : PySem.W.codeIn K cd12 "sum_of" = true) (k12 : PySem.W.keepIn K (.ref f12) = true)
    (a13 : PySem.W.nsIn K mainGlobals "_law_by_sums" = some (some (.ref f13))) (l13 : K.lookup f13 = some ⟨oc13, od13, .func (PySem.W.fnOf "_law_by_sums" "_law_by_sums" (defArgs s_law_by_sums) (defBody s_law_by_sums) (defScope s_law_by_sums) .none kV13 dc13 pm13 an13 cd13 ct13), sl13⟩) (c13 : PySem.W.codeIn K cd13 "_law_by_sums" = true) (k13 : PySem.W.keepIn K (.ref f13) = true)
    (a14 : PySem.W.nsIn K mainGlobals "_law_holds" = some (some (.ref f14))) (l14 : K.lookup f14 = some ⟨oc14, od14, .func (PySem.W.fnOf "_law_holds" "_law_holds" (defArgs s_law_holds) (defBody s_law_holds) (defScope s_law_holds) .none kV14 dc14 pm14 an14 cd14 ct14), sl14⟩) (c14 : PySem.W.codeIn K cd14 "_law_holds" = true) (k14 : PySem.W.keepIn K (.ref f14) = true)
    (a15 : PySem.W.nsIn K mainGlobals "_law_is_told" = some (some (.ref f15))) (l15 : K.lookup f15 = some ⟨oc15, od15, .func (PySem.W.fnOf "_law_is_told" "_law_is_told" (defArgs s_law_is_told) (defBody s_law_is_told) (defScope s_law_is_told) .none kV15 dc15 pm15 an15 cd15 ct15), sl15⟩) (c15 : PySem.W.codeIn K cd15 "_law_is_told" = true) (k15 : PySem.W.keepIn K (.ref f15) = true)
    (a16 : PySem.W.nsIn K mainGlobals "first_forest" = some (some (.ref f16))) (l16 : K.lookup f16 = some ⟨oc16, od16, .func (PySem.W.fnOf "first_forest" "first_forest" (defArgs sfirst_forest) (defBody sfirst_forest) (defScope sfirst_forest) .none kV16 dc16 pm16 an16 cd16 ct16), sl16⟩) (c16 : PySem.W.codeIn K cd16 "first_forest" = true) (k16 : PySem.W.keepIn K (.ref f16) = true)
    (a17 : PySem.W.nsIn K mainGlobals "neighbours" = some (some (.ref f17))) (l17 : K.lookup f17 = some ⟨oc17, od17, .func (PySem.W.fnOf "neighbours" "neighbours" (defArgs sneighbours) (defBody sneighbours) (defScope sneighbours) .none kV17 dc17 pm17 an17 cd17 ct17), sl17⟩) (c17 : PySem.W.codeIn K cd17 "neighbours" = true) (k17 : PySem.W.keepIn K (.ref f17) = true)
    (a18 : PySem.W.nsIn K mainGlobals "can_come" = some (some (.ref f18))) (l18 : K.lookup f18 = some ⟨oc18, od18, .func (PySem.W.fnOf "can_come" "can_come" (defArgs scan_come) (defBody scan_come) (defScope scan_come) .none kV18 dc18 pm18 an18 cd18 ct18), sl18⟩) (c18 : PySem.W.codeIn K cd18 "can_come" = true) (k18 : PySem.W.keepIn K (.ref f18) = true)
    (a19 : PySem.W.nsIn K mainGlobals "rings_from" = some (some (.ref f19))) (l19 : K.lookup f19 = some ⟨oc19, od19, .func (PySem.W.fnOf "rings_from" "rings_from" (defArgs srings_from) (defBody srings_from) (defScope srings_from) .none kV19 dc19 pm19 an19 cd19 ct19), sl19⟩) (c19 : PySem.W.codeIn K cd19 "rings_from" = true) (k19 : PySem.W.keepIn K (.ref f19) = true)
    (a20 : PySem.W.nsIn K mainGlobals "rings" = some (some (.ref f20))) (l20 : K.lookup f20 = some ⟨oc20, od20, .func (PySem.W.fnOf "rings" "rings" (defArgs srings) (defBody srings) (defScope srings) .none kV20 dc20 pm20 an20 cd20 ct20), sl20⟩) (c20 : PySem.W.codeIn K cd20 "rings" = true) (k20 : PySem.W.keepIn K (.ref f20) = true)
    (a21 : PySem.W.nsIn K mainGlobals "piece_marks" = some (some (.ref f21))) (l21 : K.lookup f21 = some ⟨oc21, od21, .func (PySem.W.fnOf "piece_marks" "piece_marks" (defArgs spiece_marks) (defBody spiece_marks) (defScope spiece_marks) .none kV21 dc21 pm21 an21 cd21 ct21), sl21⟩) (c21 : PySem.W.codeIn K cd21 "piece_marks" = true) (k21 : PySem.W.keepIn K (.ref f21) = true)
    (a22 : PySem.W.nsIn K mainGlobals "parts_beside" = some (some (.ref f22))) (l22 : K.lookup f22 = some ⟨oc22, od22, .func (PySem.W.fnOf "parts_beside" "parts_beside" (defArgs sparts_beside) (defBody sparts_beside) (defScope sparts_beside) .none kV22 dc22 pm22 an22 cd22 ct22), sl22⟩) (c22 : PySem.W.codeIn K cd22 "parts_beside" = true) (k22 : PySem.W.keepIn K (.ref f22) = true)
    (a23 : PySem.W.nsIn K mainGlobals "settled_sides" = some (some (.ref f23))) (l23 : K.lookup f23 = some ⟨oc23, od23, .func (PySem.W.fnOf "settled_sides" "settled_sides" (defArgs ssettled_sides) (defBody ssettled_sides) (defScope ssettled_sides) .none kV23 dc23 pm23 an23 cd23 ct23), sl23⟩) (c23 : PySem.W.codeIn K cd23 "settled_sides" = true) (k23 : PySem.W.keepIn K (.ref f23) = true)
    (a24 : PySem.W.nsIn K mainGlobals "bonds_of_piece" = some (some (.ref f24))) (l24 : K.lookup f24 = some ⟨oc24, od24, .func (PySem.W.fnOf "bonds_of_piece" "bonds_of_piece" (defArgs sbonds_of_piece) (defBody sbonds_of_piece) (defScope sbonds_of_piece) .none kV24 dc24 pm24 an24 cd24 ct24), sl24⟩) (c24 : PySem.W.codeIn K cd24 "bonds_of_piece" = true) (k24 : PySem.W.keepIn K (.ref f24) = true)
    (a25 : PySem.W.nsIn K mainGlobals "bonds" = some (some (.ref f25))) (l25 : K.lookup f25 = some ⟨oc25, od25, .func (PySem.W.fnOf "bonds" "bonds" (defArgs sbonds) (defBody sbonds) (defScope sbonds) .none kV25 dc25 pm25 an25 cd25 ct25), sl25⟩) (c25 : PySem.W.codeIn K cd25 "bonds" = true) (k25 : PySem.W.keepIn K (.ref f25) = true)
    (a26 : PySem.W.nsIn K mainGlobals "_law_is_met" = some (some (.ref f26))) (l26 : K.lookup f26 = some ⟨oc26, od26, .func (PySem.W.fnOf "_law_is_met" "_law_is_met" (defArgs s_law_is_met) (defBody s_law_is_met) (defScope s_law_is_met) .none kV26 dc26 pm26 an26 cd26 ct26), sl26⟩) (c26 : PySem.W.codeIn K cd26 "_law_is_met" = true) (k26 : PySem.W.keepIn K (.ref f26) = true)
    (a27 : PySem.W.nsIn K mainGlobals "path_between" = some (some (.ref f27))) (l27 : K.lookup f27 = some ⟨oc27, od27, .func (PySem.W.fnOf "path_between" "path_between" (defArgs spath_between) (defBody spath_between) (defScope spath_between) .none kV27 dc27 pm27 an27 cd27 ct27), sl27⟩) (c27 : PySem.W.codeIn K cd27 "path_between" = true) (k27 : PySem.W.keepIn K (.ref f27) = true)
    (a28 : PySem.W.nsIn K mainGlobals "ring_with" = some (some (.ref f28))) (l28 : K.lookup f28 = some ⟨oc28, od28, .func (PySem.W.fnOf "ring_with" "ring_with" (defArgs sring_with) (defBody sring_with) (defScope sring_with) .none kV28 dc28 pm28 an28 cd28 ct28), sl28⟩) (c28 : PySem.W.codeIn K cd28 "ring_with" = true) (k28 : PySem.W.keepIn K (.ref f28) = true)
    (a29 : PySem.W.nsIn K mainGlobals "bond_with" = some (some (.ref f29))) (l29 : K.lookup f29 = some ⟨oc29, od29, .func (PySem.W.fnOf "bond_with" "bond_with" (defArgs sbond_with) (defBody sbond_with) (defScope sbond_with) .none kV29 dc29 pm29 an29 cd29 ct29), sl29⟩) (c29 : PySem.W.codeIn K cd29 "bond_with" = true) (k29 : PySem.W.keepIn K (.ref f29) = true)
    (a30 : PySem.W.nsIn K mainGlobals "dart_counts" = some (some (.ref f30))) (l30 : K.lookup f30 = some ⟨oc30, od30, .func (PySem.W.fnOf "dart_counts" "dart_counts" (defArgs sdart_counts) (defBody sdart_counts) (defScope sdart_counts) .none kV30 dc30 pm30 an30 cd30 ct30), sl30⟩) (c30 : PySem.W.codeIn K cd30 "dart_counts" = true) (k30 : PySem.W.keepIn K (.ref f30) = true)
    (a31 : PySem.W.nsIn K mainGlobals "is_even" = some (some (.ref f31))) (l31 : K.lookup f31 = some ⟨oc31, od31, .func (PySem.W.fnOf "is_even" "is_even" (defArgs sis_even) (defBody sis_even) (defScope sis_even) .none kV31 dc31 pm31 an31 cd31 ct31), sl31⟩) (c31 : PySem.W.codeIn K cd31 "is_even" = true) (k31 : PySem.W.keepIn K (.ref f31) = true)
    (a32 : PySem.W.nsIn K mainGlobals "sides_of_cut" = some (some (.ref f32))) (l32 : K.lookup f32 = some ⟨oc32, od32, .func (PySem.W.fnOf "sides_of_cut" "sides_of_cut" (defArgs ssides_of_cut) (defBody ssides_of_cut) (defScope ssides_of_cut) .none kV32 dc32 pm32 an32 cd32 ct32), sl32⟩) (c32 : PySem.W.codeIn K cd32 "sides_of_cut" = true) (k32 : PySem.W.keepIn K (.ref f32) = true)
    (a33 : PySem.W.nsIn K mainGlobals "is_cut" = some (some (.ref f33))) (l33 : K.lookup f33 = some ⟨oc33, od33, .func (PySem.W.fnOf "is_cut" "is_cut" (defArgs sis_cut) (defBody sis_cut) (defScope sis_cut) .none kV33 dc33 pm33 an33 cd33 ct33), sl33⟩) (c33 : PySem.W.codeIn K cd33 "is_cut" = true) (k33 : PySem.W.keepIn K (.ref f33) = true)
    (a34 : PySem.W.nsIn K mainGlobals "_law_by_web" = some (some (.ref f34))) (l34 : K.lookup f34 = some ⟨oc34, od34, .func (PySem.W.fnOf "_law_by_web" "_law_by_web" (defArgs s_law_by_web) (defBody s_law_by_web) (defScope s_law_by_web) .none kV34 dc34 pm34 an34 cd34 ct34), sl34⟩) (c34 : PySem.W.codeIn K cd34 "_law_by_web" = true) (k34 : PySem.W.keepIn K (.ref f34) = true)
    (a35 : PySem.W.nsIn K mainGlobals "_law_shape" = some (some (.ref f35))) (l35 : K.lookup f35 = some ⟨oc35, od35, .func (PySem.W.fnOf "_law_shape" "_law_shape" (defArgs s_law_shape) (defBody s_law_shape) (defScope s_law_shape) .none kV35 dc35 pm35 an35 cd35 ct35), sl35⟩) (c35 : PySem.W.codeIn K cd35 "_law_shape" = true) (k35 : PySem.W.keepIn K (.ref f35) = true)
    (a36 : PySem.W.nsIn K mainGlobals "_law_named" = some (some (.ref f36))) (l36 : K.lookup f36 = some ⟨oc36, od36, .func (PySem.W.fnOf "_law_named" "_law_named" (defArgs s_law_named) (defBody s_law_named) (defScope s_law_named) .none kV36 dc36 pm36 an36 cd36 ct36), sl36⟩) (c36 : PySem.W.codeIn K cd36 "_law_named" = true) (k36 : PySem.W.keepIn K (.ref f36) = true)
    (a37 : PySem.W.nsIn K mainGlobals "_law_net" = some (some (.ref f37))) (l37 : K.lookup f37 = some ⟨oc37, od37, .func (PySem.W.fnOf "_law_net" "_law_net" (defArgs s_law_net) (defBody s_law_net) (defScope s_law_net) .none kV37 dc37 pm37 an37 cd37 ct37), sl37⟩) (c37 : PySem.W.codeIn K cd37 "_law_net" = true) (k37 : PySem.W.keepIn K (.ref f37) = true)
    (a38 : PySem.W.nsIn K mainGlobals "law" = some (some (.ref f38))) (l38 : K.lookup f38 = some ⟨oc38, od38, .func (PySem.W.fnOf "law" "law" (defArgs slaw) (defBody slaw) (defScope slaw) .none kV38 dc38 pm38 an38 cd38 ct38), sl38⟩) (c38 : PySem.W.codeIn K cd38 "law" = true) (k38 : PySem.W.keepIn K (.ref f38) = true)
    (z_len : PySem.W.nsIn K mainGlobals "len" = some none)
    (z_sum : PySem.W.nsIn K mainGlobals "sum" = some none)
    (z_range : PySem.W.nsIn K mainGlobals "range" = some none)
    (z_enumerate : PySem.W.nsIn K mainGlobals "enumerate" = some none)
    (z_sorted : PySem.W.nsIn K mainGlobals "sorted" = some none)
    (z_tuple : PySem.W.nsIn K mainGlobals "tuple" = some none)
    (z_list : PySem.W.nsIn K mainGlobals "list" = some none)
    (z_set : PySem.W.nsIn K mainGlobals "set" = some none)
    (z_all : PySem.W.nsIn K mainGlobals "all" = some none)
    (z_any : PySem.W.nsIn K mainGlobals "any" = some none)
    (z_abs : PySem.W.nsIn K mainGlobals "abs" = some none)
    (z_min : PySem.W.nsIn K mainGlobals "min" = some none)
    (z_max : PySem.W.nsIn K mainGlobals "max" = some none)
    (z_int : PySem.W.nsIn K mainGlobals "int" = some none)
    (z_bool : PySem.W.nsIn K mainGlobals "bool" = some none)
    (z_repr : PySem.W.nsIn K mainGlobals "repr" = some none)
    (z_isinstance : PySem.W.nsIn K mainGlobals "isinstance" = some none)
    (z_maxl : PySem.W.nsIn K mainGlobals "MAX_LISTED" = some (some (.int 1000 mt))) :
    ∃ fd : FuncData, (∀ (s : Shared) (v : Value), BindsTo s fd ⟨[v], []⟩ [("_law_script", v)]) ∧ ∀ base : Heap, K.In base → base.Ns mainGlobals mg → FnG l.prog w K mg base CX0 6 fa fd ["_law_script"] (sp_law K) := by
  have e := hfa.symm.trans (PySem.W.mg_of X G a38)
  cases e
  have T : Bi mg mt := ⟨PySem.W.mg_none_of X G z_len, PySem.W.mg_none_of X G z_sum, PySem.W.mg_none_of X G z_range, PySem.W.mg_none_of X G z_enumerate, PySem.W.mg_none_of X G z_sorted, PySem.W.mg_none_of X G z_tuple, PySem.W.mg_none_of X G z_list, PySem.W.mg_none_of X G z_set, PySem.W.mg_none_of X G z_all, PySem.W.mg_none_of X G z_any, PySem.W.mg_none_of X G z_abs, PySem.W.mg_none_of X G z_min, PySem.W.mg_none_of X G z_max, PySem.W.mg_none_of X G z_int, PySem.W.mg_none_of X G z_bool, PySem.W.mg_none_of X G z_repr, PySem.W.mg_none_of X G z_isinstance, PySem.W.mg_of X G z_maxl⟩
  refine ⟨PySem.W.fnOf "law" "law" (defArgs slaw) (defBody slaw) (defScope slaw) .none kV38 dc38 pm38 an38 cd38 ct38, fun s v => .of_eq rfl, fun base _ _ => ?_⟩
  have F0 := fun_mk (st := s_law_lake) l0 c0 k0
  have O0 := ok_law_lake (P := l.prog) (w := w) (base := base) F0 T
  have B0 := F0.binds (ps := ["_law_script"]) fun _ _ _ _ _ _ us hl => match us, hl with | [_], _ => rfl
  have Ca0 : C8.Cal l.prog w K mg base 1 "_law_lake" (sp_law_lake K) [] := cal_of O0 (PySem.W.mg_of X G a0) k0 B0
  have F1 := fun_mk (st := s_law_draw) l1 c1 k1
  have O1 := ok_law_draw (P := l.prog) (w := w) (base := base) F1 T
  have B1 := F1.binds (ps := ["_law_lake_here", "_law_size"]) fun _ _ _ _ _ _ us hl => match us, hl with | [_, _], _ => rfl
  have Ca1 : C8.Cal l.prog w K mg base 1 "_law_draw" (sp_law_draw K) [] := cal_of O1 (PySem.W.mg_of X G a1) k1 B1
  have F2 := fun_mk (st := s_law_one) l2 c2 k2
  have O2 := ok_law_one (P := l.prog) (w := w) (base := base) F2 T Ca1
  have B2 := F2.binds (ps := ["_law_lake_here", "_law_items"]) fun _ _ _ _ _ _ us hl => match us, hl with | [_, _], _ => rfl
  have Ca2 : C8.Cal l.prog w K mg base 2 "_law_one" (sp_law_one K) [] := cal_of O2 (PySem.W.mg_of X G a2) k2 B2
  have F3 := fun_mk (st := s_law_ground) l3 c3 k3
  have O3 := ok_law_ground (P := l.prog) (w := w) (base := base) F3 T Ca2 Ca1
  have B3 := F3.binds (ps := ["_law_lake_here", "_law_most"]) fun _ _ _ _ _ _ us hl => match us, hl with | [_, _], _ => rfl
  have Ca3 : C8.Cal l.prog w K mg base 3 "_law_ground" (sp_law_ground K) [] := cal_of O3 (PySem.W.mg_of X G a3) k3 B3
  have F4 := fun_mk (st := s_law_mixed) l4 c4 k4
  have O4 := ok_law_mixed (P := l.prog) (w := w) (base := base) F4 T Ca1
  have B4 := F4.binds (ps := ["_law_lake_here", "_law_items"]) fun _ _ _ _ _ _ us hl => match us, hl with | [_, _], _ => rfl
  have Ca4 : C8.Cal l.prog w K mg base 2 "_law_mixed" (sp_law_mixed K) [] := cal_of O4 (PySem.W.mg_of X G a4) k4 B4
  have F5 := fun_mk (st := s_law_sum) l5 c5 k5
  have O5 := ok_law_sum (P := l.prog) (w := w) (base := base) F5 T
  have B5 := F5.binds (ps := ["_law_some"]) fun _ _ _ _ _ _ us hl => match us, hl with | [_], _ => rfl
  have Ca5 : C8.Cal l.prog w K mg base 1 "_law_sum" (sp_law_sum K) [] := cal_of O5 (PySem.W.mg_of X G a5) k5 B5
  have F6 := fun_mk (st := s_law_heap) l6 c6 k6
  have O6 := ok_law_heap (P := l.prog) (w := w) (base := base) F6 T Ca1 Ca4 Ca2 Ca5
  have B6 := F6.binds (ps := ["_law_lake_here", "_law_ground_here", "_law_most"]) fun _ _ _ _ _ _ us hl => match us, hl with | [_, _, _], _ => rfl
  have Ca6 : C8.Cal l.prog w K mg base 3 "_law_heap" (sp_law_heap K) [] := cal_of O6 (PySem.W.mg_of X G a6) k6 B6
  have F7 := fun_mk (st := s_law_goal) l7 c7 k7
  have O7 := ok_law_goal (P := l.prog) (w := w) (base := base) F7 T Ca5 Ca1 Ca2
  have B7 := F7.binds (ps := ["_law_lake_here", "_law_ground_here", "_law_heap_here"]) fun _ _ _ _ _ _ us hl => match us, hl with | [_, _, _], _ => rfl
  have Ca7 : C8.Cal l.prog w K mg base 3 "_law_goal" (sp_law_goal K) [] := cal_of O7 (PySem.W.mg_of X G a7) k7 B7
  have F8 := fun_mk (st := spick_mask) l8 c8 k8
  have O8 := ok_pick_mask (P := l.prog) (w := w) (base := base) F8 T
  have B8 := F8.binds (ps := ["pick"]) fun _ _ _ _ _ _ us hl => match us, hl with | [_], _ => rfl
  have Ca8 : C8.Cal l.prog w K mg base 1 "pick_mask" (sp_pick_mask K) [] := cal_of O8 (PySem.W.mg_of X G a8) k8 B8
  have F9 := fun_mk (st := ssummands) l9 c9 k9
  have O9 := ok_summands (P := l.prog) (w := w) (base := base) F9 T Ca8
  have B9 := F9.binds (ps := ["picks", "pick"]) fun _ _ _ _ _ _ us hl => match us, hl with | [_, _], _ => rfl
  have Ca9 : C8.Cal l.prog w K mg base 2 "summands" (sp_summands K) [] := cal_of O9 (PySem.W.mg_of X G a9) k9 B9
  have W_summands : CalK l.prog w K mg base 2 "summands" ["pick", "picks"] gv2 (sp_summands K) := ⟨_, _, _, g2, O9, PySem.W.mg_of X G a9, k9, kb_summands F9⟩
  have F10 := fun_mk (st := s_law_mark) l10 c10 k10
  have O10 := ok_law_mark (P := l.prog) (w := w) (base := base) F10 T
  have B10 := F10.binds (ps := ["_law_some"]) fun _ _ _ _ _ _ us hl => match us, hl with | [_], _ => rfl
  have Ca10 : C8.Cal l.prog w K mg base 1 "_law_mark" (sp_law_mark K) [] := cal_of O10 (PySem.W.mg_of X G a10) k10 B10
  have F11 := fun_mk (st := s_law_is_any) l11 c11 k11
  have O11 := ok_law_is_any (P := l.prog) (w := w) (base := base) F11 T Ca10
  have B11 := F11.binds (ps := ["_law_heap_here", "_law_goal_here"]) fun _ _ _ _ _ _ us hl => match us, hl with | [_, _], _ => rfl
  have Ca11 : C8.Cal l.prog w K mg base 2 "_law_is_any" (sp_law_is_any K) [] := cal_of O11 (PySem.W.mg_of X G a11) k11 B11
  have F12 := fun_mk (st := ssum_of) l12 c12 k12
  have O12 := ok_sum_of (P := l.prog) (w := w) (base := base) F12 T
  have B12 := F12.binds (ps := ["picks"]) fun _ _ _ _ _ _ us hl => match us, hl with | [_], _ => rfl
  have Ca12 : C8.Cal l.prog w K mg base 1 "sum_of" (sp_sum_of K) [] := cal_of O12 (PySem.W.mg_of X G a12) k12 B12
  have W_sum_of : CalK l.prog w K mg base 1 "sum_of" ["picks"] gv1 (sp_sum_of K) := ⟨_, _, _, g1, O12, PySem.W.mg_of X G a12, k12, kb_sum_of F12⟩
  have F13 := fun_mk (st := s_law_by_sums) l13 c13 k13
  have O13 := ok_law_by_sums (P := l.prog) (w := w) (base := base) F13 T Ca5 Ca1 Ca12 Ca4 W_sum_of
  have B13 := F13.binds (ps := ["_law_lake_here", "_law_heap_here"]) fun _ _ _ _ _ _ us hl => match us, hl with | [_, _], _ => rfl
  have Ca13 : CalG l.prog w K mg base 3 "_law_by_sums" (sp_law_by_sums K) := ⟨_, _, _, O13, PySem.W.mg_of X G a13, k13, B13⟩
  have F14 := fun_mk (st := s_law_holds) l14 c14 k14
  have O14 := ok_law_holds (P := l.prog) (w := w) (base := base) F14 T Ca5
  have B14 := F14.binds (ps := ["_law_heap_here", "_law_goal_here", "_law_thing"]) fun _ _ _ _ _ _ us hl => match us, hl with | [_, _, _], _ => rfl
  have Ca14 : C8.Cal l.prog w K mg base 2 "_law_holds" (sp_law_holds K) [] := cal_of O14 (PySem.W.mg_of X G a14) k14 B14
  have F15 := fun_mk (st := s_law_is_told) l15 c15 k15
  have O15 := ok_law_is_told (P := l.prog) (w := w) (base := base) F15 T Ca9 Ca14 Ca12 W_summands
  have B15 := F15.binds (ps := ["_law_heap_here", "_law_goal_here", "_law_is_due"]) fun _ _ _ _ _ _ us hl => match us, hl with | [_, _, _], _ => rfl
  have Ca15 : CalG l.prog w K mg base 3 "_law_is_told" (sp_law_is_told K) := ⟨_, _, _, O15, PySem.W.mg_of X G a15, k15, B15⟩
  have F16 := fun_mk (st := sfirst_forest) l16 c16 k16
  have O16 := ok_first_forest (P := l.prog) (w := w) (base := base) F16 T
  have B16 := F16.binds (ps := ["web"]) fun _ _ _ _ _ _ us hl => match us, hl with | [_], _ => rfl
  have Ca16 : C8.Cal l.prog w K mg base 1 "first_forest" (sp_first_forest K) [] := cal_of O16 (PySem.W.mg_of X G a16) k16 B16
  have F17 := fun_mk (st := sneighbours) l17 c17 k17
  have O17 := ok_neighbours (P := l.prog) (w := w) (base := base) F17 T
  have B17 := F17.binds (ps := ["web"]) fun _ _ _ _ _ _ us hl => match us, hl with | [_], _ => rfl
  have Ca17 : C8.Cal l.prog w K mg base 1 "neighbours" (sp_neighbours K) [] := cal_of O17 (PySem.W.mg_of X G a17) k17 B17
  have F18 := fun_mk (st := scan_come) l18 c18 k18
  have O18 := ok_can_come (P := l.prog) (w := w) (base := base) F18 T
  have B18 := F18.binds (ps := ["near", "spot", "target", "closed", "least"]) fun _ _ _ _ _ _ us hl => match us, hl with | [_, _, _, _, _], _ => rfl
  have Ca18 : C8.Cal l.prog w K mg base 1 "can_come" (sp_can_come K) [] := cal_of O18 (PySem.W.mg_of X G a18) k18 B18
  have F19 := fun_mk (st := srings_from) l19 c19 k19
  have O19 := ok_rings_from (P := l.prog) (w := w) (base := base) F19 T Ca18
  have B19 := F19.binds (ps := ["web", "near", "least", "found"]) fun _ _ _ _ _ _ us hl => match us, hl with | [_, _, _, _], _ => rfl
  have Ca19 : C8.Cal l.prog w K mg base 2 "rings_from" (sp_rings_from K) [] := cal_of O19 (PySem.W.mg_of X G a19) k19 B19
  have F20 := fun_mk (st := srings) l20 c20 k20
  have O20 := ok_rings (P := l.prog) (w := w) (base := base) F20 T Ca17 Ca19
  have B20 := F20.binds (ps := ["web"]) fun _ _ _ _ _ _ us hl => match us, hl with | [_], _ => rfl
  have Ca20 : C8.Cal l.prog w K mg base 3 "rings" (sp_rings K) [] := cal_of O20 (PySem.W.mg_of X G a20) k20 B20
  have F21 := fun_mk (st := spiece_marks) l21 c21 k21
  have O21 := ok_piece_marks (P := l.prog) (w := w) (base := base) F21 T
  have B21 := F21.binds (ps := ["spots", "ties"]) fun _ _ _ _ _ _ us hl => match us, hl with | [_, _], _ => rfl
  have Ca21 : C8.Cal l.prog w K mg base 1 "piece_marks" (sp_piece_marks K) [] := cal_of O21 (PySem.W.mg_of X G a21) k21 B21
  have F22 := fun_mk (st := sparts_beside) l22 c22 k22
  have O22 := ok_parts_beside (P := l.prog) (w := w) (base := base) F22 T
  have B22 := F22.binds (ps := ["near", "piece", "inner"]) fun _ _ _ _ _ _ us hl => match us, hl with | [_, _, _], _ => rfl
  have Ca22 : C8.Cal l.prog w K mg base 1 "parts_beside" (sp_parts_beside K) [] := cal_of O22 (PySem.W.mg_of X G a22) k22 B22
  have F23 := fun_mk (st := ssettled_sides) l23 c23 k23
  have O23 := ok_settled_sides (P := l.prog) (w := w) (base := base) F23 T Ca22
  have B23 := F23.binds (ps := ["near", "piece", "inner", "outer"]) fun _ _ _ _ _ _ us hl => match us, hl with | [_, _, _, _], _ => rfl
  have Ca23 : C8.Cal l.prog w K mg base 2 "settled_sides" (sp_settled_sides K) [] := cal_of O23 (PySem.W.mg_of X G a23) k23 B23
  have F24 := fun_mk (st := sbonds_of_piece) l24 c24 k24
  have O24 := ok_bonds_of_piece (P := l.prog) (w := w) (base := base) F24 T Ca23
  have B24 := F24.binds (ps := ["web", "near", "piece", "found"]) fun _ _ _ _ _ _ us hl => match us, hl with | [_, _, _, _], _ => rfl
  have Ca24 : C8.Cal l.prog w K mg base 3 "bonds_of_piece" (sp_bonds_of_piece K) [] := cal_of O24 (PySem.W.mg_of X G a24) k24 B24
  have F25 := fun_mk (st := sbonds) l25 c25 k25
  have O25 := ok_bonds (P := l.prog) (w := w) (base := base) F25 T Ca17 Ca21 Ca24
  have B25 := F25.binds (ps := ["web"]) fun _ _ _ _ _ _ us hl => match us, hl with | [_], _ => rfl
  have Ca25 : C8.Cal l.prog w K mg base 4 "bonds" (sp_bonds K) [] := cal_of O25 (PySem.W.mg_of X G a25) k25 B25
  have F26 := fun_mk (st := s_law_is_met) l26 c26 k26
  have O26 := ok_law_is_met (P := l.prog) (w := w) (base := base) F26 T Ca10
  have B26 := F26.binds (ps := ["_law_heap_here", "_law_goal_here"]) fun _ _ _ _ _ _ us hl => match us, hl with | [_, _], _ => rfl
  have Ca26 : C8.Cal l.prog w K mg base 2 "_law_is_met" (sp_law_is_met K) [] := cal_of O26 (PySem.W.mg_of X G a26) k26 B26
  have F27 := fun_mk (st := spath_between) l27 c27 k27
  have O27 := ok_path_between (P := l.prog) (w := w) (base := base) F27 T
  have B27 := F27.binds (ps := ["web", "ties", "first", "last"]) fun _ _ _ _ _ _ us hl => match us, hl with | [_, _, _, _], _ => rfl
  have Ca27 : C8.Cal l.prog w K mg base 1 "path_between" (sp_path_between K) [] := cal_of O27 (PySem.W.mg_of X G a27) k27 B27
  have F28 := fun_mk (st := sring_with) l28 c28 k28
  have O28 := ok_ring_with (P := l.prog) (w := w) (base := base) F28 T Ca16 Ca27
  have B28 := F28.binds (ps := ["web", "tie"]) fun _ _ _ _ _ _ us hl => match us, hl with | [_, _], _ => rfl
  have Ca28 : C8.Cal l.prog w K mg base 2 "ring_with" (sp_ring_with K) [] := cal_of O28 (PySem.W.mg_of X G a28) k28 B28
  have F29 := fun_mk (st := sbond_with) l29 c29 k29
  have O29 := ok_bond_with (P := l.prog) (w := w) (base := base) F29 T Ca16 Ca21
  have B29 := F29.binds (ps := ["web", "tie"]) fun _ _ _ _ _ _ us hl => match us, hl with | [_, _], _ => rfl
  have Ca29 : C8.Cal l.prog w K mg base 2 "bond_with" (sp_bond_with K) [] := cal_of O29 (PySem.W.mg_of X G a29) k29 B29
  have F30 := fun_mk (st := sdart_counts) l30 c30 k30
  have O30 := ok_dart_counts (P := l.prog) (w := w) (base := base) F30 T
  have B30 := F30.binds (ps := ["web", "pick"]) fun _ _ _ _ _ _ us hl => match us, hl with | [_, _], _ => rfl
  have Ca30 : C8.Cal l.prog w K mg base 1 "dart_counts" (sp_dart_counts K) [] := cal_of O30 (PySem.W.mg_of X G a30) k30 B30
  have F31 := fun_mk (st := sis_even) l31 c31 k31
  have O31 := ok_is_even (P := l.prog) (w := w) (base := base) F31 T Ca30
  have B31 := F31.binds (ps := ["web", "pick"]) fun _ _ _ _ _ _ us hl => match us, hl with | [_, _], _ => rfl
  have Ca31 : C8.Cal l.prog w K mg base 2 "is_even" (sp_is_even K) [] := cal_of O31 (PySem.W.mg_of X G a31) k31 B31
  have F32 := fun_mk (st := ssides_of_cut) l32 c32 k32
  have O32 := ok_sides_of_cut (P := l.prog) (w := w) (base := base) F32 T
  have B32 := F32.binds (ps := ["web", "pick"]) fun _ _ _ _ _ _ us hl => match us, hl with | [_, _], _ => rfl
  have Ca32 : C8.Cal l.prog w K mg base 1 "sides_of_cut" (sp_sides_of_cut K) [] := cal_of O32 (PySem.W.mg_of X G a32) k32 B32
  have F33 := fun_mk (st := sis_cut) l33 c33 k33
  have O33 := ok_is_cut (P := l.prog) (w := w) (base := base) F33 T Ca32
  have B33 := F33.binds (ps := ["web", "pick"]) fun _ _ _ _ _ _ us hl => match us, hl with | [_, _], _ => rfl
  have Ca33 : C8.Cal l.prog w K mg base 2 "is_cut" (sp_is_cut K) [] := cal_of O33 (PySem.W.mg_of X G a33) k33 B33
  have F34 := fun_mk (st := s_law_by_web) l34 c34 k34
  have O34 := ok_law_by_web (P := l.prog) (w := w) (base := base) F34 T Ca16 Ca20 Ca25 Ca5 Ca26 Ca28 Ca29 Ca15 Ca31 Ca33 Ca9 Ca1
  have B34 := F34.binds (ps := ["_law_lake_here", "_law_net_here"]) fun _ _ _ _ _ _ us hl => match us, hl with | [_, _], _ => rfl
  have Ca34 : CalG l.prog w K mg base 5 "_law_by_web" (sp_law_by_web K) := ⟨_, _, _, O34, PySem.W.mg_of X G a34, k34, B34⟩
  have F35 := fun_mk (st := s_law_shape) l35 c35 k35
  have O35 := ok_law_shape (P := l.prog) (w := w) (base := base) F35 T Ca1
  have B35 := F35.binds (ps := ["_law_lake_here", "_law_size"]) fun _ _ _ _ _ _ us hl => match us, hl with | [_, _], _ => rfl
  have Ca35 : C8.Cal l.prog w K mg base 2 "_law_shape" (sp_law_shape K) [] := cal_of O35 (PySem.W.mg_of X G a35) k35 B35
  have F36 := fun_mk (st := s_law_named) l36 c36 k36
  have O36 := ok_law_named (P := l.prog) (w := w) (base := base) F36 T Ca4
  have B36 := F36.binds (ps := ["_law_lake_here", "_law_many", "_law_ties"]) fun _ _ _ _ _ _ us hl => match us, hl with | [_, _, _], _ => rfl
  have Ca36 : C8.Cal l.prog w K mg base 3 "_law_named" (sp_law_named K) [] := cal_of O36 (PySem.W.mg_of X G a36) k36 B36
  have F37 := fun_mk (st := s_law_net) l37 c37 k37
  have O37 := ok_law_net (P := l.prog) (w := w) (base := base) F37 T Ca2 Ca35 Ca36 Ca1
  have B37 := F37.binds (ps := ["_law_lake_here", "_law_most", "_law_limit"]) fun _ _ _ _ _ _ us hl => match us, hl with | [_, _, _], _ => rfl
  have Ca37 : C8.Cal l.prog w K mg base 4 "_law_net" (sp_law_net K) [] := cal_of O37 (PySem.W.mg_of X G a37) k37 B37
  have F38 := fun_mk (st := slaw) l38 c38 k38
  exact ok_law F38 T Ca0 Ca3 Ca6 Ca7 Ca9 Ca11 Ca13 Ca15 Ca34 Ca1 Ca26 Ca37
end Fb
open PySem PySem.W PyProof.Rows
set_option maxHeartbeats 0 in
theorem PySem.Challenge.cw_flatbonds_k12_whole_summands_holds : PySem.Challenge.rw_flatbonds_k12_whole_summands.Holds := by
  w_on; o_law; k_head; (case hw => w_witness2)
  k_fill
  refine Fb.walk_ofBG (l := PySem.Challenge.rw_flatbonds_k12_whole_summands) (n := 63) (k := 6) (x := "_law_script") (CX := fun _ => L2.CX0) (sp := fun w => Fb.sp_law _) rfl (by decide) rfl ⟨rfl, by decide, by decide⟩ (fun w h Y => PySem.W.kIn_of Y) ?F (fun w H a ns hl hb _ hS => ⟨a, ns, rfl, hS, hl, hb, fun _ => rfl⟩) (fun _ _ _ _ _ h => h)
  case F =>
    intro w mg fa h KX G hmg
    refine' Fb.all_mk KX G hmg ?a0 ?l0 ?c0 ?k0 ?a1 ?l1 ?c1 ?k1 ?a2 ?l2 ?c2 ?k2 ?a3 ?l3 ?c3 ?k3 ?a4 ?l4 ?c4 ?k4 ?a5 ?l5 ?c5 ?k5 ?a6 ?l6 ?c6 ?k6 ?a7 ?l7 ?c7 ?k7 ?a8 ?l8 ?c8 ?k8 ?a9 ?l9 ?c9 ?k9 ?a10 ?l10 ?c10 ?k10 ?a11 ?l11 ?c11 ?k11 ?a12 ?l12 ?c12 ?k12 ?a13 ?l13 ?c13 ?k13 ?a14 ?l14 ?c14 ?k14 ?a15 ?l15 ?c15 ?k15 ?a16 ?l16 ?c16 ?k16 ?a17 ?l17 ?c17 ?k17 ?a18 ?l18 ?c18 ?k18 ?a19 ?l19 ?c19 ?k19 ?a20 ?l20 ?c20 ?k20 ?a21 ?l21 ?c21 ?k21 ?a22 ?l22 ?c22 ?k22 ?a23 ?l23 ?c23 ?k23 ?a24 ?l24 ?c24 ?k24 ?a25 ?l25 ?c25 ?k25 ?a26 ?l26 ?c26 ?k26 ?a27 ?l27 ?c27 ?k27 ?a28 ?l28 ?c28 ?k28 ?a29 ?l29 ?c29 ?k29 ?a30 ?l30 ?c30 ?k30 ?a31 ?l31 ?c31 ?k31 ?a32 ?l32 ?c32 ?k32 ?a33 ?l33 ?c33 ?k33 ?a34 ?l34 ?c34 ?k34 ?a35 ?l35 ?c35 ?k35 ?a36 ?l36 ?c36 ?k36 ?a37 ?l37 ?c37 ?k37 ?a38 ?l38 ?c38 ?k38 ?z_len ?z_sum ?z_range ?z_enumerate ?z_sorted ?z_tuple ?z_list ?z_set ?z_all ?z_any ?z_abs ?z_min ?z_max ?z_int ?z_bool ?z_repr ?z_isinstance ?z_maxl
    (case a0 => k_is); (case l0 => k_is); (case c0 => k_is); (case k0 => k_is); (case a1 => k_is); (case l1 => k_is); (case c1 => k_is); (case k1 => k_is)
    (case a2 => k_is); (case l2 => k_is); (case c2 => k_is); (case k2 => k_is); (case a3 => k_is); (case l3 => k_is); (case c3 => k_is); (case k3 => k_is)
    (case a4 => k_is); (case l4 => k_is); (case c4 => k_is); (case k4 => k_is); (case a5 => k_is); (case l5 => k_is); (case c5 => k_is); (case k5 => k_is)
    (case a6 => k_is); (case l6 => k_is); (case c6 => k_is); (case k6 => k_is); (case a7 => k_is); (case l7 => k_is); (case c7 => k_is); (case k7 => k_is)
    (case a8 => k_is); (case l8 => k_is); (case c8 => k_is); (case k8 => k_is); (case a9 => k_is); (case l9 => k_is); (case c9 => k_is); (case k9 => k_is)
    (case a10 => k_is); (case l10 => k_is); (case c10 => k_is); (case k10 => k_is); (case a11 => k_is); (case l11 => k_is); (case c11 => k_is); (case k11 => k_is)
    (case a12 => k_is); (case l12 => k_is); (case c12 => k_is); (case k12 => k_is); (case a13 => k_is); (case l13 => k_is); (case c13 => k_is); (case k13 => k_is)
    (case a14 => k_is); (case l14 => k_is); (case c14 => k_is); (case k14 => k_is); (case a15 => k_is); (case l15 => k_is); (case c15 => k_is); (case k15 => k_is)
    (case a16 => k_is); (case l16 => k_is); (case c16 => k_is); (case k16 => k_is); (case a17 => k_is); (case l17 => k_is); (case c17 => k_is); (case k17 => k_is)
    (case a18 => k_is); (case l18 => k_is); (case c18 => k_is); (case k18 => k_is); (case a19 => k_is); (case l19 => k_is); (case c19 => k_is); (case k19 => k_is)
    (case a20 => k_is); (case l20 => k_is); (case c20 => k_is); (case k20 => k_is); (case a21 => k_is); (case l21 => k_is); (case c21 => k_is); (case k21 => k_is)
    (case a22 => k_is); (case l22 => k_is); (case c22 => k_is); (case k22 => k_is); (case a23 => k_is); (case l23 => k_is); (case c23 => k_is); (case k23 => k_is)
    (case a24 => k_is); (case l24 => k_is); (case c24 => k_is); (case k24 => k_is); (case a25 => k_is); (case l25 => k_is); (case c25 => k_is); (case k25 => k_is)
    (case a26 => k_is); (case l26 => k_is); (case c26 => k_is); (case k26 => k_is); (case a27 => k_is); (case l27 => k_is); (case c27 => k_is); (case k27 => k_is)
    (case a28 => k_is); (case l28 => k_is); (case c28 => k_is); (case k28 => k_is); (case a29 => k_is); (case l29 => k_is); (case c29 => k_is); (case k29 => k_is)
    (case a30 => k_is); (case l30 => k_is); (case c30 => k_is); (case k30 => k_is); (case a31 => k_is); (case l31 => k_is); (case c31 => k_is); (case k31 => k_is)
    (case a32 => k_is); (case l32 => k_is); (case c32 => k_is); (case k32 => k_is); (case a33 => k_is); (case l33 => k_is); (case c33 => k_is); (case k33 => k_is)
    (case a34 => k_is); (case l34 => k_is); (case c34 => k_is); (case k34 => k_is); (case a35 => k_is); (case l35 => k_is); (case c35 => k_is); (case k35 => k_is)
    (case a36 => k_is); (case l36 => k_is); (case c36 => k_is); (case k36 => k_is); (case a37 => k_is); (case l37 => k_is); (case c37 => k_is); (case k37 => k_is)
    (case a38 => k_is); (case l38 => k_is); (case c38 => k_is); (case k38 => k_is); (case z_len => k_is); (case z_sum => k_is); (case z_range => k_is); (case z_enumerate => k_is)
    (case z_sorted => k_is); (case z_tuple => k_is); (case z_list => k_is); (case z_set => k_is); (case z_all => k_is); (case z_any => k_is); (case z_abs => k_is); (case z_min => k_is)
    (case z_max => k_is); (case z_int => k_is); (case z_bool => k_is); (case z_repr => k_is); (case z_isinstance => k_is); (case z_maxl => k_is)
