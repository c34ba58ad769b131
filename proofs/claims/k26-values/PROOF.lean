import PyProof.Rows.All
import Wide.All
import OpenK.AllK
import Wide.FinOn
import HandS.ForMost
import HandS.ForExc
import HandS.Zip
import HandS.IsInst
import HandS.ExcIs
import HandS.ClsMeth
import HandS.More
import HandS.TupLe
import KE.GoesZip
import KE.GoesMore
import KE.GoesEnum
import PyProof.StrOps2
import HandS.Codes
import HandS.Walk
import HandS.OwnEq
import HandS.Text
import KE.KxText
import PyProof.Rows.ReprOcc
import HandS.TryOnly
import PySem.Challenge.RW_stopglass_k26_values_set_by_hand
set_option Elab.async false
set_option linter.all false
set_option maxRecDepth 100000
set_option maxHeartbeats 2000000

/-! Rules that the layer lacks: a plain def called off a class, a method that raises within a try, text * int, a list against an empty one, enumerate of a tuple, zip of a tuple and a list. -/
namespace SG
open PySem PySem.Spec PyProof.Rows L2

/-! ### C.m(e, ..), m a plain def of the class -/
section
variable {X : Cx} {CX : CXT} {k : Nat} {f C : Addr} {mc : Value} {fd : FuncData} {ps : List Str} {sp : Sp} {E : XK} {x m : Str} {p pos apos : Pos} {e o : Expr} {es : List Expr} {ta : TE} {t : TA}
theorem pe_cfn {pl : Sem Bool} (hg : Gl X x) (hm : X.mg x = some (.ref C)) (r : ClX.CRead X.K C mc) (c : ClX.CVal X.K C mc m (.ref f) (.ref f)) (hk : PySem.W.keepIn X.K (.ref f) = true)
    (F : FnOk X.prog X.w X.K X.mg X.base CX k f fd ps sp) (hr : Room k X.A) (hb : Binds X.K fd ps []) (hx : Passes CX X E) (ha : PA X (e :: es) t)
    (hdb : (x == ("__debug__" : Str)) = false := by decide)
    (hst : starEach (e :: es) X.env = (false, eval e X.env) :: starEach es X.env := by rfl) (hpl : (backTo pos (starEach es X.env)).any (·.1) = false := by rfl)
    (ht : eval (.Call (.Attribute (.Name x p) m apos) (e :: es) [] pos) X.env = (do
      let ov ← eval (.Name x p) X.env
      standAt apos.atName
      let (f, first) ← holding [ov] (getMethod ov m pl)
      callWith pos f first (backTo pos (starEach (e :: es) X.env)) (backToKw pos (keywordEach [] X.env))) := by rfl) :
    PE X (.Call (.Attribute (.Name x p) m apos) (e :: es) [] pos) (tCall sp [] E t) := by
  refine ⟨fun pins s σ H Q I h => ?_⟩
  refine PySem.W.methodCall_KW (pl := pl) (ld_glob I hg hm ?_ hdb) ht
  refine PySem.W.method_cls I.kIn r.ga (ClX.getcval_ok I r c fun s1 I1 => ?_)
  refine PySem.W.callWith_K (first := []) (h₀ := X.base) I.ok.mod.kin hk (thn (ha.run pos pins s1 σ H _ I1 h) fun us s2 ⟨vs, H2, I2, r2, q2⟩ => ⟨I2.kIn, ?_⟩) hst hpl
  exact run_fn (us := us) (vs := vs) F hr hb .nil hx I2 r2 q2
/-- o.m(e, ..) where what is raised is wished for at the slots -/
def tMethS (C : Addr) (m : Str) (sp : Sp) (E : L2.St → XK) (ta : TE) (t : TA) : TE := fun σ H Q => ta σ H fun x H1 => ∃ a dx fs, x = .ref a ∧ H1 a = some (.ins C dx fs) ∧ fs.lookup m = none ∧
  t σ H1 fun vs H2 => sp (x :: vs) H2 Q (E σ)
theorem pe_methE {pl : Sem Bool} {E : L2.St → XK} (he : PE X o ta) (c : Cls X.K C) (hm : Meth X.K C m f) (F : FnOk X.prog X.w X.K X.mg X.base CX k f fd ps sp) (hr : Room k X.A) (hb : Binds X.K fd ps []) (hx : ∀ σ, PassesAt CX X σ (E σ)) (ha : PA X (e :: es) t)
    (hst : starEach (e :: es) X.env = (false, eval e X.env) :: starEach es X.env := by rfl) (hpl : (backTo pos (starEach es X.env)).any (·.1) = false := by rfl)
    (ht : eval (.Call (.Attribute o m apos) (e :: es) [] pos) X.env = (do
      let ov ← eval o X.env
      standAt apos.atName
      let (f, first) ← holding [ov] (getMethod ov m pl)
      callWith pos f first (backTo pos (starEach (e :: es) X.env)) (backToKw pos (keywordEach [] X.env))) := by rfl) :
    PE X (.Call (.Attribute o m apos) (e :: es) [] pos) (tMethS C m sp E ta t) := by
  refine ⟨fun pins s σ H Q I h => ?_⟩
  refine PySem.W.methodCall_KW (pl := pl) (thn (he.run pins s σ H _ I h) fun u s1 ⟨x, H1, I1, rx, a, dx, fs, ex, ea, l, q⟩ => ?_) ht
  subst ex
  obtain rfl : u = Value.ref a := rx
  refine getmeth_ok I1 ea c hm l ?_
  refine PySem.W.callWith_K (first := [.ref a]) (h₀ := X.base) I.ok.mod.kin hm.kp (thn (ha.run pos pins s1 σ H1 _ I1 q) fun us s2 ⟨vs, H2, I2, r, q2⟩ => ⟨I2.kIn, ?_⟩) hst hpl
  exact run_fnS (us := .ref a :: us) (vs := .ref a :: vs) F hr hb (hx σ) I2 (.cons rfl r) q2
end

/-! ### text * int -/
/-- a sign k times -/
def repS (z : Str) (k : Int) : Str := ⟨(List.replicate k.toNat z.cps).foldl (· ++ ·) #[]⟩
theorem foldl_size : ∀ (n : Nat) (z a : Array Nat), ((List.replicate n z).foldl (· ++ ·) a).size = a.size + n * z.size
  | 0, z, a => by simp
  | n + 1, z, a => by
    rw [List.replicate_succ, List.foldl_cons, foldl_size n z (a ++ z), Array.size_append, Nat.succ_mul]
    omega
theorem repS_len (z : Str) (k : Int) : (repS z k).length = k.toNat * z.length := by
  show ((List.replicate k.toNat z.cps).foldl (· ++ ·) #[]).size = k.toNat * z.cps.size
  rw [foldl_size]
  simp
theorem foldl_emp : ∀ (n : Nat) (a : Array Nat), (List.replicate n (#[] : Array Nat)).foldl (· ++ ·) a = a
  | 0, a => rfl
  | n + 1, a => by
    rw [List.replicate_succ, List.foldl_cons, Array.append_empty]
    exact foldl_emp n a
theorem op_mulS {X : Cx} : OpR X (binaryOp .Mult) (fun x y H Q => ∃ z k, x = .str z ∧ y = .int k ∧ 1 ≤ k ∧ k ≤ 1000 ∧ z.length ≤ 1000 ∧ Q (.str (repS z k)) H) := by
  intro pins s σ H x y v u Q I rx ry h
  obtain ⟨z, k, rfl, rfl, h1, h2, hz, q⟩ := h
  obtain ⟨t, rfl⟩ := rx
  obtain ⟨t', rfl⟩ := ry
  have hmul : z.length * k.toNat ≤ 1000 * 1000 := Nat.mul_le_mul hz (by omega)
  refine PySem.P.mul_str ?_ (fun _ _ => ?_) (fun _ _ => ?_) ?_
  · rw [decide_eq_false (by omega), decide_eq_false (by omega)]
    rfl
  · have hk : (0 : Int) < k := by omega
    have h3 : (1000 : Int) ≤ (2 ^ 63 - 1) / k := by
      rw [Int.le_ediv_iff_mul_le hk]
      omega
    omega
  · show decide _ = false
    refine decide_eq_false ?_
    rw [sizeLine_eq]
    omega
  · rw [if_neg (by omega)]
    by_cases c : (k == 1 || z.length == 0) = true
    · rw [if_pos c]
      refine ⟨.str (repS z k), H, I, ⟨t, ?_⟩, q⟩
      have e : repS z k = z := by
        rcases (Bool.or_eq_true _ _).mp c with c | c
        · have e1 : k = 1 := by simpa using c
          subst e1
          show (⟨(List.replicate 1 z.cps).foldl (· ++ ·) #[]⟩ : Str) = z
          simp
        · have e0 : z.cps.size = 0 := beq_iff_eq.mp c
          have e1 : z.cps = #[] := Array.eq_empty_of_size_eq_zero e0
          obtain ⟨cp⟩ := z
          simp only at e1
          subst e1
          show (⟨(List.replicate k.toNat (#[] : Array Nat)).foldl (· ++ ·) #[]⟩ : Str) = _
          rw [foldl_emp]
      rw [e]
    · rw [if_neg c]
      refine ⟨?_, .str _, H, I.tok _, ⟨_, rfl⟩, q⟩
      show (⟨_⟩ : Str).length ≤ sizeLine
      have e := repS_len z k
      unfold repS at e
      rw [e, Nat.mul_comm, sizeLine_eq]
      omega

/-! ### a list against an empty list -/
theorem op_eqNil {X : Cx} (hu : X.A.units < cLine) : OpR X (compareOp .Eq) (fun x y H Q => ∃ a b xs, x = .ref a ∧ y = .ref b ∧ SqL X.K H a xs ∧ SqL X.K H b [] ∧ Q (.bl xs.isEmpty) H) := by
  intro pins s σ H x y v u Q I rx ry h
  obtain ⟨a, b, xs, rfl, rfl, ha, hb, q⟩ := h
  cases rx
  cases ry
  obtain ⟨its, rv, p, _⟩ := I.list ha
  obtain ⟨its2, rv2, p2, _⟩ := I.list hb
  cases rv2
  cases rv with
  | nil =>
    refine SeqAt.eq_listAt (e := fun _ => true) p.isList p2.isList rfl hu (fun j h1 => absurd h1 (Nat.not_lt_zero j)) ?_
    exact ⟨.bl true, H, I, rfl, q⟩
  | cons r rr =>
    refine SeqAt.eq_list_lengthsAt p.isList p2.isList (by simp) hu ?_
    exact ⟨.bl false, H, I, rfl, q⟩

/-! ### enumerate(tuple) -/
/-- the tuple at a as it stands at each turn, each item in a new pair -/
def IteT (K : PySem.W.Frag) (a : Addr) : It :=
  ⟨fun i H => ∃ (xs : List V) (x : V), SqT K H a xs ∧ xs[i]? = some x, fun i H v H' => ∃ T x, v = .ref T ∧ H T = none ∧ H' = upd H T (.tup [.int (i : Nat), x]) ∧ ∀ xs, SqT K H a xs → xs[i]? = some x, fun i H => ∃ xs : List V, SqT K H a xs ∧ i = xs.length⟩
theorem turn_enumT {P : Program} {w : World} {K : PySem.W.Frag} {elts : List Expr} {kk : Nat} {tpos : Pos} (a e it : Addr) (hne : e ≠ it) (hea : e ≠ a) (hia : a ≠ it) :
    Turn P w K (.Tuple elts kk tpos) (IteT K a) [e, it] e (fun i h => (∃ old, IsEnum h e it ((i : Nat) : Int) old) ∧ h.IsTupleIter it a i) where
  mem := by simp
  obj := fun i h st b hb => by
    obtain ⟨⟨old, he⟩, ⟨o, ho, hc, hd⟩⟩ := st
    have e' : b = e ∨ b = it := by simpa using hb
    rcases e' with z | z
    · rw [z]; exact ⟨_, he, fun v q => nomatch q⟩
    · rw [z]; exact ⟨o, ho, fun v q => by rw [hd] at q; cases q⟩
  keep := fun i h h' st k => let ⟨⟨old, he⟩, hi⟩ := st; ⟨⟨old, k e (by simp) _ he⟩, hi.at fun o q => k it (by simp) o q⟩
  item := by
    intro X hP hw hK hc i pins s σ H E I hf st hg
    subst hP hw hK
    obtain ⟨⟨old, he⟩, hit⟩ := st
    obtain ⟨xs, x, hq, hx⟩ := hg
    obtain ⟨its, rv, p, hz⟩ := I.tuple hq
    obtain ⟨u, hu, ru⟩ := rv.get hx
    have hel : e < s.heap.objs.size := Heap.lt_size he
    have hil : it < s.heap.objs.size := by obtain ⟨_, q, _⟩ := hit; exact Heap.lt_size q
    have D := Draws.tuple (prog := X.prog) (w := X.w) (A := X.A.in1) (I.ok.hd hc) it a hia its.toArray
    have hlt : i < its.toArray.size := by
      have q := (List.getElem?_eq_some_iff.mp hu).1
      simpa using q
    refine wpAny_pyNext_enum_itemD D he ⟨hit, show s.heap.IsTuple a its.toArray from p⟩ hlt hne (by simp [hne, hea]) fun x' h' tk hx' ho hst hT hsz hk => ?_
    have ex : x' = u := by
      have q : its[i]? = some x' := by simpa using hx'
      rw [hu] at q
      exact (Option.some.inj q).symm
    subst ex
    obtain ⟨hit', _⟩ := hst
    refine ⟨_, rfl, wpAny_letOwnedTupleGo_enum (s := { s with heap := h', toks := tk + 1 }) ho fun h'' he' sb => ?_⟩
    have hT2 : h''.get? s.heap.objs.size = some { cls := .type "tuple", data := .seq #[.int i tk, x'] } := (sb.2 _ (Nat.ne_of_gt hel)).trans hT
    have new : ObjOk X.prog X.w (upd H s.heap.objs.size (.tup [.int (i : Nat), x])) h'' s.heap.objs.size (.tup [.int (i : Nat), x]) :=
      ⟨by show 2 ≤ sizeLine; decide, [.int i tk, x'], .cons ⟨_, rfl⟩ (.cons ru .nil), ⟨_, hT2, rfl, _, rfl⟩⟩
    have I1 : Inv X pins σ (upd H s.heap.objs.size (.tup [.int (i : Nat), x])) { s with heap := h'', toks := tk + 1 } :=
      I.turnedNew (ch := [e, it]) (fun b ob hb q => (sb.2 b (fun z => hb (by simp [z]))).trans (hk b ob (fun z => hb (by simp [z])) (fun z => hb (by simp [z])) q)) hf (Nat.le_refl _) new
    refine ⟨.ref s.heap.objs.size, _, I1, rfl, ⟨_, x, rfl, I.hok.fresh (Nat.le_refl _), rfl, fun ys hy => by rw [I.tuple_inj hy hq]; exact hx⟩, ⟨⟨x', ?_⟩, hit'.at fun o q => (sb.2 it (Ne.symm hne)).trans q⟩, fun b hb => ?_⟩
    · have e1 : ((i + 1 : Nat) : Int) = (i : Int) + 1 := by omega
      rw [e1]; exact he'
    · have hb' : b < s.heap.objs.size := by
        have e' : b = e ∨ b = it := by simpa using hb
        rcases e' with z | z
        · rw [z]; exact hel
        · rw [z]; exact hil
      rw [upd_ne (Nat.ne_of_lt hb')]
      exact (hf b hb).1
  done := by
    intro X hP hw hK hc i pins s σ H E I hf st hg
    subst hP hw hK
    obtain ⟨⟨old, he⟩, hit⟩ := st
    obtain ⟨xs, hq, hx⟩ := hg
    obtain ⟨its, rv, p, hz⟩ := I.tuple hq
    obtain ⟨f0, f1, f2, f3, f4, f5⟩ := hf it (by simp)
    have hl := rv.length
    have D := Draws.tuple (prog := X.prog) (w := X.w) (A := X.A.in1) (I.ok.hd hc) it a hia its.toArray
    have e2 : i = its.toArray.size := by simp; omega
    subst e2
    exact wpAny_pyNext_enum_endD D he ⟨hit, show s.heap.IsTuple a its.toArray from p⟩ fun h' eb => ⟨rfl, I.turned (t' := s.toks) (fun b o hb q => eb b o hb q) f0 f1 f3 f4 f5⟩
  self := fun A i s Q E st h => let ⟨⟨_, he⟩, _⟩ := st; wpAny_pyIter_enum he h
set_option maxHeartbeats 4000000 in
theorem meets_enumerate_newT {v : Value} {o : Obj} {H : Heap → Prop} (B : Begins v o H) :
    Meets (Builtin.«enumerate.__new__» ⟨[.type "enumerate", v], []⟩) (fun _ R s => H s.heap ∧
      R (.ok (.ret (.ref (s.heap.push o).objs.size))) { s with heap := (s.heap.push o).push { cls := .type "enumerate", data := .fields #[.none, .bool false, .ref s.heap.objs.size, rawInt 0, .none, .none] } }) :=
  .of_wp fun prog w A R s h => by
    obtain ⟨hp, g, d, tk, os⟩ := s; obtain ⟨h1, h⟩ := h
    have hsub := sub_enumerate
    have q1 : ∀ {A' : Around} {E : Value → Shared → Prop} {Q : Value → Shared → Prop}, Q (.ref hp.objs.size) ⟨hp.push o, g, d, tk, os⟩ → wpAny (model prog w) A' (pyIter v) Q E ⟨hp, g, d, tk, os⟩ :=
      fun q => B.iter prog w _ _ ⟨hp, g, d, tk, os⟩ _ h1 q
    wp_walk using q1
    refine wpAny_stack_any fun st => wpAny_pure ?_
    split
    · rename_i c _ _ _ _ _
      cases (c == Value.type "enumerate")
      · wp_walk using q1
        exact ⟨_, rfl, h⟩
      · wp_walk using q1
        exact ⟨_, rfl, h⟩
    · wp_walk using q1
      exact ⟨_, rfl, h⟩
theorem call_enumerate_tup {prog : Program} {w : World} {A : Around} {E : Value → Shared → Prop} {s : Shared} {l : Addr} {items : Array Value} {Q : Value → Shared → Prop} (hL : s.heap.IsTuple l items)
    (h : ∀ h', IsEnum h' (s.heap.objs.size + 1) s.heap.objs.size 0 .none → h'.IsTupleIter s.heap.objs.size l 0 → h'.objs.size = s.heap.objs.size + 2 →
      (∀ b o, s.heap.get? b = some o → h'.get? b = some o) → Q (.ref (s.heap.objs.size + 1)) { s with heap := h' }) :
    wpAny (model prog w) A (call (.type "enumerate") [.ref l]) Q E s := by
  refine callType_new F.called_enumerate (by decide) (F.typeCall_enumerate_1 _) (F.newCall_enumerate_1 _) (fun obj => F.args_object_init_2 obj _) F.entry_enumerate_new
    (meets_enumerate_newT (begins_tuple l items)) ⟨hL, ?_⟩
  have hz : (s.heap.push { cls := .type "tuple_iterator", data := .fields #[.ref l, .int 0 0] }).objs.size = s.heap.objs.size + 1 := Heap.size_push ..
  show _ ∧ _
  rw [hz]
  have he : IsEnum ((s.heap.push { cls := .type "tuple_iterator", data := .fields #[.ref l, .int 0 0] }).push
      { cls := .type "enumerate", data := .fields #[.none, .bool false, .ref s.heap.objs.size, rawInt 0, .none, .none] }) (s.heap.objs.size + 1) s.heap.objs.size 0 .none := by
    have := Heap.get?_push_size (s.heap.push { cls := .type "tuple_iterator", data := .fields #[.ref l, .int 0 0] })
      (o := { cls := .type "enumerate", data := .fields #[.none, .bool false, .ref s.heap.objs.size, rawInt 0, .none, .none] }) rfl
    rw [hz] at this; exact this
  refine ⟨⟨_, he, rfl⟩, h _ he ⟨_, Heap.get?_push_of_some _ (Heap.get?_push_size _ rfl), rfl, rfl⟩ (by rw [Heap.size_push, hz]) fun b o x => Heap.get?_push_of_some _ (Heap.get?_push_of_some _ x)⟩
def iEnumT (K : PySem.W.Frag) (ta : TA) : TI := fun σ H R => ta σ H fun vs H1 => ∃ a xs, vs = [.ref a] ∧ SqT K H1 a xs ∧ R (IteT K a) H1
theorem pi_enumT {X : Cx} {e : Expr} {ta : TA} {p pos tpos : Pos} {elts : List Expr} {kk : Nat} (hg : Gl X "enumerate") (hm : X.mg "enumerate" = none) (ha : PA X [e] ta) (hs : starEach [e] X.env = [(false, eval e X.env)] := by rfl) :
    PI X (.Tuple elts kk tpos) (.Call (.Name "enumerate" p) [e] [] pos) (iEnumT X.K ta) := by
  refine ⟨fun pins s σ H R I h => ?_⟩
  refine Call_ (ld_blt I hg hm boot_enumerate (PyProof.Rows.callWith_type1 (thn (ha.run pos pins s σ H _ I h) fun us s1 ⟨vs, H1, I1, r1, q1⟩ => ?_) hs rfl))
  obtain ⟨a, xs, ex, hq, q⟩ := q1
  subst ex
  cases r1 with
  | cons r rr =>
    cases rr
    cases r
    obtain ⟨its, rv, p', hz⟩ := I1.tuple hq
    obtain ⟨oo, hoo, _⟩ := id p'
    have hal : a < s1.heap.objs.size := Heap.lt_size hoo
    refine call_enumerate_tup (show s1.heap.IsTuple a its.toArray from p') fun h' he hit hsz hk => wpAny_pyIter_enum he ?_
    have I2 : Inv X pins σ H1 { s1 with heap := h' } := I1.kept (t' := s1.toks) hk
    refine ⟨s1.heap.objs.size + 1, [s1.heap.objs.size + 1, s1.heap.objs.size], _, _, H1, rfl, I2, turn_enumT a (s1.heap.objs.size + 1) s1.heap.objs.size (Nat.succ_ne_self _) (Nat.ne_of_gt (Nat.lt_succ_of_lt hal)) (Nat.ne_of_lt hal), ⟨⟨.none, he⟩, hit⟩, fun b hb => ?_, q⟩
    have e' : b = s1.heap.objs.size + 1 ∨ b = s1.heap.objs.size := by simpa using hb
    have hle : s1.heap.objs.size ≤ b := by
      rcases e' with z | z
      · rw [z]; exact Nat.le_add_right _ _
      · rw [z]; exact Nat.le_refl _
    exact I1.fpOk hle (I1.hok.fresh hle)
/-- a loop over enumerate of a tuple -/
theorem for_enumT {K : PySem.W.Frag} {a : Addr} {xs : List V} {g : TG} {tb : TS} {D : Ends} {σ : L2.St} {H : Hp} (Pv : Nat → L2.St → Hp → Prop) (h0 : Pv 0 σ H) (hq : ∀ i σ H, Pv i σ H → SqT K H a xs)
    (hs : ∀ (i : Nat) (x : V) (T : Addr) (σ : L2.St) (H : Hp), xs[i]? = some x → Pv i σ H → H T = none → g (.ref T) σ (upd H T (.tup [.int (i : Nat), x])) fun σ2 H2 => tb { D with nx := Pv (i + 1), ct := Pv (i + 1), bk := D.nx } σ2 H2) (hd : ∀ σ H, Pv xs.length σ H → D.nx σ H) :
    ∃ W : Nat → Nat → L2.St → Hp → Prop, (∃ m, W 0 m σ H) ∧ ∀ i m σ H, W i m σ H →
      ((IteT K a).stop i H ∧ D.nx σ H) ∨ ((IteT K a).go i H ∧ ∃ N : L2.St → Hp → Prop, (∀ σ' H', N σ' H' → ∃ m', m' < m ∧ W (i + 1) m' σ' H') ∧ ∀ v H', (IteT K a).yld i H v H' → g v σ H' fun σ2 H2 => tb { D with nx := N, ct := N, bk := D.nx } σ2 H2) := by
  refine ⟨fun i m σ H => m = xs.length - i ∧ i ≤ xs.length ∧ Pv i σ H, ⟨xs.length, rfl, Nat.zero_le _, h0⟩, ?_⟩
  rintro i m σ H ⟨rfl, hi, p⟩
  have qx := hq i σ H p
  by_cases hlt : i < xs.length
  · have hx : xs[i]? = some xs[i] := List.getElem?_eq_getElem hlt
    refine .inr ⟨⟨xs, _, qx, hx⟩, Pv (i + 1), fun σ' H' p' => ⟨xs.length - (i + 1), by omega, rfl, hlt, p'⟩, fun v H' y => ?_⟩
    obtain ⟨T, x', rfl, hT, rfl, f1⟩ := y
    exact hs i x' T σ H (f1 xs qx) p hT
  · have e : i = xs.length := by omega
    subst e
    exact .inl ⟨⟨xs, qx, rfl⟩, hd σ H p⟩

/-! ### zip(tuple, list) -/
def ItzM (K : PySem.W.Frag) (a b : Addr) : It :=
  ⟨fun i H => ∃ (xs ys : List V) (x y : V), SqT K H a xs ∧ SqL K H b ys ∧ xs[i]? = some x ∧ ys[i]? = some y,
    fun i H v H' => ∃ T x y, v = .ref T ∧ H T = none ∧ H' = upd H T (.tup [x, y]) ∧ (∀ xs, SqT K H a xs → xs[i]? = some x) ∧ ∀ ys, SqL K H b ys → ys[i]? = some y,
    fun i H => ∃ xs ys : List V, SqT K H a xs ∧ SqL K H b ys ∧ i = xs.length ∧ i ≤ ys.length⟩
theorem turn_zipM {P : Program} {w : World} {K : PySem.W.Frag} {elts : List Expr} {kk : Nat} {tpos : Pos} {a b z TI TO i1 i2 : Addr} (S : ZipSep2 z TI TO i1 i2 [i1, a] [i2, b]) (ha1 : a ≠ i1) (hb2 : b ≠ i2) :
    Turn P w K (.Tuple elts kk tpos) (ItzM K a b) [z, TI, TO, i1, i2] z (fun i h => IsZip h z TI TO .none ∧ IsTupOf2 h TI (.ref i1) (.ref i2) ∧ (∃ x y, IsTupOf2 h TO x y) ∧ h.IsTupleIter i1 a i ∧ h.IsListIter i2 b i) where
  mem := by simp
  obj := fun i h st c hc => by
    obtain ⟨hz, hTI, ⟨x, y, hTO⟩, ⟨o1, e1, _, d1⟩, ⟨o2, e2, _, d2⟩⟩ := st
    have e' : c = z ∨ c = TI ∨ c = TO ∨ c = i1 ∨ c = i2 := by simpa using hc
    rcases e' with q | q | q | q | q
    · rw [q]; exact ⟨_, hz, fun v q => nomatch q⟩
    · rw [q]; exact ⟨_, hTI, fun v q => nomatch q⟩
    · rw [q]; exact ⟨_, hTO, fun v q => nomatch q⟩
    · rw [q]; exact ⟨o1, e1, fun v q => by rw [d1] at q; cases q⟩
    · rw [q]; exact ⟨o2, e2, fun v q => by rw [d2] at q; cases q⟩
  keep := fun i h h' st k => by
    obtain ⟨hz, hTI, ⟨x, y, hTO⟩, h1, h2⟩ := st
    exact ⟨k z (by simp) _ hz, k TI (by simp) _ hTI, ⟨x, y, k TO (by simp) _ hTO⟩, h1.at fun o q => k i1 (by simp) o q, h2.at fun o q => k i2 (by simp) o q⟩
  item := by
    intro X hP hw hK hc i pins s σ H E I hf st hg
    subst hP hw hK
    obtain ⟨hz, hTI, ⟨x0, y0, hTO⟩, h1, h2⟩ := st
    obtain ⟨xs, ys, x, y, hqx, hqy, hx, hy⟩ := hg
    obtain ⟨its, rv, p, _⟩ := I.tuple hqx
    obtain ⟨its2, rv2, p2, _⟩ := I.list hqy
    obtain ⟨u, hu, ru⟩ := rv.get hx
    obtain ⟨u2, hu2, ru2⟩ := rv2.get hy
    have hzl : z < s.heap.objs.size := Heap.lt_size hz
    have D1 := Draws.tuple (prog := X.prog) (w := X.w) (A := X.A.in1) (I.ok.hd hc) i1 a ha1 its.toArray
    have D2 := Draws.list (prog := X.prog) (w := X.w) (A := X.A.in1) (I.ok.hd hc) i2 b hb2 its2.toArray
    have l1 : i < its.toArray.size := by
      have q := (List.getElem?_eq_some_iff.mp hu).1
      simpa using q
    have l2 : i < its2.toArray.size := by
      have q := (List.getElem?_eq_some_iff.mp hu2).1
      simpa using q
    refine wpAny_pyNext_zipD2_item S D1 D2 hz hTI hTO ⟨h1, show s.heap.IsTuple a its.toArray from p⟩ ⟨h2, p2.isList⟩ l1 l2 fun v1 v2 h' tk hv1 hv2 z' TO' s1' s2' hT hsz hk => ?_
    have ex : v1 = u := by
      have q : its[i]? = some v1 := by simpa using hv1
      rw [hu] at q
      exact (Option.some.inj q).symm
    have ey : v2 = u2 := by
      have q : its2[i]? = some v2 := by simpa using hv2
      rw [hu2] at q
      exact (Option.some.inj q).symm
    subst ex ey
    obtain ⟨h1', _⟩ := s1'
    obtain ⟨h2', _⟩ := s2'
    refine ⟨_, rfl, wpAny_letOwnedTupleGo_zip (s := { s with heap := h', toks := tk }) z' fun h'' z'' sb => ?_⟩
    have hT2 : h''.get? s.heap.objs.size = some { cls := .type "tuple", data := .seq #[v1, v2] } := (sb.2 _ (Nat.ne_of_gt hzl)).trans hT
    have new : ObjOk X.prog X.w (upd H s.heap.objs.size (.tup [x, y])) h'' s.heap.objs.size (.tup [x, y]) :=
      ⟨by show 2 ≤ sizeLine; decide, [v1, v2], .cons ru (.cons ru2 .nil), ⟨_, hT2, rfl, _, rfl⟩⟩
    have I1 : Inv X pins σ (upd H s.heap.objs.size (.tup [x, y])) { s with heap := h'', toks := tk } :=
      I.turnedNew (ch := [z, TI, TO, i1, i2]) (fun c o hb q => (sb.2 c (fun q' => hb (by simp [q']))).trans (hk c o (fun q' => hb (by simp [q'])) (fun q' => hb (by simp [q'])) (fun q' => hb (by simp [q'])) (fun q' => hb (by simp [q'])) q)) hf (Nat.le_refl _) new
    refine ⟨.ref s.heap.objs.size, _, I1, rfl, ⟨_, x, y, rfl, I.hok.fresh (Nat.le_refl _), rfl, fun l hl => by rw [I.tuple_inj hl hqx]; exact hx, fun l hl => by rw [I.list_inj hl hqy]; exact hy⟩, ⟨z'', ?_, ⟨v1, v2, ?_⟩, ?_, ?_⟩, fun c hcm => ?_⟩
    · exact (sb.2 _ S.TIz).trans (hk _ _ S.TIz S.TITO S.TIi1 S.TIi2 hTI)
    · exact (sb.2 _ S.TOz).trans TO'
    · exact h1'.at fun o q => (sb.2 _ (Ne.symm S.zi1)).trans q
    · exact h2'.at fun o q => (sb.2 _ (Ne.symm S.zi2)).trans q
    · have hlt : c < s.heap.objs.size := by
        have e' : c = z ∨ c = TI ∨ c = TO ∨ c = i1 ∨ c = i2 := by simpa using hcm
        rcases e' with q | q | q | q | q
        · rw [q]; exact hzl
        · rw [q]; exact Heap.lt_size hTI
        · rw [q]; exact Heap.lt_size hTO
        · rw [q]; obtain ⟨_, e1, _⟩ := h1; exact Heap.lt_size e1
        · rw [q]; obtain ⟨_, e2, _⟩ := h2; exact Heap.lt_size e2
      rw [upd_ne (Nat.ne_of_lt hlt)]
      exact (hf c hcm).1
  done := by
    intro X hP hw hK hc i pins s σ H E I hf st hg
    subst hP hw hK
    obtain ⟨hz, hTI, ⟨x0, y0, hTO⟩, h1, h2⟩ := st
    obtain ⟨xs, ys, hqx, hqy, hend, hle⟩ := hg
    obtain ⟨its, rv, p, _⟩ := I.tuple hqx
    obtain ⟨its2, rv2, p2, _⟩ := I.list hqy
    have l1 := rv.length
    have l2 := rv2.length
    have D1 := Draws.tuple (prog := X.prog) (w := X.w) (A := X.A.in1) (I.ok.hd hc) i1 a ha1 its.toArray
    have D2 := Draws.list (prog := X.prog) (w := X.w) (A := X.A.in1) (I.ok.hd hc) i2 b hb2 its2.toArray
    refine wpAny_pyNext_zipD2_end S D1 D2 hz hTI hTO ⟨h1, show s.heap.IsTuple a its.toArray from p⟩ ⟨h2, p2.isList⟩ (by simp; omega) (by simp; omega) (by simp; omega) fun h' tk hk => ⟨rfl, I.turnedL (t' := tk) (ch := [z, TI, TO, i1, i2]) (fun c o hb q =>
      hk c o (fun q' => hb (by simp [q'])) (fun q' => hb (by simp [q'])) (fun q' => hb (by simp [q'])) (fun q' => hb (by simp [q'])) q) hf⟩
  self := fun A i s Q E st h => wpAny_pyIter_zip st.1 h
def iZipM (K : PySem.W.Frag) (ta : TA) : TI := fun σ H R => ta σ H fun vs H1 => ∃ a b xs ys, vs = [.ref a, .ref b] ∧ SqT K H1 a xs ∧ SqL K H1 b ys ∧ R (ItzM K a b) H1
theorem pi_zipM {X : Cx} {e e2 : Expr} {ta : TA} {p pos tpos : Pos} {elts : List Expr} {kk : Nat} (hg : Gl X "zip") (hm : X.mg "zip" = none) (ha : PA X [e, e2] ta)
    (hs : starEach [e, e2] X.env = (false, eval e X.env) :: starEach [e2] X.env := by rfl) (hpl : (backTo pos (starEach [e2] X.env)).any (·.1) = false := by rfl) :
    PI X (.Tuple elts kk tpos) (.Call (.Name "zip" p) [e, e2] [] pos) (iZipM X.K ta) := by
  refine ⟨fun pins s σ H R I h => ?_⟩
  refine Call_ (ld_blt I hg hm PyProof.Rows.boot_zip (PyProof.Rows.callWith_type1 (thn (ha.run pos pins s σ H _ I h) fun us s1 ⟨vs, H1, I1, r1, q1⟩ => ?_) hs hpl))
  obtain ⟨a, b, xs, ys, ex, hqx, hqy, q⟩ := q1
  subst ex
  cases r1 with
  | cons r rr =>
    cases rr with
    | cons r' rr =>
      cases rr
      cases r
      cases r'
      obtain ⟨its, rv, p1, _⟩ := I1.tuple hqx
      obtain ⟨its2, rv2, p2, _⟩ := I1.list hqy
      obtain ⟨o1, ho1, _⟩ := id p1
      have la : a < s1.heap.objs.size := Heap.lt_size ho1
      have lb : b < s1.heap.objs.size := p2.lt
      refine zip_begins2 (begins_tuple a its.toArray) (begins_list b its2.toArray) (show s1.heap.IsTuple a its.toArray from p1) p2.isList fun h' hz hTI hTO h1 h2 hsz hk => wpAny_pyIter_zip hz ?_
      have I2 : Inv X pins σ H1 { s1 with heap := h' } := I1.kept (t' := s1.toks) hk
      have S : ZipSep2 (s1.heap.objs.size + 4) (s1.heap.objs.size + 2) (s1.heap.objs.size + 3) s1.heap.objs.size (s1.heap.objs.size + 1) [s1.heap.objs.size, a] [s1.heap.objs.size + 1, b] :=
        zip_sep2 (fun c hc => by rw [List.mem_singleton.mp hc]; exact la) (fun c hc => by rw [List.mem_singleton.mp hc]; exact lb)
      refine ⟨s1.heap.objs.size + 4, [s1.heap.objs.size + 4, s1.heap.objs.size + 2, s1.heap.objs.size + 3, s1.heap.objs.size, s1.heap.objs.size + 1], _, _, H1, rfl, I2, turn_zipM S (Nat.ne_of_lt la) (Nat.ne_of_lt (Nat.lt_succ_of_lt lb)), ⟨hz, hTI, ⟨_, _, hTO⟩, ⟨_, h1, rfl, rfl⟩, ⟨_, h2, rfl, rfl⟩⟩, fun c hcm => ?_, q⟩
      have e' : c = s1.heap.objs.size + 4 ∨ c = s1.heap.objs.size + 2 ∨ c = s1.heap.objs.size + 3 ∨ c = s1.heap.objs.size ∨ c = s1.heap.objs.size + 1 := by simpa using hcm
      have hle : s1.heap.objs.size ≤ c := by
        rcases e' with z | z | z | z | z
        · rw [z]; exact Nat.le_add_right _ _
        · rw [z]; exact Nat.le_add_right _ _
        · rw [z]; exact Nat.le_add_right _ _
        · rw [z]; exact Nat.le_refl _
        · rw [z]; exact Nat.le_add_right _ _
      exact I1.fpOk hle (I1.hok.fresh hle)
/-- a loop over zip of a tuple and a list of one length -/
theorem for_zipM {K : PySem.W.Frag} {a b : Addr} {xs ys : List V} {g : TG} {tb : TS} {D : Ends} {σ : L2.St} {H : Hp} (hl : xs.length = ys.length) (Pv : Nat → L2.St → Hp → Prop) (h0 : Pv 0 σ H) (hq : ∀ i σ H, Pv i σ H → SqT K H a xs ∧ SqL K H b ys)
    (hs : ∀ (i : Nat) (x y : V) (T : Addr) (σ : L2.St) (H : Hp), xs[i]? = some x → ys[i]? = some y → Pv i σ H → H T = none → g (.ref T) σ (upd H T (.tup [x, y])) fun σ2 H2 => tb { D with nx := Pv (i + 1), ct := Pv (i + 1), bk := D.nx } σ2 H2) (hd : ∀ σ H, Pv xs.length σ H → D.nx σ H) :
    ∃ W : Nat → Nat → L2.St → Hp → Prop, (∃ m, W 0 m σ H) ∧ ∀ i m σ H, W i m σ H →
      ((ItzM K a b).stop i H ∧ D.nx σ H) ∨ ((ItzM K a b).go i H ∧ ∃ N : L2.St → Hp → Prop, (∀ σ' H', N σ' H' → ∃ m', m' < m ∧ W (i + 1) m' σ' H') ∧ ∀ v H', (ItzM K a b).yld i H v H' → g v σ H' fun σ2 H2 => tb { D with nx := N, ct := N, bk := D.nx } σ2 H2) := by
  refine ⟨fun i m σ H => m = xs.length - i ∧ i ≤ xs.length ∧ Pv i σ H, ⟨xs.length, rfl, Nat.zero_le _, h0⟩, ?_⟩
  rintro i m σ H ⟨rfl, hi, p⟩
  obtain ⟨qx, qy⟩ := hq i σ H p
  by_cases hlt : i < xs.length
  · have hx : xs[i]? = some xs[i] := List.getElem?_eq_getElem hlt
    have hlt2 : i < ys.length := by omega
    have hy : ys[i]? = some ys[i] := List.getElem?_eq_getElem hlt2
    refine .inr ⟨⟨xs, ys, _, _, qx, qy, hx, hy⟩, Pv (i + 1), fun σ' H' p' => ⟨xs.length - (i + 1), by omega, rfl, hlt, p'⟩, fun v H' y => ?_⟩
    obtain ⟨T, x', y', rfl, hT, rfl, f1, f2⟩ := y
    exact hs i x' y' T σ H (f1 xs qx) (f2 ys qy) p hT
  · have e : i = xs.length := by omega
    subst e
    exact .inl ⟨⟨xs, ys, qx, qy, rfl, by omega⟩, hd σ H p⟩
end SG


/-! The plain machine: rows, functions, frames; one step; what stays true. And how all this lies in the heap. -/
namespace SG
open PySem L2

/-! ### rows, functions -/
inductive Atom where
  | n (i : Int)
  | x (s : Str)
def Atom.v : Atom → V
  | .n i => .int i
  | .x s => .str s
inductive Row where
  | copy (x : Str) (a : Atom)
  | op (x s : Str) (a b : Atom)
  | call (x g : Str) (as : List Atom)
  | back (a : Atom)
structure Fn where
  name : Str
  fold : Bool
  ps : List Str
  rows : List Row
def Row.atoms : Row → List Atom
  | .copy _ a => [a]
  | .op _ _ a b => [a, b]
  | .call _ _ as => as
  | .back a => [a]
/-- the name given -/
def Row.giv : Row → Option Str
  | .copy x _ => some x
  | .op x _ _ _ => some x
  | .call x _ _ => some x
  | .back _ => none
def Row.isBack : Row → Bool
  | .back _ => true
  | _ => false
def Row.isCall : Row → Bool
  | .call _ _ _ => true
  | _ => false
/-- x stands in the row -/
def Row.has (r : Row) (x : Str) : Prop := r.giv = some x ∨ Atom.x x ∈ r.atoms
def Fn.has (f : Fn) (x : Str) : Prop := x ∈ f.ps ∨ ∃ r ∈ f.rows, r.has x

/-! ### values by names -/
abbrev EnvF := Str → Option Int
def setE (e : EnvF) (x : Str) (v : Int) : EnvF := fun y => if y = x then some v else e y
def worth (e : EnvF) : Atom → Int
  | .n i => i
  | .x s => (e s).getD 0
def Atom.inE (e : EnvF) : Atom → Prop
  | .n _ => True
  | .x s => (e s).isSome = true
theorem setE_same (e : EnvF) (x : Str) (v : Int) : setE e x v x = some v := by
  unfold setE
  rw [if_pos rfl]
theorem setE_ne {e : EnvF} {x y : Str} {v : Int} (h : y ≠ x) : setE e x v y = e y := by
  unfold setE
  rw [if_neg h]
theorem setE_isSome {e : EnvF} {x y : Str} {v : Int} (h : (e y).isSome = true) : (setE e x v y).isSome = true := by
  unfold setE
  by_cases q : y = x
  · rw [if_pos q]
    rfl
  · rw [if_neg q]
    exact h
abbrev wide : Int := 281474976710656
def valA (s : Str) (i j : Int) : Int :=
  if s = "+" then (i + j) % wide else if s = "-" then (i - j) % wide else if s = "<" then (if i < j then 1 else 0) else Builtin.bitAnd i j
def foldE (e : EnvF) (ps : List Str) (args : List Int) : EnvF := (ps.zip args).foldl (fun e p => setE e p.1 p.2) e
theorem foldE_nil (e : EnvF) (args : List Int) : foldE e [] args = e := rfl
theorem foldE_cons (e : EnvF) (p : Str) (ps : List Str) (a : Int) (args : List Int) : foldE e (p :: ps) (a :: args) = foldE (setE e p a) ps args := rfl
theorem foldE_congr : ∀ {ps : List Str} {args : List Int} {e e' : EnvF}, ps.length = args.length → (∀ x, x ∉ ps → e x = e' x) → foldE e ps args = foldE e' ps args
  | [], _, e, e', _, h => by
    have q : e = e' := funext fun x => h x (by simp)
    rw [q]
  | p :: ps, [], e, e', hl, h => by simp at hl
  | p :: ps, a :: args, e, e', hl, h => by
    rw [foldE_cons, foldE_cons]
    refine foldE_congr (by simpa using hl) fun x hx => ?_
    by_cases q : x = p
    · rw [q, setE_same, setE_same]
    · rw [setE_ne q, setE_ne q]
      exact h x (by simp [q, hx])
theorem foldE_isSome : ∀ {ps : List Str} {args : List Int} {e : EnvF} {x : Str}, ps.length = args.length → (x ∈ ps ∨ (e x).isSome = true) → (foldE e ps args x).isSome = true
  | [], _, e, x, _, h => by
    rcases h with h | h
    · simp at h
    · exact h
  | p :: ps, [], e, x, hl, h => by simp at hl
  | p :: ps, a :: args, e, x, hl, h => by
    rw [foldE_cons]
    refine foldE_isSome (by simpa using hl) ?_
    by_cases q : x = p
    · right
      rw [q, setE_same]
      rfl
    · rcases h with h | h
      · left
        simpa [q] using h
      · right
        rw [setE_ne q]
        exact h
open Classical in
/-- the names of a function at 0, then its params -/
noncomputable def initE (f : Fn) (args : List Int) : EnvF := foldE (fun x => if f.has x then some 0 else none) f.ps args
theorem initE_isSome {f : Fn} {args : List Int} {x : Str} (hl : f.ps.length = args.length) (h : f.has x) : (initE f args x).isSome = true := by
  unfold initE
  refine foldE_isSome hl (.inr ?_)
  rw [if_pos h]
  rfl

/-! ### frames, a step -/
structure Fr where
  fn : Fn
  at_ : Nat
  env : EnvF
def Fr.adv (fr : Fr) (x : Str) (v : Int) : Fr := { fr with at_ := fr.at_ + 1, env := setE fr.env x v }
def Fr.put (fr : Fr) (x : Str) (v : Int) : Fr := { fr with env := setE fr.env x v }
noncomputable def newA (f : Fn) (args : List Int) : Fr := ⟨f, 0, initE f args⟩
def Fr.row (fr : Fr) : Option Row := fr.fn.rows[fr.at_]?
/-- the value goes to the name of the call's row -/
def Fr.got (fr : Fr) (v : Int) : Fr := match fr.row with
  | some r => match r.giv with
    | some x => fr.adv x v
    | none => fr
  | none => fr
def popA (st : List Fr) (v : Int) : List Fr := match st.getLast? with
  | none => []
  | some fr => st.dropLast ++ [fr.got v]
def lookF (P : List Fn) (g : Str) : Option Fn := P.find? fun f => decide (f.name = g)
noncomputable def stepA (P : List Fn) (st : List Fr) : List Fr := match st.getLast? with
  | none => []
  | some fr => match fr.row with
    | some (.copy x a) => st.dropLast ++ [fr.adv x (worth fr.env a)]
    | some (.op x s a b) => st.dropLast ++ [fr.adv x (valA s (worth fr.env a) (worth fr.env b))]
    | some (.call _ g as) => match lookF P g with
      | some f => st ++ [newA f (as.map (worth fr.env))]
      | none => []
    | some (.back a) => popA st.dropLast (worth fr.env a)
    | none => []
/-- the answer behind a step -/
def resV (st : List Fr) : V := match st with
  | [fr] => match fr.row with
    | some (.back a) => .int (worth fr.env a)
    | _ => .non
  | _ => .non
theorem popA_nil (v : Int) : popA [] v = [] := rfl
theorem popA_snoc (st : List Fr) (fr : Fr) (v : Int) : popA (st ++ [fr]) v = st ++ [fr.got v] := by
  unfold popA
  rw [List.getLast?_concat]
  simp
theorem stepA_copy {P : List Fn} {st : List Fr} {fr : Fr} {x : Str} {a : Atom} (h : fr.row = some (.copy x a)) : stepA P (st ++ [fr]) = st ++ [fr.adv x (worth fr.env a)] := by
  unfold stepA
  rw [List.getLast?_concat]
  simp [h]
theorem stepA_op {P : List Fn} {st : List Fr} {fr : Fr} {x s : Str} {a b : Atom} (h : fr.row = some (.op x s a b)) : stepA P (st ++ [fr]) = st ++ [fr.adv x (valA s (worth fr.env a) (worth fr.env b))] := by
  unfold stepA
  rw [List.getLast?_concat]
  simp [h]
theorem stepA_call {P : List Fn} {st : List Fr} {fr : Fr} {x g : Str} {as : List Atom} {f : Fn} (h : fr.row = some (.call x g as)) (hf : lookF P g = some f) : stepA P (st ++ [fr]) = st ++ [fr] ++ [newA f (as.map (worth fr.env))] := by
  unfold stepA
  rw [List.getLast?_concat]
  simp [h, hf]
theorem stepA_back {P : List Fn} {st : List Fr} {fr : Fr} {a : Atom} (h : fr.row = some (.back a)) : stepA P (st ++ [fr]) = popA st (worth fr.env a) := by
  unfold stepA
  rw [List.getLast?_concat]
  simp [h]
theorem got_of {fr : Fr} {r : Row} {x : Str} (h : fr.row = some r) (hx : r.giv = some x) (v : Int) : fr.got v = fr.adv x v := by
  unfold Fr.got
  rw [h]
  simp only
  rw [hx]
theorem resV_more (st : List Fr) (fr fr' : Fr) : resV (st ++ [fr'] ++ [fr]) = .non := by
  cases st with
  | nil => rfl
  | cons a r =>
    cases r with
    | nil => rfl
    | cons b r => rfl
theorem resV_back {fr : Fr} {a : Atom} (h : fr.row = some (.back a)) : resV [fr] = .int (worth fr.env a) := by
  show (match fr.row with | some (.back a) => V.int (worth fr.env a) | _ => .non) = _
  rw [h]
theorem resV_not {st : List Fr} {fr : Fr} {r : Row} (h : fr.row = some r) (hb : r.isBack = false) : resV (st ++ [fr]) = .non := by
  cases st with
  | nil =>
    show (match fr.row with | some (.back a) => V.int (worth fr.env a) | _ => .non) = _
    rw [h]
    cases r with
    | back a => cases hb
    | _ => rfl
  | cons b r =>
    cases r with
    | nil => rfl
    | cons c r => rfl

/-! ### what is in order -/
abbrev signs : List Str := ["+", "-", "<", "&"]
structure FnOK (P : List Fn) (f : Fn) : Prop where
  nb : ∀ (i : Nat) (r : Row), f.rows[i]? = some r → r.isBack = false → i + 1 < f.rows.length
  ne : 0 < f.rows.length
  sz : f.rows.length ≤ 100
  szp : f.ps.length ≤ 10
  sza : ∀ r ∈ f.rows, r.atoms.length ≤ 10
  sg : ∀ (x s : Str) (a b : Atom), Row.op x s a b ∈ f.rows → s ∈ signs
  ca : ∀ (x g : Str) (as : List Atom), Row.call x g as ∈ f.rows → ∃ h, lookF P g = some h ∧ h.ps.length = as.length
structure PrOK (P : List Fn) : Prop where
  fns : ∀ f ∈ P, FnOK P f
  nd : (P.map (·.name)).Nodup
  len : P.length ≤ 100
structure FrOK (P : List Fn) (fr : Fr) : Prop where
  fn : FnOK P fr.fn
  lt : fr.at_ < fr.fn.rows.length
  env : ∀ x, fr.fn.has x → (fr.env x).isSome = true
/-- all frames; all but the last stand at a call -/
structure StOK (P : List Fn) (st : List Fr) : Prop where
  fr : ∀ fr ∈ st, FrOK P fr
  ca : ∀ (i : Nat) (fr : Fr), i + 1 < st.length → st[i]? = some fr → ∃ r, fr.row = some r ∧ r.isCall = true
  len : st.length ≤ 1000
theorem lookF_mem {P : List Fn} {g : Str} {f : Fn} (h : lookF P g = some f) : f ∈ P ∧ f.name = g := by
  unfold lookF at h
  exact ⟨List.mem_of_find?_eq_some h, by simpa using List.find?_some h⟩
theorem newA_ok {P : List Fn} {f : Fn} {args : List Int} (h : FnOK P f) (hl : f.ps.length = args.length) : FrOK P (newA f args) :=
  ⟨h, h.ne, fun x hx => initE_isSome hl hx⟩
theorem FrOK.at_row {P : List Fn} {fr : Fr} (h : FrOK P fr) : ∃ r, fr.row = some r ∧ r ∈ fr.fn.rows := by
  refine ⟨fr.fn.rows[fr.at_]'h.lt, ?_, List.getElem_mem _⟩
  unfold Fr.row
  exact List.getElem?_eq_getElem h.lt
theorem FrOK.adv {P : List Fn} {fr : Fr} {r : Row} (h : FrOK P fr) (hr : fr.row = some r) (hb : r.isBack = false) (x : Str) (v : Int) : FrOK P (fr.adv x v) :=
  ⟨h.fn, h.fn.nb fr.at_ r hr hb, fun y hy => setE_isSome (h.env y hy)⟩
theorem FrOK.put {P : List Fn} {fr : Fr} (h : FrOK P fr) (x : Str) (v : Int) : FrOK P (fr.put x v) := ⟨h.fn, h.lt, fun y hy => setE_isSome (h.env y hy)⟩
theorem FrOK.atom {P : List Fn} {fr : Fr} {r : Row} {a : Atom} (h : FrOK P fr) (hr : r ∈ fr.fn.rows) (ha : a ∈ r.atoms) : a.inE fr.env := by
  cases a with
  | n i => trivial
  | x s => exact h.env s (.inr ⟨r, hr, .inr ha⟩)
theorem FrOK.give {P : List Fn} {fr : Fr} {r : Row} {x : Str} (h : FrOK P fr) (hr : r ∈ fr.fn.rows) (hx : r.giv = some x) : (fr.env x).isSome = true := h.env x (.inr ⟨r, hr, .inl hx⟩)

theorem StOK.last {P : List Fn} {st : List Fr} {fr : Fr} (h : StOK P (st ++ [fr])) : FrOK P fr := h.fr fr (by simp)
theorem StOK.swap {P : List Fn} {st : List Fr} {fr fr' : Fr} (h : StOK P (st ++ [fr])) (h' : FrOK P fr') : StOK P (st ++ [fr']) := by
  refine ⟨fun g hg => ?_, fun i g hi hg => ?_, ?_⟩
  · rcases List.mem_append.mp hg with q | q
    · exact h.fr g (List.mem_append_left _ q)
    · rw [List.mem_singleton.mp q]
      exact h'
  · have hi' : i < st.length := by simpa using hi
    rw [List.getElem?_append_left hi'] at hg
    exact h.ca i g (by simpa using hi) (by rw [List.getElem?_append_left hi']; exact hg)
  · have := h.len
    simpa using this
theorem StOK.init {P : List Fn} {st : List Fr} {fr : Fr} (h : StOK P (st ++ [fr])) : StOK P st := by
  refine ⟨fun g hg => h.fr g (List.mem_append_left _ hg), fun i g hi hg => ?_, ?_⟩
  · exact h.ca i g (by simp; omega) (by rw [List.getElem?_append_left (by omega)]; exact hg)
  · have := h.len
    simp at this
    omega
theorem StOK.step {P : List Fn} {st : List Fr} {fr : Fr} (hP : PrOK P) (h : StOK P (st ++ [fr])) (hl : st.length + 2 ≤ 1000) : StOK P (stepA P (st ++ [fr])) := by
  have hf := h.last
  obtain ⟨r, hr, hm⟩ := hf.at_row
  cases r with
  | copy x a =>
    rw [stepA_copy hr]
    exact h.swap (hf.adv hr rfl _ _)
  | op x s a b =>
    rw [stepA_op hr]
    exact h.swap (hf.adv hr rfl _ _)
  | call x g as =>
    obtain ⟨f, hg, hn⟩ := hf.fn.ca x g as hm
    rw [stepA_call hr hg]
    refine ⟨fun g hg' => ?_, fun i g hi hg' => ?_, by simp; omega⟩
    · rcases List.mem_append.mp hg' with q | q
      · exact h.fr g q
      · rw [List.mem_singleton.mp q]
        exact newA_ok (hP.fns f (lookF_mem hg).1) (by simpa using hn)
    · have hi' : i < (st ++ [fr]).length := by simpa using hi
      rw [List.getElem?_append_left hi'] at hg'
      by_cases q : i + 1 < (st ++ [fr]).length
      · exact h.ca i g q hg'
      · have e : i = st.length := by simp at hi' q; omega
        subst e
        rw [List.getElem?_concat_length] at hg'
        cases hg'
        exact ⟨_, hr, rfl⟩
  | back a =>
    rw [stepA_back hr]
    rcases List.eq_nil_or_concat st with e | ⟨s1, f1, e⟩
    · subst e
      rw [popA_nil]
      exact ⟨by simp, by simp, by simp⟩
    · have e : st = s1 ++ [f1] := by simpa using e
      subst e
      rw [popA_snoc]
      obtain ⟨r1, h1, h2⟩ := h.ca s1.length f1 (by simp) (by rw [List.getElem?_append_left (by simp)]; exact List.getElem?_concat_length)
      cases r1 with
      | call x g as =>
        rw [got_of h1 rfl]
        have h0 := h.init
        exact h0.swap (h0.last.adv h1 rfl _ _)
      | _ => cases h2
theorem StOK.putAt {P : List Fn} {st : List Fr} {i : Nat} {fr : Fr} (h : StOK P st) (hi : st[i]? = some fr) (x : Str) (v : Int) : StOK P (st.set i (fr.put x v)) := by
  have hlt : i < st.length := (List.getElem?_eq_some_iff.mp hi).1
  refine ⟨fun g hg => ?_, fun j g hj hg => ?_, by rw [List.length_set]; exact h.len⟩
  · rcases List.mem_or_eq_of_mem_set hg with q | q
    · exact h.fr g q
    · rw [q]
      exact (h.fr fr (List.mem_of_getElem? hi)).put x v
  · rw [List.length_set] at hj
    by_cases e : i = j
    · subst e
      rw [List.getElem?_set_self hlt] at hg
      cases hg
      exact h.ca i fr hj hi
    · rw [List.getElem?_set_ne e] at hg
      exact h.ca j g hj hg
end SG


/-! How rows, functions, frames lie in the heap; a def's promise by its place in the text; short readings. -/
namespace SG
open PySem PySem.Spec PyProof.Rows L2

/-! ### what lies in the heap -/
def RowAt (H : Hp) (p : Addr) : Row → Prop
  | .copy x a => H p = some (.tup [.str "copy", .str x, a.v])
  | .op x s a b => H p = some (.tup [.str "op", .str x, .str s, a.v, b.v])
  | .call x g as => ∃ q, H p = some (.tup [.str "call", .str x, .str g, .ref q]) ∧ H q = some (.tup (as.map Atom.v))
  | .back a => H p = some (.tup [.str "back", a.v])
def RowsAt (H : Hp) (p : Addr) (rows : List Row) : Prop := ∃ vs : List V, H p = some (.tup vs) ∧ vs.length = rows.length ∧ ∀ (i : Nat) (r : Row), rows[i]? = some r → ∃ q, vs[i]? = some (.ref q) ∧ RowAt H q r
def FnAt (H : Hp) (a : Addr) (f : Fn) : Prop := ∃ q r, H a = some (.tup [.str f.name, .bl f.fold, .ref q, .ref r]) ∧ H q = some (.tup (f.ps.map V.str)) ∧ RowsAt H r f.rows
/-- one place for each row: the next row, none behind a back -/
def FlowAt (H : Hp) (l : Addr) (rows : List Row) : Prop := ∃ ts : List V, H l = some (.lst ts) ∧ ts.length = rows.length ∧ ∀ (i : Nat) (r : Row), rows[i]? = some r → r.isBack = false → ∃ t, ts[i]? = some (.ref t) ∧ H t = some (.tup [.int ((i : Int) + 1)])
/-- a dict of texts and numbers, as a function -/
structure DRep (kvs : List (Key × V)) (e : EnvF) : Prop where
  len : kvs.length ≤ 5000
  val : ∀ x : Str, valV kvs (Sum.inr x : Key) = (e x).map V.int
  key : ∀ kv ∈ kvs, ∃ x : Str, kv.1 = Sum.inr x
def DictIs (H : Hp) (d : Addr) (e : EnvF) : Prop := ∃ kvs, H d = some (.dK kvs) ∧ DRep kvs e
/-- tuples stay -/
def TS_ (H H' : Hp) : Prop := ∀ b xs, H b = some (.tup xs) → H' b = some (.tup xs)
theorem ts_of {H H' : Hp} (s : Same H H') : TS_ H H' := fun b xs e => s b _ e
theorem TS_.refl (H : Hp) : TS_ H H := fun _ _ e => e
theorem TS_.trans {H H1 H2 : Hp} (a : TS_ H H1) (b : TS_ H1 H2) : TS_ H H2 := fun c o e => b c o (a c o e)
theorem TS_.upd {H : Hp} {a : Addr} {o : HO} (h : ∀ xs, H a ≠ some (.tup xs)) : TS_ H (upd H a o) := fun b xs e => by
  rw [upd_ne (fun z => h xs (by rw [← z]; exact e))]
  exact e
theorem RowAt.mono {H H' : Hp} (t : TS_ H H') {p : Addr} {r : Row} (h : RowAt H p r) : RowAt H' p r := by
  cases r with
  | copy x a => exact t _ _ h
  | op x s a b => exact t _ _ h
  | call x g as =>
    obtain ⟨q, h1, h2⟩ := h
    exact ⟨q, t _ _ h1, t _ _ h2⟩
  | back a => exact t _ _ h
theorem RowsAt.mono {H H' : Hp} (t : TS_ H H') {p : Addr} {rows : List Row} (h : RowsAt H p rows) : RowsAt H' p rows := by
  obtain ⟨vs, h1, h2, h3⟩ := h
  refine ⟨vs, t _ _ h1, h2, fun i r hr => ?_⟩
  obtain ⟨q, e, z⟩ := h3 i r hr
  exact ⟨q, e, z.mono t⟩
theorem FnAt.mono {H H' : Hp} (t : TS_ H H') {a : Addr} {f : Fn} (h : FnAt H a f) : FnAt H' a f := by
  obtain ⟨q, r, h1, h2, h3⟩ := h
  exact ⟨q, r, t _ _ h1, t _ _ h2, h3.mono t⟩
theorem FlowAt.mono {H H' : Hp} (t : TS_ H H') {l : Addr} {rows : List Row} (h : FlowAt H l rows) (hl : ∀ o, H l = some o → H' l = some o) : FlowAt H' l rows := by
  obtain ⟨ts, h1, h2, h3⟩ := h
  refine ⟨ts, hl _ h1, h2, fun i r hr hb => ?_⟩
  obtain ⟨q, e, z⟩ := h3 i r hr hb
  exact ⟨q, e, t _ _ z⟩
/-- what the kind of a row is called -/
def Row.kind : Row → Str
  | .copy _ _ => "copy"
  | .op _ _ _ _ => "op"
  | .call _ _ _ => "call"
  | .back _ => "back"
theorem RowAt.tup {H : Hp} {p : Addr} {r : Row} (h : RowAt H p r) : ∃ xs, H p = some (.tup (.str r.kind :: xs)) := by
  cases r with
  | copy x a => exact ⟨_, h⟩
  | op x s a b => exact ⟨_, h⟩
  | call x g as => exact ⟨_, h.choose_spec.1⟩
  | back a => exact ⟨_, h⟩
theorem DRep.put {kvs : List (Key × V)} {e : EnvF} (d : DRep kvs e) {x : Str} (v : Int) (h : (e x).isSome = true ∨ kvs.length < 5000) : DRep (putK kvs (Sum.inr x : Key) (.int v)) (setE e x v) := by
  refine ⟨?_, fun y => ?_, fun kv hkv => ?_⟩
  · rcases h with h | h
    · have hs : valV kvs (Sum.inr x : Key) ≠ none := by
        rw [d.val x]
        cases q : e x with
        | none => rw [q] at h; cases h
        | some z => simp
      have any : (kvs.any fun kv => decide (kv.1 = (Sum.inr x : Key))) = true := by
        rw [valV_any]
        cases q : valV kvs (Sum.inr x : Key) with
        | none => exact absurd q hs
        | some z => rfl
      have := d.len
      unfold putK
      rw [if_pos any, List.length_map]
      exact this
    · have := length_putK kvs (Sum.inr x : Key) (.int v)
      omega
  · rw [valV_put]
    by_cases q : y = x
    · subst q
      rw [if_pos rfl, setE_same]
      rfl
    · rw [if_neg (fun z => q (Sum.inr.inj z)), setE_ne q]
      exact d.val y
  · unfold putK at hkv
    split at hkv
    · obtain ⟨kv', h1, h2⟩ := List.mem_map.mp hkv
      obtain ⟨y, hy⟩ := d.key kv' h1
      refine ⟨y, ?_⟩
      rw [← h2]
      split <;> exact hy
    · rcases List.mem_append.mp hkv with q | q
      · exact d.key kv q
      · rw [List.mem_singleton.mp q]
        exact ⟨x, rfl⟩

theorem Same.new {H : Hp} {p : Addr} {o : HO} (h : H p = none) : Same H (upd H p o) := fun b u e => by
  rw [upd_ne (ne_of_none e h)]
  exact e
/-- texts in a list -/
theorem inV_str (x : Str) : ∀ ns : List Str, inV (.str x) (ns.map V.str) = decide (x ∈ ns)
  | [] => by rfl
  | n :: r => by
    have ih := inV_str x r
    unfold inV at ih ⊢
    rw [List.map_cons, List.any_cons, ih]
    show ((n == x) || decide (x ∈ r)) = decide (x ∈ n :: r)
    by_cases e : n = x
    · subst e
      simp
    · have e1 : (n == x) = false := beq_eq_false_iff_ne.mpr e
      rw [e1, Bool.false_or, decide_eq_decide]
      constructor
      · intro h
        exact List.mem_cons_of_mem _ h
      · intro h
        rcases List.mem_cons.mp h with q | q
        · exact absurd q.symm e
        · exact q
theorem flat_strs (ns : List Str) : (ns.map V.str).all flatV = true := by
  rw [List.all_eq_true]
  intro v hv
  obtain ⟨n, _, rfl⟩ := List.mem_map.mp hv
  rfl
theorem lt_line {n : Nat} (h : n ≤ 100000) : n < sizeLine := Nat.lt_of_le_of_lt h (by rw [sizeLine_eq]; decide)
theorem le_line {n : Nat} (h : n ≤ 100000) : n ≤ sizeLine := Nat.le_of_lt (lt_line h)

/-! ### the text by places -/
def top (i : Nat) : Stmt := PySem.Challenge.pw_stopglass_k26_values_set_by_hand.main.body.getD i (.Pass ⟨0, 0, 0, 0⟩)
section
variable {P : Program} {w : World} {K : PySem.W.Frag} {mg : Str → Option Value} {base : Heap}
/-- a def of the top stands under its name -/
def DefG (K : PySem.W.Frag) (mg : Str → Option Value) (x : Str) (st : Stmt) : Prop := ∃ (f : Addr) (fd : FuncData), Fun K x x st f fd ∧ mg x = some (.ref f)
def MethG (K : PySem.W.Frag) (C : Addr) (m qual : Str) (st : Stmt) : Prop := ∃ (f : Addr) (fd : FuncData), Fun K m qual st f fd ∧ Meth K C m f
/-- what the bound arguments are -/
def BindOk (x qual : Str) (st : Stmt) (ps : List Str) : Prop := ∀ (kV doc pm : Value) (an : Option Addr) (cdv ct : Value) (us : List Value), us.length = ps.length → bindArgs (PySem.W.fnOf x qual (defArgs st) (defBody st) (defScope st) .none kV doc pm an cdv ct) ⟨us, []⟩ = pure (ps.zip us)
theorem cal_of {x : Str} {st : Stmt} {N ps : List Str} {k : Nat} {sp : Sp} (D : DefG K mg x st) (S : FnScope N ps (defScope st)) (b : BindOk x x st ps) (len : ∀ vs H Q E, sp vs H Q E → vs.length = ps.length)
    (hbody : ∀ (f : Addr) (cdv : Value) (A : Around) (outer : List Env) (s : Shared) (H : Hp) (vs : List V) (Q : VK) (E : XK), Room k (A.deeper (envOfC x (defScope st) s.heap.objs.size f cdv)) → sp vs H Q E →
      ∃ t, PSs (cxOf CX0 P w K mg base N x (defScope st) f cdv A outer s H E).nox (defBody st) t ∧ t { nx := fun _ H' => Q .non H', rt := Q } (start N vs) H) : C8.Cal P w K mg base (k + 1) x sp [] := by
  obtain ⟨f, fd, F, m⟩ := D
  exact ⟨⟨f, fd, ps, [], F.ok S len (hbody f), m, F.kp, F.binds b, .nil⟩⟩
theorem met_of {m qual : Str} {C : Addr} {st : Stmt} {N ps : List Str} {k : Nat} {sp : Sp} (c : Cls K C) (D : MethG K C m qual st) (S : FnScope N ps (defScope st)) (b : BindOk m qual st ps) (len : ∀ vs H Q E, sp vs H Q E → vs.length = ps.length)
    (hbody : ∀ (f : Addr) (cdv : Value) (A : Around) (outer : List Env) (s : Shared) (H : Hp) (vs : List V) (Q : VK) (E : XK), Room k (A.deeper (envOfC qual (defScope st) s.heap.objs.size f cdv)) → sp vs H Q E →
      ∃ t, PSs (cxOf CX0 P w K mg base N qual (defScope st) f cdv A outer s H E).nox (defBody st) t ∧ t { nx := fun _ H' => Q .non H', rt := Q } (start N vs) H) : C8.Met P w K mg base (k + 1) C m sp [] := by
  obtain ⟨f, fd, F, M⟩ := D
  exact ⟨⟨f, fd, ps, [], c, M, F.ok S len (hbody f), F.binds b, .nil⟩⟩
/-- a tuple of the top -/
def GTup (K : PySem.W.Frag) (mg : Str → Option Value) (x : Str) (xs : List V) : Prop := ∃ a, mg x = some (.ref a) ∧ ∀ H, SqT K H a xs
end

/-! ### short readings -/
section
variable {K : PySem.W.Frag} {σ : L2.St} {H : Hp} {Q : VK} {i : Nat} {p : Addr} {xs : List V} {v : V}
theorem rv (h : σ[i]? = some (some v)) (q : Q v H) : tVar i σ H Q := ⟨v, h, q⟩
/-- t[j] of a tuple in slot i -/
theorem rix {j : Nat} (h : σ[i]? = some (some (.ref p))) (hp : SqT K H p xs) (hj : xs[j]? = some v) (q : Q v H) : tOp (rIxT K) (tVar i) (tC (.int (j : Nat))) σ H Q :=
  ⟨_, h, p, xs, _, v, rfl, rfl, hp, atI_nat hj, q⟩
theorem rEqT {s t : Str} {Q : Bool → Hp → Prop} (h : σ[i]? = some (some (.str s))) (e : s = t) (q : Q true H) : tTest (tOp rEq (tVar i) (tC (.str t))) σ H Q :=
  ⟨_, h, rfl, true, by rw [e, decide_eq_true rfl], q⟩
theorem rEqF {s t : Str} {Q : Bool → Hp → Prop} (h : σ[i]? = some (some (.str s))) (e : ¬ s = t) (q : Q false H) : tTest (tOp rEq (tVar i) (tC (.str t))) σ H Q :=
  ⟨_, h, rfl, false, by rw [decide_eq_false fun z => e (V.str.inj z)], q⟩
theorem rIxEqT {j : Nat} {s t : Str} {Q : Bool → Hp → Prop} (h : σ[i]? = some (some (.ref p))) (hp : SqT K H p xs) (hj : xs[j]? = some (.str s)) (e : s = t) (q : Q true H) : tTest (tOp rEq (tOp (rIxT K) (tVar i) (tC (.int (j : Nat)))) (tC (.str t))) σ H Q :=
  rix h hp hj ⟨rfl, true, by rw [e, decide_eq_true rfl], q⟩
theorem rIxEqF {j : Nat} {s t : Str} {Q : Bool → Hp → Prop} (h : σ[i]? = some (some (.ref p))) (hp : SqT K H p xs) (hj : xs[j]? = some (.str s)) (e : ¬ s = t) (q : Q false H) : tTest (tOp rEq (tOp (rIxT K) (tVar i) (tC (.int (j : Nat)))) (tC (.str t))) σ H Q :=
  rix h hp hj ⟨rfl, false, by rw [decide_eq_false fun z => e (V.str.inj z)], q⟩
theorem rixL {j : Nat} (h : σ[i]? = some (some (.ref p))) (hp : SqL K H p xs) (hj : xs[j]? = some v) (q : Q v H) : tOp (rIxL K) (tVar i) (tC (.int (j : Nat))) σ H Q :=
  ⟨_, h, p, xs, _, v, rfl, rfl, hp, atI_nat hj, q⟩
end
end SG


/-! The program's defs over rows: gives, atoms_of, reads, names_of. -/
namespace SG
open PySem PySem.Spec PyProof.Rows L2
section
variable {P : Program} {w : World} {K : PySem.W.Frag} {mg : Str → Option Value} {base : Heap}

abbrev kGiving : List V := [.str "copy", .str "op", .str "new", .str "get", .str "call"]
abbrev kAsking : List V := [.str "if", .str "while", .str "out", .str "back"]
abbrev sGives : Stmt := top 7
theorem scGives : FnScope ["row"] ["row"] (defScope sGives) := ⟨rfl, rfl, rfl, by decide +kernel, rfl, by decide +kernel, by decide +kernel⟩
def optV : Option Str → V
  | some x => .str x
  | none => .non
def spGives : Sp := fun vs H Q _ => ∃ p r, vs = [.ref p] ∧ RowAt H p r ∧ Q (optV r.giv) H
theorem giv_in (r : Row) : inV (.str r.kind) kGiving = !r.isBack := by
  cases r with
  | copy x a => exact (show inV (.str "copy") kGiving = true by decide +kernel)
  | op x s a b => exact (show inV (.str "op") kGiving = true by decide +kernel)
  | call x g as => exact (show inV (.str "call") kGiving = true by decide +kernel)
  | back a => exact (show inV (.str "back") kGiving = false by decide +kernel)
theorem ask_in (a : Atom) : inV (.str (Row.back a).kind) kAsking = true := by
  show inV (.str "back") kAsking = true
  decide +kernel
theorem c_gives (D : DefG K mg "gives" sGives) (gG : GTup K mg "GIVING" kGiving) : C8.Cal P w K mg base 1 "gives" spGives [] := by
  obtain ⟨aG, mG, tG⟩ := gG
  refine cal_of D scGives (fun _ _ _ _ _ _ us hl => match us, hl with | [_], _ => rfl) (fun vs H Q E h => ?_) (fun f cdv A outer s H vs Q E hr h => ?_)
  · obtain ⟨p, r, rfl, _⟩ := h
    rfl
  · obtain ⟨p, r, rfl, hp, q⟩ := h
    refine ⟨_, pss_cons (ps_if (pt_cmpR op_in_seq (pe_ix ix_tup (pv 0) pe_int (fun _ _ => rfl)) (pe_glob (v := .ref aG) rfl mG rfl) (by rfl)) (pss_one (ps_ret (pe_ix ix_tup (pv 0) pe_int (fun _ _ => rfl)))) pss_nil) <|
      pss_one (ps_ret pe_non), ?_⟩
    obtain ⟨xs, hx⟩ := hp.tup
    refine rix rfl (SqT.of hx) rfl ⟨aG, kGiving, rfl, .inr (tG H), rfl, by decide +kernel, !r.isBack, congrArg V.bl (giv_in r), ?_⟩
    cases r with
    | copy x a => exact iteT (rix rfl (SqT.of hp) rfl q)
    | op x s a b => exact iteT (rix rfl (SqT.of hp) rfl q)
    | call x g as => exact iteT (rix rfl (SqT.of hp.choose_spec.1) rfl q)
    | back a => exact iteF q

/-! ### atoms_of -/
abbrev sAtoms : Stmt := top 8
theorem scAtoms : FnScope ["row", "kind"] ["row"] (defScope sAtoms) := ⟨rfl, rfl, rfl, by decide +kernel, rfl, by decide +kernel, by decide +kernel⟩
def spAtoms : Sp := fun vs H Q _ => ∃ p r, vs = [.ref p] ∧ RowAt H p r ∧ ∀ l H', Same H H' → H l = none → H' l = some (.lst (r.atoms.map Atom.v)) → Q (.ref l) H'
theorem c_atoms (D : DefG K mg "atoms_of" sAtoms) (gA : GTup K mg "ASKING" kAsking) (zL : mg "list" = none) : C8.Cal P w K mg base 1 "atoms_of" spAtoms [] := by
  obtain ⟨aA, mA, tA⟩ := gA
  refine cal_of D scAtoms (fun _ _ _ _ _ _ us hl => match us, hl with | [_], _ => rfl) (fun vs H Q E h => ?_) (fun f cdv A outer s H vs Q E hr h => ?_)
  · obtain ⟨p, r, rfl, _⟩ := h
    rfl
  · obtain ⟨p, r, rfl, hp, q⟩ := h
    refine ⟨_, pss_cons (ps_set (i := 1) scAtoms.nd rfl (.inl rfl) (pe_ix ix_tup (pv 0) pe_int (fun _ _ => rfl))) <|
      pss_cons (ps_if (PW.pt (pw_or (pt_cmpR op_eq (pv 1) pe_str (nomark _)) (pw_or1 (pt_cmpR op_eq (pv 1) pe_str (nomark _))))) (pss_one (ps_ret (pe_lst (pa_cons (pe_ix ix_tup (pv 0) pe_int (fun _ _ => rfl)) pa_nil)))) pss_nil) <|
      pss_cons (ps_if (pt_cmpR op_eq (pv 1) pe_str (nomark _)) (pss_one (ps_ret (pe_lst (pa_cons (pe_ix ix_tup (pv 0) pe_int (fun _ _ => rfl)) (pa_cons (pe_ix ix_tup (pv 0) pe_int (fun _ _ => rfl)) pa_nil))))) pss_nil) <|
      pss_cons (ps_if (pt_cmpR op_eq (pv 1) pe_str (nomark _)) pss_never pss_nil) <|
      pss_cons (ps_if (pt_cmpR op_eq (pv 1) pe_str (nomark _)) (pss_one (ps_ret (pe_callTy call_list_of (by rfl) zL (by decide +kernel) (pa_cons (pe_ix ix_tup (pv 0) pe_int (fun _ _ => rfl)) pa_nil)))) pss_nil) <|
      pss_cons (ps_if (pt_cmpR op_in_seq (pv 1) (pe_glob (v := .ref aA) rfl mA rfl) (by rfl)) (pss_one (ps_ret (pe_lst (pa_cons (pe_ix ix_tup (pv 0) pe_int (fun _ _ => rfl)) pa_nil)))) pss_nil)
      pss_never, ?_⟩
    cases r with
    | copy x a =>
      refine rix rfl (SqT.of hp) rfl ?_
      refine rEqT rfl rfl (iteT (iteT (rix rfl (SqT.of hp) rfl ⟨le_line (by show 1 ≤ 100000; decide), fun l hl => ?_⟩)))
      exact q l _ (Same.new hl) hl upd_same
    | op x s a b =>
      refine rix rfl (SqT.of hp) rfl ?_
      refine rEqF rfl (by decide +kernel) (iteF (rEqF rfl (by decide +kernel) (iteF (rEqT rfl rfl (iteT ?_)))))
      refine rix rfl (SqT.of hp) rfl (rix rfl (SqT.of hp) rfl ⟨le_line (by show 2 ≤ 100000; decide), fun l hl => ?_⟩)
      exact q l _ (Same.new hl) hl upd_same
    | call x g as =>
      obtain ⟨z, h1, h2⟩ := hp
      refine rix rfl (SqT.of h1) rfl ?_
      refine rEqF rfl (by decide +kernel) (iteF (rEqF rfl (by decide +kernel) (iteF (rEqF rfl (by decide +kernel) (iteF (rEqF rfl (by decide +kernel) (iteF (rEqT rfl rfl (iteT ?_)))))))))
      refine rix rfl (SqT.of h1) rfl ⟨_, _, rfl, .inr (SqT.of h2), fun l hl => ?_⟩
      exact q l _ (Same.new hl) hl upd_same
    | back a =>
      refine rix rfl (SqT.of hp) rfl ?_
      refine rEqF rfl (by decide +kernel) (iteF (rEqF rfl (by decide +kernel) (iteF (rEqF rfl (by decide +kernel) (iteF (rEqF rfl (by decide +kernel) (iteF (rEqF rfl (by decide +kernel) (iteF ?_)))))))))
      refine ⟨_, rfl, aA, kAsking, rfl, .inr (tA _), rfl, by decide +kernel, true, congrArg V.bl (ask_in a), iteT ?_⟩
      refine rix rfl (SqT.of hp) rfl ⟨le_line (by show 1 ≤ 100000; decide), fun l hl => ?_⟩
      exact q l _ (Same.new hl) hl upd_same

/-! ### reads -/
abbrev sReads : Stmt := top 9
theorem scReads : FnScope ["row", "found", "atom"] ["row"] (defScope sReads) := ⟨rfl, rfl, rfl, by decide +kernel, rfl, by decide +kernel, by decide +kernel⟩
def spReads : Sp := fun vs H Q _ => ∃ p r, vs = [.ref p] ∧ RowAt H p r ∧ r.atoms.length ≤ 10 ∧ ∀ (l : Addr) (ns : List Str) (H' : Hp), Same H H' → H l = none → H' l = some (.lst (ns.map V.str)) → (∀ x, x ∈ ns ↔ Atom.x x ∈ r.atoms) → ns.length ≤ r.atoms.length → Q (.ref l) H'
theorem take_snoc {α : Type} {l : List α} {i : Nat} {x : α} (h : l[i]? = some x) : l.take (i + 1) = l.take i ++ [x] := by
  rw [List.take_add_one, h]
  rfl
theorem c_reads (D : DefG K mg "reads" sReads) (cA : C8.Cal P w K mg base 1 "atoms_of" spAtoms []) (zI : mg "isinstance" = none) (zS : mg "str" = none) : C8.Cal P w K mg base 2 "reads" spReads [] := by
  refine cal_of D scReads (fun _ _ _ _ _ _ us hl => match us, hl with | [_], _ => rfl) (fun vs H Q E h => ?_) (fun f cdv A outer s H vs Q E hr h => ?_)
  · obtain ⟨p, r, rfl, _⟩ := h
    rfl
  · obtain ⟨p, r, rfl, hp, hz, q⟩ := h
    refine ⟨_, pss_cons (ps_set (i := 1) scReads.nd rfl (.inl rfl) (pe_lst pa_nil)) <|
      pss_cons (ps_for PassesOwn.never rfl (pi_list (C8.pe_c cA hr (by decide) rfl (pa_cons (pv 0) pa_nil))) (pg_name (i := 2) scReads.nd rfl (.inl rfl))
        (pss_one (ps_if (PW.pt (pw_and (pt_val (pe_callB call_isi (by rfl) zI (by decide +kernel) (pa_cons (pv 2) (pa_cons (pe_bltn (v := .ty "str") (by rfl) zS (by decide +kernel) rfl) pa_nil)))) (pw_and1 (pt_cmpR op_notIn_seq (pv 2) (pv 1) (by rfl)))))
          (pss_one (ps_expr (pe_bm PySem.F.plainAttrs_list PySem.F.slot_list_append PySem.F.type_list_append mt_append (pv 1) (pa_cons (pv 2) pa_nil)))) pss_nil))) <|
      pss_one (ps_ret (pv 1)), ?_⟩
    refine ⟨Nat.zero_le _, fun fnd hf => ?_⟩
    have s0 : Same H (upd H fnd (.lst [])) := Same.new hf
    refine ⟨_, rfl, p, r, rfl, hp.mono (ts_of s0), fun l H2 s1 hl h2 => ?_⟩
    have nlf : l ≠ fnd := fun z => by rw [z, upd_same] at hl; cases hl
    refine ⟨l, rfl, ⟨_, SqL.of h2⟩, for_list (K := K) (a := l) (xs := r.atoms.map Atom.v) (fun i σ H' => ∃ (ns : List Str) (v : Option V), σ = [some (.ref p), some (.ref fnd), v] ∧ Same H H' ∧ H' l = some (.lst (r.atoms.map Atom.v)) ∧ H' fnd = some (.lst (ns.map V.str)) ∧ ns.length ≤ i ∧ ∀ x, x ∈ ns ↔ Atom.x x ∈ r.atoms.take i)
      ⟨[], none, rfl, s0.trans s1, h2, s1 _ _ upd_same, Nat.le_refl _, by simp⟩ (fun i σ H' _ ⟨_, _, _, _, z, _⟩ => SqL.of z) ?_ ?_⟩
    · rintro i y σ H' hi ⟨ns, v, rfl, s2, z1, z2, hn, hx⟩
      obtain ⟨a, ha, rfl⟩ : ∃ a, r.atoms[i]? = some a ∧ a.v = y := by
        rw [List.getElem?_map] at hi
        cases e : r.atoms[i]? with
        | none => rw [e] at hi; cases hi
        | some a => rw [e] at hi; exact ⟨a, rfl, Option.some.inj hi⟩
      have hlt : i < r.atoms.length := (List.getElem?_eq_some_iff.mp ha).1
      cases a with
      | n k =>
        refine ⟨_, rfl, _, _, _, _, false, rfl, ClsV.ty _, TyX.base (TyOf.int _), kit_ty (by decide +kernel), false, rfl, iteF (iteF ?_)⟩
        refine ⟨ns, _, rfl, s2, z1, z2, Nat.le_succ_of_le hn, fun x => ?_⟩
        rw [take_snoc ha, hx x]
        simp
      | x s =>
        refine ⟨_, rfl, _, _, _, _, true, rfl, ClsV.ty _, TyX.base (TyOf.str _), kit_ty (by decide +kernel), true, rfl, iteT ?_⟩
        refine ⟨_, rfl, _, rfl, fnd, _, rfl, .inl (SqL.of z2), rfl, flat_strs ns, !decide (s ∈ ns), congrArg (fun b => V.bl (!b)) (inV_str s ns), ?_⟩
        by_cases hm : s ∈ ns
        · rw [decide_eq_true hm]
          refine iteF ⟨ns, _, rfl, s2, z1, z2, Nat.le_succ_of_le hn, fun x => ?_⟩
          rw [take_snoc ha, hx x]
          constructor
          · intro h
            exact List.mem_append_left _ h
          · intro h
            rcases List.mem_append.mp h with h | h
            · exact h
            · have e : x = s := by
                have := List.mem_singleton.mp h
                injection this
              rw [e]
              exact (hx s).mp hm
        · rw [decide_eq_false hm]
          refine iteT ⟨_, rfl, .inl ⟨rfl, _, SqL.of z2⟩, _, rfl, fnd, _, _, rfl, rfl, z2, lt_line (by rw [List.length_map]; omega), ?_⟩
          have e : ns.map V.str ++ [(Atom.x s).v] = (ns ++ [s]).map V.str := by rw [List.map_append]; rfl
          refine ⟨ns ++ [s], _, rfl, fun b o h => ?_, ?_, ?_, ?_, fun x => ?_⟩
          · rw [upd_ne (ne_of_none h hf)]
            exact s2 b o h
          · rw [upd_ne nlf]
            exact z1
          · rw [upd_same, e]
          · rw [List.length_append, List.length_singleton]
            omega
          · rw [take_snoc ha, List.mem_append, List.mem_append, hx x]
            simp
    · rintro σ H' ⟨ns, v, rfl, s2, z1, z2, hn, hx⟩
      rw [List.length_map] at hn hx
      rw [List.take_length] at hx
      exact rv rfl (q fnd ns H' s2 hf z2 hx hn)
end
end SG


/-! names_of, openers, closers, landing, ways, value. -/
namespace SG
open PySem PySem.Spec PyProof.Rows L2
section
variable {P : Program} {w : World} {K : PySem.W.Frag} {mg : Str → Option Value} {base : Heap}

/-! ### names_of -/
abbrev sNames : Stmt := top 10
theorem scNames : FnScope ["function", "found", "row", "given", "name"] ["function"] (defScope sNames) := ⟨rfl, rfl, rfl, by decide +kernel, rfl, by decide +kernel, by decide +kernel⟩
def spNames : Sp := fun vs H Q _ => ∃ a f, vs = [.ref a] ∧ FnAt H a f ∧ f.rows.length ≤ 100 ∧ f.ps.length ≤ 10 ∧ (∀ r ∈ f.rows, r.atoms.length ≤ 10) ∧
  ∀ (l : Addr) (ns : List Str) (H' : Hp), Same H H' → H l = none → H' l = some (.lst (ns.map V.str)) → (∀ x, x ∈ ns ↔ f.has x) → ns.length ≤ 2000 → Q (.ref l) H'
theorem snoc_str (ns : List Str) (x : Str) : ns.map V.str ++ [V.str x] = (ns ++ [x]).map V.str := by
  rw [List.map_append]
  rfl
theorem str_at {ms : List Str} {j : Nat} {y : V} (h : (ms.map V.str)[j]? = some y) : ∃ x, ms[j]? = some x ∧ y = .str x := by
  rw [List.getElem?_map] at h
  cases e : ms[j]? with
  | none => rw [e] at h; cases h
  | some x => rw [e] at h; exact ⟨x, rfl, (Option.some.inj h).symm⟩
theorem optV_non (o : Option Str) : (!decide (optV o = .non)) = o.isSome := by
  cases o with
  | none => rfl
  | some x => rfl
theorem c_names (D : DefG K mg "names_of" sNames) (cG : C8.Cal P w K mg base 1 "gives" spGives []) (cR : C8.Cal P w K mg base 2 "reads" spReads []) (zL : mg "list" = none) : C8.Cal P w K mg base 3 "names_of" spNames [] := by
  refine cal_of D scNames (fun _ _ _ _ _ _ us hl => match us, hl with | [_], _ => rfl) (fun vs H Q E h => ?_) (fun f0 cdv A outer s H vs Q E hr h => ?_)
  · obtain ⟨a, f, rfl, _⟩ := h
    rfl
  · obtain ⟨a, f, rfl, ⟨qa, ra, h1, h2, h3⟩, hz1, hz2, hz3, q⟩ := h
    refine ⟨_, pss_cons (ps_set (i := 1) scNames.nd rfl (.inl rfl) (pe_callTy call_list_of (by rfl) zL (by decide +kernel) (pa_cons (pe_ix ix_tup (pv 0) pe_int (fun _ _ => rfl)) pa_nil))) <|
      pss_cons (ps_for PassesOwn.never rfl (pi_tup (pe_ix ix_tup (pv 0) pe_int (fun _ _ => rfl))) (pg_name (i := 2) scNames.nd rfl (.inl rfl)) <|
        pss_cons (ps_set (i := 3) scNames.nd rfl (.inl rfl) (C8.pe_c cG hr (by decide) rfl (pa_cons (pv 2) pa_nil))) <|
        C8.pss_cut (ps_if (PW.pt (pw_and (pt_cmp (pc_notN (pv 3))) (pw_and1 (pt_cmpR op_notIn_seq (pv 3) (pv 1) (by rfl)))))
          (pss_one (ps_expr (pe_bm PySem.F.plainAttrs_list PySem.F.slot_list_append PySem.F.type_list_append mt_append (pv 1) (pa_cons (pv 3) pa_nil)))) pss_nil) <|
        pss_one (ps_for PassesOwn.never rfl (pi_list (C8.pe_c cR hr (by decide) rfl (pa_cons (pv 2) pa_nil))) (pg_name (i := 4) scNames.nd rfl (.inl rfl)) <|
          pss_one (ps_if (pt_cmpR op_notIn_seq (pv 4) (pv 1) (by rfl))
            (pss_one (ps_expr (pe_bm PySem.F.plainAttrs_list PySem.F.slot_list_append PySem.F.type_list_append mt_append (pv 1) (pa_cons (pv 4) pa_nil)))) pss_nil))) <|
      pss_one (ps_ret (pv 1)), ?_⟩
    refine rix rfl (SqT.of h1) rfl ⟨_, _, rfl, .inr (SqT.of h2), fun fnd hf => ?_⟩
    have s0 : Same H (upd H fnd (.lst (f.ps.map V.str))) := Same.new hf
    obtain ⟨vs, h4, h5, h6⟩ := h3
    refine rix rfl (SqT.of (s0 _ _ h1)) rfl ⟨ra, rfl, ⟨_, SqT.of (s0 _ _ h4)⟩, for_tup (K := K) (a := ra) (xs := vs) (fun i σ H' => ∃ (ns : List Str) (b c d : Option V), σ = [some (.ref a), some (.ref fnd), b, c, d] ∧ Same H H' ∧ H' fnd = some (.lst (ns.map V.str)) ∧ ns.length ≤ 10 + 11 * i ∧ ∀ x, x ∈ ns ↔ x ∈ f.ps ∨ ∃ r ∈ f.rows.take i, r.has x)
      ⟨f.ps, none, none, none, rfl, s0, upd_same, by omega, by simp⟩ (fun i σ H' _ ⟨_, _, _, _, _, z, _⟩ => SqT.of (z _ _ h4)) ?_ ?_⟩
    · rintro i y σ H' hi ⟨ns, b, c, d, rfl, s1, z1, hn, hx⟩
      have hil : i < f.rows.length := by rw [← h5]; exact (List.getElem?_eq_some_iff.mp hi).1
      have hri : f.rows[i]? = some f.rows[i] := List.getElem?_eq_getElem hil
      obtain ⟨p, hp, hrow⟩ := h6 i _ hri
      have hm : f.rows[i] ∈ f.rows := List.getElem_mem _
      generalize f.rows[i] = r at hri hrow hm
      rw [hi] at hp
      have ey : y = .ref p := Option.some.inj hp
      subst ey
      refine ⟨_, rfl, p, r, rfl, hrow.mono (ts_of s1), ?_⟩
      refine ⟨fun σ' H2 => ∃ (ns' : List Str), σ' = [some (.ref a), some (.ref fnd), some (.ref p), some (optV r.giv), d] ∧ Same H H2 ∧ H2 fnd = some (.lst (ns'.map V.str)) ∧ ns'.length ≤ 10 + 11 * i + 1 ∧ ∀ x, x ∈ ns' ↔ x ∈ ns ∨ r.giv = some x, ?_, ?_⟩
      · refine ⟨_, rfl, r.giv.isSome, congrArg V.bl (optV_non r.giv), ?_⟩
        cases e : r.giv with
        | none => exact iteF (iteF ⟨ns, rfl, s1, z1, by omega, by simp⟩)
        | some x =>
          refine iteT ⟨_, rfl, _, rfl, fnd, _, rfl, .inl (SqL.of z1), rfl, flat_strs ns, !decide (x ∈ ns), congrArg (fun b => V.bl (!b)) (inV_str x ns), ?_⟩
          by_cases hin : x ∈ ns
          · rw [decide_eq_true hin]
            refine iteF ⟨ns, rfl, s1, z1, by omega, fun y => ⟨fun h => .inl h, fun h => ?_⟩⟩
            rcases h with h | h
            · exact h
            · rw [← Option.some.inj h]
              exact hin
          · rw [decide_eq_false hin]
            refine iteT ⟨_, rfl, .inl ⟨rfl, _, SqL.of z1⟩, _, rfl, fnd, _, _, rfl, rfl, z1, lt_line (by rw [List.length_map]; omega), ?_⟩
            refine ⟨ns ++ [x], rfl, fun b o h => ?_, ?_, ?_, fun y => ?_⟩
            · rw [upd_ne (ne_of_none h hf)]
              exact s1 b o h
            · rw [upd_same, ← snoc_str]
              rfl
            · rw [List.length_append, List.length_singleton]
              omega
            · rw [List.mem_append, List.mem_singleton]
              constructor
              · rintro (h | h)
                · exact .inl h
                · exact .inr (by rw [h])
              · rintro (h | h)
                · exact .inl h
                · exact .inr (Option.some.inj h).symm
      · rintro σ' H2 ⟨ns', rfl, s2, z2, hn2, hx2⟩
        refine ⟨_, rfl, p, r, rfl, hrow.mono (ts_of s2), hz3 r hm, fun l ms H3 s3 hl hL hms hml => ?_⟩
        have nlf : l ≠ fnd := fun z => by rw [z, z2] at hl; cases hl
        refine ⟨l, rfl, ⟨_, SqL.of hL⟩, for_list (K := K) (a := l) (xs := ms.map V.str) (fun j σ H4 => ∃ (ns'' : List Str) (d' : Option V), σ = [some (.ref a), some (.ref fnd), some (.ref p), some (optV r.giv), d'] ∧ Same H H4 ∧ H4 l = some (.lst (ms.map V.str)) ∧ H4 fnd = some (.lst (ns''.map V.str)) ∧ ns''.length ≤ 10 + 11 * i + 1 + j ∧ ∀ x, x ∈ ns'' ↔ x ∈ ns' ∨ x ∈ ms.take j)
          ⟨ns', d, rfl, s2.trans s3, hL, s3 _ _ z2, hn2, by simp⟩ (fun j σ H' _ ⟨_, _, _, _, z, _⟩ => SqL.of z) ?_ ?_⟩
        · rintro j y σ H4 hj ⟨ns'', d', rfl, s4, z3, z4, hn4, hx4⟩
          obtain ⟨x, hx5, rfl⟩ := str_at hj
          have hjl : j < ms.length := (List.getElem?_eq_some_iff.mp hx5).1
          have hz := hz3 r hm
          refine ⟨_, rfl, _, rfl, fnd, _, rfl, .inl (SqL.of z4), rfl, flat_strs ns'', !decide (x ∈ ns''), congrArg (fun b => V.bl (!b)) (inV_str x ns''), ?_⟩
          by_cases hin : x ∈ ns''
          · rw [decide_eq_true hin]
            refine iteF ⟨ns'', _, rfl, s4, z3, z4, by omega, fun y => ?_⟩
            rw [take_snoc hx5, List.mem_append, List.mem_singleton, hx4 y]
            constructor
            · rintro (h | h)
              · exact .inl h
              · exact .inr (.inl h)
            · rintro (h | h | h)
              · exact .inl h
              · exact .inr h
              · rw [h]
                exact (hx4 x).mp hin
          · rw [decide_eq_false hin]
            refine iteT ⟨_, rfl, .inl ⟨rfl, _, SqL.of z4⟩, _, rfl, fnd, _, _, rfl, rfl, z4, lt_line (by rw [List.length_map]; omega), ?_⟩
            refine ⟨ns'' ++ [x], _, rfl, fun b o h => ?_, ?_, ?_, ?_, fun y => ?_⟩
            · rw [upd_ne (ne_of_none h hf)]
              exact s4 b o h
            · rw [upd_ne nlf]
              exact z3
            · rw [upd_same, snoc_str]
            · rw [List.length_append, List.length_singleton]
              omega
            · rw [take_snoc hx5, List.mem_append, List.mem_append, hx4 y]
              exact or_assoc
        · rintro σ H4 ⟨ns'', d', rfl, s4, z3, z4, hn4, hx4⟩
          rw [List.length_map] at hn4 hx4
          rw [List.take_length] at hx4
          have hz := hz3 r hm
          refine ⟨ns'', _, _, _, rfl, s4, z4, by omega, fun x => ?_⟩
          rw [hx4 x, hx2 x, hx x, hms x, take_snoc hri]
          constructor
          · rintro (((h | ⟨r', h, h'⟩) | h) | h)
            · exact .inl h
            · exact .inr ⟨r', List.mem_append_left _ h, h'⟩
            · exact .inr ⟨r, List.mem_append_right _ (List.mem_singleton.mpr rfl), .inl h⟩
            · exact .inr ⟨r, List.mem_append_right _ (List.mem_singleton.mpr rfl), .inr h⟩
          · rintro (h | ⟨r', h, h'⟩)
            · exact .inl (.inl (.inl h))
            · rcases List.mem_append.mp h with h | h
              · exact .inl (.inl (.inr ⟨r', h, h'⟩))
              · rw [List.mem_singleton.mp h] at h'
                rcases h' with h' | h'
                · exact .inl (.inr h')
                · exact .inr h'
    · rintro σ H' ⟨ns, b, c, d, rfl, s1, z1, hn, hx⟩
      rw [h5] at hn hx
      rw [List.take_length] at hx
      exact rv rfl (q fnd ns H' s1 hf z1 hx (by omega))
end
end SG


/-! openers, closers, landing, ways, value. -/
namespace SG
open PySem PySem.Spec PyProof.Rows L2
theorem upd_self {H : Hp} {a : Addr} {o : HO} (h : H a = some o) : upd H a o = H := by
  funext b
  by_cases e : b = a
  · rw [e, upd_same, h]
  · rw [upd_ne e]
theorem kind_ne (r : Row) : (¬ r.kind = "if" ∧ ¬ r.kind = "while") ∧ ¬ r.kind = "else" ∧ ¬ r.kind = "end" := by
  cases r with
  | copy x a => exact (show (¬ ("copy" : Str) = "if" ∧ ¬ ("copy" : Str) = "while") ∧ ¬ ("copy" : Str) = "else" ∧ ¬ ("copy" : Str) = "end" by decide +kernel)
  | op x s a b => exact (show (¬ ("op" : Str) = "if" ∧ ¬ ("op" : Str) = "while") ∧ ¬ ("op" : Str) = "else" ∧ ¬ ("op" : Str) = "end" by decide +kernel)
  | call x g as => exact (show (¬ ("call" : Str) = "if" ∧ ¬ ("call" : Str) = "while") ∧ ¬ ("call" : Str) = "else" ∧ ¬ ("call" : Str) = "end" by decide +kernel)
  | back a => exact (show (¬ ("back" : Str) = "if" ∧ ¬ ("back" : Str) = "while") ∧ ¬ ("back" : Str) = "else" ∧ ¬ ("back" : Str) = "end" by decide +kernel)
theorem kind_back (r : Row) : (r.isBack = true → r.kind = "back") ∧ (r.isBack = false → ¬ r.kind = "back") := by
  cases r with
  | copy x a => exact ⟨fun h => (by cases h), fun _ => (show ¬ ("copy" : Str) = "back" by decide +kernel)⟩
  | op x s a b => exact ⟨fun h => (by cases h), fun _ => (show ¬ ("op" : Str) = "back" by decide +kernel)⟩
  | call x g as => exact ⟨fun h => (by cases h), fun _ => (show ¬ ("call" : Str) = "back" by decide +kernel)⟩
  | back a => exact ⟨fun _ => rfl, fun h => (by cases h)⟩
section
variable {P : Program} {w : World} {K : PySem.W.Frag} {mg : Str → Option Value} {base : Heap}

/-! ### openers -/
abbrev sOpeners : Stmt := top 11
theorem scOpeners : FnScope ["rows", "opened", "found", "at", "row"] ["rows"] (defScope sOpeners) := ⟨rfl, rfl, rfl, by decide +kernel, rfl, by decide +kernel, by decide +kernel⟩
def spOpeners : Sp := fun vs H Q _ => ∃ a rows, vs = [.ref a] ∧ RowsAt H a rows ∧ ∀ (d : Addr) (H' : Hp), Same H H' → H d = none → H' d = some (.dK []) → Q (.ref d) H'
theorem c_openers (D : DefG K mg "openers" sOpeners) (zE : mg "enumerate" = none) : C8.Cal P w K mg base 1 "openers" spOpeners [] := by
  refine cal_of D scOpeners (fun _ _ _ _ _ _ us hl => match us, hl with | [_], _ => rfl) (fun vs H Q E h => ?_) (fun f0 cdv A outer s H vs Q E hr h => ?_)
  · obtain ⟨a, f, rfl, _⟩ := h
    rfl
  · obtain ⟨a, rows, rfl, ⟨vs, h1, h2, h3⟩, q⟩ := h
    refine ⟨_, pss_cons (ps_set (i := 1) scOpeners.nd rfl (.inl rfl) (pe_lst pa_nil)) <|
      pss_cons (ps_set (i := 2) scOpeners.nd rfl (.inl rfl) pe_dnewK) <|
      pss_cons (ps_for PassesOwn.never rfl (pi_enumT (by rfl) zE (pa_cons (pv 0) pa_nil)) (pg_tup rfl (pgs_cons (pg_name (i := 3) scOpeners.nd rfl (.inl rfl)) (pgs_cons (pg_name (i := 4) scOpeners.nd rfl (.inl rfl)) pgs_nil))) <|
        pss_one <| ps_if (PW.pt (pw_or (pt_cmpR op_eq (pe_ix ix_tup (pv 4) pe_int (fun _ _ => rfl)) pe_str (nomark _)) (pw_or1 (pt_cmpR op_eq (pe_ix ix_tup (pv 4) pe_int (fun _ _ => rfl)) pe_str (nomark _))))) pss_never <|
        pss_one <| ps_if (pt_cmpR op_eq (pe_ix ix_tup (pv 4) pe_int (fun _ _ => rfl)) pe_str (nomark _)) pss_never <|
        pss_one <| ps_if (pt_cmpR op_eq (pe_ix ix_tup (pv 4) pe_int (fun _ _ => rfl)) pe_str (nomark _)) pss_never pss_nil) <|
      pss_one (ps_ret (pv 2)), ?_⟩
    refine ⟨Nat.zero_le _, fun o ho d hd => ?_⟩
    have hd0 : H d = none := (Same.new ho).free hd
    have s0 : Same H (upd (upd H o (.lst [])) d (.dK [])) := (Same.new ho).trans (Same.new hd)
    refine ⟨_, rfl, a, vs, rfl, SqT.of (s0 _ _ h1), for_enumT (K := K) (a := a) (xs := vs) (fun i σ H' => ∃ (b c : Option V), σ = [some (.ref a), some (.ref o), some (.ref d), b, c] ∧ Same H H' ∧ H' d = some (.dK []))
      ⟨none, none, rfl, s0, upd_same⟩ (fun i σ H' ⟨_, _, _, z, _⟩ => SqT.of (z _ _ h1)) ?_ ?_⟩
    · rintro i y T σ H' hi ⟨b, c, rfl, s1, z1⟩ hT
      have hil : i < rows.length := by rw [← h2]; exact (List.getElem?_eq_some_iff.mp hi).1
      have hri : rows[i]? = some rows[i] := List.getElem?_eq_getElem hil
      obtain ⟨p, hp, hrow⟩ := h3 i _ hri
      generalize rows[i] = r at hri hrow
      rw [hi] at hp
      have ey : y = .ref p := Option.some.inj hp
      subst ey
      have sT : Same H' (upd H' T (.tup [.int (i : Nat), .ref p])) := Same.new hT
      obtain ⟨xs, hx⟩ := (hrow.mono (ts_of (s1.trans sT))).tup
      obtain ⟨⟨k1, k2⟩, k3, k4⟩ := kind_ne r
      refine ⟨T, _, rfl, SqT.of upd_same, rfl, _, _, rfl, _, _, rfl, rfl, ?_⟩
      refine rIxEqF rfl (SqT.of hx) rfl k1 (iteF (rIxEqF rfl (SqT.of hx) rfl k2 (iteF ?_)))
      refine rIxEqF rfl (SqT.of hx) rfl k3 (iteF (rIxEqF rfl (SqT.of hx) rfl k4 (iteF ?_)))
      exact ⟨_, _, rfl, s1.trans sT, sT _ _ z1⟩
    · rintro σ H' ⟨b, c, rfl, s1, z1⟩
      exact rv rfl (q d H' s1 hd0 z1)

/-! ### closers -/
abbrev sClosers : Stmt := top 12
theorem scClosers : FnScope ["rows", "opening", "elses", "ends", "at", "begin"] ["rows", "opening"] (defScope sClosers) := ⟨rfl, rfl, rfl, by decide +kernel, rfl, by decide +kernel, by decide +kernel⟩
def spClosers : Sp := fun vs H Q _ => ∃ a o, vs = [.ref a, .ref o] ∧ H o = some (.dK []) ∧ ∀ (t e n : Addr) (H' : Hp), Same H H' → H' t = some (.tup [.ref e, .ref n]) → H' n = some (.dK []) → Q (.ref t) H'
theorem c_closers (D : DefG K mg "closers" sClosers) : C8.Cal P w K mg base 1 "closers" spClosers [] := by
  refine cal_of D scClosers (fun _ _ _ _ _ _ us hl => match us, hl with | [_, _], _ => rfl) (fun vs H Q E h => ?_) (fun f0 cdv A outer s H vs Q E hr h => ?_)
  · obtain ⟨a, f, rfl, _⟩ := h
    rfl
  · obtain ⟨a, o, rfl, h1, q⟩ := h
    refine ⟨_, pss_cons (ps_set (i := 2) scClosers.nd rfl (.inl rfl) pe_dnewK) <|
      pss_cons (ps_set (i := 3) scClosers.nd rfl (.inl rfl) pe_dnewK) <|
      pss_cons (ps_lock (ps_for PassesOwn.never rfl (pi_items (pv 1)) (pg_tup rfl (pgs_cons (pg_name (i := 4) scClosers.nd rfl (.inl rfl)) (pgs_cons (pg_name (i := 5) scClosers.nd rfl (.inl rfl)) pgs_nil))) pss_never)) <|
      pss_one (ps_ret (pe_tup (pa_cons (pv 2) (pa_cons (pv 3) pa_nil)))), ?_⟩
    intro e he n hn
    have s0 : Same H (upd (upd H e (.dK [])) n (.dK [])) := (Same.new he).trans (Same.new hn)
    have h2 := s0 _ _ h1
    generalize hH : upd (upd H e (.dK [])) n (.dK []) = H2 at s0 h2
    have n2 : H2 n = some (.dK []) := by rw [← hH, upd_same]
    refine ⟨o, .dK [], h2, trivial, fun od => ?_⟩
    refine ⟨_, rfl, o, od, [], rfl, upd_same, for_it (walk_items (kvs := [])) (fun i σ H' => σ = [some (.ref a), some (.ref o), some (.ref e), some (.ref n), none, none] ∧ H' = upd H2 o (.frz od (.dK []))) ⟨rfl, rfl⟩ (fun i σ H' _ ⟨_, z⟩ => by rw [z, upd_same]) ?_ ?_⟩
    · intro i x σ H' H'' hi _ _
      exact absurd hi (Nat.not_lt_zero _)
    · rintro σ H' ⟨rfl, rfl⟩
      refine ⟨upd_same, ?_⟩
      rw [upd_upd, upd_self h2]
      refine ⟨_, rfl, _, rfl, le_line (by show 2 ≤ 100000; decide), fun t ht => ?_⟩
      exact q t e n _ (s0.trans (Same.new ht)) upd_same ((Same.new ht) _ _ n2)

/-! ### landing -/
abbrev sLanding : Stmt := top 13
theorem scLanding : FnScope ["rows", "at", "opening", "ends", "begin"] ["rows", "at", "opening", "ends"] (defScope sLanding) := ⟨rfl, rfl, rfl, by decide +kernel, rfl, by decide +kernel, by decide +kernel⟩
def spLanding : Sp := fun vs H Q _ => ∃ (a : Addr) (z : Int) (i : Nat) (rows : List Row) (x y : V), vs = [.ref a, .int z, x, y] ∧ z = (i : Int) ∧ RowsAt H a rows ∧ i < rows.length ∧ Q (.int z) H
theorem c_landing (D : DefG K mg "landing" sLanding) : C8.Cal P w K mg base 1 "landing" spLanding [] := by
  refine cal_of D scLanding (fun _ _ _ _ _ _ us hl => match us, hl with | [_, _, _, _], _ => rfl) (fun vs H Q E h => ?_) (fun f0 cdv A outer s H vs Q E hr h => ?_)
  · obtain ⟨a, z, i, rows, x, y, rfl, _⟩ := h
    rfl
  · obtain ⟨a, z, i, rows, x, y, rfl, rfl, ⟨vs, h1, h2, h3⟩, hlt, q⟩ := h
    refine ⟨_, pss_cons (ps_while PassesOwn.never (PW.pt (pw_or (pt_cmpR op_eq (pe_ix ix_tup (pe_ix ix_tup (pv 0) (pv 1) (fun _ _ => rfl)) pe_int (fun _ _ => rfl)) pe_str (nomark _))
        (pw_or1 (pt_cmpR op_eq (pe_ix ix_tup (pe_ix ix_tup (pv 0) (pv 1) (fun _ _ => rfl)) pe_int (fun _ _ => rfl)) pe_str (nomark _))))) pss_never) <|
      pss_one (ps_ret (pv 1)), ?_⟩
    refine ⟨fun m σ H' => σ = [some (.ref a), some (.int i), some x, some y, none] ∧ H' = H, ⟨0, rfl, rfl⟩, ?_⟩
    rintro m σ H' ⟨rfl, rfl⟩
    obtain ⟨p, hp, hrow⟩ := h3 i _ (List.getElem?_eq_getElem hlt)
    generalize rows[i] = r at hrow
    obtain ⟨xs, hx⟩ := hrow.tup
    obtain ⟨_, k3, k4⟩ := kind_ne r
    have step : ∀ (t : Str) (Q' : Bool → Hp → Prop), ¬ r.kind = t → Q' false H' → tTest (tOp rEq (tOp (rIxT K) (tOp (rIxT K) (tVar 0) (tVar 1)) (tC (.int 0))) (tC (.str t))) [some (.ref a), some (.int i), some x, some y, none] H' Q' := fun t Q' ne q' => by
      refine ⟨_, rfl, _, rfl, a, vs, _, _, rfl, rfl, SqT.of h1, atI_nat hp, p, _, _, _, rfl, rfl, SqT.of hx, atI_nat (j := 0) rfl, rfl, false, ?_, q'⟩
      rw [decide_eq_false fun z => ne (V.str.inj z)]
    refine step _ _ k3 (iteF (step _ _ k4 (iteF ?_)))
    exact rv rfl q

/-! ### ways -/
abbrev sWays : Stmt := top 14
theorem scWays : FnScope ["rows", "opening", "elses", "ends", "found", "at", "row", "beyond", "yes"] ["rows"] (defScope sWays) := ⟨rfl, rfl, rfl, by decide +kernel, rfl, by decide +kernel, by decide +kernel⟩
def spWays : Sp := fun vs H Q _ => ∃ a rows, vs = [.ref a] ∧ RowsAt H a rows ∧ rows.length ≤ 100 ∧ (∀ (i : Nat) (r : Row), rows[i]? = some r → r.isBack = false → i + 1 < rows.length) ∧ ∀ (l : Addr) (H' : Hp), Same H H' → H l = none → FlowAt H' l rows → Q (.ref l) H'
theorem c_ways (D : DefG K mg "ways" sWays) (cO : C8.Cal P w K mg base 1 "openers" spOpeners []) (cC : C8.Cal P w K mg base 1 "closers" spClosers []) (cL : C8.Cal P w K mg base 1 "landing" spLanding []) (zE : mg "enumerate" = none) : C8.Cal P w K mg base 2 "ways" spWays [] := by
  refine cal_of D scWays (fun _ _ _ _ _ _ us hl => match us, hl with | [_], _ => rfl) (fun vs H Q E h => ?_) (fun f0 cdv A outer s H vs Q E hr h => ?_)
  · obtain ⟨a, f, rfl, _⟩ := h
    rfl
  · obtain ⟨a, rows, rfl, hR, hlen, hnb, q⟩ := h
    have hu := hu_of hr
    refine ⟨_, pss_cons (ps_set (i := 1) scWays.nd rfl (.inl rfl) (C8.pe_c cO hr (by decide) rfl (pa_cons (pv 0) pa_nil))) <|
      pss_cons (ps_asg (C8.pe_c cC hr (by decide) rfl (pa_cons (pv 0) (pa_cons (pv 1) pa_nil))) (pg_tup rfl (pgs_cons (pg_name (i := 2) scWays.nd rfl (.inl rfl)) (pgs_cons (pg_name (i := 3) scWays.nd rfl (.inl rfl)) pgs_nil)))) <|
      pss_cons (ps_set (i := 4) scWays.nd rfl (.inl rfl) (pe_lst pa_nil)) <|
      pss_cons (ps_for PassesOwn.never rfl (pi_enumT (by rfl) zE (pa_cons (pv 0) pa_nil)) (pg_tup rfl (pgs_cons (pg_name (i := 5) scWays.nd rfl (.inl rfl)) (pgs_cons (pg_name (i := 6) scWays.nd rfl (.inl rfl)) pgs_nil))) <|
        pss_one <| ps_if (pt_cmp (pc_din hu (pv 5) (pv 1))) pss_never <|
        pss_one <| ps_if (pt_cmpR op_eq (pe_ix ix_tup (pv 6) pe_int (fun _ _ => rfl)) pe_str (nomark _)) (pss_one (ps_expr (pe_bm PySem.F.plainAttrs_list PySem.F.slot_list_append PySem.F.type_list_append mt_append (pv 4) (pa_cons (pe_tup pa_nil) pa_nil)))) <|
        pss_one <| ps_if (pt_cmp (pc_din hu (pv 5) (pv 3))) pss_never <|
        pss_one (ps_expr (pe_bm PySem.F.plainAttrs_list PySem.F.slot_list_append PySem.F.type_list_append mt_append (pv 4) (pa_cons (pe_tup (pa_cons (C8.pe_c cL hr (by decide) rfl (pa_cons (pv 0) (pa_cons (pe_op op_add (pv 5) pe_int) (pa_cons (pv 1) (pa_cons (pv 3) pa_nil))))) pa_nil)) pa_nil)))) <|
      pss_one (ps_ret (pv 4)), ?_⟩
    refine ⟨_, rfl, a, rows, rfl, hR, fun o H1 s1 ho z1 => ?_⟩
    refine ⟨_, rfl, _, rfl, a, o, rfl, z1, fun t e n H2 s2 ht zn => ?_⟩
    refine ⟨t, _, rfl, SqT.of ht, rfl, _, _, rfl, _, _, rfl, rfl, ?_⟩
    refine ⟨Nat.zero_le _, fun fnd hf => ?_⟩
    have sf : Same H2 (upd H2 fnd (.lst [])) := Same.new hf
    have s02 : Same H H2 := s1.trans s2
    have hf0 : H fnd = none := s02.free hf
    have z1' := s2 _ _ z1
    obtain ⟨vs, h1, h2, h3⟩ := hR
    refine ⟨_, rfl, a, vs, rfl, SqT.of (sf _ _ (s02 _ _ h1)), for_enumT (K := K) (a := a) (xs := vs) (fun i σ H' => ∃ (ts : List V) (b c : Option V), σ = [some (.ref a), some (.ref o), some (.ref e), some (.ref n), some (.ref fnd), b, c, none, none] ∧ Same H H' ∧ H' o = some (.dK []) ∧ H' n = some (.dK []) ∧ H' fnd = some (.lst ts) ∧ ts.length = i ∧
        ∀ (j : Nat) (r : Row), j < i → rows[j]? = some r → r.isBack = false → ∃ t, ts[j]? = some (.ref t) ∧ H' t = some (.tup [.int ((j : Int) + 1)]))
      ⟨[], none, none, rfl, s02.trans sf, sf _ _ z1', sf _ _ zn, upd_same, rfl, fun j r hj => absurd hj (Nat.not_lt_zero _)⟩ (fun i σ H' ⟨_, _, _, _, z, _⟩ => SqT.of (z _ _ h1)) ?_ ?_⟩
    · rintro i y T σ H' hi ⟨ts, b, c, rfl, s3, zo, zn, zf, htl, hts⟩ hT
      have hil : i < rows.length := by rw [← h2]; exact (List.getElem?_eq_some_iff.mp hi).1
      have hri : rows[i]? = some rows[i] := List.getElem?_eq_getElem hil
      obtain ⟨p, hp, hrow⟩ := h3 i _ hri
      generalize rows[i] = r at hri hrow
      rw [hi] at hp
      have ey : y = .ref p := Option.some.inj hp
      subst ey
      have sT : Same H' (upd H' T (.tup [.int (i : Nat), .ref p])) := Same.new hT
      have s4 := s3.trans sT
      replace zo := sT _ _ zo
      replace zn := sT _ _ zn
      replace zf := sT _ _ zf
      have hts' : ∀ (j : Nat) (r : Row), j < i → rows[j]? = some r → r.isBack = false → ∃ t, ts[j]? = some (.ref t) ∧ (upd H' T (.tup [.int (i : Nat), .ref p])) t = some (.tup [.int ((j : Int) + 1)]) := fun j r hj h hb => by
        obtain ⟨t, a1, a2⟩ := hts j r hj h hb
        exact ⟨t, a1, sT _ _ a2⟩
      refine ⟨T, _, rfl, SqT.of upd_same, rfl, _, _, rfl, _, _, rfl, rfl, ?_⟩
      clear hts sT s3 hT
      generalize upd H' T (.tup [.int (i : Nat), .ref p]) = H4 at s4 zo zn zf hts'
      obtain ⟨xs, hx⟩ := (hrow.mono (ts_of s4)).tup
      refine ⟨_, rfl, _, rfl, o, _, rfl, DGet.k (k := Sum.inl (i : Int)) zo, false, rfl, iteF ?_⟩
      -- the new tuple t, then the list
      have fin : ∀ (t : Addr) (v : HO), H4 t = none → (r.isBack = false → v = .tup [.int ((i : Int) + 1)]) → ∃ (ts' : List V) (b c : Option V), ([some (.ref a), some (.ref o), some (.ref e), some (.ref n), some (.ref fnd), some (.int (i : Nat)), some (.ref p), none, none] : L2.St) = [some (.ref a), some (.ref o), some (.ref e), some (.ref n), some (.ref fnd), b, c, none, none] ∧ Same H (upd (upd H4 t v) fnd (.lst (ts ++ [.ref t]))) ∧
          (upd (upd H4 t v) fnd (.lst (ts ++ [.ref t]))) o = some (.dK []) ∧ (upd (upd H4 t v) fnd (.lst (ts ++ [.ref t]))) n = some (.dK []) ∧ (upd (upd H4 t v) fnd (.lst (ts ++ [.ref t]))) fnd = some (.lst ts') ∧ ts'.length = i + 1 ∧
          ∀ (j : Nat) (r : Row), j < i + 1 → rows[j]? = some r → r.isBack = false → ∃ t', ts'[j]? = some (.ref t') ∧ (upd (upd H4 t v) fnd (.lst (ts ++ [.ref t]))) t' = some (.tup [.int ((j : Int) + 1)]) := by
        intro t v ht hv
        have nt : t ≠ fnd := fun z => by rw [z, zf] at ht; cases ht
        have sv : Same H4 (upd H4 t v) := Same.new ht
        refine ⟨ts ++ [.ref t], _, _, rfl, fun b u h => ?_, ?_, ?_, upd_same, by simp [htl], fun j r' hj h hb => ?_⟩
        · rw [upd_ne (ne_of_none h hf0)]
          exact sv _ _ (s4 _ _ h)
        · rw [upd_ne (ne_of zo zf (by intro z; cases z))]
          exact sv _ _ zo
        · rw [upd_ne (ne_of zn zf (by intro z; cases z))]
          exact sv _ _ zn
        · by_cases hji : j = i
          · subst hji
            rw [hri] at h
            cases h
            refine ⟨t, by rw [← htl, List.getElem?_concat_length], ?_⟩
            rw [upd_ne nt, upd_same, hv hb]
          · obtain ⟨t', a1, a2⟩ := hts' j r' (by omega) h hb
            refine ⟨t', by rw [List.getElem?_append_left (by omega)]; exact a1, ?_⟩
            rw [upd_ne (ne_of a2 zf (by intro z; cases z))]
            exact sv _ _ a2
      obtain ⟨kb1, kb2⟩ := kind_back r
      cases hb : r.isBack with
      | true =>
        refine rIxEqT rfl (SqT.of hx) rfl (kb1 hb) (iteT ?_)
        refine ⟨_, rfl, .inl ⟨rfl, _, SqL.of zf⟩, Nat.zero_le _, fun t ht => ?_⟩
        refine ⟨fnd, ts, _, rfl, rfl, (Same.new ht) _ _ zf, lt_line (by omega), ?_⟩
        exact fin t _ ht (fun z => by rw [hb] at z; cases z)
      | false =>
        refine rIxEqF rfl (SqT.of hx) rfl (kb2 hb) (iteF ?_)
        refine ⟨_, rfl, _, rfl, n, _, rfl, DGet.k (k := Sum.inl (i : Int)) zn, false, rfl, iteF ?_⟩
        refine ⟨_, rfl, .inl ⟨rfl, _, SqL.of zf⟩, ?_⟩
        refine ⟨_, rfl, _, rfl, _, _, rfl, rfl, _, rfl, _, rfl, a, _, i + 1, rows, _, _, rfl, by simp, ⟨vs, s4 _ _ h1, h2, fun j r h => ?_⟩, hnb i r hri hb, le_line (by show 1 ≤ 100000; decide), fun t ht => ?_⟩
        · obtain ⟨q', a1, a2⟩ := h3 j r h
          exact ⟨q', a1, a2.mono (ts_of s4)⟩
        · refine ⟨fnd, ts, _, rfl, rfl, (Same.new ht) _ _ zf, lt_line (by omega), ?_⟩
          exact fin t _ ht (fun _ => rfl)
    · rintro σ H' ⟨ts, b, c, rfl, s3, zo, zn, zf, htl, hts⟩
      rw [h2] at htl hts
      refine rv rfl (q fnd H' s3 hf0 ⟨ts, zf, htl, fun i r hr' hb => ?_⟩)
      exact hts i r (List.getElem?_eq_some_iff.mp hr').1 hr' hb

/-! ### value -/
abbrev sValue : Stmt := top 17
theorem scValue : FnScope ["sign", "one", "other"] ["sign", "one", "other"] (defScope sValue) := ⟨rfl, rfl, rfl, by decide +kernel, rfl, by decide +kernel, by decide +kernel⟩
def spValue : Sp := fun vs H Q _ => ∃ (sg : Str) (i j : Int), vs = [.str sg, .int i, .int j] ∧ sg ∈ signs ∧ Q (.int (valA sg i j)) H
theorem c_value (D : DefG K mg "value" sValue) {tW : Tok} (mW : mg "WIDE" = some (.int wide tW)) (zI : mg "int" = none) : C8.Cal P w K mg base 1 "value" spValue [] := by
  refine cal_of D scValue (fun _ _ _ _ _ _ us hl => match us, hl with | [_, _, _], _ => rfl) (fun vs H Q E h => ?_) (fun f0 cdv A outer s H vs Q E hr h => ?_)
  · obtain ⟨sg, i, j, rfl, _⟩ := h
    rfl
  · obtain ⟨sg, i, j, rfl, hs, q⟩ := h
    refine ⟨_, pss_cons (ps_if (pt_cmpR op_eq (pv 0) pe_str (nomark _)) (pss_one (ps_ret (pe_op op_mod (pe_op op_add (pv 1) (pv 2)) (pe_glob (v := .int wide) rfl mW ⟨_, rfl⟩)))) pss_nil) <|
      pss_cons (ps_if (pt_cmpR op_eq (pv 0) pe_str (nomark _)) (pss_one (ps_ret (pe_op op_mod (pe_op op_sub (pv 1) (pv 2)) (pe_glob (v := .int wide) rfl mW ⟨_, rfl⟩)))) pss_nil) <|
      pss_cons (ps_if (pt_cmpR op_eq (pv 0) pe_str (nomark _)) pss_never pss_nil) <|
      pss_cons (ps_if (pt_cmpR op_eq (pv 0) pe_str (nomark _)) pss_never pss_nil) <|
      pss_cons (ps_if (pt_cmpR op_eq (pv 0) pe_str (nomark _)) (pss_one (ps_ret (pe_callTy call_int1 (by rfl) zI (by decide +kernel) (pa_cons (pe_cmpR op_lt (pv 1) (pv 2) (nomark _)) pa_nil)))) pss_nil) <|
      pss_cons (ps_if (pt_cmpR op_eq (pv 0) pe_str (nomark _)) pss_never pss_nil) <|
      pss_cons (ps_if (pt_cmpR op_eq (pv 0) pe_str (nomark _)) (pss_one (ps_ret (pe_op op_and (pv 1) (pv 2)))) pss_nil) <|
      pss_never, ?_⟩
    have hs' : sg = "+" ∨ sg = "-" ∨ sg = "<" ∨ sg = "&" := by simpa [signs] using hs
    rcases hs' with rfl | rfl | rfl | rfl
    · refine rEqT rfl rfl (iteT ?_)
      refine ⟨_, rfl, _, rfl, _, _, rfl, rfl, _, _, rfl, rfl, (by show (0 : Int) < wide; decide), ?_⟩
      have e : valA "+" i j = (i + j) % wide := by unfold valA; rw [if_pos rfl]
      rw [e] at q
      exact q
    · refine rEqF rfl (by decide +kernel) (iteF (rEqT rfl rfl (iteT ?_)))
      refine ⟨_, rfl, _, rfl, _, _, rfl, rfl, _, _, rfl, rfl, (by show (0 : Int) < wide; decide), ?_⟩
      have e : valA "-" i j = (i - j) % wide := by unfold valA; rw [if_neg (by decide +kernel), if_pos rfl]
      rw [e] at q
      exact q
    · refine rEqF rfl (by decide +kernel) (iteF (rEqF rfl (by decide +kernel) (iteF (rEqF rfl (by decide +kernel) (iteF (rEqF rfl (by decide +kernel) (iteF (rEqT rfl rfl (iteT ?_)))))))))
      refine ⟨_, rfl, _, rfl, _, _, rfl, rfl, .inr ⟨_, rfl, ?_⟩⟩
      have e : valA "<" i j = (if decide (i < j) = true then 1 else 0) := by
        unfold valA
        rw [if_neg (by decide +kernel), if_neg (by decide +kernel), if_pos rfl]
        by_cases h : i < j
        · rw [if_pos h, decide_eq_true h]
          rfl
        · rw [if_neg h, decide_eq_false h]
          rfl
      rw [e] at q
      exact q
    · refine rEqF rfl (by decide +kernel) (iteF (rEqF rfl (by decide +kernel) (iteF (rEqF rfl (by decide +kernel) (iteF (rEqF rfl (by decide +kernel) (iteF (rEqF rfl (by decide +kernel) (iteF (rEqF rfl (by decide +kernel) (iteF (rEqT rfl rfl (iteT ?_)))))))))))))
      refine ⟨_, rfl, _, rfl, _, _, rfl, rfl, ?_⟩
      have e : valA "&" i j = Builtin.bitAnd i j := by
        unfold valA
        rw [if_neg (by decide +kernel), if_neg (by decide +kernel), if_neg (by decide +kernel)]
      rw [e] at q
      exact q
end
end SG


/-! Walker.__init__, Frame. -/
namespace SG
open PySem PySem.Spec PyProof.Rows L2
/-! ### attributes by name -/
theorem lk_hit {k : Str} {v : V} {r : List (Str × V)} : List.lookup k ((k, v) :: r) = some v := by simp [List.lookup]
theorem lk_miss {k g : Str} {v : V} {r : List (Str × V)} (h : ¬ k = g) : List.lookup k ((g, v) :: r) = List.lookup k r := by
  have q : (k == g) = false := beq_eq_false_iff_ne.mpr h
  simp [List.lookup, q]
theorem pf_hit {k : Str} {v u : V} {r : List (Str × V)} : putF k v ((k, u) :: r) = (k, v) :: r := if_pos rfl
theorem pf_miss {k g : Str} {v u : V} {r : List (Str × V)} (h : ¬ g = k) : putF k v ((g, u) :: r) = (g, u) :: putF k v r := if_neg h
theorem pf_nil {k : Str} {v : V} : putF k v [] = [(k, v)] := rfl
/-- a frame's attributes -/
def frF (nm : Str) (r fl : Addr) (z : Int) (d : Addr) : List (Str × V) := [("owner", .str nm), ("rows", .ref r), ("flow", .ref fl), ("at", .int z), ("now", .ref d)]
theorem fr_owner (nm : Str) (r fl : Addr) (z : Int) (d : Addr) : (frF nm r fl z d).lookup ("owner" : Str) = some (.str nm) := lk_hit
theorem fr_rows (nm : Str) (r fl : Addr) (z : Int) (d : Addr) : (frF nm r fl z d).lookup ("rows" : Str) = some (.ref r) := by
  unfold frF
  rw [lk_miss (by decide +kernel), lk_hit]
theorem fr_flow (nm : Str) (r fl : Addr) (z : Int) (d : Addr) : (frF nm r fl z d).lookup ("flow" : Str) = some (.ref fl) := by
  unfold frF
  rw [lk_miss (by decide +kernel), lk_miss (by decide +kernel), lk_hit]
theorem fr_at (nm : Str) (r fl : Addr) (z : Int) (d : Addr) : (frF nm r fl z d).lookup ("at" : Str) = some (.int z) := by
  unfold frF
  rw [lk_miss (by decide +kernel), lk_miss (by decide +kernel), lk_miss (by decide +kernel), lk_hit]
theorem fr_now (nm : Str) (r fl : Addr) (z : Int) (d : Addr) : (frF nm r fl z d).lookup ("now" : Str) = some (.ref d) := by
  unfold frF
  rw [lk_miss (by decide +kernel), lk_miss (by decide +kernel), lk_miss (by decide +kernel), lk_miss (by decide +kernel), lk_hit]
theorem fr_no (nm : Str) (r fl : Addr) (z : Int) (d : Addr) {m : Str} (h1 : ¬ m = "owner") (h2 : ¬ m = "rows") (h3 : ¬ m = "flow") (h4 : ¬ m = "at") (h5 : ¬ m = "now") : (frF nm r fl z d).lookup m = none := by
  unfold frF
  rw [lk_miss h1, lk_miss h2, lk_miss h3, lk_miss h4, lk_miss h5]
  rfl
theorem fr_put (nm : Str) (r fl : Addr) (z y : Int) (d : Addr) : putF "at" (.int y) (frF nm r fl z d) = frF nm r fl y d := by
  unfold frF
  rw [pf_miss (by decide +kernel), pf_miss (by decide +kernel), pf_miss (by decide +kernel), pf_hit]
/-- the walker's attributes -/
def wF0 (ls ds : Addr) : List (Str × V) := [("sends", .ref ls), ("store", .ref ds), ("made", .int 0), ("result", .non)]
def wF (ls ds : Addr) (res : V) (fd l : Addr) : List (Str × V) := [("sends", .ref ls), ("store", .ref ds), ("made", .int 0), ("result", res), ("functions", .ref fd), ("stack", .ref l)]
theorem w_result (ls ds : Addr) (res : V) (fd l : Addr) : (wF ls ds res fd l).lookup ("result" : Str) = some res := by
  unfold wF
  rw [lk_miss (by decide +kernel), lk_miss (by decide +kernel), lk_miss (by decide +kernel), lk_hit]
theorem w_functions (ls ds : Addr) (res : V) (fd l : Addr) : (wF ls ds res fd l).lookup ("functions" : Str) = some (.ref fd) := by
  unfold wF
  rw [lk_miss (by decide +kernel), lk_miss (by decide +kernel), lk_miss (by decide +kernel), lk_miss (by decide +kernel), lk_hit]
theorem w_stack (ls ds : Addr) (res : V) (fd l : Addr) : (wF ls ds res fd l).lookup ("stack" : Str) = some (.ref l) := by
  unfold wF
  rw [lk_miss (by decide +kernel), lk_miss (by decide +kernel), lk_miss (by decide +kernel), lk_miss (by decide +kernel), lk_miss (by decide +kernel), lk_hit]
theorem w_no (ls ds : Addr) (res : V) (fd l : Addr) {m : Str} (h1 : ¬ m = "sends") (h2 : ¬ m = "store") (h3 : ¬ m = "made") (h4 : ¬ m = "result") (h5 : ¬ m = "functions") (h6 : ¬ m = "stack") : (wF ls ds res fd l).lookup m = none := by
  unfold wF
  rw [lk_miss h1, lk_miss h2, lk_miss h3, lk_miss h4, lk_miss h5, lk_miss h6]
  rfl
theorem w_putR (ls ds : Addr) (res v : V) (fd l : Addr) : putF "result" v (wF ls ds res fd l) = wF ls ds v fd l := by
  unfold wF
  rw [pf_miss (by decide +kernel), pf_miss (by decide +kernel), pf_miss (by decide +kernel), pf_hit]
theorem w_putF (ls ds fd : Addr) : putF ("functions" : Str) (.ref fd) (wF0 ls ds) = ([("sends", .ref ls), ("store", .ref ds), ("made", .int 0), ("result", .non), ("functions", .ref fd)] : List (Str × V)) := by
  unfold wF0
  rw [pf_miss (by decide +kernel), pf_miss (by decide +kernel), pf_miss (by decide +kernel), pf_miss (by decide +kernel), pf_nil]
theorem w_putS (ls ds fd l : Addr) : putF ("stack" : Str) (.ref l) ([("sends", .ref ls), ("store", .ref ds), ("made", .int 0), ("result", .non), ("functions", .ref fd)] : List (Str × V)) = wF ls ds .non fd l := by
  rw [pf_miss (by decide +kernel), pf_miss (by decide +kernel), pf_miss (by decide +kernel), pf_miss (by decide +kernel), pf_miss (by decide +kernel), pf_nil]
  rfl
/-- what is asked of the class Frame, of TextWalker -/
structure TxtF (K : PySem.W.Frag) (C : Addr) : Prop where
  cl : Cls K C
  nO : NoAttr K C "owner"
  nR : NoAttr K C "rows"
  nF : NoAttr K C "flow"
  nA : NoAttr K C "at"
  nN : NoAttr K C "now"
structure TxtW (K : PySem.W.Frag) (C : Addr) : Prop where
  cl : Cls K C
  nSe : NoAttr K C "sends"
  nSt : NoAttr K C "store"
  nM : NoAttr K C "made"
  nR : NoAttr K C "result"
  nF : NoAttr K C "functions"
  nS : NoAttr K C "stack"
/-- kept but for p -/
def But (p : Addr) (H H' : Hp) : Prop := ∀ b o, H b = some o → b ≠ p → H' b = some o
theorem But.upd {H : Hp} {p : Addr} {o : HO} : But p H (upd H p o) := fun b u e n => by
  rw [upd_ne n]
  exact e
theorem But.same {p : Addr} {H H1 H2 : Hp} (a : But p H H1) (s : Same H1 H2) : But p H H2 := fun b o e n => s b o (a b o e n)
theorem But.put {p : Addr} {H H1 : Hp} {o : HO} (a : But p H H1) : But p H (L2.upd H1 p o) := fun b u e n => by
  rw [upd_ne n]
  exact a b u e n
theorem But.new {p q : Addr} {H H1 : Hp} {o : HO} (a : But p H H1) (h : H q = none) : But p H (L2.upd H1 q o) := fun b u e n => by
  rw [upd_ne (ne_of_none e h)]
  exact a b u e n
theorem But.ts {p C dx : Addr} {fs : List (Str × V)} {H H' : Hp} (a : But p H H') (h : H p = some (.ins C dx fs)) : TS_ H H' := fun b xs e => a b _ e (ne_of e h (by intro z; cases z))
theorem But.none {p q : Addr} {H H' : Hp} (a : But p H H') (h : H' q = Option.none) (n : q ≠ p) : H q = Option.none := by
  cases e : H q with
  | none => rfl
  | some o =>
    have := a q o e n
    rw [h] at this
    cases this
section
variable {P : Program} {w : World} {K : PySem.W.Frag} {mg : Str → Option Value} {base : Heap}

/-! ### Walker.__init__ -/
abbrev sWInit : Stmt := inClass (top 18) 0
theorem scWInit : FnScope ["self"] ["self"] (defScope sWInit) := ⟨rfl, rfl, rfl, by decide +kernel, rfl, by decide +kernel, by decide +kernel⟩
def spWInit (C : Addr) : Sp := fun vs H Q _ => ∃ (p dx : Addr), vs = [.ref p] ∧ H p = some (.ins C dx []) ∧ ∀ (l d : Addr) (H' : Hp), But p H H' → H' p = some (.ins C dx (wF0 l d)) → Q .non H'
theorem ok_winit {f C : Addr} {fd : FuncData} (F : Fun K "__init__" "Walker.__init__" sWInit f fd) (T : TxtW K C) : FnOk P w K mg base CX0 1 f fd ["self"] (spWInit C) := by
  refine F.ok scWInit (fun vs H Q E h => ?_) (fun cdv A outer s H vs Q E hr h => ?_)
  · obtain ⟨p, dx, rfl, _⟩ := h
    rfl
  · obtain ⟨p, dx, rfl, hp, k⟩ := h
    refine ⟨_, pss_cons (ps_fld (pv 0) (pe_lst pa_nil) rfl) <| pss_cons (ps_fld (pv 0) pe_dnewK rfl) <| pss_cons (ps_fld (pv 0) pe_int rfl) <| pss_one (ps_fld (pv 0) pe_non rfl), ?_⟩
    refine ⟨Nat.zero_le _, fun l hl => ?_⟩
    have npl : p ≠ l := ne_of_none hp hl
    refine ⟨_, rfl, p, C, dx, [], rfl, (by rw [upd_ne npl]; exact hp), T.cl, T.nSe, (by show 0 < 1000; decide), ?_⟩
    intro d hd
    have npd : p ≠ d := fun z => by rw [← z, upd_same] at hd; cases hd
    have hd0 : H d = none := by
      rw [upd_ne npd.symm] at hd
      exact (Same.new hl).free hd
    refine ⟨_, rfl, p, C, dx, _, rfl, (by rw [upd_ne npd, upd_same]), T.cl, T.nSt, (by show 1 < 1000; decide), ?_⟩
    refine ⟨_, rfl, p, C, dx, _, rfl, upd_same, T.cl, T.nM, (by rw [pf_nil, pf_miss (by decide +kernel), pf_nil]; show 2 < 1000; decide), ?_⟩
    refine ⟨_, rfl, p, C, dx, _, rfl, upd_same, T.cl, T.nR, (by rw [pf_nil, pf_miss (by decide +kernel), pf_nil, pf_miss (by decide +kernel), pf_miss (by decide +kernel), pf_nil]; show 3 < 1000; decide), ?_⟩
    refine k l d _ (fun b o e n => ?_) ?_
    · rw [upd_ne n, upd_ne n, upd_ne n, upd_ne (ne_of_none e hd0), upd_ne n, upd_ne (ne_of_none e hl)]
      exact e
    · have e1 : putF ("store" : Str) (.ref d) (putF ("sends" : Str) (.ref l) []) = ([("sends", .ref l), ("store", .ref d)] : List (Str × V)) := by
        rw [pf_nil, pf_miss (by decide +kernel), pf_nil]
      have e2 : putF ("made" : Str) (.int 0) ([("sends", .ref l), ("store", .ref d)] : List (Str × V)) = ([("sends", .ref l), ("store", .ref d), ("made", .int 0)] : List (Str × V)) := by
        rw [pf_miss (by decide +kernel), pf_miss (by decide +kernel), pf_nil]
      have e3 : putF ("result" : Str) .non ([("sends", .ref l), ("store", .ref d), ("made", .int 0)] : List (Str × V)) = wF0 l d := by
        rw [pf_miss (by decide +kernel), pf_miss (by decide +kernel), pf_miss (by decide +kernel), pf_nil]
        rfl
      rw [upd_same, e1, e2, e3]

/-! ### Frame.__init__ -/
abbrev sFInit : Stmt := inClass (top 19) 0
theorem scFInit : FnScope ["self", "function", "args", "name", "number"] ["self", "function", "args"] (defScope sFInit) := ⟨rfl, rfl, rfl, by decide +kernel, rfl, by decide +kernel, by decide +kernel⟩
/-- what a function must be for its frames -/
structure FnSz (f : Fn) : Prop where
  nb : ∀ (i : Nat) (r : Row), f.rows[i]? = some r → r.isBack = false → i + 1 < f.rows.length
  sz : f.rows.length ≤ 100
  szp : f.ps.length ≤ 10
  sza : ∀ r ∈ f.rows, r.atoms.length ≤ 10
theorem FnOK.small {Pr : List Fn} {f : Fn} (h : FnOK Pr f) : FnSz f := ⟨h.nb, h.sz, h.szp, h.sza⟩
def spFInit (C : Addr) : Sp := fun vs H Q _ => ∃ (p dx a l : Addr) (f : Fn) (args : List Int), vs = [.ref p, .ref a, .ref l] ∧ H p = some (.ins C dx []) ∧ FnAt H a f ∧ FnSz f ∧ H l = some (.lst (args.map V.int)) ∧ f.ps.length = args.length ∧
  ∀ (r d fl : Addr) (H' : Hp), But p H H' → H d = none → H fl = none → H' p = some (.ins C dx (frF f.name r fl 0 d)) → RowsAt H' r f.rows → FlowAt H' fl f.rows → DictIs H' d (initE f args) → Q .non H'
def zeroE (ns : List Str) : EnvF := fun x => if x ∈ ns then some 0 else none
theorem zeroE_snoc (ns : List Str) (x : Str) : zeroE (ns ++ [x]) = setE (zeroE ns) x 0 := by
  funext y
  by_cases h : y = x
  · rw [h, setE_same]
    unfold zeroE
    rw [if_pos (by simp)]
  · rw [setE_ne h]
    unfold zeroE
    by_cases q : y ∈ ns
    · rw [if_pos q, if_pos (by simp [q])]
    · rw [if_neg q, if_neg (by simp [q, h])]
theorem zeroE_has {ns : List Str} {f : Fn} (h : ∀ x, x ∈ ns ↔ f.has x) (args : List Int) : initE f args = foldE (zeroE ns) f.ps args := by
  unfold initE
  congr 1
  funext x
  unfold zeroE
  by_cases q : x ∈ ns
  · rw [if_pos q, if_pos ((h x).mp q)]
  · rw [if_neg q, if_neg (fun z => q ((h x).mpr z))]
theorem foldE_take {ps : List Str} {args : List Int} {i : Nat} {x : Str} {z : Int} (e : EnvF) (h1 : ps[i]? = some x) (h2 : args[i]? = some z) :
    ((ps.zip args).take (i + 1)).foldl (fun e p => setE e p.1 p.2) e = setE (((ps.zip args).take i).foldl (fun e p => setE e p.1 p.2) e) x z := by
  have h : (ps.zip args)[i]? = some (x, z) := by
    rw [List.getElem?_zip_eq_some]
    exact ⟨h1, h2⟩
  rw [take_snoc h, List.foldl_append]
  rfl
theorem int_at {ms : List Int} {j : Nat} {y : V} (h : (ms.map V.int)[j]? = some y) : ∃ x, ms[j]? = some x ∧ y = .int x := by
  rw [List.getElem?_map] at h
  cases e : ms[j]? with
  | none => rw [e] at h; cases h
  | some x => rw [e] at h; exact ⟨x, rfl, (Option.some.inj h).symm⟩
theorem DRep.nil : DRep [] (zeroE []) := ⟨Nat.zero_le _, fun x => rfl, fun kv h => by cases h⟩
theorem ok_finit {f0 C : Addr} {fd : FuncData} (F : Fun K "__init__" "Frame.__init__" sFInit f0 fd) (T : TxtF K C) (cW : C8.Cal P w K mg base 2 "ways" spWays []) (cN : C8.Cal P w K mg base 3 "names_of" spNames []) (zZ : mg "zip" = none) : FnOk P w K mg base CX0 4 f0 fd ["self", "function", "args"] (spFInit C) := by
  refine F.ok scFInit (fun vs H Q E h => ?_) (fun cdv A outer s H vs Q E hr h => ?_)
  · obtain ⟨p, dx, a, l, f, args, rfl, _⟩ := h
    rfl
  · obtain ⟨p, dx, a, l, f, args, rfl, hp, hA, hz, hl, hlen, k⟩ := h
    have hu := hu_of hr
    refine ⟨_, pss_cons (ps_fld (pv 0) (pe_ix ix_tup (pv 1) pe_int (fun _ _ => rfl)) rfl) <|
      pss_cons (ps_fld (pv 0) (pe_ix ix_tup (pv 1) pe_int (fun _ _ => rfl)) rfl) <|
      pss_cons (ps_fld (pv 0) (C8.pe_c cW hr (by decide) rfl (pa_cons (pe_ix ix_tup (pv 1) pe_int (fun _ _ => rfl)) pa_nil)) rfl) <|
      pss_cons (ps_fld (pv 0) pe_int rfl) <|
      pss_cons (ps_fld (pv 0) pe_dnewK rfl) <|
      pss_cons (ps_for PassesOwn.never rfl (pi_list (C8.pe_c cN hr (by decide) rfl (pa_cons (pv 1) pa_nil))) (pg_name (i := 3) scFInit.nd rfl (.inl rfl)) (pss_one (ps_dput hu (pe_fld (pv 0) rfl) (pv 3) pe_int rfl))) <|
      pss_one (ps_for PassesOwn.never rfl (pi_zipM (by rfl) zZ (pa_cons (pe_ix ix_tup (pv 1) pe_int (fun _ _ => rfl)) (pa_cons (pv 2) pa_nil))) (pg_tup rfl (pgs_cons (pg_name (i := 3) scFInit.nd rfl (.inl rfl)) (pgs_cons (pg_name (i := 4) scFInit.nd rfl (.inl rfl)) pgs_nil)))
        (pss_one (ps_dput hu (pe_fld (pv 0) rfl) (pv 3) (pv 4) rfl))), ?_⟩
    obtain ⟨qa, ra, a1, a2, a3⟩ := id hA
    have nap : a ≠ p := ne_of a1 hp (by intro z; cases z)
    have nlp : l ≠ p := ne_of hl hp (by intro z; cases z)
    -- owner, rows
    refine rix rfl (SqT.of a1) rfl ⟨_, rfl, p, C, dx, [], rfl, hp, T.cl, T.nO, (by show 0 < 1000; decide), ?_⟩
    refine rix rfl (SqT.of (But.upd _ _ a1 nap)) rfl ⟨_, rfl, p, C, dx, _, rfl, upd_same, T.cl, T.nR, (by show 1 < 1000; decide), ?_⟩
    have b1 : But p H (upd (upd H p (.ins C dx (putF "owner" (.str f.name) []))) p (.ins C dx (putF "rows" (.ref ra) (putF "owner" (.str f.name) [])))) := But.put But.upd
    -- flow
    refine rix rfl (SqT.of (b1 _ _ a1 nap)) rfl ⟨ra, f.rows, rfl, a3.mono (b1.ts hp), hz.sz, hz.nb, fun fl H1 s1 hfl hF => ?_⟩
    have nflp : fl ≠ p := fun z => by rw [z, upd_same] at hfl; cases hfl
    have hfl0 : H fl = none := b1.none hfl nflp
    have p1 := s1 _ _ (upd_same (H := upd H p (.ins C dx (putF "owner" (.str f.name) []))) (a := p) (o := .ins C dx (putF "rows" (.ref ra) (putF "owner" (.str f.name) []))))
    have b2 : But p H H1 := b1.same s1
    rw [pf_nil, pf_miss (by decide +kernel), pf_nil] at p1
    clear s1 b1 hfl
    refine ⟨_, rfl, p, C, dx, _, rfl, p1, T.cl, T.nF, (by show 2 < 1000; decide), ?_⟩
    rw [pf_miss (by decide +kernel), pf_miss (by decide +kernel), pf_nil]
    -- at
    refine ⟨_, rfl, p, C, dx, _, rfl, upd_same, T.cl, T.nA, (by show 3 < 1000; decide), ?_⟩
    rw [upd_upd, pf_miss (by decide +kernel), pf_miss (by decide +kernel), pf_miss (by decide +kernel), pf_nil]
    -- now
    intro d hd
    have ndp : d ≠ p := fun z => by rw [z, upd_same] at hd; cases hd
    have hd1 : H1 d = none := by
      rw [upd_ne ndp] at hd
      exact hd
    have hd0 : H d = none := b2.none hd1 ndp
    refine ⟨_, rfl, p, C, dx, _, rfl, (by rw [upd_ne ndp.symm, upd_same]), T.cl, T.nN, (by show 4 < 1000; decide), ?_⟩
    rw [pf_miss (by decide +kernel), pf_miss (by decide +kernel), pf_miss (by decide +kernel), pf_miss (by decide +kernel), pf_nil]
    generalize hH2 : upd (upd (upd H1 p (.ins C dx [("owner", .str f.name), ("rows", .ref ra), ("flow", .ref fl), ("at", .int 0)])) d (.dK [])) p (.ins C dx [("owner", .str f.name), ("rows", .ref ra), ("flow", .ref fl), ("at", .int 0), ("now", .ref d)]) = H2
    have p2 : H2 p = some (.ins C dx (frF f.name ra fl 0 d)) := by rw [← hH2, upd_same]; rfl
    have d2 : H2 d = some (.dK []) := by rw [← hH2, upd_ne ndp, upd_same]
    have b3 : But p H H2 := fun b o e n => by
      rw [← hH2, upd_ne n, upd_ne (ne_of_none e hd0), upd_ne n]
      exact b2 b o e n
    have F2 : FlowAt H2 fl f.rows := by
      refine hF.mono (fun b xs e => ?_) fun o e => ?_
      · rw [← hH2, upd_ne (ne_of e p1 (by intro z; cases z)), upd_ne (ne_of_none e hd1), upd_ne (ne_of e p1 (by intro z; cases z))]
        exact e
      · rw [← hH2, upd_ne nflp, upd_ne (ne_of_none e hd1), upd_ne nflp]
        exact e
    clear hH2 hd hd1 p1 b2 hF
    -- names at 0
    refine ⟨_, rfl, a, f, rfl, hA.mono (b3.ts hp), hz.sz, hz.szp, hz.sza, fun nl ns H3 s3 hnl hns hhas hnsl => ?_⟩
    have b4 : But p H H3 := b3.same s3
    have nlp2 : nl ≠ p := fun z => by rw [z, p2] at hnl; cases hnl
    have ndl : nl ≠ d := fun z => by rw [z, d2] at hnl; cases hnl
    have F3 : FlowAt H3 fl f.rows := F2.mono (ts_of s3) fun o e => s3 _ _ e
    have nfd : ∀ {H' : Hp}, FlowAt H' fl f.rows → ∀ kvs, H' d = some (.dK kvs) → fl ≠ d := fun h kvs e => by
      obtain ⟨ts, h1, _⟩ := h
      exact ne_of h1 e (by intro z; cases z)
    refine ⟨nl, rfl, ⟨_, SqL.of hns⟩, for_list (K := K) (a := nl) (xs := ns.map V.str) (fun i σ H' => ∃ (v : Option V) (kvs : List (Key × V)), σ = [some (.ref p), some (.ref a), some (.ref l), v, none] ∧ But p H H' ∧ H' p = some (.ins C dx (frF f.name ra fl 0 d)) ∧ FlowAt H' fl f.rows ∧ H' nl = some (.lst (ns.map V.str)) ∧ H' d = some (.dK kvs) ∧ kvs.length ≤ i ∧ DRep kvs (zeroE (ns.take i)))
      ⟨none, [], rfl, b4, s3 _ _ p2, F3, hns, s3 _ _ d2, Nat.le_refl _, DRep.nil⟩ (fun i σ H' _ ⟨_, _, _, _, _, _, z, _⟩ => SqL.of z) ?_ ?_⟩
    · rintro i y σ H' hi ⟨v, kvs, rfl, b5, p5, F5, z5, d5, hk, hD⟩
      obtain ⟨x, hx, rfl⟩ := str_at hi
      have hil : i < ns.length := (List.getElem?_eq_some_iff.mp hx).1
      refine ⟨_, rfl, p, C, dx, _, _, rfl, p5, T.cl, T.nN, fr_now _ _ _ _ _, _, rfl, d, _, rfl, DPut.k (k := Sum.inr x) d5 (lt_line (by omega)), ?_⟩
      refine ⟨_, putK kvs (Sum.inr x) (.int 0), rfl, b5.new hd0, ?_, ?_, ?_, upd_same, ?_, ?_⟩
      · rw [upd_ne ndp.symm]
        exact p5
      · exact F5.mono (TS_.upd fun xs z => by rw [d5] at z; cases z) fun o e => by rw [upd_ne (nfd F5 _ d5)]; exact e
      · rw [upd_ne ndl]
        exact z5
      · have := length_putK kvs (Sum.inr x : Key) (.int 0)
        omega
      · rw [take_snoc hx, zeroE_snoc]
        exact hD.put 0 (.inr (by omega))
    · rintro σ H' ⟨v, kvs, rfl, b5, p5, F5, z5, d5, hk, hD⟩
      rw [List.length_map] at hk hD
      rw [List.take_length] at hD
      -- the params
      refine rix rfl (SqT.of (b5 _ _ a1 nap)) rfl ?_
      have nqp : qa ≠ p := ne_of a2 hp (by intro z; cases z)
      refine ⟨_, rfl, qa, l, _, _, rfl, SqT.of (b5 _ _ a2 nqp), SqL.of (b5 _ _ hl nlp), for_zipM (K := K) (a := qa) (b := l) (xs := f.ps.map V.str) (ys := args.map V.int) (by simpa using hlen)
        (fun i σ H'' => ∃ (v v' : Option V) (kvs : List (Key × V)), σ = [some (.ref p), some (.ref a), some (.ref l), v, v'] ∧ But p H H'' ∧ H'' p = some (.ins C dx (frF f.name ra fl 0 d)) ∧ FlowAt H'' fl f.rows ∧ H'' d = some (.dK kvs) ∧ kvs.length ≤ 2000 + i ∧ DRep kvs (((f.ps.zip args).take i).foldl (fun e p => setE e p.1 p.2) (zeroE ns)))
        ⟨v, none, kvs, rfl, b5, p5, F5, d5, by omega, hD⟩ (fun i σ H'' ⟨_, _, _, _, b, _⟩ => ⟨SqT.of (b _ _ a2 nqp), SqL.of (b _ _ hl nlp)⟩) ?_ ?_⟩
      · rintro i y1 y2 T0 σ H'' h1 h2 ⟨v, v', kvs, rfl, b6, p6, F6, d6, hk6, hD6⟩ hT
        obtain ⟨x, hx, rfl⟩ := str_at h1
        obtain ⟨z, hz', rfl⟩ := int_at h2
        have hil : i < f.ps.length := (List.getElem?_eq_some_iff.mp hx).1
        have hzp := hz.szp
        have sT : Same H'' (upd H'' T0 (.tup [.str x, .int z])) := Same.new hT
        refine ⟨T0, _, rfl, SqT.of upd_same, rfl, _, _, rfl, _, _, rfl, rfl, ?_⟩
        refine ⟨_, rfl, _, rfl, p, C, dx, _, _, rfl, sT _ _ p6, T.cl, T.nN, fr_now _ _ _ _ _, _, rfl, d, _, rfl, DPut.k (k := Sum.inr x) (sT _ _ d6) (lt_line (by omega)), ?_⟩
        refine ⟨_, _, putK kvs (Sum.inr x) (.int z), rfl, (b6.same sT).new hd0, ?_, ?_, upd_same, ?_, ?_⟩
        · rw [upd_ne ndp.symm]
          exact sT _ _ p6
        · refine (F6.mono (ts_of sT) fun o e => sT _ _ e).mono (TS_.upd fun xs e => by rw [sT _ _ d6] at e; cases e) fun o e => by rw [upd_ne (nfd F6 _ d6)]; exact e
        · have := length_putK kvs (Sum.inr x : Key) (.int z)
          omega
        · rw [foldE_take _ hx hz']
          exact hD6.put z (.inr (by omega))
      · rintro σ H'' ⟨v, v', kvs, rfl, b6, p6, F6, d6, hk6, hD6⟩
        rw [List.length_map] at hD6
        rw [List.take_of_length_le (by rw [List.length_zip]; omega)] at hD6
        refine k ra d fl H'' b6 hd0 hfl0 p6 (a3.mono (b6.ts hp)) F6 ⟨kvs, d6, ?_⟩
        rw [zeroE_has hhas]
        exact hD6
end
end SG


/-! The walker in the heap; worth_of, go_on. -/
namespace SG
open PySem PySem.Spec PyProof.Rows L2

/-- what an owner may own: what may be changed -/
def ownB : HO → Bool
  | .lst _ => true
  | .dK _ => true
  | .ins _ _ _ => true
  | _ => false
structure PF where
  f : Addr
  dx : Addr
  d : Addr
  r : Addr
  fl : Addr
  fr : Fr
def PF.setFr (x : PF) (fr : Fr) : PF := ⟨x.f, x.dx, x.d, x.r, x.fl, fr⟩
structure PFok (CF : Addr) (S : Addr → Prop) (H : Hp) (x : PF) : Prop where
  ob : H x.f = some (.ins CF x.dx (frF x.fr.fn.name x.r x.fl x.fr.at_ x.d))
  rw_ : RowsAt H x.r x.fr.fn.rows
  fw : FlowAt H x.fl x.fr.fn.rows
  dc : DictIs H x.d x.fr.env
  sf : S x.f
  sd : S x.d
  sl : S x.fl
def FunsAt (H : Hp) (fd : Addr) (P : List Fn) : Prop := ∃ kvs, H fd = some (.dK kvs) ∧ ∀ (g : Str) (f : Fn), lookF P g = some f → ∃ a, valV kvs (Sum.inr g : Key) = some (.ref a) ∧ FnAt H a f
structure WIn (C CF : Addr) (P : List Fn) (H : Hp) (p : Addr) (S : Addr → Prop) (dx ls ds fd l : Addr) (xs : List PF) (res : V) : Prop where
  ob : H p = some (.ins C dx (wF ls ds res fd l))
  li : H l = some (.lst (xs.map fun x => V.ref x.f))
  fu : FunsAt H fd P
  ok : ∀ (i : Nat) (x : PF), xs[i]? = some x → PFok CF S H x
  ap : ∀ (i j : Nat) (x y : PF), xs[i]? = some x → xs[j]? = some y → i ≠ j → x.f ≠ y.f ∧ x.d ≠ y.d
  nfd : ∀ (i : Nat) (x : PF), xs[i]? = some x → x.d ≠ fd
  nfl : ∀ (i : Nat) (x : PF), xs[i]? = some x → x.fl ≠ l
  sp : S p
  sl : S l
  sfd : S fd
  sub : ∀ b, S b → ∃ o, H b = some o ∧ ownB o = true
def WalkerAt (C CF : Addr) (P : List Fn) (H : Hp) (p : Addr) (S : Addr → Prop) (st : List Fr) (res : V) : Prop :=
  ∃ (dx ls ds fd l : Addr) (xs : List PF), WIn C CF P H p S dx ls ds fd l xs res ∧ xs.map (·.fr) = st
theorem w_ne_fr {C CF dx dx' ls ds fd l r fl d : Addr} {res : V} {nm : Str} {z : Int} : HO.ins C dx (wF ls ds res fd l) ≠ HO.ins CF dx' (frF nm r fl z d) := fun h => by
  injection h with _ _ h3
  have := congrArg List.length h3
  unfold wF frF at this
  simp at this
/-- kept where S owns, and tuples -/
def KeepS (S : Addr → Prop) (H H' : Hp) : Prop := (∀ b o, H b = some o → S b → H' b = some o) ∧ TS_ H H'
theorem KeepS.of_same {S : Addr → Prop} {H H' : Hp} (s : Same H H') : KeepS S H H' := ⟨fun b o e _ => s b o e, ts_of s⟩
theorem KeepS.trans {S : Addr → Prop} {H H1 H2 : Hp} (a : KeepS S H H1) (b : KeepS S H1 H2) : KeepS S H H2 := ⟨fun c o e s => b.1 c o (a.1 c o e s) s, a.2.trans b.2⟩
theorem DictIs.at {H H' : Hp} {d : Addr} {e : EnvF} (h : DictIs H d e) (k : ∀ o, H d = some o → H' d = some o) : DictIs H' d e := by
  obtain ⟨kvs, h1, h2⟩ := h
  exact ⟨kvs, k _ h1, h2⟩
theorem FunsAt.at {H H' : Hp} {fd : Addr} {P : List Fn} (h : FunsAt H fd P) (t : TS_ H H') (k : ∀ o, H fd = some o → H' fd = some o) : FunsAt H' fd P := by
  obtain ⟨kvs, h1, h2⟩ := h
  refine ⟨kvs, k _ h1, fun g f hf => ?_⟩
  obtain ⟨a, e, z⟩ := h2 g f hf
  exact ⟨a, e, z.mono t⟩
theorem PFok.at {CF : Addr} {S S' : Addr → Prop} {H H' : Hp} {x : PF} (h : PFok CF S H x) (t : TS_ H H') (k1 : ∀ o, H x.f = some o → H' x.f = some o) (k2 : ∀ o, H x.d = some o → H' x.d = some o) (k3 : ∀ o, H x.fl = some o → H' x.fl = some o) (hs : ∀ b, S b → S' b) : PFok CF S' H' x :=
  ⟨k1 _ h.ob, h.rw_.mono t, h.fw.mono t k3, h.dc.at k2, hs _ h.sf, hs _ h.sd, hs _ h.sl⟩
section
variable {C CF : Addr} {P : List Fn} {H H' : Hp} {p : Addr} {S : Addr → Prop} {dx ls ds fd l : Addr} {xs : List PF} {res : V} {st : List Fr}
theorem WIn.keep (h : WIn C CF P H p S dx ls ds fd l xs res) (k : KeepS S H H') : WIn C CF P H' p S dx ls ds fd l xs res where
  ob := k.1 _ _ h.ob h.sp
  li := k.1 _ _ h.li h.sl
  fu := h.fu.at k.2 fun o e => k.1 _ _ e h.sfd
  ok := fun i x hx => have q := h.ok i x hx; q.at k.2 (fun o e => k.1 _ _ e q.sf) (fun o e => k.1 _ _ e q.sd) (fun o e => k.1 _ _ e q.sl) fun _ z => z
  ap := h.ap
  nfd := h.nfd
  nfl := h.nfl
  sp := h.sp
  sl := h.sl
  sfd := h.sfd
  sub := fun b hb => let ⟨o, e, z⟩ := h.sub b hb; ⟨o, k.1 b o e hb, z⟩
theorem WalkerAt.keep (h : WalkerAt C CF P H p S st res) (k : KeepS S H H') : WalkerAt C CF P H' p S st res := by
  obtain ⟨dx, ls, ds, fd, l, xs, w, e⟩ := h
  exact ⟨dx, ls, ds, fd, l, xs, w.keep k, e⟩
theorem WalkerAt.sub (h : WalkerAt C CF P H p S st res) : ∀ b, S b → ∃ o, H b = some o ∧ ownB o = true := by
  obtain ⟨dx, ls, ds, fd, l, xs, w, e⟩ := h
  exact w.sub
theorem set_at {xs : List PF} {i j : Nat} {a x : PF} (h : (xs.set i a)[j]? = some x) : (j = i ∧ x = a) ∨ (j ≠ i ∧ xs[j]? = some x) := by
  by_cases e : j = i
  · subst e
    rw [List.getElem?_set] at h
    simp only [if_true] at h
    split at h
    · exact .inl ⟨rfl, (Option.some.inj h).symm⟩
    · cases h
  · rw [List.getElem?_set_ne (Ne.symm e)] at h
    exact .inr ⟨e, h⟩
theorem map_set_f {xs : List PF} {i : Nat} {x : PF} {fr : Fr} (hx : xs[i]? = some x) : (xs.set i (x.setFr fr)).map (fun x => V.ref x.f) = xs.map fun x => V.ref x.f := by
  rw [List.map_set]
  refine List.ext_getElem? fun j => ?_
  by_cases q : i = j
  · subst q
    have hlt : i < xs.length := (List.getElem?_eq_some_iff.mp hx).1
    rw [List.getElem?_set_self (by simpa using hlt), List.getElem?_map, hx]
    rfl
  · rw [List.getElem?_set_ne q]
/-- frame i's values changed -/
theorem WIn.putEnv (h : WIn C CF P H p S dx ls ds fd l xs res) {i : Nat} {x : PF} (hx : xs[i]? = some x) {kvs : List (Key × V)} {e : EnvF} (hD : DRep kvs e) :
    WIn C CF P (upd H x.d (.dK kvs)) p S dx ls ds fd l (xs.set i (x.setFr ⟨x.fr.fn, x.fr.at_, e⟩)) res := by
  have q := h.ok i x hx
  obtain ⟨k0, hd0, _⟩ := q.dc
  have ts : TS_ H (upd H x.d (.dK kvs)) := TS_.upd fun xs z => by rw [hd0] at z; cases z
  have other : ∀ {b : Addr} {o : HO}, H b = some o → (∀ k, o ≠ .dK k) → (upd H x.d (.dK kvs)) b = some o := fun {b o} e n => by
    rw [upd_ne (ne_of e hd0 (n k0))]
    exact e
  have flk : ∀ {y : Addr} {rows : List Row}, FlowAt H y rows → ∀ o, H y = some o → (upd H x.d (.dK kvs)) y = some o := fun {y rows} hf o e => by
    obtain ⟨ts', e1, _⟩ := hf
    rw [e1] at e
    cases e
    exact other e1 (fun k z => by cases z)
  refine ⟨other h.ob (fun k z => by cases z), ?_, ?_, fun j y hy => ?_, fun j1 j2 y1 y2 h1 h2 hn => ?_, fun j y hy => ?_, fun j y hy => ?_, h.sp, h.sl, h.sfd, fun b hb => ?_⟩
  · rw [map_set_f hx]
    exact other h.li (fun k z => by cases z)
  · exact h.fu.at ts fun o e => by rw [upd_ne (Ne.symm (h.nfd i x hx))]; exact e
  · rcases set_at hy with ⟨_, rfl⟩ | ⟨hne, hy⟩
    · exact ⟨other q.ob (fun k z => by cases z), q.rw_.mono ts, q.fw.mono ts (flk q.fw), ⟨kvs, upd_same, hD⟩, q.sf, q.sd, q.sl⟩
    · have q2 := h.ok j y hy
      refine q2.at ts (fun o e => ?_) (fun o e => ?_) (flk q2.fw) fun _ z => z
      · rw [q2.ob] at e
        cases e
        exact other q2.ob (fun k z => by cases z)
      · rw [upd_ne (h.ap j i y x hy hx hne).2]
        exact e
  · rcases set_at h1 with ⟨e1, rfl⟩ | ⟨n1, h1⟩
    · rcases set_at h2 with ⟨e2, rfl⟩ | ⟨n2, h2⟩
      · exact absurd (e1.trans e2.symm) hn
      · exact h.ap i j2 x y2 hx h2 (Ne.symm n2)
    · rcases set_at h2 with ⟨e2, rfl⟩ | ⟨n2, h2⟩
      · exact h.ap j1 i y1 x h1 hx n1
      · exact h.ap j1 j2 y1 y2 h1 h2 hn
  · rcases set_at hy with ⟨_, rfl⟩ | ⟨hne, hy⟩
    · exact h.nfd i x hx
    · exact h.nfd j y hy
  · rcases set_at hy with ⟨_, rfl⟩ | ⟨hne, hy⟩
    · exact h.nfl i x hx
    · exact h.nfl j y hy
  · by_cases e : b = x.d
    · rw [e]
      exact ⟨_, upd_same, rfl⟩
    · obtain ⟨o, e1, e2⟩ := h.sub b hb
      exact ⟨o, by rw [upd_ne e]; exact e1, e2⟩
/-- frame i goes to another row -/
theorem WIn.putAt (h : WIn C CF P H p S dx ls ds fd l xs res) {i : Nat} {x : PF} (hx : xs[i]? = some x) (k : Nat) :
    WIn C CF P (upd H x.f (.ins CF x.dx (frF x.fr.fn.name x.r x.fl k x.d))) p S dx ls ds fd l (xs.set i (x.setFr ⟨x.fr.fn, k, x.fr.env⟩)) res := by
  have q := h.ok i x hx
  have ts : TS_ H (upd H x.f (.ins CF x.dx (frF x.fr.fn.name x.r x.fl k x.d))) := TS_.upd fun xs z => by rw [q.ob] at z; cases z
  have other : ∀ {b : Addr} {o : HO}, H b = some o → (∀ a c fs, o ≠ .ins a c fs) → (upd H x.f (.ins CF x.dx (frF x.fr.fn.name x.r x.fl k x.d))) b = some o := fun {b o} e n => by
    rw [upd_ne (ne_of e q.ob (n _ _ _))]
    exact e
  have flk : ∀ {y : Addr} {rows : List Row}, FlowAt H y rows → ∀ o, H y = some o → (upd H x.f (.ins CF x.dx (frF x.fr.fn.name x.r x.fl k x.d))) y = some o := fun {y rows} hf o e => by
    obtain ⟨ts', e1, _⟩ := hf
    rw [e1] at e
    cases e
    exact other e1 (fun _ _ _ z => by cases z)
  have dck : ∀ {y : Addr} {e : EnvF}, DictIs H y e → ∀ o, H y = some o → (upd H x.f (.ins CF x.dx (frF x.fr.fn.name x.r x.fl k x.d))) y = some o := fun {y e0} hf o e => by
    obtain ⟨ts', e1, _⟩ := hf
    rw [e1] at e
    cases e
    exact other e1 (fun _ _ _ z => by cases z)
  refine ⟨?_, ?_, ?_, fun j y hy => ?_, fun j1 j2 y1 y2 h1 h2 hn => ?_, fun j y hy => ?_, fun j y hy => ?_, h.sp, h.sl, h.sfd, fun b hb => ?_⟩
  · rw [upd_ne (ne_of h.ob q.ob w_ne_fr)]
    exact h.ob
  · rw [map_set_f hx]
    exact other h.li (fun _ _ _ z => by cases z)
  · obtain ⟨kvs, e1, _⟩ := id h.fu
    exact h.fu.at ts fun o e => by rw [e1] at e; cases e; exact other e1 (fun _ _ _ z => by cases z)
  · rcases set_at hy with ⟨_, rfl⟩ | ⟨hne, hy⟩
    · exact ⟨upd_same, q.rw_.mono ts, q.fw.mono ts (flk q.fw), q.dc.at (dck q.dc), q.sf, q.sd, q.sl⟩
    · have q2 := h.ok j y hy
      refine q2.at ts (fun o e => ?_) (dck q2.dc) (flk q2.fw) fun _ z => z
      rw [upd_ne (h.ap j i y x hy hx hne).1]
      exact e
  · rcases set_at h1 with ⟨e1, rfl⟩ | ⟨n1, h1⟩
    · rcases set_at h2 with ⟨e2, rfl⟩ | ⟨n2, h2⟩
      · exact absurd (e1.trans e2.symm) hn
      · exact h.ap i j2 x y2 hx h2 (Ne.symm n2)
    · rcases set_at h2 with ⟨e2, rfl⟩ | ⟨n2, h2⟩
      · exact h.ap j1 i y1 x h1 hx n1
      · exact h.ap j1 j2 y1 y2 h1 h2 hn
  · rcases set_at hy with ⟨_, rfl⟩ | ⟨hne, hy⟩
    · exact h.nfd i x hx
    · exact h.nfd j y hy
  · rcases set_at hy with ⟨_, rfl⟩ | ⟨hne, hy⟩
    · exact h.nfl i x hx
    · exact h.nfl j y hy
  · by_cases e : b = x.f
    · rw [e]
      exact ⟨_, upd_same, rfl⟩
    · obtain ⟨o, e1, e2⟩ := h.sub b hb
      exact ⟨o, by rw [upd_ne e]; exact e1, e2⟩
/-- the stack's list changed, the frames a part of those that were -/
theorem WIn.putList (h : WIn C CF P H p S dx ls ds fd l xs res) {ys : List PF} {S' : Addr → Prop} (hS : ∀ b, S b → S' b) (hok : ∀ (i : Nat) (x : PF), ys[i]? = some x → PFok CF S' H x)
    (hap : ∀ (i j : Nat) (x y : PF), ys[i]? = some x → ys[j]? = some y → i ≠ j → x.f ≠ y.f ∧ x.d ≠ y.d) (hfd : ∀ (i : Nat) (x : PF), ys[i]? = some x → x.d ≠ fd) (hfl : ∀ (i : Nat) (x : PF), ys[i]? = some x → x.fl ≠ l)
    (hsub : ∀ b, S' b → ∃ o, H b = some o ∧ ownB o = true) : WIn C CF P (upd H l (.lst (ys.map fun x => V.ref x.f))) p S' dx ls ds fd l ys res := by
  have ts : TS_ H (upd H l (.lst (ys.map fun x => V.ref x.f))) := TS_.upd fun xs z => by rw [h.li] at z; cases z
  have other : ∀ {b : Addr} {o : HO}, H b = some o → (∀ k, o ≠ .lst k) → (upd H l (.lst (ys.map fun x => V.ref x.f))) b = some o := fun {b o} e n => by
    rw [upd_ne (ne_of e h.li (n _))]
    exact e
  refine ⟨other h.ob (fun _ z => by cases z), upd_same, ?_, fun j y hy => ?_, hap, hfd, hfl, hS _ h.sp, hS _ h.sl, hS _ h.sfd, fun b hb => ?_⟩
  · obtain ⟨kvs, e1, _⟩ := id h.fu
    exact h.fu.at ts fun o e => by rw [e1] at e; cases e; exact other e1 (fun _ z => by cases z)
  · have q := hok j y hy
    refine q.at ts (fun o e => ?_) (fun o e => ?_) (fun o e => ?_) fun _ z => z
    · rw [q.ob] at e
      cases e
      exact other q.ob (fun _ z => by cases z)
    · obtain ⟨kvs, e1, _⟩ := id q.dc
      rw [e1] at e
      cases e
      exact other e1 (fun _ z => by cases z)
    · rw [upd_ne (hfl j y hy)]
      exact e
  · by_cases e : b = l
    · rw [e]
      exact ⟨_, upd_same, rfl⟩
    · obtain ⟨o, e1, e2⟩ := hsub b hb
      exact ⟨o, by rw [upd_ne e]; exact e1, e2⟩
theorem WIn.push (h : WIn C CF P H p S dx ls ds fd l xs res) {y : PF} (hy : PFok CF (fun b => b = y.f ∨ b = y.d ∨ b = y.fl) H y) (n1 : ¬ S y.f) (n2 : ¬ S y.d) (n3 : ¬ S y.fl) :
    WIn C CF P (upd H l (.lst ((xs ++ [y]).map fun x => V.ref x.f))) p (fun b => S b ∨ b = y.f ∨ b = y.d ∨ b = y.fl) dx ls ds fd l (xs ++ [y]) res := by
  have at_ : ∀ {i : Nat} {x : PF}, (xs ++ [y])[i]? = some x → (i < xs.length ∧ xs[i]? = some x) ∨ (i = xs.length ∧ x = y) := fun {i x} hx => by
    by_cases e : i < xs.length
    · rw [List.getElem?_append_left e] at hx
      exact .inl ⟨e, hx⟩
    · have hl := (List.getElem?_eq_some_iff.mp hx).1
      rw [List.length_append, List.length_singleton] at hl
      have e' : i = xs.length := by omega
      subst e'
      rw [List.getElem?_concat_length] at hx
      exact .inr ⟨rfl, (Option.some.inj hx).symm⟩
  refine h.putList (fun b z => .inl z) (fun i x hx => ?_) (fun i j x1 x2 h1 h2 hn => ?_) (fun i x hx => ?_) (fun i x hx => ?_) fun b hb => ?_
  · rcases at_ hx with ⟨_, hx⟩ | ⟨_, rfl⟩
    · exact (h.ok i x hx).at (TS_.refl _) (fun _ e => e) (fun _ e => e) (fun _ e => e) fun b z => .inl z
    · exact hy.at (TS_.refl _) (fun _ e => e) (fun _ e => e) (fun _ e => e) fun b z => .inr z
  · rcases at_ h1 with ⟨l1, g1⟩ | ⟨l1, g1⟩
    · rcases at_ h2 with ⟨l2, g2⟩ | ⟨l2, g2⟩
      · exact h.ap i j x1 x2 g1 g2 hn
      · rw [g2]
        exact ⟨fun e => n1 (by rw [← e]; exact (h.ok i x1 g1).sf), fun e => n2 (by rw [← e]; exact (h.ok i x1 g1).sd)⟩
    · rw [g1]
      rcases at_ h2 with ⟨l2, g2⟩ | ⟨l2, g2⟩
      · exact ⟨fun e => n1 (by rw [e]; exact (h.ok j x2 g2).sf), fun e => n2 (by rw [e]; exact (h.ok j x2 g2).sd)⟩
      · exact absurd (l1.trans l2.symm) hn
  · rcases at_ hx with ⟨_, hx⟩ | ⟨_, rfl⟩
    · exact h.nfd i x hx
    · exact fun e => n2 (by rw [e]; exact h.sfd)
  · rcases at_ hx with ⟨_, hx⟩ | ⟨_, rfl⟩
    · exact h.nfl i x hx
    · exact fun e => n3 (by rw [e]; exact h.sl)
  · rcases hb with hb | rfl | rfl | rfl
    · exact h.sub b hb
    · exact ⟨_, hy.ob, rfl⟩
    · obtain ⟨kvs, e, _⟩ := hy.dc
      exact ⟨_, e, rfl⟩
    · obtain ⟨ts, e, _⟩ := hy.fw
      exact ⟨_, e, rfl⟩
theorem WIn.pop {x : PF} (h : WIn C CF P H p S dx ls ds fd l (xs ++ [x]) res) : WIn C CF P (upd H l (.lst (xs.map fun x => V.ref x.f))) p S dx ls ds fd l xs res := by
  have up : ∀ {i : Nat} {y : PF}, xs[i]? = some y → (xs ++ [x])[i]? = some y := fun {i y} hy => by
    rw [List.getElem?_append_left (List.getElem?_eq_some_iff.mp hy).1]
    exact hy
  exact h.putList (fun _ z => z) (fun i y hy => h.ok i y (up hy)) (fun i j x1 x2 h1 h2 hn => h.ap i j x1 x2 (up h1) (up h2) hn) (fun i y hy => h.nfd i y (up hy)) (fun i y hy => h.nfl i y (up hy)) h.sub
theorem WIn.putRes (h : WIn C CF P H p S dx ls ds fd l xs res) (v : V) : WIn C CF P (upd H p (.ins C dx (wF ls ds v fd l))) p S dx ls ds fd l xs v := by
  have ts : TS_ H (upd H p (.ins C dx (wF ls ds v fd l))) := TS_.upd fun xs z => by rw [h.ob] at z; cases z
  have other : ∀ {b : Addr} {o : HO}, H b = some o → (∀ a c fs, o ≠ .ins a c fs) → (upd H p (.ins C dx (wF ls ds v fd l))) b = some o := fun {b o} e n => by
    rw [upd_ne (ne_of e h.ob (n _ _ _))]
    exact e
  refine ⟨upd_same, other h.li (fun _ _ _ z => by cases z), ?_, fun j y hy => ?_, h.ap, h.nfd, h.nfl, h.sp, h.sl, h.sfd, fun b hb => ?_⟩
  · obtain ⟨kvs, e1, _⟩ := id h.fu
    exact h.fu.at ts fun o e => by rw [e1] at e; cases e; exact other e1 (fun _ _ _ z => by cases z)
  · have q := h.ok j y hy
    refine q.at ts (fun o e => ?_) (fun o e => ?_) (fun o e => ?_) fun _ z => z
    · rw [upd_ne (ne_of q.ob h.ob (Ne.symm w_ne_fr))]
      exact e
    · obtain ⟨kvs, e1, _⟩ := id q.dc
      rw [e1] at e
      cases e
      exact other e1 (fun _ _ _ z => by cases z)
    · obtain ⟨kvs, e1, _⟩ := id q.fw
      rw [e1] at e
      cases e
      exact other e1 (fun _ _ _ z => by cases z)
  · by_cases e : b = p
    · rw [e]
      exact ⟨_, upd_same, rfl⟩
    · obtain ⟨o, e1, e2⟩ := h.sub b hb
      exact ⟨o, by rw [upd_ne e]; exact e1, e2⟩
end
/-- what a change does: all else is kept, what is owned behind was owned or is new -/
structure Ch (H : Hp) (S : Addr → Prop) (H' : Hp) (S' : Addr → Prop) : Prop where
  kp : ∀ b o, H b = some o → ¬ S b → H' b = some o
  nw : ∀ b, S' b → S b ∨ H b = none
theorem Ch.same {H H' : Hp} {S : Addr → Prop} (s : Same H H') : Ch H S H' S := ⟨fun b o e _ => s b o e, fun _ z => .inl z⟩
theorem Ch.trans {H H1 H2 : Hp} {S S1 S2 : Addr → Prop} (a : Ch H S H1 S1) (b : Ch H1 S1 H2 S2) : Ch H S H2 S2 where
  kp := fun c o e n => b.kp c o (a.kp c o e n) fun z => by
    rcases a.nw c z with q | q
    · exact n q
    · rw [e] at q
      cases q
  nw := fun c z => by
    rcases b.nw c z with q | q
    · exact a.nw c q
    · by_cases s : S c
      · exact .inl s
      · right
        cases e : H c with
        | none => rfl
        | some o =>
          have := a.kp c o e s
          rw [q] at this
          cases this
section
variable {P : Program} {w : World} {K : PySem.W.Frag} {mg : Str → Option Value} {base : Heap}
/-! ### worth_of, go_on -/
abbrev sWorth : Stmt := inClass (top 19) 1
theorem scWorth : FnScope ["self", "atom"] ["self", "atom"] (defScope sWorth) := ⟨rfl, rfl, rfl, by decide +kernel, rfl, by decide +kernel, by decide +kernel⟩
def spWorth (CF : Addr) : Sp := fun vs H Q _ => ∃ (p dx d : Addr) (fs : List (Str × V)) (a : Atom) (e : EnvF), vs = [.ref p, a.v] ∧ H p = some (.ins CF dx fs) ∧ fs.lookup ("now" : Str) = some (.ref d) ∧ DictIs H d e ∧ a.inE e ∧ Q (.int (worth e a)) H
theorem DictIs.get {H : Hp} {d : Addr} {e : EnvF} (h : DictIs H d e) {x : Str} (hx : (e x).isSome = true) : DGet H d (.str x) (some (.int ((e x).getD 0))) := by
  obtain ⟨kvs, h1, h2⟩ := h
  have q := DGet.k (k := (Sum.inr x : Key)) h1
  rw [h2.val x] at q
  cases h3 : e x with
  | none => rw [h3] at hx; cases hx
  | some z => rw [h3] at q; exact q
theorem m_worth {CF : Addr} (T : TxtF K CF) (D : MethG K CF "worth_of" "Frame.worth_of" sWorth) (zI : mg "isinstance" = none) (zS : mg "str" = none) : C8.Met P w K mg base 1 CF "worth_of" (spWorth CF) [] := by
  refine met_of T.cl D scWorth (fun _ _ _ _ _ _ us hl => match us, hl with | [_, _], _ => rfl) (fun vs H Q E h => ?_) (fun f0 cdv A outer s H vs Q E hr h => ?_)
  · obtain ⟨p, dx, d, fs, a, e, rfl, _⟩ := h
    rfl
  · obtain ⟨p, dx, d, fs, a, e, rfl, hp, hn, hD, ha, q⟩ := h
    have hu := hu_of hr
    refine ⟨_, pss_cons (ps_if (pt_val (pe_callB call_isi (by rfl) zI (by decide +kernel) (pa_cons (pv 1) (pa_cons (pe_bltn (v := .ty "str") (by rfl) zS (by decide +kernel) rfl) pa_nil)))) (pss_one (ps_ret (pe_dget hu (pe_fld (pv 0) rfl) (pv 1) (fun _ _ => rfl)))) pss_nil) <|
      pss_one (ps_ret (pv 1)), ?_⟩
    cases a with
    | n k =>
      refine ⟨_, rfl, _, _, _, _, false, rfl, ClsV.ty _, TyX.base (TyOf.int _), kit_ty (by decide +kernel), false, rfl, iteF ?_⟩
      exact rv rfl q
    | x s =>
      refine ⟨_, rfl, _, _, _, _, true, rfl, ClsV.ty _, TyX.base (TyOf.str _), kit_ty (by decide +kernel), true, rfl, iteT ?_⟩
      exact ⟨_, rfl, p, CF, dx, _, _, rfl, hp, T.cl, T.nN, hn, _, rfl, d, _, rfl, hD.get ha, q⟩
abbrev sGo : Stmt := inClass (top 19) 2
theorem scGo : FnScope ["self", "way"] ["self", "way"] (defScope sGo) := ⟨rfl, rfl, rfl, by decide +kernel, rfl, by decide +kernel, by decide +kernel⟩
def spGo (CF : Addr) : Sp := fun vs H Q _ => ∃ (p dx r fl d : Addr) (nm : Str) (k : Nat) (rows : List Row) (rw_ : Row), vs = [.ref p, .int 0] ∧ H p = some (.ins CF dx (frF nm r fl k d)) ∧ FlowAt H fl rows ∧ rows[k]? = some rw_ ∧ rw_.isBack = false ∧ Q .non (upd H p (.ins CF dx (frF nm r fl ((k + 1 : Nat) : Int) d)))
theorem m_go {CF : Addr} (T : TxtF K CF) (D : MethG K CF "go_on" "Frame.go_on" sGo) : C8.Met P w K mg base 1 CF "go_on" (spGo CF) [] := by
  refine met_of T.cl D scGo (fun _ _ _ _ _ _ us hl => match us, hl with | [_, _], _ => rfl) (fun vs H Q E h => ?_) (fun f0 cdv A outer s H vs Q E hr h => ?_)
  · obtain ⟨p, dx, r, fl, d, nm, k, rows, rw_, rfl, _⟩ := h
    rfl
  · obtain ⟨p, dx, r, fl, d, nm, k, rows, rw_, rfl, hp, ⟨ts, f1, f2, f3⟩, hk, hb, q⟩ := h
    refine ⟨_, pss_one (ps_fld (pv 0) (pe_ix ix_tup (pe_ix ix_list (pe_fld (pv 0) rfl) (pe_fld (pv 0) rfl) (fun _ _ => rfl)) (pv 1) (fun _ _ => rfl)) rfl), ?_⟩
    obtain ⟨t, t1, t2⟩ := f3 k rw_ hk hb
    refine ⟨_, rfl, p, CF, dx, _, _, rfl, hp, T.cl, T.nF, fr_flow _ _ _ _ _, _, rfl, p, CF, dx, _, _, rfl, hp, T.cl, T.nA, fr_at _ _ _ _ _, fl, ts, _, _, rfl, rfl, SqL.of f1, atI_nat t1, _, rfl, t, _, _, _, rfl, rfl, SqT.of t2, atI_nat (j := 0) rfl, ?_⟩
    refine ⟨_, rfl, p, CF, dx, _, rfl, hp, T.cl, T.nA, (by show 5 < 1000; decide), ?_⟩
    rw [fr_put]
    exact q
end
end SG


/-! done, gone_back, ended, answer, frames, frame_of, told, fill (where the name is there). -/
namespace SG
open PySem PySem.Spec PyProof.Rows L2
theorem Ch.refl {H : Hp} {S : Addr → Prop} : Ch H S H S := ⟨fun _ _ e _ => e, fun _ z => .inl z⟩
theorem Ch.put {H H1 : Hp} {S S1 : Addr → Prop} {a : Addr} {o : HO} (c : Ch H S H1 S1) (h : S1 a) : Ch H S (upd H1 a o) S1 where
  kp := fun b u e n => by
    rw [upd_ne (fun z => by
      rcases c.nw a h with q | q
      · rw [z] at n; exact n q
      · rw [z, q] at e; cases e)]
    exact c.kp b u e n
  nw := c.nw
theorem Ch.new {H H1 : Hp} {S S1 : Addr → Prop} {a : Addr} {o : HO} (c : Ch H S H1 S1) (h : H1 a = none) : Ch H S (upd H1 a o) S1 where
  kp := fun b u e n => by
    have q := c.kp b u e n
    rw [upd_ne (ne_of_none q h)]
    exact q
  nw := c.nw
theorem Ch.sm {H H1 H2 : Hp} {S S1 : Addr → Prop} (c : Ch H S H1 S1) (s : Same H1 H2) : Ch H S H2 S1 := c.trans (Ch.same s)
/-- a comprehension without a test -/
theorem lcY {σ : L2.St} {H : Hp} {A B : Bool → Hp → Prop} (h : A true H) : tYes σ H (fun b H3 => if b = true then A b H3 else B b H3) := by
  show (if (true : Bool) = true then A true H else B true H)
  rw [if_pos rfl]
  exact h
theorem set_last {α : Type} (xs : List α) (y a : α) : (xs ++ [y]).set xs.length a = xs ++ [a] := by
  rw [List.set_append_right _ _ (Nat.le_refl _), Nat.sub_self]
  rfl
theorem map_snoc {xs : List PF} {st : List Fr} {fr : Fr} (h : xs.map (·.fr) = st ++ [fr]) : ∃ xs0 x, xs = xs0 ++ [x] ∧ xs0.map (·.fr) = st ∧ x.fr = fr := by
  obtain ⟨a, b, e, h1, h2⟩ := List.map_eq_append_iff.mp h
  obtain ⟨x, rfl, h3⟩ := List.map_eq_singleton_iff.mp h2
  exact ⟨a, x, e, h1, h3⟩
/-- what a plain row gives -/
def Row.eff (e : EnvF) : Row → Option (Str × Int)
  | .copy x a => some (x, worth e a)
  | .op x s a b => some (x, valA s (worth e a) (worth e b))
  | _ => none
section
variable {P : Program} {w : World} {K : PySem.W.Frag} {mg : Str → Option Value} {base : Heap}

/-! ### done -/
abbrev sDone : Stmt := inClass (top 20) 6
theorem scDone : FnScope ["self", "frame", "row"] ["self", "frame", "row"] (defScope sDone) := ⟨rfl, rfl, rfl, by decide +kernel, rfl, by decide +kernel, by decide +kernel⟩
def spDone (CF : Addr) : Sp := fun vs H Q _ => ∃ (q f dx d rp : Addr) (fs : List (Str × V)) (r : Row) (e : EnvF) (x : Str) (v : Int), vs = [.ref q, .ref f, .ref rp] ∧ H f = some (.ins CF dx fs) ∧ fs.lookup ("now" : Str) = some (.ref d) ∧ fs.lookup ("worth_of" : Str) = none ∧ DictIs H d e ∧ RowAt H rp r ∧
  (∀ a ∈ r.atoms, a.inE e) ∧ r.eff e = some (x, v) ∧ (e x).isSome = true ∧ (∀ (x s : Str) (a b : Atom), r = .op x s a b → s ∈ signs) ∧ ∀ kvs, DRep kvs (setE e x v) → Q .non (upd H d (.dK kvs))
theorem m_done {C CF : Addr} (TC : Cls K C) (T : TxtF K CF) (D : MethG K C "done" "TextWalker.done" sDone) (cV : C8.Cal P w K mg base 1 "value" spValue []) (mW : C8.Met P w K mg base 1 CF "worth_of" (spWorth CF) []) : C8.Met P w K mg base 2 C "done" (spDone CF) [] := by
  refine met_of TC D scDone (fun _ _ _ _ _ _ us hl => match us, hl with | [_, _, _], _ => rfl) (fun vs H Q E h => ?_) (fun f0 cdv A outer s H vs Q E hr h => ?_)
  · obtain ⟨q, f, dx, d, rp, fs, r, e, x, v, rfl, _⟩ := h
    rfl
  · obtain ⟨q, f, dx, d, rp, fs, r, e, x, v, rfl, hf, hn, hw, hD, hrow, hat, he, hx, hsg, k⟩ := h
    have hu := hu_of hr
    refine ⟨_, pss_cons (ps_if (pt_cmpR op_eq (pe_ix ix_tup (pv 2) pe_int (fun _ _ => rfl)) pe_str (nomark _)) pss_never pss_nil) <|
      pss_cons (ps_if (pt_cmpR op_eq (pe_ix ix_tup (pv 2) pe_int (fun _ _ => rfl)) pe_str (nomark _)) pss_never pss_nil) <|
      pss_cons (ps_if (pt_cmpR op_eq (pe_ix ix_tup (pv 2) pe_int (fun _ _ => rfl)) pe_str (nomark _)) pss_never pss_nil) <|
      pss_cons (ps_if (pt_cmpR op_eq (pe_ix ix_tup (pv 2) pe_int (fun _ _ => rfl)) pe_str (nomark _)) pss_never <|
        pss_one (ps_if (pt_cmpR op_eq (pe_ix ix_tup (pv 2) pe_int (fun _ _ => rfl)) pe_str (nomark _))
          (pss_one (ps_dput hu (pe_fld (pv 1) rfl) (pe_ix ix_tup (pv 2) pe_int (fun _ _ => rfl)) (C8.pe_c cV hr (by decide) rfl (pa_cons (pe_ix ix_tup (pv 2) pe_int (fun _ _ => rfl)) (pa_cons (C8.pe_mt mW hr (by decide) (pv 1) (pa_cons (pe_ix ix_tup (pv 2) pe_int (fun _ _ => rfl)) pa_nil)) (pa_cons (C8.pe_mt mW hr (by decide) (pv 1) (pa_cons (pe_ix ix_tup (pv 2) pe_int (fun _ _ => rfl)) pa_nil)) pa_nil)))) rfl)) <|
          pss_one (ps_dput hu (pe_fld (pv 1) rfl) (pe_ix ix_tup (pv 2) pe_int (fun _ _ => rfl)) (C8.pe_mt mW hr (by decide) (pv 1) (pa_cons (pe_ix ix_tup (pv 2) pe_int (fun _ _ => rfl)) pa_nil)) rfl))) <|
      pss_one (ps_ret pe_non), ?_⟩
    obtain ⟨kvs, d1, d2⟩ := id hD
    cases r with
    | copy x' a =>
      have e1 : (x', worth e a) = (x, v) := Option.some.inj he
      cases e1
      refine rIxEqF rfl (SqT.of hrow) rfl (by decide +kernel) (iteF (rIxEqF rfl (SqT.of hrow) rfl (by decide +kernel) (iteF (rIxEqF rfl (SqT.of hrow) rfl (by decide +kernel) (iteF (rIxEqF rfl (SqT.of hrow) rfl (by decide +kernel) (iteF (rIxEqF rfl (SqT.of hrow) rfl (by decide +kernel) (iteF ?_)))))))))
      refine ⟨_, rfl, f, dx, fs, rfl, hf, hw, rix rfl (SqT.of hrow) rfl ?_⟩
      refine ⟨f, dx, d, fs, a, e, rfl, hf, hn, hD, hat a (by simp [Row.atoms]), ?_⟩
      refine ⟨_, rfl, f, CF, dx, _, _, rfl, hf, T.cl, T.nN, hn, rix rfl (SqT.of hrow) rfl ?_⟩
      refine ⟨d, _, rfl, DPut.k (k := Sum.inr x) d1 (lt_line (by have := d2.len; omega)), ?_⟩
      exact k _ (d2.put _ (.inl hx))
    | op x' sg a b =>
      have e1 : (x', valA sg (worth e a) (worth e b)) = (x, v) := Option.some.inj he
      cases e1
      refine rIxEqF rfl (SqT.of hrow) rfl (by decide +kernel) (iteF (rIxEqF rfl (SqT.of hrow) rfl (by decide +kernel) (iteF (rIxEqF rfl (SqT.of hrow) rfl (by decide +kernel) (iteF (rIxEqF rfl (SqT.of hrow) rfl (by decide +kernel) (iteF (rIxEqT rfl (SqT.of hrow) rfl rfl (iteT ?_)))))))))
      refine rix rfl (SqT.of hrow) rfl ?_
      refine ⟨_, rfl, f, dx, fs, rfl, hf, hw, rix rfl (SqT.of hrow) rfl ?_⟩
      refine ⟨f, dx, d, fs, a, e, rfl, hf, hn, hD, hat a (by simp [Row.atoms]), ?_⟩
      refine ⟨_, rfl, f, dx, fs, rfl, hf, hw, rix rfl (SqT.of hrow) rfl ?_⟩
      refine ⟨f, dx, d, fs, b, e, rfl, hf, hn, hD, hat b (by simp [Row.atoms]), ?_⟩
      refine ⟨sg, _, _, rfl, hsg x sg a b rfl, ?_⟩
      refine ⟨_, rfl, f, CF, dx, _, _, rfl, hf, T.cl, T.nN, hn, rix rfl (SqT.of hrow) rfl ?_⟩
      refine ⟨d, _, rfl, DPut.k (k := Sum.inr x) d1 (lt_line (by have := d2.len; omega)), ?_⟩
      exact k _ (d2.put _ (.inl hx))
    | call x' g as => cases he
    | back a => cases he

/-! ### ended, answer -/
abbrev sEnded : Stmt := inClass (top 18) 1
theorem scEnded : FnScope ["self"] ["self"] (defScope sEnded) := ⟨rfl, rfl, rfl, by decide +kernel, rfl, by decide +kernel, by decide +kernel⟩
def spEnded (C CF : Addr) : Sp := fun vs H Q _ => ∃ (Pr : List Fn), ∃ p S st res, vs = [.ref p] ∧ WalkerAt C CF Pr H p S st res ∧ Q (.bl (!decide (res = .non))) H
theorem m_ended {C CF : Addr} (T : TxtW K C) (D : MethG K C "ended" "Walker.ended" sEnded) : C8.Met P w K mg base 1 C "ended" (spEnded C CF) [] := by
  refine met_of T.cl D scEnded (fun _ _ _ _ _ _ us hl => match us, hl with | [_], _ => rfl) (fun vs H Q E h => ?_) (fun f0 cdv A outer s H vs Q E hr h => ?_)
  · obtain ⟨Pr, p, S, st, res, rfl, _⟩ := h
    rfl
  · obtain ⟨Pr, p, S, st, res, rfl, ⟨dx, ls, ds, fd, l, xs, W, e⟩, k⟩ := h
    refine ⟨_, pss_one (ps_ret (pe_cmp (pc_notN (pe_fld (pv 0) rfl)))), ?_⟩
    exact ⟨_, rfl, p, C, dx, _, _, rfl, W.ob, T.cl, T.nR, w_result _ _ _ _ _, k⟩
abbrev sAnswer : Stmt := inClass (top 18) 2
theorem scAnswer : FnScope ["self"] ["self"] (defScope sAnswer) := ⟨rfl, rfl, rfl, by decide +kernel, rfl, by decide +kernel, by decide +kernel⟩
def spAnswer (C CF : Addr) : Sp := fun vs H Q _ => ∃ (Pr : List Fn), ∃ p S st res, vs = [.ref p] ∧ WalkerAt C CF Pr H p S st res ∧ Q res H
theorem m_answer {C CF : Addr} (T : TxtW K C) (D : MethG K C "answer" "Walker.answer" sAnswer) : C8.Met P w K mg base 1 C "answer" (spAnswer C CF) [] := by
  refine met_of T.cl D scAnswer (fun _ _ _ _ _ _ us hl => match us, hl with | [_], _ => rfl) (fun vs H Q E h => ?_) (fun f0 cdv A outer s H vs Q E hr h => ?_)
  · obtain ⟨Pr, p, S, st, res, rfl, _⟩ := h
    rfl
  · obtain ⟨Pr, p, S, st, res, rfl, ⟨dx, ls, ds, fd, l, xs, W, e⟩, k⟩ := h
    refine ⟨_, pss_one (ps_ret (pe_fld (pv 0) rfl)), ?_⟩
    exact ⟨_, rfl, p, C, dx, _, _, rfl, W.ob, T.cl, T.nR, w_result _ _ _ _ _, k⟩

/-! ### gone_back -/
abbrev sBack : Stmt := inClass (top 20) 7
theorem scBack : FnScope ["self", "number", "frame"] ["self", "number"] (defScope sBack) := ⟨rfl, rfl, rfl, by decide +kernel, rfl, by decide +kernel, by decide +kernel⟩
def endV (st : List Fr) (v : Int) : V := match st with
  | [] => .int v
  | _ => .non
theorem endV_snoc (st : List Fr) (fr : Fr) (v : Int) : endV (st ++ [fr]) v = .non := by
  cases st <;> rfl
def spBack (C CF : Addr) : Sp := fun vs H Q _ => ∃ (Pr : List Fn), ∃ p S st fr v, vs = [.ref p, .int v] ∧ WalkerAt C CF Pr H p S (st ++ [fr]) .non ∧ StOK Pr (st ++ [fr]) ∧ ∀ H', Ch H S H' S → WalkerAt C CF Pr H' p S (popA st v) (endV st v) → Q .non H'
theorem m_back {C CF : Addr} (T : TxtW K C) (TF : TxtF K CF) (D : MethG K C "gone_back" "TextWalker.gone_back" sBack) (mGo : C8.Met P w K mg base 1 CF "go_on" (spGo CF) []) : C8.Met P w K mg base 2 C "gone_back" (spBack C CF) [] := by
  refine met_of T.cl D scBack (fun _ _ _ _ _ _ us hl => match us, hl with | [_, _], _ => rfl) (fun vs H Q E h => ?_) (fun f0 cdv A outer s H vs Q E hr h => ?_)
  · obtain ⟨Pr, p, S, st, fr, v, rfl, _⟩ := h
    rfl
  · obtain ⟨Pr, p, S, st, fr, v, rfl, ⟨dx, ls, ds, fd, l, xs, W, e⟩, hst, k⟩ := h
    have hu := hu_of hr
    refine ⟨_, pss_cons (ps_expr (pe_bm0 PySem.F.plainAttrs_list PySem.F.slot_list_pop PySem.F.type_list_pop mt_pop (pe_fld (pv 0) rfl))) <|
      pss_cons (ps_if (pt_cmpR (op_eqNil hr.units0) (pe_fld (pv 0) rfl) (pe_lst pa_nil) (nomark _)) (pss_cons (ps_fld (pv 0) (pv 1) rfl) <| pss_one (ps_ret pe_non)) pss_nil) <|
      pss_cons (ps_set (i := 2) scBack.nd rfl (.inl rfl) (pe_ix ix_list (pe_fld (pv 0) rfl) (pe_un un_neg pe_int) (fun _ _ => rfl))) <|
      pss_cons (ps_dput hu (pe_fld (pv 2) rfl) (pe_ix ix_tup (pe_ix ix_tup (pe_fld (pv 2) rfl) (pe_fld (pv 2) rfl) (fun _ _ => rfl)) pe_int (fun _ _ => rfl)) (pv 1) rfl) <|
      pss_cons (ps_expr (C8.pe_mt mGo hr (by decide) (pv 2) (pa_cons pe_int pa_nil))) <|
      pss_one (ps_ret pe_non), ?_⟩
    obtain ⟨xs0, x, rfl, e0, ex⟩ := map_snoc e
    have elist : (xs0 ++ [x]).map (fun x => V.ref x.f) = xs0.map (fun x => V.ref x.f) ++ [V.ref x.f] := by rw [List.map_append]; rfl
    -- pop
    refine ⟨_, rfl, p, C, dx, _, _, rfl, W.ob, T.cl, T.nS, w_stack _ _ _ _ _, .inl ⟨rfl, _, SqL.of W.li⟩, l, _, .ref x.f, rfl, rfl, W.li, ?_, ?_⟩
    · rw [elist, List.length_append, List.length_singleton, Nat.add_sub_cancel, List.getElem?_concat_length]
    rw [elist, List.dropLast_concat]
    have W1 := W.pop
    have c1 : Ch H S (upd H l (.lst (xs0.map fun x => V.ref x.f))) S := Ch.refl.put W.sl
    generalize upd H l (.lst (xs0.map fun x => V.ref x.f)) = H1 at W1 c1
    -- is it empty
    refine ⟨_, rfl, p, C, dx, _, _, rfl, W1.ob, T.cl, T.nS, w_stack _ _ _ _ _, Nat.zero_le _, fun b hb => ?_⟩
    have W2 := W1.keep (KeepS.of_same (Same.new (o := .lst []) hb))
    have c2 : Ch H S (upd H1 b (.lst [])) S := c1.new hb
    refine ⟨l, b, _, rfl, rfl, SqL.of W2.li, SqL.of upd_same, _, rfl, ?_⟩
    generalize upd H1 b (.lst []) = H2 at W2 c2
    clear W1 c1 hb
    rcases List.eq_nil_or_concat xs0 with e1 | ⟨xs1, y, e1⟩
    · subst e1
      have est : st = [] := by rw [← e0]; rfl
      subst est
      refine iteT ⟨_, rfl, _, rfl, p, C, dx, _, rfl, W2.ob, T.cl, T.nR, (by show 6 < 1000; decide), ?_⟩
      rw [w_putR]
      refine k _ (c2.put W.sp) ⟨dx, ls, ds, fd, l, [], W2.putRes (.int v), rfl⟩
    · have e1 : xs0 = xs1 ++ [y] := by simpa using e1
      subst e1
      have est : st = xs1.map (·.fr) ++ [y.fr] := by rw [← e0, List.map_append]; rfl
      subst est
      have elist1 : (xs1 ++ [y]).map (fun x => V.ref x.f) = xs1.map (fun x => V.ref x.f) ++ [V.ref y.f] := by rw [List.map_append]; rfl
      have eemp : ((xs1 ++ [y]).map fun x => V.ref x.f).isEmpty = false := by rw [elist1]; simp
      rw [eemp]
      refine iteF ?_
      have hy : (xs1 ++ [y])[xs1.length]? = some y := List.getElem?_concat_length
      have q := W2.ok xs1.length y hy
      obtain ⟨r, hr1, hr2⟩ := hst.ca xs1.length y.fr (by simp) (by rw [List.getElem?_append_left (by simp)]; rw [List.getElem?_append_right (by simp)]; simp)
      have hfy := hst.init.last
      cases r with
      | call cx cg cas =>
        have hm : Row.call cx cg cas ∈ y.fr.fn.rows := by
          unfold Fr.row at hr1
          exact List.mem_of_getElem? hr1
        have hin : (y.fr.env cx).isSome = true := hfy.give hm rfl
        obtain ⟨kvs, d1, d2⟩ := id q.dc
        obtain ⟨rvs, r1, r2, r3⟩ := id q.rw_
        obtain ⟨rp, r4, z, r5, r6⟩ := r3 y.fr.at_ _ hr1
        refine ⟨_, rfl, p, C, dx, _, _, rfl, W2.ob, T.cl, T.nS, w_stack _ _ _ _ _, 1, rfl, l, _, _, _, rfl, rfl, SqL.of W2.li, (by rw [elist1]; exact atI_last _ _), ?_⟩
        refine ⟨_, rfl, _, rfl, y.f, CF, y.dx, _, _, rfl, q.ob, TF.cl, TF.nN, fr_now _ _ _ _ _, ?_⟩
        refine ⟨_, rfl, y.f, CF, y.dx, _, _, rfl, q.ob, TF.cl, TF.nR, fr_rows _ _ _ _ _, _, rfl, y.f, CF, y.dx, _, _, rfl, q.ob, TF.cl, TF.nA, fr_at _ _ _ _ _, y.r, rvs, _, _, rfl, rfl, SqT.of r1, atI_nat r4, rp, _, _, _, rfl, rfl, SqT.of r5, atI_nat (j := 1) rfl, ?_⟩
        refine ⟨y.d, _, rfl, DPut.k (k := Sum.inr cx) d1 (lt_line (by have := d2.len; omega)), ?_⟩
        have W3 := W2.putEnv hy (d2.put v (.inl hin))
        have c3 : Ch H S (upd H2 y.d (.dK (putK kvs (Sum.inr cx) (.int v)))) S := c2.put q.sd
        generalize upd H2 y.d (.dK (putK kvs (Sum.inr cx) (.int v))) = H3 at W3 c3
        have hy3 : ((xs1 ++ [y]).set xs1.length (y.setFr ⟨y.fr.fn, y.fr.at_, setE y.fr.env cx v⟩))[xs1.length]? = some (y.setFr ⟨y.fr.fn, y.fr.at_, setE y.fr.env cx v⟩) := by
          rw [set_last]
          exact List.getElem?_concat_length
        have q3 := W3.ok _ _ hy3
        have W4 := W3.putAt hy3 (y.fr.at_ + 1)
        refine ⟨_, rfl, y.f, y.dx, _, rfl, q3.ob, fr_no _ _ _ _ _ (by decide +kernel) (by decide +kernel) (by decide +kernel) (by decide +kernel) (by decide +kernel), ?_⟩
        refine ⟨y.f, y.dx, y.r, y.fl, y.d, y.fr.fn.name, y.fr.at_, y.fr.fn.rows, _, rfl, q3.ob, q3.fw, hr1, rfl, ?_⟩
        refine k _ (c3.put q.sf) ?_
        rw [popA_snoc, endV_snoc, got_of hr1 rfl]
        refine ⟨dx, ls, ds, fd, l, _, W4, ?_⟩
        rw [set_last, set_last, List.map_append]
        rfl
      | _ => cases hr2

/-! ### frames -/
abbrev sFrames : Stmt := inClass (top 20) 1
theorem scFrames : FnScope ["self", "frame"] ["self"] (defScope sFrames) := ⟨rfl, rfl, rfl, by decide +kernel, rfl, by decide +kernel, by decide +kernel⟩
def spFrames (C CF : Addr) : Sp := fun vs H Q _ => ∃ (Pr : List Fn), ∃ p S st res, vs = [.ref p] ∧ WalkerAt C CF Pr H p S st res ∧ st.length ≤ 1000 ∧ ∀ (D : Addr) (ts : List Addr) (H' : Hp), Same H H' → H D = none → H' D = some (.lst (ts.map V.ref)) → ts.length = st.length →
  (∀ (i : Nat) (t : Addr) (fr : Fr), ts[i]? = some t → st[i]? = some fr → H' t = some (.tup [.str fr.fn.name, .int fr.at_])) → Q (.ref D) H'
theorem m_frames {C CF : Addr} (T : TxtW K C) (TF : TxtF K CF) (D : MethG K C "frames" "TextWalker.frames" sFrames) : C8.Met P w K mg base 1 C "frames" (spFrames C CF) [] := by
  refine met_of T.cl D scFrames (fun _ _ _ _ _ _ us hl => match us, hl with | [_], _ => rfl) (fun vs H Q E h => ?_) (fun f0 cdv A outer s H vs Q E hr h => ?_)
  · obtain ⟨Pr, p, S, st, res, rfl, _⟩ := h
    rfl
  · obtain ⟨Pr, p, S, st, res, rfl, ⟨dx, ls, ds, fd, l, xs, W, e⟩, hlen, k⟩ := h
    refine ⟨_, pss_one (ps_ret (pe_lc (own := [("frame", 1)]) (g := gName 1) (tt := tYes) (te := tTup (tCons (tFld K (tVar 1) "owner") (tCons (tFld K (tVar 1) "at") tNil))) (by rfl) scFrames.nd (pi_list (pe_fld (pv 0) rfl)) (blkOk_by (own := [("frame", 1)]) (N := ["self", "frame"]) (sc := defScope sFrames) (by decide +kernel))
      (fun _ _ _ _ _ => pg_name (i := 1) scFrames.nd rfl (Or.inl rfl)) (fun _ _ _ _ _ => pts_nil) (fun _ _ _ _ _ => pe_tup (pa_cons (pe_fld (pv 1) rfl) (pa_cons (pe_fld (pv 1) rfl) pa_nil))))), ?_⟩
    have exl : xs.length = st.length := by rw [← e, List.length_map]
    refine ⟨_, rfl, p, C, dx, _, _, rfl, W.ob, T.cl, T.nS, w_stack _ _ _ _ _, l, rfl, ⟨_, SqL.of W.li⟩, fun D hD => lc_list (K := K) (a := l) (xs := xs.map fun x => V.ref x.f) (fun i H' => ∃ ts : List Addr, Same H H' ∧ H' D = some (.lst (ts.map V.ref)) ∧ ts.length = i ∧ ∀ (j : Nat) (t : Addr) (x : PF), ts[j]? = some t → xs[j]? = some x → H' t = some (.tup [.str x.fr.fn.name, .int x.fr.at_]))
      ⟨[], Same.new hD, upd_same, rfl, fun j t x h => by cases h⟩ (fun i H' _ ⟨_, z, _⟩ => SqL.of (z _ _ W.li)) ?_ ?_⟩
    · rintro i y H' hi ⟨ts, s1, zD, htl, hts⟩
      obtain ⟨x, hx, rfl⟩ : ∃ x, xs[i]? = some x ∧ V.ref x.f = y := by
        rw [List.getElem?_map] at hi
        cases e : xs[i]? with
        | none => rw [e] at hi; cases hi
        | some x => rw [e] at hi; exact ⟨x, rfl, Option.some.inj hi⟩
      have hil : i < xs.length := (List.getElem?_eq_some_iff.mp hx).1
      have q := W.ok i x hx
      have qo := s1 _ _ q.ob
      refine ⟨rfl, lcY ?_⟩
      refine ⟨_, rfl, x.f, CF, x.dx, _, _, rfl, qo, TF.cl, TF.nO, fr_owner _ _ _ _ _, _, rfl, x.f, CF, x.dx, _, _, rfl, qo, TF.cl, TF.nA, fr_at _ _ _ _ _, le_line (by show 2 ≤ 100000; decide), fun t ht => ?_⟩
      have ntD : D ≠ t := ne_of_none zD ht
      refine ⟨_, (Same.new ht) _ _ zD, lt_line (by rw [List.length_map]; omega), ?_⟩
      refine ⟨ts ++ [t], fun b o h => ?_, ?_, ?_, fun j t' x' h1 h2 => ?_⟩
      · rw [upd_ne (ne_of_none h hD)]
        exact (Same.new ht) _ _ (s1 _ _ h)
      · rw [upd_same, List.map_append]
        rfl
      · rw [List.length_append, List.length_singleton, htl]
      · by_cases hj : j < ts.length
        · rw [List.getElem?_append_left hj] at h1
          have z := hts j t' x' h1 h2
          rw [upd_ne (ne_of z zD (by intro z; cases z))]
          exact (Same.new ht) _ _ z
        · have hjl := (List.getElem?_eq_some_iff.mp h1).1
          rw [List.length_append, List.length_singleton] at hjl
          have ej : j = ts.length := by omega
          subst ej
          rw [List.getElem?_concat_length] at h1
          cases h1
          rw [htl, hx] at h2
          cases h2
          rw [upd_ne ntD.symm, upd_same]
    · rintro H' ⟨ts, s1, zD, htl, hts⟩
      rw [List.length_map] at htl
      refine k D ts H' s1 hD zD (by omega) fun i t fr h1 h2 => ?_
      rw [← e, List.getElem?_map] at h2
      cases h3 : xs[i]? with
      | none => rw [h3] at h2; cases h2
      | some x =>
        rw [h3] at h2
        have e3 : x.fr = fr := Option.some.inj h2
        rw [← e3]
        exact hts i t x h1 h3
end
end SG


/-! frame_of, told, fill; advance, step; TextWalker.__init__. -/
namespace SG
open PySem PySem.Spec PyProof.Rows L2
/-- a level or a name that is not there -/
def BadAt (st : List Fr) (z : Int) (x : Str) : Prop := z < 0 ∨ (st.length : Int) ≤ z ∨ ∃ (i : Nat) (fr : Fr), z = (i : Int) ∧ st[i]? = some fr ∧ fr.env x = none
theorem DictIs.getN {H : Hp} {d : Addr} {e : EnvF} (h : DictIs H d e) {x : Str} (hx : e x = none) : DGet H d (.str x) none := by
  obtain ⟨kvs, h1, h2⟩ := h
  have q := DGet.k (k := (Sum.inr x : Key)) h1
  rw [h2.val x, hx] at q
  exact q
section
variable {P : Program} {w : World} {K : PySem.W.Frag} {mg : Str → Option Value} {base : Heap}
/-- a method that may raise -/
structure MetX (P : Program) (w : World) (K : PySem.W.Frag) (mg : Str → Option Value) (base : Heap) (k : Nat) (C : Addr) (m : Str) (sp : Sp) : Prop where
  ex : ∃ (f : Addr) (fd : FuncData) (ps : List Str), Cls K C ∧ Meth K C m f ∧ FnOk P w K mg base (L2.CX P w) k f fd ps sp ∧ Binds K fd ps []
/-- what is asked of NoName, so that it may be raised -/
structure TxtN (K : PySem.W.Frag) (mg : Str → Option Value) (CN : Addr) : Prop where
  g : mg "NoName" = some (.ref CN)
  x : PySem.W.excIn K CN [.type "ValueError", .type "Exception", .type "BaseException", .type "object"] "ValueError.__new__" = true
  k : PySem.W.keepIn K (.ref CN) = true
  b : PySem.W.subIn K (.ref CN) (.type "BaseException") = some true
  t : PySem.W.typeIn K (.ref CN) = some (.type "type")

/-! ### frame_of -/
abbrev sFrameOf : Stmt := inClass (top 20) 2
theorem scFrameOf : FnScope ["self", "level", "name"] ["self", "level", "name"] (defScope sFrameOf) := ⟨rfl, rfl, rfl, by decide +kernel, rfl, by decide +kernel, by decide +kernel⟩
def spFrameOf (C CF : Addr) : Sp := fun vs H Q _ => ∃ (Pr : List Fn), ∃ (p : Addr) (S : Addr → Prop) (dx ls ds fd l : Addr) (xs : List PF) (res : V) (i : Nat) (y : PF) (x : Str), vs = [.ref p, .int (i : Int), .str x] ∧ WIn C CF Pr H p S dx ls ds fd l xs res ∧ xs[i]? = some y ∧ (y.fr.env x).isSome = true ∧ Q (.ref y.f) H
theorem m_frameof {C CF : Addr} (T : TxtW K C) (TF : TxtF K CF) (D : MethG K C "frame_of" "TextWalker.frame_of" sFrameOf) (zL : mg "len" = none) : C8.Met P w K mg base 1 C "frame_of" (spFrameOf C CF) [] := by
  refine met_of T.cl D scFrameOf (fun _ _ _ _ _ _ us hl => match us, hl with | [_, _, _], _ => rfl) (fun vs H Q E h => ?_) (fun f0 cdv A outer s H vs Q E hr h => ?_)
  · obtain ⟨Pr, p, S, dx, ls, ds, fd, l, xs, res, i, y, x, rfl, _⟩ := h
    rfl
  · obtain ⟨Pr, p, S, dx, ls, ds, fd, l, xs, res, i, y, x, rfl, W, hy, hx, k⟩ := h
    have hu := hu_of hr
    refine ⟨_, pss_cons (ps_if (PW.pt (pw_or (pt_cmpR op_lt (pv 1) pe_int (nomark _)) (pw_or1 (pt_cmpR op_ge (pv 1) (pe_callB call_len_seq (by rfl) zL PySem.boot_len (pa_cons (pe_fld (pv 0) rfl) pa_nil)) (nomark _))))) pss_never pss_nil) <|
      pss_cons (ps_if (pt_cmp (pc_dnotin hu (pv 2) (pe_fld (pe_ix ix_list (pe_fld (pv 0) rfl) (pv 1) (fun _ _ => rfl)) rfl))) pss_never pss_nil) <|
      pss_one (ps_ret (pe_ix ix_list (pe_fld (pv 0) rfl) (pv 1) (fun _ _ => rfl))), ?_⟩
    have hlt : i < xs.length := (List.getElem?_eq_some_iff.mp hy).1
    have q := W.ok i y hy
    have hyl : (xs.map fun x => V.ref x.f)[i]? = some (.ref y.f) := by rw [List.getElem?_map, hy]; rfl
    refine ⟨_, rfl, _, _, rfl, rfl, false, congrArg V.bl (decide_eq_false (by omega)), iteF ?_⟩
    refine ⟨_, rfl, _, rfl, p, C, dx, _, _, rfl, W.ob, T.cl, T.nS, w_stack _ _ _ _ _, l, _, rfl, .inl (SqL.of W.li), _, _, rfl, rfl, false, congrArg V.bl (decide_eq_false (by rw [List.length_map]; omega)), iteF ?_⟩
    refine ⟨_, rfl, _, rfl, p, C, dx, _, _, rfl, W.ob, T.cl, T.nS, w_stack _ _ _ _ _, _, rfl, l, _, _, _, rfl, rfl, SqL.of W.li, atI_nat hyl, y.f, CF, y.dx, _, _, rfl, q.ob, TF.cl, TF.nN, fr_now _ _ _ _ _, y.d, _, rfl, q.dc.get hx, _, rfl, iteF ?_⟩
    exact ⟨_, rfl, p, C, dx, _, _, rfl, W.ob, T.cl, T.nS, w_stack _ _ _ _ _, _, rfl, l, _, _, _, rfl, rfl, SqL.of W.li, atI_nat hyl, k⟩
def spFrameX (C CF : Addr) (CN : Addr) : Sp := fun vs H Q E => ∃ (Pr : List Fn), ∃ (p : Addr) (S : Addr → Prop) (st : List Fr) (res : V) (z : Int) (x : Str), vs = [.ref p, .int z, .str x] ∧ WalkerAt C CF Pr H p S st res ∧ BadAt st z x ∧ E (.ref CN) none H
theorem x_frameof {C CF CN f0 : Addr} {fd0 : FuncData} (T : TxtW K C) (TF : TxtF K CF) (TN : TxtN K mg CN) (F : Fun K "frame_of" "TextWalker.frame_of" sFrameOf f0 fd0) (zL : mg "len" = none) : FnOk P w K mg base (L2.CX P w) 1 f0 fd0 ["self", "level", "name"] (spFrameX C CF CN) := by
  refine F.okX scFrameOf (fun vs H Q E h => ?_) (fun cdv A outer s H vs Q E hr h => ?_)
  · obtain ⟨Pr, p, S, st, res, z, x, rfl, _⟩ := h
    rfl
  · obtain ⟨Pr, p, S, st, res, z, x, rfl, ⟨dx, ls, ds, fd, l, xs, W, e⟩, hbad, k⟩ := h
    have hu := hu_of hr
    refine ⟨_, pss_cons (ps_if (PW.pt (pw_or (pt_cmpR op_lt (pv 1) pe_int (nomark _)) (pw_or1 (pt_cmpR op_ge (pv 1) (pe_callB call_len_seq (by rfl) zL PySem.boot_len (pa_cons (pe_fld (pv 0) rfl) pa_nil)) (nomark _)))))
        (pss_one (ps_raise (W := fun cls d _ H => E cls d H) rfl (takes_of rfl rfl rfl rfl) (pmk_own PySem.F.excBase_ValueError TN.x TN.g TN.k (raises_own TN.b TN.t) rfl))) pss_nil) <|
      pss_cons (ps_if (pt_cmp (pc_dnotin hu (pv 2) (pe_fld (pe_ix ix_list (pe_fld (pv 0) rfl) (pv 1) (fun _ _ => rfl)) rfl)))
        (pss_one (ps_raise (W := fun cls d _ H => E cls d H) rfl (takes_of rfl rfl rfl rfl) (pmk_own PySem.F.excBase_ValueError TN.x TN.g TN.k (raises_own TN.b TN.t) rfl))) pss_nil) <|
      pss_never, ?_⟩
    have exl : xs.length = st.length := by rw [← e, List.length_map]
    by_cases h0 : z < 0
    · exact ⟨_, rfl, _, _, rfl, rfl, true, congrArg V.bl (decide_eq_true h0), iteT (iteT k)⟩
    · refine ⟨_, rfl, _, _, rfl, rfl, false, congrArg V.bl (decide_eq_false h0), iteF ?_⟩
      by_cases h1 : (st.length : Int) ≤ z
      · refine ⟨_, rfl, _, rfl, p, C, dx, _, _, rfl, W.ob, T.cl, T.nS, w_stack _ _ _ _ _, l, _, rfl, .inl (SqL.of W.li), _, _, rfl, rfl, true, congrArg V.bl (decide_eq_true (by rw [List.length_map, exl]; exact h1)), iteT k⟩
      · refine ⟨_, rfl, _, rfl, p, C, dx, _, _, rfl, W.ob, T.cl, T.nS, w_stack _ _ _ _ _, l, _, rfl, .inl (SqL.of W.li), _, _, rfl, rfl, false, congrArg V.bl (decide_eq_false (by rw [List.length_map, exl]; exact h1)), iteF ?_⟩
        rcases hbad with hb | hb | ⟨i, fr, rfl, hfr, hn⟩
        · exact absurd hb h0
        · exact absurd hb h1
        · have hi : i < st.length := (List.getElem?_eq_some_iff.mp hfr).1
          obtain ⟨y, hy⟩ : ∃ y, xs[i]? = some y := ⟨xs[i]'(by omega), List.getElem?_eq_getElem (by omega)⟩
          have ey : y.fr = fr := by
            rw [← e, List.getElem?_map, hy] at hfr
            exact Option.some.inj hfr
          have q := W.ok i y hy
          have hyl : (xs.map fun x => V.ref x.f)[i]? = some (.ref y.f) := by rw [List.getElem?_map, hy]; rfl
          refine ⟨_, rfl, _, rfl, p, C, dx, _, _, rfl, W.ob, T.cl, T.nS, w_stack _ _ _ _ _, _, rfl, l, _, _, _, rfl, rfl, SqL.of W.li, atI_nat hyl, y.f, CF, y.dx, _, _, rfl, q.ob, TF.cl, TF.nN, fr_now _ _ _ _ _, y.d, _, rfl, q.dc.getN (by rw [ey]; exact hn), _, rfl, iteT k⟩

/-! ### told, fill -/
abbrev sTold : Stmt := inClass (top 20) 3
theorem scTold : FnScope ["self", "level", "name"] ["self", "level", "name"] (defScope sTold) := ⟨rfl, rfl, rfl, by decide +kernel, rfl, by decide +kernel, by decide +kernel⟩
def spTold (C CF : Addr) : Sp := fun vs H Q _ => ∃ (Pr : List Fn), ∃ (p : Addr) (S : Addr → Prop) (st : List Fr) (res : V) (i : Nat) (fr : Fr) (x : Str) (v : Int), vs = [.ref p, .int (i : Int), .str x] ∧ WalkerAt C CF Pr H p S st res ∧ st[i]? = some fr ∧ fr.env x = some v ∧ Q (.int v) H
theorem at_st {xs : List PF} {st : List Fr} {i : Nat} {fr : Fr} (e : xs.map (·.fr) = st) (h : st[i]? = some fr) : ∃ y, xs[i]? = some y ∧ y.fr = fr := by
  rw [← e, List.getElem?_map] at h
  cases q : xs[i]? with
  | none => rw [q] at h; cases h
  | some y => rw [q] at h; exact ⟨y, rfl, Option.some.inj h⟩
theorem m_told {C CF : Addr} (T : TxtW K C) (TF : TxtF K CF) (D : MethG K C "told" "TextWalker.told" sTold) (mF : C8.Met P w K mg base 1 C "frame_of" (spFrameOf C CF) []) : C8.Met P w K mg base 2 C "told" (spTold C CF) [] := by
  refine met_of T.cl D scTold (fun _ _ _ _ _ _ us hl => match us, hl with | [_, _, _], _ => rfl) (fun vs H Q E h => ?_) (fun f0 cdv A outer s H vs Q E hr h => ?_)
  · obtain ⟨Pr, p, S, st, res, i, fr, x, v, rfl, _⟩ := h
    rfl
  · obtain ⟨Pr, p, S, st, res, i, fr, x, v, rfl, ⟨dx, ls, ds, fd, l, xs, W, e⟩, hfr, hv, k⟩ := h
    have hu := hu_of hr
    refine ⟨_, pss_one (ps_ret (pe_dget hu (pe_fld (C8.pe_mt mF hr (by decide) (pv 0) (pa_cons (pv 1) (pa_cons (pv 2) pa_nil))) rfl) (pv 2) (fun _ _ => rfl))), ?_⟩
    obtain ⟨y, hy, rfl⟩ := at_st e hfr
    have q := W.ok i y hy
    have hx : (y.fr.env x).isSome = true := by rw [hv]; rfl
    refine ⟨_, rfl, p, dx, _, rfl, W.ob, w_no _ _ _ _ _ (by decide +kernel) (by decide +kernel) (by decide +kernel) (by decide +kernel) (by decide +kernel) (by decide +kernel), _, rfl, _, rfl, ?_⟩
    refine ⟨Pr, p, S, dx, ls, ds, fd, l, xs, res, i, y, x, rfl, W, hy, hx, ?_⟩
    refine ⟨y.f, CF, y.dx, _, _, rfl, q.ob, TF.cl, TF.nN, fr_now _ _ _ _ _, _, rfl, y.d, _, rfl, q.dc.get hx, ?_⟩
    rw [hv]
    exact k
abbrev sFill : Stmt := inClass (top 20) 4
theorem scFill : FnScope ["self", "level", "name", "number"] ["self", "level", "name", "number"] (defScope sFill) := ⟨rfl, rfl, rfl, by decide +kernel, rfl, by decide +kernel, by decide +kernel⟩
def spFill (C CF : Addr) : Sp := fun vs H Q _ => ∃ (Pr : List Fn), ∃ (p : Addr) (S : Addr → Prop) (st : List Fr) (res : V) (i : Nat) (fr : Fr) (x : Str) (v : Int), vs = [.ref p, .int (i : Int), .str x, .int v] ∧ WalkerAt C CF Pr H p S st res ∧ st[i]? = some fr ∧ (fr.env x).isSome = true ∧
  ∀ H', Ch H S H' S → WalkerAt C CF Pr H' p S (st.set i (fr.put x v)) res → Q (.bl true) H'
theorem m_fill {C CF : Addr} (T : TxtW K C) (TF : TxtF K CF) (D : MethG K C "fill" "TextWalker.fill" sFill) (mF : C8.Met P w K mg base 1 C "frame_of" (spFrameOf C CF) []) : C8.Met P w K mg base 2 C "fill" (spFill C CF) [] := by
  refine met_of T.cl D scFill (fun _ _ _ _ _ _ us hl => match us, hl with | [_, _, _, _], _ => rfl) (fun vs H Q E h => ?_) (fun f0 cdv A outer s H vs Q E hr h => ?_)
  · obtain ⟨Pr, p, S, st, res, i, fr, x, v, rfl, _⟩ := h
    rfl
  · obtain ⟨Pr, p, S, st, res, i, fr, x, v, rfl, ⟨dx, ls, ds, fd, l, xs, W, e⟩, hfr, hx, k⟩ := h
    have hu := hu_of hr
    refine ⟨_, pss_cons (ps_dput hu (pe_fld (C8.pe_mt mF hr (by decide) (pv 0) (pa_cons (pv 1) (pa_cons (pv 2) pa_nil))) rfl) (pv 2) (pv 3) rfl) <| pss_one (ps_ret pe_bl), ?_⟩
    obtain ⟨y, hy, rfl⟩ := at_st e hfr
    have q := W.ok i y hy
    obtain ⟨kvs, d1, d2⟩ := id q.dc
    refine ⟨_, rfl, _, rfl, p, dx, _, rfl, W.ob, w_no _ _ _ _ _ (by decide +kernel) (by decide +kernel) (by decide +kernel) (by decide +kernel) (by decide +kernel) (by decide +kernel), _, rfl, _, rfl, ?_⟩
    refine ⟨Pr, p, S, dx, ls, ds, fd, l, xs, res, i, y, x, rfl, W, hy, hx, ?_⟩
    refine ⟨y.f, CF, y.dx, _, _, rfl, q.ob, TF.cl, TF.nN, fr_now _ _ _ _ _, _, rfl, y.d, _, rfl, DPut.k (k := Sum.inr x) d1 (lt_line (by have := d2.len; omega)), ?_⟩
    refine k _ (Ch.refl.put q.sd) ⟨dx, ls, ds, fd, l, _, W.putEnv hy (d2.put v (.inl hx)), ?_⟩
    rw [List.map_set, e]
    rfl
def spFillX (C CF : Addr) (CN : Addr) : Sp := fun vs H Q E => ∃ (Pr : List Fn), ∃ (p : Addr) (S : Addr → Prop) (st : List Fr) (res : V) (z : Int) (x : Str) (v : Int), vs = [.ref p, .int z, .str x, .int v] ∧ WalkerAt C CF Pr H p S st res ∧ BadAt st z x ∧ E (.ref CN) none H
theorem x_fill {C CF CN : Addr} (T : TxtW K C) (TF : TxtF K CF) (TN : TxtN K mg CN) (D : MethG K C "fill" "TextWalker.fill" sFill) (DF : MethG K C "frame_of" "TextWalker.frame_of" sFrameOf) (zL : mg "len" = none) : MetX P w K mg base 2 C "fill" (spFillX C CF CN) := by
  obtain ⟨f, fd, F, M⟩ := D
  obtain ⟨f1, fd1, F1, M1⟩ := DF
  have G1 : FnOk P w K mg base (L2.CX P w) 1 f1 fd1 ["self", "level", "name"] (spFrameX C CF CN) := x_frameof T TF TN F1 zL
  have b1 : Binds K fd1 ["self", "level", "name"] [] := F1.binds fun _ _ _ _ _ _ us hl => match us, hl with | [_, _, _], _ => rfl
  refine ⟨⟨f, fd, _, T.cl, M, ?_, F.binds (ps := ["self", "level", "name", "number"]) fun _ _ _ _ _ _ us hl => match us, hl with | [_, _, _, _], _ => rfl⟩⟩
  refine F.okX scFill (fun vs H Q E h => ?_) (fun cdv A outer s H vs Q E hr h => ?_)
  · obtain ⟨Pr, p, S, st, res, z, x, v, rfl, _⟩ := h
    rfl
  · obtain ⟨Pr, p, S, st, res, z, x, v, rfl, hW, hbad, k⟩ := h
    have hu := hu_of hr
    refine ⟨_, pss_cons (ps_dput hu (pe_fld (pe_meth (E := E) (pv 0) T.cl M1 G1 hr b1 .nil (passes_call (W := fun cls d _ H => E cls d H) (takes_of rfl rfl rfl rfl) (fun _ _ _ _ h => h)) (pa_cons (pv 1) (pa_cons (pv 2) pa_nil))) rfl) (pv 2) (pv 3) rfl) <| pss_never, ?_⟩
    obtain ⟨dx, ls, ds, fd', l, xs, W, e⟩ := id hW
    refine ⟨_, rfl, _, rfl, p, dx, _, rfl, W.ob, w_no _ _ _ _ _ (by decide +kernel) (by decide +kernel) (by decide +kernel) (by decide +kernel) (by decide +kernel) (by decide +kernel), _, rfl, _, rfl, ?_⟩
    exact ⟨Pr, p, S, st, res, z, x, rfl, hW, hbad, k⟩
end
end SG


/-! advance, step; TextWalker.__init__. -/
namespace SG
open PySem PySem.Spec PyProof.Rows L2
theorem ifwhile_in (r : Row) : inV (.str r.kind) [V.str "if", V.str "while"] = false := by
  cases r with
  | copy x a => exact (show inV (.str "copy") [V.str "if", V.str "while"] = false by decide +kernel)
  | op x s a b => exact (show inV (.str "op") [V.str "if", V.str "while"] = false by decide +kernel)
  | call x g as => exact (show inV (.str "call") [V.str "if", V.str "while"] = false by decide +kernel)
  | back a => exact (show inV (.str "back") [V.str "if", V.str "while"] = false by decide +kernel)
/-- a plain row: neither call nor back -/
theorem eff_of {r : Row} (e : EnvF) (h1 : r.isBack = false) (h2 : r.isCall = false) : ∃ x v, r.eff e = some (x, v) ∧ r.giv = some x := by
  cases r with
  | copy x a => exact ⟨x, _, rfl, rfl⟩
  | op x s a b => exact ⟨x, _, rfl, rfl⟩
  | call x g as => cases h2
  | back a => cases h1
theorem step_eff {Pr : List Fn} {st : List Fr} {fr : Fr} {r : Row} {x : Str} {v : Int} (h : fr.row = some r) (he : r.eff fr.env = some (x, v)) : stepA Pr (st ++ [fr]) = st ++ [fr.adv x v] := by
  cases r with
  | copy x' a =>
    rw [stepA_copy h]
    have e := Option.some.inj he
    cases e
    rfl
  | op x' s a b =>
    rw [stepA_op h]
    have e := Option.some.inj he
    cases e
    rfl
  | call x g as => cases he
  | back a => cases he
theorem call_ne (r : Row) : (r.isCall = true → r.kind = "call") ∧ (r.isCall = false → ¬ r.kind = "call") := by
  cases r with
  | copy x a => exact ⟨fun h => (by cases h), fun _ => (show ¬ ("copy" : Str) = "call" by decide +kernel)⟩
  | op x s a b => exact ⟨fun h => (by cases h), fun _ => (show ¬ ("op" : Str) = "call" by decide +kernel)⟩
  | call x g as => exact ⟨fun _ => rfl, fun h => (by cases h)⟩
  | back a => exact ⟨fun h => (by cases h), fun _ => (show ¬ ("back" : Str) = "call" by decide +kernel)⟩
section
variable {P : Program} {w : World} {K : PySem.W.Frag} {mg : Str → Option Value} {base : Heap}

/-! ### advance -/
abbrev sAdvance : Stmt := inClass (top 20) 5
theorem scAdvance : FnScope ["self", "frame", "row", "deed", "atom"] ["self"] (defScope sAdvance) := ⟨rfl, rfl, rfl, by decide +kernel, rfl, by decide +kernel, by decide +kernel⟩
def spStep (C CF : Addr) : Sp := fun vs H Q _ => ∃ (Pr : List Fn), ∃ p S st fr, vs = [.ref p] ∧ WalkerAt C CF Pr H p S (st ++ [fr]) .non ∧ StOK Pr (st ++ [fr]) ∧ PrOK Pr ∧ st.length + 2 ≤ 1000 ∧
  ∀ H' S', Ch H S H' S' → WalkerAt C CF Pr H' p S' (stepA Pr (st ++ [fr])) (resV (st ++ [fr])) → Q .non H'
theorem resV_endV {st : List Fr} {fr : Fr} {a : Atom} (h : fr.row = some (.back a)) : resV (st ++ [fr]) = endV st (worth fr.env a) := by
  cases st with
  | nil => exact resV_back h
  | cons b r =>
    rcases List.eq_nil_or_concat r with e | ⟨s, c, e⟩
    · subst e
      rfl
    · have e : r = s ++ [c] := by simpa using e
      subst e
      exact resV_more (b :: s) fr c
theorem m_advance {C CF : Addr} (T : TxtW K C) (TF : TxtF K CF) (D : MethG K C "advance" "TextWalker.advance" sAdvance) (kF : C8.Mak P w K mg base 4 "Frame" CF (spFInit CF) [])
    (mW : C8.Met P w K mg base 1 CF "worth_of" (spWorth CF) []) (mGo : C8.Met P w K mg base 1 CF "go_on" (spGo CF) []) (mB : C8.Met P w K mg base 2 C "gone_back" (spBack C CF) []) (mD : C8.Met P w K mg base 2 C "done" (spDone CF) []) : C8.Met P w K mg base 6 C "advance" (spStep C CF) [] := by
  refine met_of T.cl D scAdvance (fun _ _ _ _ _ _ us hl => match us, hl with | [_], _ => rfl) (fun vs H Q E h => ?_) (fun f0 cdv A outer s H vs Q E hr h => ?_)
  · obtain ⟨Pr, p, S, st, fr, rfl, _⟩ := h
    rfl
  · obtain ⟨Pr, p, S, st, fr, rfl, ⟨dx, ls, ds, fd, l, xs, W, e⟩, hst, hP, hl2, k⟩ := h
    have hu := hu_of hr
    refine ⟨_, pss_cons (ps_set (i := 1) scAdvance.nd rfl (.inr rfl) (pe_ix ix_list (pe_fld (pv 0) rfl) (pe_un un_neg pe_int) (fun _ _ => rfl))) <|
      pss_cons (ps_set (i := 2) scAdvance.nd rfl (.inl rfl) (pe_ix ix_tup (pe_fld (pv 1) rfl) (pe_fld (pv 1) rfl) (fun _ _ => rfl))) <|
      pss_cons (ps_if (pt_cmpR op_eq (pe_ix ix_tup (pv 2) pe_int (fun _ _ => rfl)) pe_str (nomark _))
        (pss_cons (ps_expr (pe_bm PySem.F.plainAttrs_list PySem.F.slot_list_append PySem.F.type_list_append mt_append (pe_fld (pv 0) rfl) (pa_cons (C8.pe_mk kF hr (by decide) rfl (pa_cons (pe_dget hu (pe_fld (pv 0) rfl) (pe_ix ix_tup (pv 2) pe_int (fun _ _ => rfl)) (fun _ _ => rfl)) (pa_cons
          (pe_lc (own := [("atom", 4)]) (g := gName 4) (tt := tYes) (te := tMeth CF "worth_of" (spWorth CF) [] E0 (tVar 1) (tCons (tVar 4) tNil)) (by rfl) scAdvance.nd (pi_tup (pe_ix ix_tup (pv 2) pe_int (fun _ _ => rfl))) (blkOk_by (own := [("atom", 4)]) (N := ["self", "frame", "row", "deed", "atom"]) (sc := defScope sAdvance) (by decide +kernel))
            (fun _ _ _ _ _ => pg_name (i := 4) scAdvance.nd rfl (Or.inl rfl)) (fun _ _ _ _ _ => pts_nil) (fun _ _ _ _ _ => C8.pe_mt mW hr (by decide) (pv 1) (pa_cons (pv 4) pa_nil))) pa_nil))) pa_nil))) <|
          pss_one (ps_ret pe_non)) pss_nil) <|
      pss_cons (ps_if (pt_cmpR op_eq (pe_ix ix_tup (pv 2) pe_int (fun _ _ => rfl)) pe_str (nomark _))
        (pss_cons (ps_expr (C8.pe_mt mB hr (by decide) (pv 0) (pa_cons (C8.pe_mt mW hr (by decide) (pv 1) (pa_cons (pe_ix ix_tup (pv 2) pe_int (fun _ _ => rfl)) pa_nil)) pa_nil))) <|
          pss_one (ps_ret pe_non)) pss_nil) <|
      pss_cons (ps_if (pt_cmpR op_in_seq (pe_ix ix_tup (pv 2) pe_int (fun _ _ => rfl)) (pe_tup (pa_cons pe_str (pa_cons pe_str pa_nil))) (by rfl)) pss_never pss_nil) <|
      pss_cons (ps_set (i := 3) scAdvance.nd rfl (.inl rfl) (C8.pe_mt mD hr (by decide) (pv 0) (pa_cons (pv 1) (pa_cons (pv 2) pa_nil)))) <|
      pss_cons (ps_expr (C8.pe_mt mGo hr (by decide) (pv 1) (pa_cons pe_int pa_nil))) <|
      pss_one (ps_ret (pv 3)), ?_⟩
    obtain ⟨xs0, x, rfl, e0, rfl⟩ := map_snoc e
    have elist : (xs0 ++ [x]).map (fun x => V.ref x.f) = xs0.map (fun x => V.ref x.f) ++ [V.ref x.f] := by rw [List.map_append]; rfl
    have hx : (xs0 ++ [x])[xs0.length]? = some x := List.getElem?_concat_length
    have q := W.ok xs0.length x hx
    have hf := hst.last
    obtain ⟨r, hr1, hm⟩ := hf.at_row
    obtain ⟨rvs, r1, r2, r3⟩ := id q.rw_
    obtain ⟨rp, r4, hrow⟩ := r3 x.fr.at_ _ hr1
    have lk0 : ∀ m : Str, ¬ m = "sends" → ¬ m = "store" → ¬ m = "made" → ¬ m = "result" → ¬ m = "functions" → ¬ m = "stack" → (wF ls ds .non fd l).lookup m = none := fun m h1 h2 h3 h4 h5 h6 => w_no _ _ _ _ _ h1 h2 h3 h4 h5 h6
    refine ⟨_, rfl, p, C, dx, _, _, rfl, W.ob, T.cl, T.nS, w_stack _ _ _ _ _, 1, rfl, l, _, _, _, rfl, rfl, SqL.of W.li, (by rw [elist]; exact atI_last _ _), ?_⟩
    refine ⟨_, rfl, x.f, CF, x.dx, _, _, rfl, q.ob, TF.cl, TF.nR, fr_rows _ _ _ _ _, _, rfl, x.f, CF, x.dx, _, _, rfl, q.ob, TF.cl, TF.nA, fr_at _ _ _ _ _, x.r, rvs, _, _, rfl, rfl, SqT.of r1, atI_nat r4, ?_⟩
    have wno : (frF x.fr.fn.name x.r x.fl x.fr.at_ x.d).lookup ("worth_of" : Str) = none := fr_no _ _ _ _ _ (by decide +kernel) (by decide +kernel) (by decide +kernel) (by decide +kernel) (by decide +kernel)
    have gno : ∀ z : Int, (frF x.fr.fn.name x.r x.fl z x.d).lookup ("go_on" : Str) = none := fun z => fr_no _ _ _ _ _ (by decide +kernel) (by decide +kernel) (by decide +kernel) (by decide +kernel) (by decide +kernel)
    obtain ⟨txs, htx⟩ := hrow.tup
    cases hc : r.isCall with
    | true =>
      refine rIxEqT rfl (SqT.of htx) rfl ((call_ne r).1 hc) (iteT ?_)
      cases r with
      | call cx cg cas =>
        obtain ⟨qa, c1, c2⟩ := hrow
        obtain ⟨f, hg, hn⟩ := hf.fn.ca cx cg cas hm
        obtain ⟨fkv, u1, u2⟩ := id W.fu
        obtain ⟨fa, u3, u4⟩ := u2 cg f hg
        -- self.stack; self.functions[row[2]]
        refine ⟨_, rfl, p, C, dx, _, _, rfl, W.ob, T.cl, T.nS, w_stack _ _ _ _ _, .inl ⟨rfl, _, SqL.of W.li⟩, ?_⟩
        have dg : DGet H fd (.str cg) (some (.ref fa)) := by
          have z := DGet.k (k := (Sum.inr cg : Key)) u1
          rw [u3] at z
          exact z
        refine ⟨_, rfl, p, C, dx, _, _, rfl, W.ob, T.cl, T.nF, w_functions _ _ _ _ _, rix rfl (SqT.of c1) rfl ⟨fd, _, rfl, dg, ?_⟩⟩
        -- the args
        refine rix rfl (SqT.of c1) rfl ⟨qa, rfl, ⟨_, SqT.of c2⟩, fun D hD => lc_tup (K := K) (a := qa) (xs := cas.map Atom.v) (fun i H' => Same H H' ∧ H' D = some (.lst (((cas.take i).map (worth x.fr.env)).map V.int)))
          ⟨Same.new hD, upd_same⟩ (fun i H' _ ⟨z, _⟩ => SqT.of (z _ _ c2)) ?_ ?_⟩
        · rintro i y H' hi ⟨s1, zD⟩
          obtain ⟨a, ha, rfl⟩ : ∃ a, cas[i]? = some a ∧ a.v = y := by
            rw [List.getElem?_map] at hi
            cases e : cas[i]? with
            | none => rw [e] at hi; cases hi
            | some a => rw [e] at hi; exact ⟨a, rfl, Option.some.inj hi⟩
          have hin : a.inE x.fr.env := hf.atom hm (List.mem_of_getElem? ha)
          have hsz := hf.fn.sza _ hm
          refine ⟨rfl, lcY ?_⟩
          refine ⟨_, rfl, x.f, x.dx, _, rfl, s1 _ _ q.ob, wno, _, rfl, x.f, x.dx, x.d, _, a, x.fr.env, rfl, s1 _ _ q.ob, fr_now _ _ _ _ _, q.dc.at (fun o e => s1 _ _ e), hin, ?_⟩
          refine ⟨_, zD, lt_line (by rw [List.length_map, List.length_map, List.length_take]; have : cas.length ≤ 10 := hsz; omega), fun b o h => ?_, ?_⟩
          · rw [upd_ne (ne_of_none h hD)]
            exact s1 _ _ h
          · rw [upd_same, take_snoc ha, List.map_append, List.map_append]
            rfl
        · rintro H1 ⟨s1, zD⟩
          rw [List.length_map, List.take_length] at zD
          -- Frame(..)
          intro x0 dx0 nx ndx nex
          have nxH : H x0 = none := s1.free nx
          have s2 : Same H (upd (upd H1 dx0 (.own x0)) x0 (.ins CF dx0 [])) := (s1.trans (Same.new ndx)).trans (Same.new (by rw [upd_ne (Ne.symm nex)]; exact nx))
          have zD2 : (upd (upd H1 dx0 (.own x0)) x0 (.ins CF dx0 [])) D = some (.lst ((cas.map (worth x.fr.env)).map V.int)) := by
            rw [upd_ne (ne_of_none zD nx), upd_ne (ne_of_none zD ndx)]
            exact zD
          refine ⟨x0, dx0, fa, D, f, cas.map (worth x.fr.env), rfl, upd_same, u4.mono (ts_of s2), (hP.fns f (lookF_mem hg).1).small, zD2, by rw [List.length_map]; exact hn, fun r' d' fl' H3 b3 nd' nfl' ob' rw' fw' dc' => ⟨rfl, ?_⟩⟩
          have s3 : Same H H3 := fun b o h => b3 b o (s2 b o h) (ne_of_none h nxH)
          have nS : ∀ b, H b = none → ¬ S b := fun b h hs => by
            obtain ⟨o, e1, _⟩ := W.sub b hs
            rw [h] at e1
            cases e1
          have nd0 : H d' = none := s2.free nd'
          have nfl0 : H fl' = none := s2.free nfl'
          have W3 := W.keep (KeepS.of_same s3)
          have W4 := W3.push (y := ⟨x0, dx0, d', r', fl', newA f (cas.map (worth x.fr.env))⟩) ⟨ob', rw', fw', dc', .inl rfl, .inr (.inl rfl), .inr (.inr rfl)⟩ (nS _ nxH) (nS _ nd0) (nS _ nfl0)
          have elen : xs0.length = st.length := by rw [← e0, List.length_map]
          refine ⟨l, _, _, rfl, rfl, W3.li, lt_line (by rw [List.length_map, List.length_append, List.length_singleton]; omega), ?_⟩
          have elist2 : (xs0 ++ [x]).map (fun x => V.ref x.f) ++ [V.ref x0] = ((xs0 ++ [x]) ++ [(⟨x0, dx0, d', r', fl', newA f (cas.map (worth x.fr.env))⟩ : PF)]).map (fun x : PF => V.ref x.f) := by simp only [List.map_append, List.map_cons, List.map_nil]
          rw [elist2]
          have cS : Ch H S H3 (fun b => S b ∨ b = x0 ∨ b = d' ∨ b = fl') := ⟨fun b o h _ => s3 b o h, fun b hb => by
            rcases hb with hb | rfl | rfl | rfl
            · exact .inl hb
            · exact .inr nxH
            · exact .inr nd0
            · exact .inr nfl0⟩
          refine k _ _ (cS.put (.inl W.sl)) ?_
          rw [stepA_call hr1 hg, resV_not hr1 rfl]
          refine ⟨dx, ls, ds, fd, l, _, W4, ?_⟩
          simp only [List.map_append, List.map_cons, List.map_nil, e0]
      | _ => cases hc
    | false =>
      refine rIxEqF rfl (SqT.of htx) rfl ((call_ne r).2 hc) (iteF ?_)
      cases hb : r.isBack with
      | true =>
        refine rIxEqT rfl (SqT.of htx) rfl ((kind_back r).1 hb) (iteT ?_)
        cases r with
        | back a =>
          have hin : a.inE x.fr.env := hf.atom hm (by simp [Row.atoms])
          refine ⟨_, rfl, p, dx, _, rfl, W.ob, lk0 _ (by decide +kernel) (by decide +kernel) (by decide +kernel) (by decide +kernel) (by decide +kernel) (by decide +kernel), ?_⟩
          refine ⟨_, rfl, x.f, x.dx, _, rfl, q.ob, wno, rix rfl (SqT.of hrow) rfl ?_⟩
          refine ⟨x.f, x.dx, x.d, _, a, x.fr.env, rfl, q.ob, fr_now _ _ _ _ _, q.dc, hin, ?_⟩
          refine ⟨Pr, p, S, st, x.fr, _, rfl, ⟨dx, ls, ds, fd, l, _, W, e⟩, hst, fun H' c' w' => ?_⟩
          refine k H' S c' ?_
          rw [stepA_back hr1, resV_endV hr1]
          exact w'
        | _ => cases hb
      | false =>
        refine rIxEqF rfl (SqT.of htx) rfl ((kind_back r).2 hb) (iteF ?_)
        refine rix rfl (SqT.of htx) rfl ⟨le_line (by show 2 ≤ 100000; decide), fun t ht => ?_⟩
        refine ⟨t, _, rfl, .inr (SqT.of upd_same), rfl, by decide +kernel, false, congrArg V.bl (ifwhile_in r), iteF ?_⟩
        have s1 : Same H (upd H t (.tup [.str "if", .str "while"])) := Same.new ht
        have W1 := W.keep (KeepS.of_same s1)
        have c1 : Ch H S (upd H t (.tup [.str "if", .str "while"])) S := Ch.same s1
        have hrow1 := hrow.mono (ts_of s1)
        generalize upd H t (.tup [.str "if", .str "while"]) = H1 at W1 c1 hrow1
        have q1 := W1.ok xs0.length x hx
        obtain ⟨gx, gv, he, hgv⟩ := eff_of x.fr.env hb hc
        refine ⟨_, rfl, p, dx, _, rfl, W1.ob, lk0 _ (by decide +kernel) (by decide +kernel) (by decide +kernel) (by decide +kernel) (by decide +kernel) (by decide +kernel), _, rfl, _, rfl, ?_⟩
        refine ⟨p, x.f, x.dx, x.d, rp, _, r, x.fr.env, gx, gv, rfl, q1.ob, fr_now _ _ _ _ _, wno, q1.dc, hrow1, fun a ha => hf.atom hm ha, he, hf.give hm hgv, fun x' s' a' b' er => hf.fn.sg x' s' a' b' (by rw [← er]; exact hm), fun kvs hD => ?_⟩
        have W2 := W1.putEnv hx hD
        have c2 : Ch H S (upd H1 x.d (.dK kvs)) S := c1.put q1.sd
        generalize upd H1 x.d (.dK kvs) = H2 at W2 c2
        have hx2 : ((xs0 ++ [x]).set xs0.length (x.setFr ⟨x.fr.fn, x.fr.at_, setE x.fr.env gx gv⟩))[xs0.length]? = some (x.setFr ⟨x.fr.fn, x.fr.at_, setE x.fr.env gx gv⟩) := by
          rw [set_last]
          exact List.getElem?_concat_length
        have q2 := W2.ok _ _ hx2
        have W3 := W2.putAt hx2 (x.fr.at_ + 1)
        refine ⟨_, rfl, x.f, x.dx, _, rfl, q2.ob, gno _, ?_⟩
        refine ⟨x.f, x.dx, x.r, x.fl, x.d, x.fr.fn.name, x.fr.at_, x.fr.fn.rows, r, rfl, q2.ob, q2.fw, hr1, hb, ?_⟩
        refine rv rfl (k _ S (c2.put q1.sf) ?_)
        rw [step_eff hr1 he, resV_not hr1 hb]
        refine ⟨dx, ls, ds, fd, l, _, W3, ?_⟩
        rw [set_last, set_last, List.map_append, e0]
        rfl

/-! ### step -/
abbrev sStep : Stmt := inClass (top 18) 8
theorem scStep : FnScope ["self"] ["self"] (defScope sStep) := ⟨rfl, rfl, rfl, by decide +kernel, rfl, by decide +kernel, by decide +kernel⟩
theorem m_step {C CF : Addr} (T : TxtW K C) (D : MethG K C "step" "Walker.step" sStep) (mE : C8.Met P w K mg base 1 C "ended" (spEnded C CF) []) (mA : C8.Met P w K mg base 6 C "advance" (spStep C CF) []) : C8.Met P w K mg base 7 C "step" (spStep C CF) [] := by
  refine met_of T.cl D scStep (fun _ _ _ _ _ _ us hl => match us, hl with | [_], _ => rfl) (fun vs H Q E h => ?_) (fun f0 cdv A outer s H vs Q E hr h => ?_)
  · obtain ⟨Pr, p, S, st, fr, rfl, _⟩ := h
    rfl
  · obtain ⟨Pr, p, S, st, fr, rfl, hW, hst, hP, hl2, k⟩ := h
    refine ⟨_, pss_cons (ps_if (pt_val (C8.pe_mt0 mE hr (by decide) (pv 0))) pss_never pss_nil) <| pss_one (ps_ret (C8.pe_mt0 mA hr (by decide) (pv 0))), ?_⟩
    obtain ⟨dx, ls, ds, fd, l, xs, W, e⟩ := id hW
    have lk0 : ∀ m : Str, ¬ m = "sends" → ¬ m = "store" → ¬ m = "made" → ¬ m = "result" → ¬ m = "functions" → ¬ m = "stack" → (wF ls ds .non fd l).lookup m = none := fun m h1 h2 h3 h4 h5 h6 => w_no _ _ _ _ _ h1 h2 h3 h4 h5 h6
    refine ⟨_, rfl, p, dx, _, rfl, W.ob, lk0 _ (by decide +kernel) (by decide +kernel) (by decide +kernel) (by decide +kernel) (by decide +kernel) (by decide +kernel), ?_⟩
    refine ⟨Pr, p, S, _, _, rfl, hW, false, rfl, iteF ?_⟩
    refine ⟨_, rfl, p, dx, _, rfl, W.ob, lk0 _ (by decide +kernel) (by decide +kernel) (by decide +kernel) (by decide +kernel) (by decide +kernel) (by decide +kernel), ?_⟩
    exact ⟨Pr, p, S, st, fr, rfl, hW, hst, hP, hl2, k⟩
end
end SG


/-! TextWalker.__init__. -/
namespace SG
open PySem PySem.Spec PyProof.Rows L2
/-- a program in the heap -/
def ProgAt (H : Hp) (l : Addr) (P : List Fn) : Prop := ∃ vs : List V, H l = some (.lst vs) ∧ vs.length = P.length ∧ ∀ (i : Nat) (f : Fn), P[i]? = some f → ∃ a, vs[i]? = some (.ref a) ∧ FnAt H a f
theorem ProgAt.at {H H' : Hp} {l : Addr} {P : List Fn} (h : ProgAt H l P) (t : TS_ H H') (k : ∀ o, H l = some o → H' l = some o) : ProgAt H' l P := by
  obtain ⟨vs, h1, h2, h3⟩ := h
  refine ⟨vs, k _ h1, h2, fun i f hf => ?_⟩
  obtain ⟨a, e, z⟩ := h3 i f hf
  exact ⟨a, e, z.mono t⟩
theorem lookF_snoc {P : List Fn} {f f' : Fn} {g : Str} (h : lookF (P ++ [f]) g = some f') : (lookF P g = some f' ) ∨ (lookF P g = none ∧ f' = f ∧ f.name = g) := by
  unfold lookF at h ⊢
  rw [List.find?_append] at h
  cases q : P.find? (fun f => decide (f.name = g)) with
  | some f1 =>
    rw [q] at h
    exact .inl h
  | none =>
    rw [q] at h
    refine .inr ⟨rfl, ?_⟩
    rw [Option.none_or, List.find?_cons] at h
    by_cases e : f.name = g
    · rw [decide_eq_true e] at h
      exact ⟨(Option.some.inj h).symm, e⟩
    · rw [decide_eq_false e] at h
      cases h
theorem nodup_at {P : List Fn} (nd : (P.map (·.name)).Nodup) {i : Nat} {f f' : Fn} (hi : P[i]? = some f) (h : f' ∈ P.take i) : f'.name ≠ f.name := by
  intro e
  obtain ⟨j, hj, ej⟩ := List.getElem_of_mem h
  rw [List.length_take] at hj
  rw [List.getElem_take] at ej
  obtain ⟨hil, hie⟩ := List.getElem?_eq_some_iff.mp hi
  have h1 : (P.map (·.name))[j]'(by rw [List.length_map]; omega) = (P.map (·.name))[i]'(by rw [List.length_map]; omega) := by
    rw [List.getElem_map, List.getElem_map, ej, hie, e]
  have := (List.getElem_inj nd).mp h1
  omega
section
variable {P : Program} {w : World} {K : PySem.W.Frag} {mg : Str → Option Value} {base : Heap}
abbrev sTInit : Stmt := inClass (top 20) 0
theorem scTInit : FnScope ["self", "program", "args", "function"] ["self", "program", "args"] (defScope sTInit) := ⟨rfl, rfl, rfl, by decide +kernel, rfl, by decide +kernel, by decide +kernel⟩
def spTInit (C CF : Addr) : Sp := fun vs H Q _ => ∃ (p dx l la : Addr) (Pr P0 : List Fn) (f : Fn) (args : List Int), vs = [.ref p, .ref l, .ref la] ∧ H p = some (.ins C dx []) ∧ ProgAt H l Pr ∧ PrOK Pr ∧ Pr = P0 ++ [f] ∧ H la = some (.lst (args.map V.int)) ∧ f.ps.length = args.length ∧
  ∀ (H' : Hp) (S' : Addr → Prop), But p H H' → (∀ b, S' b → b = p ∨ H b = none) → WalkerAt C CF Pr H' p S' [newA f args] .non → Q .non H'
theorem ok_tinit {f0 C CF CW fw : Addr} {fd0 fdw : FuncData} (F : Fun K "__init__" "TextWalker.__init__" sTInit f0 fd0) (T : TxtW K C) (mW : mg "Walker" = some (.ref CW)) (cr : ClX.CRead K CW (.type "type")) (cv : ClX.CVal K CW (.type "type") "__init__" (.ref fw) (.ref fw))
    (FW : Fun K "__init__" "Walker.__init__" sWInit fw fdw) (kF : C8.Mak P w K mg base 4 "Frame" CF (spFInit CF) []) : FnOk P w K mg base CX0 6 f0 fd0 ["self", "program", "args"] (spTInit C CF) := by
  have GW : FnOk P w K mg base CX0 1 fw fdw ["self"] (spWInit C) := ok_winit FW T
  have bW : Binds K fdw ["self"] [] := FW.binds fun _ _ _ _ _ _ us hl => match us, hl with | [_], _ => rfl
  refine F.ok scTInit (fun vs H Q E h => ?_) (fun cdv A outer s H vs Q E hr h => ?_)
  · obtain ⟨p, dx, l, la, Pr, P0, f, args, rfl, _⟩ := h
    rfl
  · obtain ⟨p, dx, l, la, Pr, P0, f, args, rfl, hp, hl, hP, eP, hla, hlen, k⟩ := h
    have hu := hu_of hr
    refine ⟨_, pss_cons (ps_expr (pe_cfn rfl mW cr cv FW.kp GW (hr.mono (by decide)) bW pass0 (pa_cons (pv 0) pa_nil))) <|
      pss_cons (ps_fld (pv 0) pe_dnewK rfl) <|
      pss_cons (ps_for PassesOwn.never rfl (pi_list (pv 1)) (pg_name (i := 3) scTInit.nd rfl (.inl rfl)) (pss_one (ps_dput hu (pe_fld (pv 0) rfl) (pe_ix ix_tup (pv 3) pe_int (fun _ _ => rfl)) (pv 3) rfl))) <|
      pss_one (ps_fld (pv 0) (pe_lst (pa_cons (C8.pe_mk kF hr (by decide) rfl (pa_cons (pe_ix ix_list (pv 1) (pe_un un_neg pe_int) (fun _ _ => rfl)) (pa_cons (pv 2) pa_nil))) pa_nil)) rfl), ?_⟩
    obtain ⟨vs, l1, l2, l3⟩ := id hl
    have nlp : l ≠ p := ne_of l1 hp (by intro z; cases z)
    have nlap : la ≠ p := ne_of hla hp (by intro z; cases z)
    refine ⟨_, rfl, p, dx, rfl, hp, fun ls ds H1 b1 p1 => ?_⟩
    intro fd hfd
    have nfdp : fd ≠ p := fun z => by rw [z, p1] at hfd; cases hfd
    have hfd0 : H fd = none := b1.none hfd nfdp
    refine ⟨_, rfl, p, C, dx, _, rfl, (by rw [upd_ne nfdp.symm]; exact p1), T.cl, T.nF, (by show 4 < 1000; decide), ?_⟩
    rw [w_putF]
    generalize hH2 : upd (upd H1 fd (.dK [])) p (.ins C dx [("sends", .ref ls), ("store", .ref ds), ("made", .int 0), ("result", .non), ("functions", .ref fd)]) = H2
    have p2 : H2 p = some (.ins C dx [("sends", .ref ls), ("store", .ref ds), ("made", .int 0), ("result", .non), ("functions", .ref fd)]) := by rw [← hH2, upd_same]
    have d2 : H2 fd = some (.dK []) := by rw [← hH2, upd_ne nfdp, upd_same]
    have b2 : But p H H2 := by
      rw [← hH2]
      exact (b1.new hfd0).put
    have lkF : ([("sends", .ref ls), ("store", .ref ds), ("made", .int 0), ("result", .non), ("functions", .ref fd)] : List (Str × V)).lookup ("functions" : Str) = some (.ref fd) := by
      rw [lk_miss (by decide +kernel), lk_miss (by decide +kernel), lk_miss (by decide +kernel), lk_miss (by decide +kernel), lk_hit]
    clear hH2 hfd
    refine ⟨_, rfl, l, rfl, ⟨_, SqL.of (b2 _ _ l1 nlp)⟩, for_list (K := K) (a := l) (xs := vs) (fun i σ H' => ∃ (v : Option V) (kvs : List (Key × V)), σ = [some (.ref p), some (.ref l), some (.ref la), v] ∧ But p H H' ∧ H' p = H2 p ∧ H' fd = some (.dK kvs) ∧ kvs.length ≤ i ∧ ∀ (g : Str) (f' : Fn), lookF (Pr.take i) g = some f' → ∃ a, valV kvs (Sum.inr g : Key) = some (.ref a) ∧ FnAt H a f')
      ⟨none, [], rfl, b2, rfl, d2, Nat.le_refl _, fun g f' h => by cases h⟩ (fun i σ H' _ ⟨_, _, _, z, _⟩ => SqL.of (z _ _ l1 nlp)) ?_ ?_⟩
    · rintro i y σ H' hi ⟨v, kvs, rfl, b3, p3, d3, hk, hD⟩
      rw [p2] at p3
      have hil : i < vs.length := (List.getElem?_eq_some_iff.mp hi).1
      have hPl := hP.len
      obtain ⟨fi, hfi⟩ : ∃ fi, Pr[i]? = some fi := ⟨Pr[i]'(by omega), List.getElem?_eq_getElem (by omega)⟩
      obtain ⟨a, a1, a2⟩ := l3 i fi hfi
      rw [hi] at a1
      cases a1
      obtain ⟨qa, ra, c1, c2, c3⟩ := id a2
      have nap : a ≠ p := ne_of c1 hp (by intro z; cases z)
      refine ⟨_, rfl, _, rfl, p, C, dx, _, _, rfl, p3, T.cl, T.nF, lkF, rix rfl (SqT.of (b3 _ _ c1 nap)) rfl ?_⟩
      refine ⟨fd, _, rfl, DPut.k (k := Sum.inr fi.name) d3 (lt_line (by omega)), ?_⟩
      refine ⟨_, putK kvs (Sum.inr fi.name) (.ref a), rfl, b3.new hfd0, ?_, upd_same, ?_, ?_⟩
      · rw [upd_ne nfdp.symm, p3, p2]
      · have := length_putK kvs (Sum.inr fi.name : Key) (.ref a)
        omega
      · intro g f' hg
        rw [take_snoc hfi] at hg
        rw [valV_put]
        rcases lookF_snoc hg with h | ⟨_, rfl, e⟩
        · have hm := lookF_mem h
          have := nodup_at hP.nd hfi hm.1
          rw [if_neg (fun z => this (by rw [hm.2]; exact Sum.inr.inj z))]
          exact hD g f' h
        · rw [if_pos (by rw [e])]
          exact ⟨a, rfl, a2⟩
    · rintro σ H3 ⟨v, kvs, rfl, b3, p3, d3, hk, hD⟩
      rw [p2] at p3
      rw [l2, List.take_length] at hD
      have hf : Pr[P0.length]? = some f := by rw [eP]; exact List.getElem?_concat_length
      obtain ⟨a, a1, a2⟩ := l3 _ f hf
      obtain ⟨vs0, ev⟩ : ∃ vs0, vs = vs0 ++ [.ref a] := by
        have hvl : vs.length = P0.length + 1 := by rw [l2, eP, List.length_append, List.length_singleton]
        refine ⟨vs.take P0.length, ?_⟩
        have h1 := take_snoc a1
        rw [List.take_of_length_le (by omega)] at h1
        exact h1
      have nap : a ≠ p := by
        obtain ⟨qa, ra, c1, c2, c3⟩ := id a2
        exact ne_of c1 hp (by intro z; cases z)
      refine ⟨_, rfl, 1, rfl, l, _, _, _, rfl, rfl, SqL.of (b3 _ _ l1 nlp), (by rw [ev]; exact atI_last _ _), _, rfl, ?_⟩
      intro x0 dx0 nx ndx nex
      have nx0p : x0 ≠ p := fun z => by rw [z, p3] at nx; cases nx
      have ndx0p : dx0 ≠ p := fun z => by rw [z, p3] at ndx; cases ndx
      have nx0 : H x0 = none := b3.none nx nx0p
      have ndx0 : H dx0 = none := b3.none ndx ndx0p
      have s4 : Same H3 (upd (upd H3 dx0 (.own x0)) x0 (.ins CF dx0 [])) := (Same.new ndx).trans (Same.new (by rw [upd_ne (Ne.symm nex)]; exact nx))
      have b4 := b3.same s4
      refine ⟨x0, dx0, a, la, f, args, rfl, upd_same, a2.mono (b4.ts hp), (hP.fns f (by rw [eP]; simp)).small, b4 _ _ hla nlap, hlen, fun r d fl H5 b5 nd nfl ob rw' fw' dc' => ⟨rfl, ?_⟩⟩
      have p4 := s4 _ _ p3
      have d4 := s4 _ _ d3
      generalize (upd (upd H3 dx0 (.own x0)) x0 (.ins CF dx0 [])) = H4 at *
      have p5 := b5 _ _ p4 (Ne.symm nx0p)
      have nfdx : fd ≠ x0 := fun z => by rw [← z, d3] at nx; cases nx
      have d5 := b5 _ _ d4 nfdx
      have b6 : But p H H5 := fun b o e n => b5 b o (b4 b o e n) (ne_of_none e nx0)
      have ndp : d ≠ p := fun z => by rw [z, p4] at nd; cases nd
      have nflp : fl ≠ p := fun z => by rw [z, p4] at nfl; cases nfl
      have ndfd : d ≠ fd := fun z => by rw [z, d4] at nd; cases nd
      have nd0 : H d = none := b4.none nd ndp
      have nfl0 : H fl = none := b4.none nfl nflp
      refine ⟨(by show 1 ≤ sizeLine; exact le_line (by decide)), fun l' hl' => ?_⟩
      have nl'p : l' ≠ p := fun z => by rw [z, p5] at hl'; cases hl'
      have nl' : H l' = none := b6.none hl' nl'p
      refine ⟨_, rfl, p, C, dx, _, rfl, (by rw [upd_ne nl'p.symm]; exact p5), T.cl, T.nS, (by show 5 < 1000; decide), ?_⟩
      rw [w_putS]
      have nl'd : l' ≠ d := fun z => by
        obtain ⟨kv, e1, _⟩ := dc'
        rw [z, e1] at hl'
        cases hl'
      have nl'fl : l' ≠ fl := fun z => by
        obtain ⟨kv, e1, _⟩ := fw'
        rw [z, e1] at hl'
        cases hl'
      have nl'fd : l' ≠ fd := fun z => by rw [z, d5] at hl'; cases hl'
      have nl'x : l' ≠ x0 := fun z => by rw [z, ob] at hl'; cases hl'
      have b7 : But p H (upd (upd H5 l' (.lst [.ref x0])) p (.ins C dx (wF ls ds .non fd l'))) := (b6.new nl').put
      have s7 : TS_ H5 (upd (upd H5 l' (.lst [.ref x0])) p (.ins C dx (wF ls ds .non fd l'))) := (ts_of (Same.new hl')).trans (TS_.upd fun xs z => by rw [upd_ne nl'p.symm, p5] at z; cases z)
      refine k _ (fun b => b = p ∨ b = l' ∨ b = fd ∨ b = x0 ∨ b = d ∨ b = fl) b7 ?_ ?_
      · rintro b (rfl | rfl | rfl | rfl | rfl | rfl)
        · exact .inl rfl
        · exact .inr nl'
        · exact .inr hfd0
        · exact .inr nx0
        · exact .inr nd0
        · exact .inr nfl0
      · have kp : ∀ {b : Addr} {o : HO}, b ≠ p → b ≠ l' → H5 b = some o → (upd (upd H5 l' (.lst [.ref x0])) p (.ins C dx (wF ls ds .non fd l'))) b = some o := fun {b o} n1 n2 e => by
          rw [upd_ne n1, upd_ne n2]
          exact e
        have ok1 : PFok CF (fun b => b = p ∨ b = l' ∨ b = fd ∨ b = x0 ∨ b = d ∨ b = fl) (upd (upd H5 l' (.lst [.ref x0])) p (.ins C dx (wF ls ds .non fd l'))) ⟨x0, dx0, d, r, fl, newA f args⟩ := by
          refine ⟨kp nx0p nl'x.symm ob, rw'.mono s7, fw'.mono s7 fun o e => kp nflp nl'fl.symm e, dc'.at fun o e => kp ndp nl'd.symm e, by simp, by simp, by simp⟩
        have at0 : ∀ {i : Nat} {x : PF}, ([⟨x0, dx0, d, r, fl, newA f args⟩] : List PF)[i]? = some x → i = 0 ∧ x = ⟨x0, dx0, d, r, fl, newA f args⟩ := fun {i x} h => by
          cases i with
          | zero => exact ⟨rfl, (Option.some.inj h).symm⟩
          | succ n => cases h
        refine ⟨dx, ls, ds, fd, l', [⟨x0, dx0, d, r, fl, newA f args⟩], ⟨upd_same, (by rw [upd_ne nl'p, upd_same]; rfl), ⟨kvs, kp nfdp nl'fd.symm d5, fun g f' hg => ?_⟩, fun i x hx => ?_, fun i j x y h1 h2 hn => ?_, fun i x hx => ?_, fun i x hx => ?_, by simp, by simp, by simp, fun b hb => ?_⟩, rfl⟩
        · obtain ⟨a', e1, e2⟩ := hD g f' hg
          exact ⟨a', e1, e2.mono (b7.ts hp)⟩
        · obtain ⟨_, rfl⟩ := at0 hx
          exact ok1
        · exact absurd ((at0 h1).1.trans (at0 h2).1.symm) hn
        · obtain ⟨_, rfl⟩ := at0 hx
          exact ndfd
        · obtain ⟨_, rfl⟩ := at0 hx
          exact nl'fl.symm
        · rcases hb with rfl | rfl | rfl | rfl | rfl | rfl
          · exact ⟨_, upd_same, rfl⟩
          · exact ⟨_, (by rw [upd_ne nl'p, upd_same]), rfl⟩
          · exact ⟨_, kp nfdp nl'fd.symm d5, rfl⟩
          · exact ⟨_, ok1.ob, rfl⟩
          · obtain ⟨kv, e1, _⟩ := ok1.dc
            exact ⟨_, e1, rfl⟩
          · obtain ⟨kv, e1, _⟩ := ok1.fw
            exact ⟨_, e1, rfl⟩
end
end SG


/-! the law's small defs: cell_at, stream, value_by, atom, worth. -/
namespace SG
open PySem PySem.Spec PyProof.Rows L2
/-- a choice -/
theorem bD {p : Prop} [Decidable p] {A : Bool → Prop} (h1 : p → A true) (h2 : ¬ p → A false) : ∃ b, V.bl (decide p) = V.bl b ∧ A b := by
  by_cases h : p
  · exact ⟨true, congrArg V.bl (decide_eq_true h), h1 h⟩
  · exact ⟨false, congrArg V.bl (decide_eq_false h), h2 h⟩
theorem Same.setN {H H1 : Hp} {d : Addr} {o : HO} (s : Same H H1) (h : H d = none) : Same H (upd H1 d o) := fun b u e => by
  rw [upd_ne (ne_of_none e h)]
  exact s b u e
theorem SqL.sm {K : PySem.W.Frag} {H H' : Hp} {a : Addr} {xs : List V} (h : SqL K H a xs) (s : Same H H') : SqL K H' a xs :=
  h.elim (fun h => .inl (h.elim (fun h => .inl (s _ _ h)) fun ⟨o, h⟩ => .inr ⟨o, s _ _ h⟩)) fun h => .inr h
theorem cut_none (xs : List V) (k : Nat) : cutV xs none (some (k : Int)) = xs.take k := by
  unfold cutV
  rw [HT.sIx_none, HT.sIx_nat, List.drop_zero, Nat.sub_zero, List.take_eq_take_iff]
  omega
theorem cut_from (xs : List V) (k : Nat) : cutV xs (some (k : Int)) none = xs.drop k := by
  unfold cutV
  rw [HT.sIx_none, HT.sIx_nat]
  rw [List.take_of_length_le (by rw [List.length_drop]; omega)]
  by_cases h : k ≤ xs.length
  · rw [Nat.min_eq_left h]
  · rw [Nat.min_eq_right (by omega), List.drop_length, List.drop_of_length_le (by omega)]
theorem cut_map {α : Type} (f : α → V) (xs : List α) (lo hi : Option Int) : ∃ ys : List α, cutV (xs.map f) lo hi = ys.map f ∧ ys.length ≤ xs.length ∧ ys.length ≤ HT.sIx xs.length xs.length hi - HT.sIx xs.length 0 lo := by
  refine ⟨(xs.drop (HT.sIx xs.length 0 lo)).take (HT.sIx xs.length xs.length hi - HT.sIx xs.length 0 lo), ?_, ?_, ?_⟩
  · unfold cutV
    rw [List.length_map, ← List.map_drop, ← List.map_take]
  · rw [List.length_take, List.length_drop]
    omega
  · rw [List.length_take]
    omega
theorem mod_nat (z : Int) {n : Nat} (h : 0 < n) : ∃ j : Nat, z % (n : Int) = (j : Int) ∧ j < n := by
  have h1 := Int.emod_nonneg z (b := (n : Int)) (by omega)
  have h2 := Int.emod_lt_of_pos z (b := (n : Int)) (by omega)
  obtain ⟨j, hj⟩ := Int.eq_ofNat_of_zero_le h1
  exact ⟨j, hj, by omega⟩
theorem at_mod {α : Type} (f : α → V) (xs : List α) (z : Int) {n : Nat} (h : 0 < n) (hn : n ≤ xs.length) : ∃ x, x ∈ xs ∧ atI (xs.map f) (z % (n : Int)) = some (f x) := by
  obtain ⟨j, e, hj⟩ := mod_nat z h
  refine ⟨xs[j], List.getElem_mem _, ?_⟩
  rw [e]
  exact atI_nat (by rw [List.getElem?_map, List.getElem?_eq_getElem (by omega)]; rfl)
section
variable {P : Program} {w : World} {K : PySem.W.Frag} {mg : Str → Option Value} {base : Heap}
/-! ### _law_cell_at -/
abbrev sCellAt : Stmt := top 22
theorem scCellAt : FnScope ["_law_script", "_law_k"] ["_law_script", "_law_k"] (defScope sCellAt) := ⟨rfl, rfl, rfl, by decide +kernel, rfl, by decide +kernel, by decide +kernel⟩
def spCellAt (K : PySem.W.Frag) : Sp := fun vs H Q _ => ∃ (a : Addr) (k : Nat) (ns : List Int), vs = [.ref a, .int (k : Int)] ∧ SqL K H a (ns.map V.int) ∧ ∀ z, Q (.int z) H
theorem c_cellat (D : DefG K mg "_law_cell_at" sCellAt) (zL : mg "len" = none) : C8.Cal P w K mg base 1 "_law_cell_at" (spCellAt K) [] := by
  refine cal_of D scCellAt (fun _ _ _ _ _ _ us hl => match us, hl with | [_, _], _ => rfl) (fun vs H Q E h => ?_) (fun f0 cdv A outer s H vs Q E hr h => ?_)
  · obtain ⟨a, k, ns, rfl, _⟩ := h
    rfl
  · obtain ⟨a, k, ns, rfl, hs, q⟩ := h
    refine ⟨_, pss_cons (ps_if (pt_cmpR op_lt (pv 1) (pe_callB call_len_seq (by rfl) zL PySem.boot_len (pa_cons (pv 0) pa_nil)) (nomark _)) (pss_one (ps_ret (pe_ix ix_list (pv 0) (pv 1) (fun _ _ => rfl)))) pss_nil) <|
      pss_one (ps_ret pe_int), ?_⟩
    refine ⟨_, rfl, _, rfl, a, _, rfl, .inl hs, _, _, rfl, rfl, bD (fun h => iteT ?_) (fun h => iteF (q _))⟩
    rw [List.length_map] at h
    have hk : k < ns.length := by omega
    refine ⟨_, rfl, _, rfl, a, _, _, _, rfl, rfl, hs, atI_nat (v := .int ns[k]) ?_, q _⟩
    rw [List.getElem?_map, List.getElem?_eq_getElem hk]
    rfl

/-! ### _law_stream -/
abbrev sStream : Stmt := top 23
theorem scStream : FnScope ["_law_cell", "_law_many", "_law_found", "_law_number", "_law_k"] ["_law_cell", "_law_many"] (defScope sStream) := ⟨rfl, rfl, rfl, by decide +kernel, rfl, by decide +kernel, by decide +kernel⟩
def spStream : Sp := fun vs H Q _ => ∃ (c : Int) (m : Nat), vs = [.int c, .int (m : Int)] ∧ m ≤ 1000 ∧ ∀ (l : Addr) (H' : Hp) (xs : List Int), Same H H' → H l = none → H' l = some (.lst (xs.map V.int)) → xs.length = m → (∀ x ∈ xs, 0 ≤ x ∧ x < 2147483647) → Q (.ref l) H'
theorem c_stream (D : DefG K mg "_law_stream" sStream) (zR : mg "range" = none) : C8.Cal P w K mg base 1 "_law_stream" spStream [] := by
  refine cal_of D scStream (fun _ _ _ _ _ _ us hl => match us, hl with | [_, _], _ => rfl) (fun vs H Q E h => ?_) (fun f0 cdv A outer s H vs Q E hr h => ?_)
  · obtain ⟨c, m, rfl, _⟩ := h
    rfl
  · obtain ⟨c, m, rfl, hm, q⟩ := h
    refine ⟨_, pss_cons (ps_set (i := 2) scStream.nd rfl (.inl rfl) (pe_lst pa_nil)) <|
      pss_cons (ps_set (i := 3) scStream.nd rfl (.inl rfl) (pe_op op_add (pe_op op_mod (pv 0) pe_int) pe_int)) <|
      pss_cons (ps_for PassesOwn.never rfl (pi_range1 (by rfl) zR (pa_cons (pe_op op_add (pv 1) pe_int) pa_nil)) (pg_name (i := 4) scStream.nd rfl (.inl rfl)) <|
        pss_cons (ps_set (i := 3) scStream.nd rfl (.inl rfl) (pe_op op_mod (pe_op op_add (pe_op op_add (pe_op op_mul (pv 3) (pv 3)) (pe_op op_mul pe_int (pv 3))) (pv 4)) pe_int)) <|
        pss_one (ps_expr (pe_bm PySem.F.plainAttrs_list PySem.F.slot_list_append PySem.F.type_list_append mt_append (pv 2) (pa_cons (pv 3) pa_nil)))) <|
      pss_one (ps_ret (pe_slice sl_list (pv 2) (po_some pe_int) po_none)), ?_⟩
    refine ⟨Nat.zero_le _, fun l hl => ?_⟩
    refine ⟨_, rfl, _, _, rfl, rfl, (by show (0:Int) < _; decide), _, _, rfl, rfl, ?_⟩
    have c0 := Int.emod_nonneg c (b := 2147483647) (by decide)
    have c1 := Int.emod_lt_of_pos c (b := 2147483647) (by decide)
    refine ⟨_, rfl, _, _, rfl, rfl, _, rfl, by omega, by omega, for_range (fun i σ H' => ∃ (z : Int) (k : Option V) (xs : List Int), σ = [some (.int c), some (.int m), some (.ref l), some (.int z), k] ∧ Same H H' ∧ H' l = some (.lst (xs.map V.int)) ∧ xs.length = i ∧ (∀ x ∈ xs, 0 ≤ x ∧ x < 2147483647) ∧ 0 ≤ z ∧ z < 2147531918)
      ⟨_, none, [], rfl, Same.new hl, upd_same, rfl, by simp, by omega, by omega⟩ ?_ ?_⟩
    · rintro i σ H' hi ⟨z, k, xs, rfl, s1, h1, hn, hx, z0, z1⟩
      refine ⟨_, rfl, _, rfl, _, _, rfl, rfl, .inl ⟨by omega, by omega⟩, _, rfl, _, _, rfl, rfl, .inl ⟨by omega, by omega⟩, _, _, rfl, rfl, _, rfl, _, _, rfl, rfl, _, _, rfl, rfl, (by show (0:Int) < _; decide), ?_⟩
      have y0 := Int.emod_nonneg (z * z + 48271 * z + (0 + (i : Int))) (b := 2147483647) (by decide)
      have y1 := Int.emod_lt_of_pos (z * z + 48271 * z + (0 + (i : Int))) (b := 2147483647) (by decide)
      generalize hy : (z * z + 48271 * z + (0 + (i : Int))) % 2147483647 = y at y0 y1
      simp only [hy]
      refine ⟨_, rfl, .inl ⟨rfl, _, SqL.of h1⟩, _, rfl, l, _, _, rfl, rfl, h1, lt_line (by rw [List.length_map]; omega), ?_⟩
      refine ⟨y, _, xs ++ [y], rfl, Same.setN s1 hl, ?_, by rw [List.length_append, hn]; rfl, fun x hx' => ?_, y0, by omega⟩
      · rw [upd_same, List.map_append]
        rfl
      · rcases List.mem_append.mp hx' with h | h
        · exact hx x h
        · rw [List.mem_singleton.mp h]
          exact ⟨y0, y1⟩
    · rintro σ H' ⟨z, k, xs, rfl, s1, h1, hn, hx, z0, z1⟩
      refine ⟨_, rfl, _, rfl, l, _, rfl, SqL.of h1, fun p hp => ?_⟩
      have hp0 : H p = none := s1.free hp
      refine q p _ (xs.drop 1) (Same.setN s1 hp0) hp0 ?_ ?_ fun x hx' => hx x (List.mem_of_mem_drop hx')
      · rw [upd_same, List.map_drop]
        exact congrArg (fun t => some (HO.lst t)) (cut_from _ 1)
      · rw [List.length_drop, hn]
        omega

/-! ### _law_value_by -/
abbrev sValueBy : Stmt := top 25
theorem scValueBy : FnScope ["_law_number"] ["_law_number"] (defScope sValueBy) := ⟨rfl, rfl, rfl, by decide +kernel, rfl, by decide +kernel, by decide +kernel⟩
def spValueBy : Sp := fun vs H Q _ => ∃ n, vs = [.int n] ∧ ∀ z, Q (.int z) H
theorem c_valueby (D : DefG K mg "_law_value_by" sValueBy) : C8.Cal P w K mg base 1 "_law_value_by" spValueBy [] := by
  refine cal_of D scValueBy (fun _ _ _ _ _ _ us hl => match us, hl with | [_], _ => rfl) (fun vs H Q E h => ?_) (fun f0 cdv A outer s H vs Q E hr h => ?_)
  · obtain ⟨n, rfl, _⟩ := h
    rfl
  · obtain ⟨n, rfl, q⟩ := h
    refine ⟨_, pss_cons (ps_if (pt_cmpR op_eq (pe_op op_mod (pv 0) pe_int) pe_int (nomark _)) (pss_one (ps_ret (pe_op op_mod (pe_op op_fdiv (pv 0) pe_int) pe_int))) pss_nil) <|
      pss_cons (ps_if (pt_cmpR op_eq (pe_op op_mod (pv 0) pe_int) pe_int (nomark _)) (pss_one (ps_ret (pe_op op_sub (pe_op op_sub (pe_op op_pow pe_int pe_int) pe_int) (pe_op op_mod (pe_op op_fdiv (pv 0) pe_int) pe_int)))) pss_nil) <|
      pss_one (ps_ret (pe_op op_mod (pe_op op_mul (pe_op op_fdiv (pv 0) pe_int) pe_int) (pe_op op_pow pe_int pe_int))), ?_⟩
    refine ⟨_, rfl, _, _, rfl, rfl, (by show (0:Int) < _; decide), rfl, bD (fun h => iteT ?_) (fun h => iteF ?_)⟩
    · exact ⟨_, rfl, _, _, rfl, rfl, (by unfold CDiv; decide), _, _, rfl, rfl, (by show (0:Int) < _; decide), q _⟩
    · refine ⟨_, rfl, _, _, rfl, rfl, (by show (0:Int) < _; decide), rfl, bD (fun h => iteT ?_) (fun h => iteF ?_)⟩
      · exact ⟨_, _, rfl, rfl, (by unfold CPow; decide), _, _, rfl, rfl, _, rfl, _, _, rfl, rfl, (by unfold CDiv; decide), _, _, rfl, rfl, (by show (0:Int) < _; decide), _, _, rfl, rfl, q _⟩
      · exact ⟨_, rfl, _, _, rfl, rfl, (by unfold CDiv; decide), _, _, rfl, rfl, .inr ⟨by decide, by decide⟩, _, _, rfl, rfl, (by unfold CPow; decide), _, _, rfl, rfl, (by show (0:Int) < _; decide), q _⟩

/-! ### _law_atom -/
abbrev sAtom : Stmt := top 26
theorem scAtom : FnScope ["_law_number", "_law_names_here"] ["_law_number", "_law_names_here"] (defScope sAtom) := ⟨rfl, rfl, rfl, by decide +kernel, rfl, by decide +kernel, by decide +kernel⟩
def spAtom : Sp := fun vs H Q _ => ∃ (n : Int) (l : Addr) (ns : List Str), vs = [.int n, .ref l] ∧ H l = some (.lst (ns.map V.str)) ∧ 0 < ns.length ∧ ∀ a : Atom, Q a.v H
theorem c_atom (D : DefG K mg "_law_atom" sAtom) (cV : C8.Cal P w K mg base 1 "_law_value_by" spValueBy []) (zL : mg "len" = none) : C8.Cal P w K mg base 2 "_law_atom" spAtom [] := by
  refine cal_of D scAtom (fun _ _ _ _ _ _ us hl => match us, hl with | [_, _], _ => rfl) (fun vs H Q E h => ?_) (fun f0 cdv A outer s H vs Q E hr h => ?_)
  · obtain ⟨n, l, ns, rfl, _⟩ := h
    rfl
  · obtain ⟨n, l, ns, rfl, hl, hne, q⟩ := h
    refine ⟨_, pss_cons (ps_if (pt_cmpR op_eq (pe_op op_mod (pv 0) pe_int) pe_int (nomark _)) (pss_one (ps_ret (C8.pe_c cV hr (by decide) rfl (pa_cons (pe_op op_fdiv (pv 0) pe_int) pa_nil)))) pss_nil) <|
      pss_one (ps_ret (pe_ix ix_list (pv 1) (pe_op op_mod (pe_op op_fdiv (pv 0) pe_int) (pe_callB call_len_seq (by rfl) zL PySem.boot_len (pa_cons (pv 1) pa_nil))) (fun _ _ => rfl))), ?_⟩
    refine ⟨_, rfl, _, _, rfl, rfl, (by show (0:Int) < _; decide), rfl, bD (fun h => iteT ?_) (fun h => iteF ?_)⟩
    · exact ⟨_, rfl, _, _, rfl, rfl, (by unfold CDiv; decide), _, rfl, fun z => q (.n z)⟩
    · obtain ⟨x, _, hx⟩ := at_mod V.str ns (n / 3) hne (Nat.le_refl _)
      exact ⟨_, rfl, _, rfl, _, _, rfl, rfl, (by unfold CDiv; decide), _, rfl, l, _, rfl, .inl (SqL.of hl), _, _, rfl, rfl, (by rw [List.length_map]; omega), l, _, _, _, rfl, rfl, SqL.of hl, (by rw [List.length_map]; exact hx), q (.x x)⟩

/-! ### _law_worth -/
abbrev sLWorth : Stmt := top 29
theorem scLWorth : FnScope ["_law_atom_here", "_law_now"] ["_law_atom_here", "_law_now"] (defScope sLWorth) := ⟨rfl, rfl, rfl, by decide +kernel, rfl, by decide +kernel, by decide +kernel⟩
def spLWorth : Sp := fun vs H Q _ => ∃ (d : Addr) (a : Atom) (e : EnvF), vs = [a.v, .ref d] ∧ DictIs H d e ∧ a.inE e ∧ Q (.int (worth e a)) H
theorem c_lworth (D : DefG K mg "_law_worth" sLWorth) (zI : mg "isinstance" = none) (zS : mg "str" = none) : C8.Cal P w K mg base 1 "_law_worth" spLWorth [] := by
  refine cal_of D scLWorth (fun _ _ _ _ _ _ us hl => match us, hl with | [_, _], _ => rfl) (fun vs H Q E h => ?_) (fun f0 cdv A outer s H vs Q E hr h => ?_)
  · obtain ⟨d, a, e, rfl, _⟩ := h
    rfl
  · obtain ⟨d, a, e, rfl, hD, ha, q⟩ := h
    have hu := hu_of hr
    refine ⟨_, pss_cons (ps_if (pt_val (pe_callB call_isi (by rfl) zI (by decide +kernel) (pa_cons (pv 0) (pa_cons (pe_bltn (v := .ty "str") (by rfl) zS (by decide +kernel) rfl) pa_nil)))) (pss_one (ps_ret (pe_dget hu (pv 1) (pv 0) (fun _ _ => rfl)))) pss_nil) <|
      pss_one (ps_ret (pv 0)), ?_⟩
    cases a with
    | n k =>
      refine ⟨_, rfl, _, _, _, _, false, rfl, ClsV.ty _, TyX.base (TyOf.int _), kit_ty (by decide +kernel), false, rfl, iteF ?_⟩
      exact rv rfl q
    | x s =>
      refine ⟨_, rfl, _, _, _, _, true, rfl, ClsV.ty _, TyX.base (TyOf.str _), kit_ty (by decide +kernel), true, rfl, iteT ?_⟩
      exact ⟨_, rfl, _, rfl, d, _, rfl, hD.get ha, q⟩
end
end SG


/-! the law's parts, frame. -/
namespace SG
open PySem PySem.Spec PyProof.Rows L2
/-- what stands in a row behind its kind, a call's text left out -/
def Row.parts : Row → List V
  | .copy x a => [.str x, a.v]
  | .op x _ a b => [.str x, a.v, b.v]
  | .call x _ as => .str x :: as.map Atom.v
  | .back a => [a.v]
theorem Row.parts_len (r : Row) : r.parts.length ≤ r.atoms.length + 1 := by
  cases r with
  | copy x a => exact Nat.le_refl _
  | op x s a b => exact Nat.le_refl _
  | call x g as => show (as.map Atom.v).length + 1 ≤ _; rw [List.length_map]; exact Nat.le_refl _
  | back a => exact Nat.le_succ _
theorem atom_str {a : Atom} {x : Str} : a.v = .str x ↔ a = .x x := by
  cases a with
  | n i => exact ⟨fun h => (by cases h), fun h => (by cases h)⟩
  | x s => exact ⟨fun h => (by rw [V.str.inj h]), fun h => (by rw [h]; rfl)⟩
theorem atoms_str {as : List Atom} {x : Str} : V.str x ∈ as.map Atom.v ↔ Atom.x x ∈ as := by
  rw [List.mem_map]
  constructor
  · rintro ⟨a, h1, h2⟩
    rw [← atom_str.mp h2]
    exact h1
  · intro h
    exact ⟨_, h, rfl⟩
theorem Row.parts_has (r : Row) (x : Str) : V.str x ∈ r.parts ↔ r.has x := by
  have e : ∀ y : Str, (V.str x = V.str y) ↔ some y = some x := fun y => ⟨fun h => by rw [V.str.inj h], fun h => by rw [Option.some.inj h]⟩
  cases r with
  | copy y a =>
    show V.str x ∈ V.str y :: ([a].map Atom.v) ↔ some y = some x ∨ Atom.x x ∈ [a]
    rw [List.mem_cons, atoms_str, e]
  | op y s a b =>
    show V.str x ∈ V.str y :: ([a, b].map Atom.v) ↔ some y = some x ∨ Atom.x x ∈ [a, b]
    rw [List.mem_cons, atoms_str, e]
  | call y g as =>
    show V.str x ∈ V.str y :: (as.map Atom.v) ↔ some y = some x ∨ Atom.x x ∈ as
    rw [List.mem_cons, atoms_str, e]
  | back a =>
    show V.str x ∈ ([a].map Atom.v) ↔ none = some x ∨ Atom.x x ∈ [a]
    rw [atoms_str]
    simp
/-- each part is a text or a number -/
theorem Row.parts_kind (r : Row) : ∀ v ∈ r.parts, (∃ x, v = .str x) ∨ ∃ i, v = .int i := by
  have ka : ∀ a : Atom, (∃ x, a.v = .str x) ∨ ∃ i, a.v = .int i := fun a => by
    cases a with
    | n i => exact .inr ⟨i, rfl⟩
    | x s => exact .inl ⟨s, rfl⟩
  have kas : ∀ as : List Atom, ∀ v ∈ as.map Atom.v, (∃ x, v = .str x) ∨ ∃ i, v = .int i := fun as v hv => by
    obtain ⟨a, _, rfl⟩ := List.mem_map.mp hv
    exact ka a
  cases r with
  | copy y a =>
    show ∀ v ∈ V.str y :: ([a].map Atom.v), _
    intro v hv
    rcases List.mem_cons.mp hv with rfl | h
    · exact .inl ⟨y, rfl⟩
    · exact kas _ v h
  | op y s a b =>
    show ∀ v ∈ V.str y :: ([a, b].map Atom.v), _
    intro v hv
    rcases List.mem_cons.mp hv with rfl | h
    · exact .inl ⟨y, rfl⟩
    · exact kas _ v h
  | call y g as =>
    show ∀ v ∈ V.str y :: (as.map Atom.v), _
    intro v hv
    rcases List.mem_cons.mp hv with rfl | h
    · exact .inl ⟨y, rfl⟩
    · exact kas _ v h
  | back a => exact kas [a]
section
variable {P : Program} {w : World} {K : PySem.W.Frag} {mg : Str → Option Value} {base : Heap}
/-! ### _law_parts -/
abbrev sParts : Stmt := top 30
theorem scParts : FnScope ["_law_row_here"] ["_law_row_here"] (defScope sParts) := ⟨rfl, rfl, rfl, by decide +kernel, rfl, by decide +kernel, by decide +kernel⟩
def spParts : Sp := fun vs H Q _ => ∃ (p : Addr) (r : Row), vs = [.ref p] ∧ RowAt H p r ∧ r.atoms.length ≤ 10 ∧ ∀ l H', Same H H' → H l = none → H' l = some (.lst r.parts) → Q (.ref l) H'
theorem c_parts (D : DefG K mg "_law_parts" sParts) (zL : mg "list" = none) : C8.Cal P w K mg base 1 "_law_parts" spParts [] := by
  refine cal_of D scParts (fun _ _ _ _ _ _ us hl => match us, hl with | [_], _ => rfl) (fun vs H Q E h => ?_) (fun f0 cdv A outer s H vs Q E hr h => ?_)
  · obtain ⟨p, r, rfl, _⟩ := h
    rfl
  · obtain ⟨p, r, rfl, hp, hz, q⟩ := h
    refine ⟨_, pss_cons (ps_if (pt_cmpR op_eq (pe_ix ix_tup (pv 0) pe_int (fun _ _ => rfl)) pe_str (nomark _)) (pss_one (ps_ret (pe_op op_cat (pe_lst (pa_cons (pe_ix ix_tup (pv 0) pe_int (fun _ _ => rfl)) pa_nil)) (pe_callTy call_list_of (by rfl) zL (by decide +kernel) (pa_cons (pe_ix ix_tup (pv 0) pe_int (fun _ _ => rfl)) pa_nil))))) pss_nil) <|
      pss_cons (ps_if (pt_cmpR op_eq (pe_ix ix_tup (pv 0) pe_int (fun _ _ => rfl)) pe_str (nomark _)) (pss_one (ps_ret (pe_lst (pa_cons (pe_ix ix_tup (pv 0) pe_int (fun _ _ => rfl)) (pa_cons (pe_ix ix_tup (pv 0) pe_int (fun _ _ => rfl)) (pa_cons (pe_ix ix_tup (pv 0) pe_int (fun _ _ => rfl)) pa_nil)))))) pss_nil) <|
      pss_one (ps_ret (pe_callTy call_list_of (by rfl) zL (by decide +kernel) (pa_cons (pe_slice sl_tup (pv 0) (po_some pe_int) po_none) pa_nil))), ?_⟩
    cases r with
    | copy x a =>
      refine rIxEqF rfl (SqT.of hp) rfl (by decide +kernel) (iteF (rIxEqF rfl (SqT.of hp) rfl (by decide +kernel) (iteF ?_)))
      refine ⟨_, rfl, _, rfl, p, _, rfl, SqT.of hp, ?_, fun t ht => ⟨_, _, rfl, .inr (SqT.of upd_same), fun l hl => ?_⟩⟩
      · rintro ⟨h, _⟩
        exact absurd h (by show ¬ HT.sIx 3 0 (some 1) = 0; decide)
      · have ht' := Same.new (o := HO.tup (cutV [.str "copy", .str x, a.v] (some 1) none)) ht
        refine q l _ (Same.setN ht' (ht'.free hl)) (ht'.free hl) ?_
        rw [upd_same]
        exact congrArg (fun t => some (HO.lst t)) (cut_from [.str "copy", .str x, a.v] 1)
    | op x s a b =>
      refine rIxEqF rfl (SqT.of hp) rfl (by decide +kernel) (iteF (rIxEqT rfl (SqT.of hp) rfl rfl (iteT ?_)))
      refine rix rfl (SqT.of hp) rfl (rix rfl (SqT.of hp) rfl (rix rfl (SqT.of hp) rfl ⟨le_line (by show 3 ≤ 100000; decide), fun l hl => ?_⟩))
      exact q l _ (Same.new hl) hl upd_same
    | call x g as =>
      obtain ⟨z, h1, h2⟩ := hp
      have hz' : as.length ≤ 10 := hz
      refine rIxEqT rfl (SqT.of h1) rfl rfl (iteT ?_)
      refine rix rfl (SqT.of h1) rfl ⟨le_line (by show 1 ≤ 100000; decide), fun l hl => ?_⟩
      have s1 : Same H (upd H l (.lst [.str x])) := Same.new hl
      refine rix rfl (SqT.of (s1 _ _ h1)) rfl ⟨_, _, rfl, .inr (SqT.of (s1 _ _ h2)), fun l2 hl2 => ?_⟩
      have n2 : l ≠ l2 := fun z => by rw [← z, upd_same] at hl2; cases hl2
      refine ⟨l, l2, _, _, rfl, rfl, (by rw [upd_ne n2, upd_same]), upd_same, le_line (by rw [List.length_map, List.length_singleton]; omega), fun l3 hl3 => ?_⟩
      have s2 := Same.setN (o := HO.lst (as.map Atom.v)) s1 (s1.free hl2)
      exact q l3 _ (Same.setN s2 (s2.free hl3)) (s2.free hl3) upd_same
    | back a =>
      refine rIxEqF rfl (SqT.of hp) rfl (by decide +kernel) (iteF (rIxEqF rfl (SqT.of hp) rfl (by decide +kernel) (iteF ?_)))
      refine ⟨_, rfl, _, rfl, p, _, rfl, SqT.of hp, ?_, fun t ht => ⟨_, _, rfl, .inr (SqT.of upd_same), fun l hl => ?_⟩⟩
      · rintro ⟨h, _⟩
        exact absurd h (by show ¬ HT.sIx 2 0 (some 1) = 0; decide)
      · have ht' := Same.new (o := HO.tup (cutV [.str "back", a.v] (some 1) none)) ht
        refine q l _ (Same.setN ht' (ht'.free hl)) (ht'.free hl) ?_
        rw [upd_same]
        exact congrArg (fun t => some (HO.lst t)) (cut_from [.str "back", a.v] 1)

/-! ### _law_frame -/
abbrev sLFrame : Stmt := top 31
theorem scLFrame : FnScope ["_law_function", "_law_args", "_law_now", "_law_row_here", "_law_part", "_law_name", "_law_number"] ["_law_function", "_law_args"] (defScope sLFrame) := ⟨rfl, rfl, rfl, by decide +kernel, rfl, by decide +kernel, by decide +kernel⟩
def spLFrame : Sp := fun vs H Q _ => ∃ (a la : Addr) (f : Fn) (args : List Int), vs = [.ref a, .ref la] ∧ FnAt H a f ∧ FnSz f ∧ H la = some (.lst (args.map V.int)) ∧ f.ps.length = args.length ∧
  ∀ (y d : Addr) (H' : Hp), Same H H' → H y = none → H d = none → H' y = some (.lst [.ref a, .int 0, .ref d]) → DictIs H' d (initE f args) → Q (.ref y) H'
theorem zero_init {ns : List Str} {f : Fn} (h : ∀ x, x ∈ ns ↔ ∃ r ∈ f.rows, r.has x) {args : List Int} (hl : f.ps.length = args.length) : foldE (zeroE ns) f.ps args = initE f args := by
  unfold initE
  refine foldE_congr hl fun x hx => ?_
  unfold zeroE
  by_cases q : x ∈ ns
  · rw [if_pos q, if_pos (show f.has x from .inr ((h x).mp q))]
  · rw [if_neg q, if_neg (show ¬ f.has x from fun z => by
      rcases z with z | z
      · exact hx z
      · exact q ((h x).mpr z))]
theorem c_lframe (D : DefG K mg "_law_frame" sLFrame) (cP : C8.Cal P w K mg base 1 "_law_parts" spParts []) (zI : mg "isinstance" = none) (zS : mg "str" = none) (zZ : mg "zip" = none) : C8.Cal P w K mg base 2 "_law_frame" spLFrame [] := by
  refine cal_of D scLFrame (fun _ _ _ _ _ _ us hl => match us, hl with | [_, _], _ => rfl) (fun vs H Q E h => ?_) (fun f0 cdv A outer s H vs Q E hr h => ?_)
  · obtain ⟨a, la, f, args, rfl, _⟩ := h
    rfl
  · obtain ⟨a, la, f, args, rfl, hA, hz, hla, hlen, q⟩ := h
    have hu := hu_of hr
    refine ⟨_, pss_cons (ps_set (i := 2) scLFrame.nd rfl (.inl rfl) pe_dnewK) <|
      pss_cons (ps_for PassesOwn.never rfl (pi_tup (pe_ix ix_tup (pv 0) pe_int (fun _ _ => rfl))) (pg_name (i := 3) scLFrame.nd rfl (.inl rfl)) <|
        pss_one (ps_for PassesOwn.never rfl (pi_list (C8.pe_c cP hr (by decide) rfl (pa_cons (pv 3) pa_nil))) (pg_name (i := 4) scLFrame.nd rfl (.inl rfl)) <|
          pss_one (ps_if (pt_val (pe_callB call_isi (by rfl) zI (by decide +kernel) (pa_cons (pv 4) (pa_cons (pe_bltn (v := .ty "str") (by rfl) zS (by decide +kernel) rfl) pa_nil)))) (pss_one (ps_dput hu (pv 2) (pv 4) pe_int rfl)) pss_nil))) <|
      pss_cons (ps_for PassesOwn.never rfl (pi_zipM (by rfl) zZ (pa_cons (pe_ix ix_tup (pv 0) pe_int (fun _ _ => rfl)) (pa_cons (pv 1) pa_nil))) (pg_tup rfl (pgs_cons (pg_name (i := 5) scLFrame.nd rfl (.inl rfl)) (pgs_cons (pg_name (i := 6) scLFrame.nd rfl (.inl rfl)) pgs_nil)))
        (pss_one (ps_dput hu (pv 2) (pv 5) (pv 6) rfl))) <|
      pss_one (ps_ret (pe_lst (pa_cons (pv 0) (pa_cons pe_int (pa_cons (pv 2) pa_nil))))), ?_⟩
    obtain ⟨qa, ra, a1, a2, vs, a3, a4, a5⟩ := id hA
    intro d hd
    have s0 : Same H (upd H d (.dK [])) := Same.new hd
    refine rix rfl (SqT.of (s0 _ _ a1)) rfl ⟨ra, rfl, ⟨_, SqT.of (s0 _ _ a3)⟩, for_tup (K := K) (a := ra) (xs := vs) (fun i σ H' => ∃ (b c : Option V) (ns : List Str) (kvs : List (Key × V)), σ = [some (.ref a), some (.ref la), some (.ref d), b, c, none, none] ∧ Same H H' ∧ H' d = some (.dK kvs) ∧ kvs.length ≤ 20 * i ∧ DRep kvs (zeroE ns) ∧ ∀ x, x ∈ ns ↔ ∃ r ∈ f.rows.take i, r.has x)
      ⟨none, none, [], [], rfl, s0, upd_same, Nat.le_refl _, DRep.nil, by simp⟩ (fun i σ H' _ ⟨_, _, _, _, _, z, _⟩ => SqT.of (z _ _ a3)) ?_ ?_⟩
    · rintro i y σ H' hi ⟨b, c, ns, kvs, rfl, s1, d1, hk, hD, hx⟩
      have hil : i < f.rows.length := by rw [← a4]; exact (List.getElem?_eq_some_iff.mp hi).1
      have hsz := hz.sz
      have hri : f.rows[i]? = some f.rows[i] := List.getElem?_eq_getElem hil
      obtain ⟨p, hp, hrow⟩ := a5 i _ hri
      have hm : f.rows[i] ∈ f.rows := List.getElem_mem _
      generalize f.rows[i] = r at hri hrow hm
      rw [hi] at hp
      have ey : y = .ref p := Option.some.inj hp
      subst ey
      have hra := hz.sza r hm
      have hpl := r.parts_len
      refine ⟨_, rfl, p, r, rfl, hrow.mono (ts_of s1), hra, fun l H2 s2 hl hL => ?_⟩
      have nld : l ≠ d := fun z => by rw [z, d1] at hl; cases hl
      refine ⟨l, rfl, ⟨_, SqL.of hL⟩, for_list (K := K) (a := l) (xs := r.parts) (fun j σ H4 => ∃ (c : Option V) (ns' : List Str) (kvs' : List (Key × V)), σ = [some (.ref a), some (.ref la), some (.ref d), some (.ref p), c, none, none] ∧ Same H H4 ∧ H4 l = some (.lst r.parts) ∧ H4 d = some (.dK kvs') ∧ kvs'.length ≤ 20 * i + j ∧ DRep kvs' (zeroE ns') ∧ ∀ x, x ∈ ns' ↔ x ∈ ns ∨ V.str x ∈ r.parts.take j)
        ⟨c, ns, kvs, rfl, s1.trans s2, hL, s2 _ _ d1, by omega, hD, by simp⟩ (fun j σ H' _ ⟨_, _, _, _, _, z, _⟩ => SqL.of z) ?_ ?_⟩
      · rintro j y σ H4 hj ⟨c, ns', kvs', rfl, s3, l3, d3, hk3, hD3, hx3⟩
        have hjl : j < r.parts.length := (List.getElem?_eq_some_iff.mp hj).1
        rcases r.parts_kind y (List.mem_of_getElem? hj) with ⟨x, rfl⟩ | ⟨k, rfl⟩
        · refine ⟨_, rfl, _, _, _, _, true, rfl, ClsV.ty _, TyX.base (TyOf.str _), kit_ty (by decide +kernel), true, rfl, iteT ?_⟩
          refine ⟨_, rfl, _, rfl, d, _, rfl, DPut.k (k := Sum.inr x) d3 (lt_line (by omega)), ?_⟩
          refine ⟨_, ns' ++ [x], putK kvs' (Sum.inr x) (.int 0), rfl, Same.setN s3 hd, ?_, upd_same, ?_, ?_, fun z => ?_⟩
          · rw [upd_ne nld]
            exact l3
          · have := length_putK kvs' (Sum.inr x : Key) (.int 0)
            omega
          · rw [zeroE_snoc]
            exact hD3.put 0 (.inr (by omega))
          · rw [take_snoc hj, List.mem_append, List.mem_append, hx3 z, List.mem_singleton, List.mem_singleton, or_assoc]
            have : (z = x) ↔ (V.str z = V.str x) := ⟨fun h => by rw [h], fun h => V.str.inj h⟩
            rw [this]
        · refine ⟨_, rfl, _, _, _, _, false, rfl, ClsV.ty _, TyX.base (TyOf.int _), kit_ty (by decide +kernel), false, rfl, iteF ?_⟩
          refine ⟨_, ns', kvs', rfl, s3, l3, d3, by omega, hD3, fun z => ?_⟩
          rw [take_snoc hj, List.mem_append, hx3 z]
          simp
      · rintro σ H4 ⟨c, ns', kvs', rfl, s3, l3, d3, hk3, hD3, hx3⟩
        rw [List.take_length] at hx3
        refine ⟨_, _, ns', kvs', rfl, s3, d3, by omega, hD3, fun x => ?_⟩
        rw [hx3 x, hx x, r.parts_has, take_snoc hri]
        constructor
        · rintro (⟨r', h, h'⟩ | h)
          · exact ⟨r', List.mem_append_left _ h, h'⟩
          · exact ⟨r, List.mem_append_right _ (List.mem_singleton.mpr rfl), h⟩
        · rintro ⟨r', h, h'⟩
          rcases List.mem_append.mp h with h | h
          · exact .inl ⟨r', h, h'⟩
          · rw [List.mem_singleton.mp h] at h'
            exact .inr h'
    · rintro σ H' ⟨b, c, ns, kvs, rfl, s1, d1, hk, hD, hx⟩
      have hsz := hz.sz
      have hzp := hz.szp
      rw [a4, List.take_length] at hx
      rw [a4] at hk
      refine rix rfl (SqT.of (s1 _ _ a1)) rfl ?_
      refine ⟨_, rfl, qa, la, _, _, rfl, SqT.of (s1 _ _ a2), SqL.of (s1 _ _ hla), for_zipM (K := K) (a := qa) (b := la) (xs := f.ps.map V.str) (ys := args.map V.int) (by simpa using hlen)
        (fun i σ H'' => ∃ (v v' : Option V) (kvs : List (Key × V)), σ = [some (.ref a), some (.ref la), some (.ref d), b, c, v, v'] ∧ Same H H'' ∧ H'' d = some (.dK kvs) ∧ kvs.length ≤ 2000 + i ∧ DRep kvs (((f.ps.zip args).take i).foldl (fun e p => setE e p.1 p.2) (zeroE ns)))
        ⟨none, none, kvs, rfl, s1, d1, by omega, hD⟩ (fun i σ H'' ⟨_, _, _, _, b, _⟩ => ⟨SqT.of (b _ _ a2), SqL.of (b _ _ hla)⟩) ?_ ?_⟩
      · rintro i y1 y2 T0 σ H'' h1 h2 ⟨v, v', kvs, rfl, s6, d6, hk6, hD6⟩ hT
        obtain ⟨x, hx, rfl⟩ := str_at h1
        obtain ⟨z, hz', rfl⟩ := int_at h2
        have hil : i < f.ps.length := (List.getElem?_eq_some_iff.mp hx).1
        have sT : Same H'' (upd H'' T0 (.tup [.str x, .int z])) := Same.new hT
        refine ⟨T0, _, rfl, SqT.of upd_same, rfl, _, _, rfl, _, _, rfl, rfl, ?_⟩
        refine ⟨_, rfl, _, rfl, _, rfl, d, _, rfl, DPut.k (k := Sum.inr x) (sT _ _ d6) (lt_line (by omega)), ?_⟩
        refine ⟨_, _, putK kvs (Sum.inr x) (.int z), rfl, Same.setN (s6.trans sT) hd, upd_same, ?_, ?_⟩
        · have := length_putK kvs (Sum.inr x : Key) (.int z)
          omega
        · rw [foldE_take _ hx hz']
          exact hD6.put z (.inr (by omega))
      · rintro σ H'' ⟨v, v', kvs, rfl, s6, d6, hk6, hD6⟩
        rw [List.length_map] at hD6
        rw [List.take_of_length_le (by rw [List.length_zip]; omega)] at hD6
        refine ⟨_, rfl, _, rfl, le_line (by show 3 ≤ 100000; decide), fun y hy => ?_⟩
        refine q y d _ (Same.setN s6 (s6.free hy)) (s6.free hy) hd upd_same ⟨kvs, ?_, ?_⟩
        · rw [upd_ne (ne_of_none d6 hy)]
          exact d6
        · rw [← zero_init hx hlen]
          exact hD6
end
end SG


/-! the law's names. -/
namespace SG
open PySem PySem.Spec PyProof.Rows L2
abbrev abc : Str := "abcdefghijklmnopqrstuvwxyz"
theorem abc_len : abc.length = 26 := by decide +kernel
theorem abc_at : ∀ j : Fin 26, abc.cps.toList[j.val]? = some (97 + j.val) := by decide +kernel
theorem abc_mod (z : Int) : atI abc.cps.toList (z % 26) = some (97 + (z % 26).toNat) := by
  obtain ⟨j, e, hj⟩ := mod_nat z (n := 26) (by decide)
  have e' : z % 26 = (j : Int) := e
  rw [e', Int.toNat_natCast]
  exact atI_nat (abc_at ⟨j, hj⟩)
def one (z : Int) : Str := ⟨#[97 + (z % 26).toNat]⟩
theorem one_len (z : Int) : (one z).length = 1 := rfl
def nameOf (z : Int) (pre suf : Str) (k : Nat) : Str := pre ++ one (z + 7 * (k : Int)) ++ suf
theorem nameOf_len (z : Int) (pre suf : Str) (k : Nat) : (nameOf z pre suf k).length = pre.length + 1 + suf.length := by
  unfold nameOf
  rw [PySem.Str.length_append, PySem.Str.length_append, one_len]
theorem nameOf_ne (z : Int) (pre suf : Str) : nameOf z pre suf 5 ≠ nameOf z pre suf 6 := by
  intro e
  have h := congrArg (fun s : Str => s.cps.toList) e
  unfold nameOf at h
  simp only [PySem.W.KT.app_list] at h
  have h1 := List.append_cancel_left (List.append_cancel_right h)
  have h2 : 97 + ((z + 7 * ((5 : Nat) : Int)) % 26).toNat = 97 + ((z + 7 * ((6 : Nat) : Int)) % 26).toNat := by
    have := h1
    unfold one at this
    simpa using this
  have a1 := Int.emod_nonneg (z + 7 * ((5 : Nat) : Int)) (b := 26) (by decide)
  have a2 := Int.emod_nonneg (z + 7 * ((6 : Nat) : Int)) (b := 26) (by decide)
  omega
theorem app_x_inj {a b c : Str} (h : a ++ c = b ++ c) : a = b := by
  have h := congrArg (fun s : Str => s.cps.toList) h
  simp only [PySem.W.KT.app_list] at h
  have h1 := List.append_cancel_right h
  cases a
  cases b
  congr
  exact Array.toList_inj.mp h1
theorem x_len : ("x" : Str).length = 1 := by decide +kernel
theorem names_ne {z : Int} {pre suf x y : Str} (hx : x = nameOf z pre suf 5 ∨ x = nameOf z pre suf 5 ++ "x") (hy : y = nameOf z pre suf 6 ∨ y = nameOf z pre suf 6 ++ "x") : x ≠ y := by
  intro e
  rcases hx with hx | hx
  · rcases hy with hy | hy
    · exact nameOf_ne z pre suf (by rw [← hx, ← hy, e])
    · have := congrArg Str.length (hx.symm.trans (e.trans hy))
      rw [PySem.Str.length_append, nameOf_len, nameOf_len, x_len] at this
      omega
  · rcases hy with hy | hy
    · have := congrArg Str.length (hx.symm.trans (e.trans hy))
      rw [PySem.Str.length_append, nameOf_len, nameOf_len, x_len] at this
      omega
    · exact nameOf_ne z pre suf (app_x_inj (hx.symm.trans (e.trans hy)))
/-- each sign is one that a text may have -/
def okS (x : Str) : Prop := ∀ c ∈ x.cps.toList, c < 0x110000
theorem okS_app {a b : Str} (ha : okS a) (hb : okS b) : okS (a ++ b) := fun c hc => by
  rw [PySem.W.KT.app_list] at hc
  rcases List.mem_append.mp hc with h | h
  · exact ha c h
  · exact hb c h
theorem okS_one (z : Int) : okS (one z) := fun c hc => by
  have h1 := Int.emod_nonneg z (b := 26) (by decide)
  have h2 := Int.emod_lt_of_pos z (b := 26) (by decide)
  have e : c = 97 + (z % 26).toNat := by
    unfold one at hc
    simpa using hc
  omega
theorem foldl_mem {c : Nat} {z : Array Nat} : ∀ (n : Nat) (a : Array Nat), c ∈ ((List.replicate n z).foldl (· ++ ·) a).toList → c ∈ a.toList ∨ c ∈ z.toList
  | 0, a, h => .inl h
  | n + 1, a, h => by
    rw [List.replicate_succ, List.foldl_cons] at h
    rcases foldl_mem n (a ++ z) h with h | h
    · rw [Array.toList_append, List.mem_append] at h
      exact h
    · exact .inr h
theorem okS_rep {z : Str} {k : Int} (h : okS z) : okS (repS z k) := fun c hc => by
  rcases foldl_mem k.toNat #[] hc with h1 | h1
  · simp at h1
  · exact h c h1
theorem okS_cut {z : Str} {lo hi : Option Int} (h : okS z) : okS (cutS z lo hi) := fun c hc => by
  unfold cutS at hc
  rw [List.toList_toArray] at hc
  exact h c (List.mem_of_mem_drop (List.mem_of_mem_take hc))
theorem okS_join {ys : List Str} (h : ∀ y ∈ ys, okS y) : okS (Txt.join (PySem.Str.ofString "") ys) := fun c hc => by
  have e : Txt.join (PySem.Str.ofString "") ys = Str.join (PySem.Str.ofString "") ys := StrLaws.glued_eq_join _ _
  rw [e] at hc
  rcases (PyProof.Rows.mem_join _ c ys).mp hc with ⟨t, ht, h1⟩ | ⟨_, h1⟩
  · exact h t ht c h1
  · have : (PySem.Str.ofString "").cps.toList = [] := by decide +kernel
    rw [this] at h1
    cases h1
theorem okS_x : okS "x" := by
  have e : ("x" : Str).cps.toList = [120] := by decide +kernel
  intro c hc
  rw [e] at hc
  rw [List.mem_singleton.mp hc]
  decide
theorem okS_name {z : Int} {pre suf : Str} {k : Nat} (h1 : okS pre) (h2 : okS suf) : okS (nameOf z pre suf k) := okS_app (okS_app h1 (okS_one _)) h2
abbrev rMulS : R2 := fun x y H Q => ∃ z k, x = .str z ∧ y = .int k ∧ 1 ≤ k ∧ k ≤ 1000 ∧ z.length ≤ 1000 ∧ Q (.str (repS z k)) H
abbrev kwds : List V := [.str "fn", .str "in", .str "new", .str "get", .str "put", .str "call", .str "out", .str "if", .str "while", .str "else", .str "end", .str "back"]
section
variable {P : Program} {w : World} {K : PySem.W.Frag} {mg : Str → Option Value} {base : Heap}
/-! ### _law_names -/
abbrev sLNames : Stmt := top 24
abbrev nLNames : List Str := ["_law_cell", "_law_many", "_law_letters", "_law_k", "_law_size", "_law_at", "_law_common", "_law_found", "_law_name"]
theorem scLNames : FnScope nLNames ["_law_cell", "_law_many"] (defScope sLNames) := ⟨rfl, rfl, rfl, by decide +kernel, rfl, by decide +kernel, by decide +kernel⟩
def spLNames : Sp := fun vs H Q _ => ∃ (c : Int), vs = [.int c, .int 7] ∧ ∀ (l : Addr) (H' : Hp) (ns : List Str), Same H H' → H l = none → H' l = some (.lst (ns.map V.str)) → ns.length = 7 → (∀ x y, ns[5]? = some x → ns[6]? = some y → x ≠ y) → (∀ x ∈ ns, okS x) → Q (.ref l) H'
theorem c_lnames (D : DefG K mg "_law_names" sLNames) (zR : mg "range" = none) : C8.Cal P w K mg base 1 "_law_names" spLNames [] := by
  refine cal_of D scLNames (fun _ _ _ _ _ _ us hl => match us, hl with | [_, _], _ => rfl) (fun vs H Q E h => ?_) (fun f0 cdv A outer s H vs Q E hr h => ?_)
  · obtain ⟨c, rfl, _⟩ := h
    rfl
  · obtain ⟨c, rfl, q⟩ := h
    refine ⟨_, pss_cons (ps_set (i := 2) scLNames.nd rfl (.inr rfl) pe_str) <|
      pss_cons (ps_if (pt_cmpR op_eq (pe_op op_mod (pv 0) pe_int) pe_int (nomark _))
        (pss_one (ps_ret (pe_lc (own := [("_law_k", 3)]) (g := gName 3) (tt := tYes) (te := tOp rMulS (tOp rIxS (tVar 2) (tOp (rI (fun _ j => 0 < j) fun i j => .int (i % j)) (tOp (rI CDiv fun i j => .int (i / j)) (tVar 0) (tC (.int 5))) (tC (.int 26)))) (tOp (rI0 fun i j => .int (i + j)) (tVar 3) (tC (.int 1)))) (by rfl) scLNames.nd
          (pi_range1 (by rfl) zR (pa_cons (pv 1) pa_nil)) (blkOk_by (own := [("_law_k", 3)]) (N := nLNames) (sc := defScope sLNames) (by decide +kernel))
          (fun _ _ _ _ _ => pg_name (i := 3) scLNames.nd rfl (Or.inl rfl)) (fun _ _ _ _ _ => pts_nil)
          (fun _ _ _ _ _ => pe_op op_mulS (pe_ix ix_str (pv 2) (pe_op op_mod (pe_op op_fdiv (pv 0) pe_int) pe_int) (fun _ _ => rfl)) (pe_op op_add (pv 3) pe_int))))) pss_nil) <|
      pss_cons (ps_set (i := 4) scLNames.nd rfl (.inl rfl) (pe_op op_mod (pe_op op_fdiv (pv 0) pe_int) pe_int)) <|
      pss_cons (ps_set (i := 5) scLNames.nd rfl (.inl rfl) (pe_op op_mod (pe_op op_fdiv (pv 0) pe_int) (pe_op op_add (pv 4) pe_int))) <|
      pss_cons (ps_set (i := 6) scLNames.nd rfl (.inl rfl) (pe_join pe_str (pe_lc (own := [("_law_k", 3)]) (g := gName 3) (tt := tYes)
          (te := tOp rIxS (tVar 2) (tOp (rI (fun _ j => 0 < j) fun i j => .int (i % j)) (tOp (rI CDiv fun i j => .int (i / j)) (tVar 0) (tOp (rI0 fun i j => .int (i + j)) (tC (.int 9)) (tOp (rI CMul fun i j => .int (i * j)) (tVar 3) (tOp (rI (fun _ j => 0 < j) fun i j => .int (i % j)) (tVar 0) (tC (.int 2)))))) (tC (.int 26)))) (by rfl) scLNames.nd
          (pi_range1 (by rfl) zR (pa_cons (pv 4) pa_nil)) (blkOk_by (own := [("_law_k", 3)]) (N := nLNames) (sc := defScope sLNames) (by decide +kernel))
          (fun _ _ _ _ _ => pg_name (i := 3) scLNames.nd rfl (Or.inl rfl)) (fun _ _ _ _ _ => pts_nil)
          (fun _ _ _ _ _ => pe_ix ix_str (pv 2) (pe_op op_mod (pe_op op_fdiv (pv 0) (pe_op op_add pe_int (pe_op op_mul (pv 3) (pe_op op_mod (pv 0) pe_int)))) pe_int) (fun _ _ => rfl))))) <|
      pss_cons (ps_set (i := 7) scLNames.nd rfl (.inl rfl) (pe_lst pa_nil)) <|
      pss_cons (ps_for PassesOwn.never rfl (pi_range1 (by rfl) zR (pa_cons (pv 1) pa_nil)) (pg_name (i := 3) scLNames.nd rfl (.inl rfl)) <|
        pss_cons (ps_set (i := 8) scLNames.nd rfl (.inl rfl) (pe_op op_add_str (pe_op op_add_str (pe_slice sl_str (pv 6) po_none (po_some (pv 5))) (pe_ix ix_str (pv 2) (pe_op op_mod (pe_op op_add (pe_op op_fdiv (pv 0) pe_int) (pe_op op_mul pe_int (pv 3))) pe_int) (fun _ _ => rfl))) (pe_slice sl_str (pv 6) (po_some (pv 5)) po_none))) <|
        C8.pss_cut (ps_if (pt_cmpR op_in_seq (pv 8) (pe_tup (pa_cons pe_str (pa_cons pe_str (pa_cons pe_str (pa_cons pe_str (pa_cons pe_str (pa_cons pe_str (pa_cons pe_str (pa_cons pe_str (pa_cons pe_str (pa_cons pe_str (pa_cons pe_str (pa_cons pe_str pa_nil))))))))))))) (by rfl))
          (pss_one (ps_set (i := 8) scLNames.nd rfl (.inl rfl) (pe_op op_add_str (pv 8) pe_str))) pss_nil) <|
        pss_one (ps_expr (pe_bm PySem.F.plainAttrs_list PySem.F.slot_list_append PySem.F.type_list_append mt_append (pv 7) (pa_cons (pv 8) pa_nil)))) <|
      pss_one (ps_ret (pv 7)), ?_⟩
    refine ⟨_, rfl, _, _, rfl, rfl, (by show (0:Int) < _; decide), rfl, bD (fun h => iteT ?_) (fun h => iteF ?_)⟩
    · -- one letter, k + 1 times
      refine ⟨_, rfl, _, rfl, by decide, by decide, fun D hD => lc_range (fun i H' => Same H H' ∧ H' D = some (.lst (((List.range i).map fun (k : Nat) => repS (one (c / 5)) ((k : Int) + 1)).map V.str)))
        ⟨Same.new hD, upd_same⟩ ?_ ?_⟩
      · rintro i H' hi ⟨s1, zD⟩
        refine ⟨rfl, lcY ?_⟩
        refine ⟨_, rfl, _, rfl, _, _, rfl, rfl, (by unfold CDiv; decide), _, _, rfl, rfl, (by show (0:Int) < _; decide), _, _, _, rfl, rfl, le_line (by rw [abc_len]; decide), abc_mod _, _, rfl, _, _, rfl, rfl, _, _, rfl, rfl, by omega, by omega, (by show (1 : Nat) ≤ 1000; decide), ?_⟩
        refine ⟨_, zD, lt_line (by rw [List.length_map, List.length_map, List.length_range]; omega), Same.setN s1 hD, ?_⟩
        rw [upd_same, List.range_succ, List.map_append, List.map_append, Int.zero_add]
        rfl
      · rintro H' ⟨s1, zD⟩
        refine q D H' _ s1 hD zD (by rw [List.length_map, List.length_range]; rfl) (fun x y hx hy e => ?_) fun x hx => by
          obtain ⟨k, _, rfl⟩ := List.mem_map.mp hx
          exact okS_rep (okS_one _)
        have hx' : repS (one (c / 5)) (((5 : Nat) : Int) + 1) = x := by simpa using hx
        have hy' : repS (one (c / 5)) (((6 : Nat) : Int) + 1) = y := by simpa using hy
        have := congrArg Str.length (hx'.trans (e.trans hy'.symm))
        rw [repS_len, repS_len, one_len] at this
        exact absurd this (by decide)
    · -- seven names that differ at one place
      refine ⟨_, rfl, _, _, rfl, rfl, (by unfold CDiv; decide), _, _, rfl, rfl, (by show (0:Int) < _; decide), ?_⟩
      have sz0 := Int.emod_nonneg (c / 5) (b := 7) (by decide)
      have sz1 := Int.emod_lt_of_pos (c / 5) (b := 7) (by decide)
      generalize hsz : c / 5 % 7 = sz at sz0 sz1
      simp only [hsz]
      refine ⟨_, rfl, _, _, rfl, rfl, (by unfold CDiv; decide), _, rfl, _, _, rfl, rfl, _, _, rfl, rfl, (by show (0:Int) < _; omega), ?_⟩
      refine ⟨⟨_, rfl⟩, _, rfl, _, rfl, by omega, by omega, fun D hD => lc_range (fun i H' => ∃ ys : List Str, Same H H' ∧ H' D = some (.lst (ys.map V.str)) ∧ ys.length = i ∧ ∀ y ∈ ys, y.length = 1 ∧ okS y)
        ⟨[], Same.new hD, upd_same, rfl, by simp⟩ ?_ ?_⟩
      · rintro i H' hi ⟨ys, s1, zD, hn, h1⟩
        refine ⟨rfl, lcY ?_⟩
        refine ⟨_, rfl, _, rfl, _, rfl, _, rfl, _, _, rfl, rfl, (by show (0:Int) < _; decide), _, _, rfl, rfl, .inl ⟨by omega, by omega⟩, _, _, rfl, rfl, _, _, rfl, rfl, ?_, _, _, rfl, rfl, (by show (0:Int) < _; decide), _, _, _, rfl, rfl, le_line (by rw [abc_len]; decide), abc_mod _, ?_⟩
        · have b0 := Int.emod_nonneg c (b := 2) (by decide)
          have b1 := Int.emod_lt_of_pos c (b := 2) (by decide)
          have b2 : c % 2 = 0 ∨ c % 2 = 1 := by omega
          unfold CDiv
          rcases b2 with b2 | b2
          · rw [b2]
            omega
          · rw [b2]
            omega
        · refine ⟨_, zD, lt_line (by rw [List.length_map]; omega), ys ++ [one (c / (9 + (0 + (i : Int)) * (c % 2)))], Same.setN s1 hD, ?_, by rw [List.length_append, hn]; rfl, fun y hy => ?_⟩
          · rw [upd_same, ← snoc_str]
            rfl
          · rcases List.mem_append.mp hy with h | h
            · exact h1 y h
            · rw [List.mem_singleton.mp h]
              exact ⟨rfl, okS_one _⟩
      · rintro H1 ⟨ys, s1, zD, hn, h1'⟩
        have h1 : ∀ y ∈ ys, y.length = 1 := fun y hy => (h1' y hy).1
        have hok := okS_join fun y hy => (h1' y hy).2
        have hj : ∀ l : List Str, (∀ y ∈ l, y.length = 1) → (l.map (·.length)).sum = l.length := fun l hl => by
          induction l with
          | nil => rfl
          | cons a r ih =>
            rw [List.map_cons, List.sum_cons, ih (fun y hy => hl y (List.mem_cons_of_mem _ hy)), hl a (by simp), List.length_cons]
            omega
        refine ⟨_, _, ys, rfl, rfl, .inl (SqL.of zD), ?_, ?_⟩
        · rw [hj ys h1, hn]
          have : (PySem.Str.ofString "").length = 0 := by decide +kernel
          show _ + _ * (PySem.Str.ofString "").length ≤ _
          rw [this]
          omega
        · have hcl : (Txt.join (PySem.Str.ofString "") ys).length ≤ 7 := by
            rw [PySem.W.KT.join_ones ys h1, hn]
            omega
          generalize (Txt.join (PySem.Str.ofString "") ys) = com at hcl hok
          refine ⟨Nat.zero_le _, fun l hl => ?_⟩
          have hl0 : H l = none := s1.free hl
          have p1 := Nat.le_trans (cutS_length com none (some (c / 35 % (sz + 1)))) hcl
          have p2 := Nat.le_trans (cutS_length com (some (c / 35 % (sz + 1))) none) hcl
          refine ⟨_, rfl, _, rfl, by decide, by decide, for_range (fun i σ H' => ∃ (k : Option V) (nm : Option V) (ns : List Str), σ = [some (.int c), some (.int 7), some (.str abc), k, some (.int sz), some (.int (c / 35 % (sz + 1))), some (.str com), some (.ref l), nm] ∧ Same H H' ∧ H' l = some (.lst (ns.map V.str)) ∧ ns.length = i ∧
              ∀ (j : Nat) (x : Str), ns[j]? = some x → x = nameOf (c / 3) (cutS com none (some (c / 35 % (sz + 1)))) (cutS com (some (c / 35 % (sz + 1))) none) j ∨ x = nameOf (c / 3) (cutS com none (some (c / 35 % (sz + 1)))) (cutS com (some (c / 35 % (sz + 1))) none) j ++ "x")
            ⟨none, none, [], rfl, Same.setN s1 hl0, upd_same, rfl, fun j x h => by cases h⟩ ?_ ?_⟩
          · rintro i σ H' hi ⟨k, nm, ns, rfl, s2, z2, hn2, hnm⟩
            have e0 : cutS com none (some (c / 35 % (sz + 1))) ++ one (c / 3 + 7 * (0 + (i : Int))) ++ cutS com (some (c / 35 % (sz + 1))) none = nameOf (c / 3) (cutS com none (some (c / 35 % (sz + 1)))) (cutS com (some (c / 35 % (sz + 1))) none) i := by
              rw [Int.zero_add]
              rfl
            have hnl := nameOf_len (c / 3) (cutS com none (some (c / 35 % (sz + 1)))) (cutS com (some (c / 35 % (sz + 1))) none) i
            refine ⟨_, rfl, _, rfl, _, rfl, _, rfl, le_line (by omega), _, rfl, _, rfl, _, _, rfl, rfl, (by unfold CDiv; decide), _, rfl, _, _, rfl, rfl, .inl ⟨by decide, by decide⟩, _, _, rfl, rfl, _, _, rfl, rfl, (by show (0:Int) < _; decide), _, _, _, rfl, rfl, le_line (by rw [abc_len]; decide), abc_mod _,
              _, _, rfl, rfl, le_line (by show _ + 1 ≤ _; omega), _, rfl, _, rfl, _, rfl, _, rfl, le_line (by omega), _, _, rfl, rfl, le_line (by rw [PySem.Str.length_append]; show _ + 1 + _ ≤ _; omega), ?_⟩
            refine ⟨fun σ' H2 => ∃ (x : Str), σ' = [some (.int c), some (.int 7), some (.str abc), some (.int (0 + (i : Int))), some (.int sz), some (.int (c / 35 % (sz + 1))), some (.str com), some (.ref l), some (.str x)] ∧ Same H H2 ∧ H2 l = some (.lst (ns.map V.str)) ∧
                (x = nameOf (c / 3) (cutS com none (some (c / 35 % (sz + 1)))) (cutS com (some (c / 35 % (sz + 1))) none) i ∨ x = nameOf (c / 3) (cutS com none (some (c / 35 % (sz + 1)))) (cutS com (some (c / 35 % (sz + 1))) none) i ++ "x"), ?_, ?_⟩
            · refine ⟨_, rfl, le_line (by show 12 ≤ 100000; decide), fun t ht => ⟨t, kwds, rfl, .inr (SqT.of upd_same), rfl, by decide +kernel, _, rfl, ?_⟩⟩
              have s3 : Same H (upd H' t (.tup kwds)) := s2.trans (Same.new ht)
              have z3 : (upd H' t (.tup kwds)) l = some (.lst (ns.map V.str)) := (Same.new ht) _ _ z2
              generalize inV _ _ = b
              cases b with
              | false => exact iteF ⟨_, by rw [← e0]; rfl, s3, z3, .inl rfl⟩
              | true =>
                refine iteT ⟨_, rfl, _, _, rfl, rfl, le_line ?_, ?_⟩
                · rw [x_len]
                  rw [PySem.Str.length_append, PySem.Str.length_append]
                  show _ + 1 + _ + 1 ≤ _
                  omega
                · exact ⟨_, by rw [← e0]; rfl, s3, z3, .inr rfl⟩
            · rintro σ' H2 ⟨x, rfl, s3, z3, hx⟩
              refine ⟨_, rfl, .inl ⟨rfl, _, SqL.of z3⟩, _, rfl, l, _, _, rfl, rfl, z3, lt_line (by rw [List.length_map]; omega), ?_⟩
              refine ⟨_, _, ns ++ [x], rfl, Same.setN s3 hl0, ?_, by rw [List.length_append, hn2]; rfl, fun j y hy => ?_⟩
              · rw [upd_same, snoc_str]
              · by_cases hj' : j < ns.length
                · rw [List.getElem?_append_left hj'] at hy
                  exact hnm j y hy
                · have hjl := (List.getElem?_eq_some_iff.mp hy).1
                  rw [List.length_append, List.length_singleton] at hjl
                  have ej : j = ns.length := by omega
                  rw [ej, List.getElem?_concat_length] at hy
                  rw [← Option.some.inj hy, ej, hn2]
                  exact hx
          · rintro σ H' ⟨k, nm, ns, rfl, s2, z2, hn2, hnm⟩
            refine rv rfl (q l H' ns s2 hl0 z2 hn2 (fun x y hx hy => names_ne (hnm 5 x hx) (hnm 6 y hy)) fun x hx => ?_)
            obtain ⟨j, hj⟩ := List.mem_iff_getElem?.mp hx
            rcases hnm j x hj with e | e
            · rw [e]
              exact okS_name (okS_cut hok) (okS_cut hok)
            · rw [e]
              exact okS_app (okS_name (okS_cut hok) (okS_cut hok)) okS_x
end
end SG


/-! the law's row, program. -/
namespace SG
open PySem PySem.Spec PyProof.Rows L2
/-- a row of the law's cells -/
structure Row.Plain (r : Row) : Prop where
  nb : r.isBack = false
  nc : r.isCall = false
  at_ : r.atoms.length ≤ 10
  sg : ∀ (x s : Str) (a b : Atom), r = .op x s a b → s ∈ signs ∧ ¬ s = "+"
/-- rows in a list or a tuple -/
def RowsL (H : Hp) (vs : List V) (rows : List Row) : Prop := vs.length = rows.length ∧ ∀ (i : Nat) (r : Row), rows[i]? = some r → ∃ q, vs[i]? = some (.ref q) ∧ RowAt H q r
theorem RowsL.nil (H : Hp) : RowsL H [] [] := ⟨rfl, fun i r h => by cases h⟩
theorem RowsL.mono {H H' : Hp} (t : TS_ H H') {vs : List V} {rows : List Row} (h : RowsL H vs rows) : RowsL H' vs rows := ⟨h.1, fun i r hr => let ⟨q, e, z⟩ := h.2 i r hr; ⟨q, e, z.mono t⟩⟩
theorem RowsL.one {H : Hp} {q : Addr} {r : Row} (h : RowAt H q r) : RowsL H [.ref q] [r] := ⟨rfl, fun i r' hr => by
  cases i with
  | zero =>
    rw [← Option.some.inj hr]
    exact ⟨q, rfl, h⟩
  | succ n => cases hr⟩
theorem RowsL.app {H : Hp} {vs ws : List V} {rs ts : List Row} (h : RowsL H vs rs) (k : RowsL H ws ts) : RowsL H (vs ++ ws) (rs ++ ts) := by
  refine ⟨by rw [List.length_append, List.length_append, h.1, k.1], fun i r hr => ?_⟩
  by_cases hi : i < rs.length
  · rw [List.getElem?_append_left hi] at hr
    rw [List.getElem?_append_left (by rw [h.1]; exact hi)]
    exact h.2 i r hr
  · rw [List.getElem?_append_right (by omega)] at hr
    rw [List.getElem?_append_right (by rw [h.1]; omega), h.1]
    exact k.2 _ r hr
theorem RowsL.take {H : Hp} {vs : List V} {rs : List Row} (h : RowsL H vs rs) (k : Nat) : RowsL H (vs.take k) (rs.take k) := by
  refine ⟨by rw [List.length_take, List.length_take, h.1], fun i r hr => ?_⟩
  rw [List.getElem?_take] at hr ⊢
  split at hr
  · rename_i hi
    rw [if_pos hi]
    exact h.2 i r hr
  · cases hr
theorem RowsL.drop {H : Hp} {vs : List V} {rs : List Row} (h : RowsL H vs rs) (k : Nat) : RowsL H (vs.drop k) (rs.drop k) := by
  refine ⟨by rw [List.length_drop, List.length_drop, h.1], fun i r hr => ?_⟩
  rw [List.getElem?_drop] at hr ⊢
  exact h.2 _ r hr
theorem fn_ok {Pr : List Fn} {f : Fn} {rs : List Row} {a : Atom} (e : f.rows = rs ++ [.back a]) (hb : ∀ r ∈ rs, r.isBack = false) (sz : rs.length ≤ 99) (szp : f.ps.length ≤ 10) (sza : ∀ r ∈ rs, r.atoms.length ≤ 10)
    (sg : ∀ r ∈ rs, ∀ (x s : Str) (a b : Atom), r = .op x s a b → s ∈ signs) (ca : ∀ (x g : Str) (as : List Atom), Row.call x g as ∈ rs → ∃ h, lookF Pr g = some h ∧ h.ps.length = as.length) : FnOK Pr f := by
  have hl : f.rows.length = rs.length + 1 := by rw [e, List.length_append, List.length_singleton]
  have hm : ∀ {r : Row}, r ∈ f.rows → r ∈ rs ∨ r = .back a := fun {r} h => by
    rw [e] at h
    rcases List.mem_append.mp h with h | h
    · exact .inl h
    · exact .inr (List.mem_singleton.mp h)
  refine ⟨fun i r hr hbk => ?_, by omega, by omega, szp, fun r hr => ?_, fun x s a' b hr => ?_, fun x g as hr => ?_⟩
  · have hi := (List.getElem?_eq_some_iff.mp hr).1
    by_cases hi' : i < rs.length
    · omega
    · have ei : i = rs.length := by omega
      rw [e, ei, List.getElem?_concat_length] at hr
      rw [← Option.some.inj hr] at hbk
      cases hbk
  · rcases hm hr with h | rfl
    · exact sza r h
    · show 1 ≤ 10
      decide
  · rcases hm hr with h | h
    · exact sg _ h x s a' b rfl
    · cases h
  · rcases hm hr with h | h
    · exact ca x g as h
    · cases h
theorem sign_at (z : Int) : ∃ c, atI ("-<&" : Str).cps.toList (z % 3) = some c ∧ (⟨#[c]⟩ : Str) ∈ signs ∧ ¬ (⟨#[c]⟩ : Str) = "+" := by
  obtain ⟨j, e, hj⟩ := mod_nat z (n := 3) (by decide)
  have e' : z % 3 = (j : Int) := e
  rw [e']
  have h : j = 0 ∨ j = 1 ∨ j = 2 := by omega
  rcases h with rfl | rfl | rfl
  · exact ⟨45, atI_nat (by decide +kernel), by decide +kernel, by decide +kernel⟩
  · exact ⟨60, atI_nat (by decide +kernel), by decide +kernel, by decide +kernel⟩
  · exact ⟨38, atI_nat (by decide +kernel), by decide +kernel, by decide +kernel⟩
section
variable {P : Program} {w : World} {K : PySem.W.Frag} {mg : Str → Option Value} {base : Heap}
/-! ### _law_row -/
abbrev sLRow : Stmt := top 27
theorem scLRow : FnScope ["_law_cell", "_law_names_here", "_law_xs"] ["_law_cell", "_law_names_here"] (defScope sLRow) := ⟨rfl, rfl, rfl, by decide +kernel, rfl, by decide +kernel, by decide +kernel⟩
def spLRow : Sp := fun vs H Q _ => ∃ (c : Int) (l : Addr) (ns : List Str), vs = [.int c, .ref l] ∧ H l = some (.lst (ns.map V.str)) ∧ ns.length = 7 ∧ ∀ (q : Addr) (H' : Hp) (r : Row), Same H H' → RowAt H' q r → r.Plain → Q (.ref q) H'
theorem c_lrow (D : DefG K mg "_law_row" sLRow) (cS : C8.Cal P w K mg base 1 "_law_stream" spStream []) (cA : C8.Cal P w K mg base 2 "_law_atom" spAtom []) : C8.Cal P w K mg base 3 "_law_row" spLRow [] := by
  refine cal_of D scLRow (fun _ _ _ _ _ _ us hl => match us, hl with | [_, _], _ => rfl) (fun vs H Q E h => ?_) (fun f0 cdv A outer s H vs Q E hr h => ?_)
  · obtain ⟨c, l, ns, rfl, _⟩ := h
    rfl
  · obtain ⟨c, l, ns, rfl, hl, hn, q⟩ := h
    refine ⟨_, pss_cons (ps_set (i := 2) scLRow.nd rfl (.inl rfl) (C8.pe_c cS hr (by decide) rfl (pa_cons (pv 0) (pa_cons pe_int pa_nil)))) <|
      pss_cons (ps_if (pt_cmpR op_eq (pe_op op_mod (pe_ix ix_list (pv 2) pe_int (fun _ _ => rfl)) pe_int) pe_int (nomark _))
        (pss_one (ps_ret (pe_tup (pa_cons pe_str (pa_cons (pe_ix ix_list (pv 1) (pe_op op_mod (pe_ix ix_list (pv 2) pe_int (fun _ _ => rfl)) pe_int) (fun _ _ => rfl)) (pa_cons (C8.pe_c cA hr (by decide) rfl (pa_cons (pe_ix ix_list (pv 2) pe_int (fun _ _ => rfl)) (pa_cons (pe_slice sl_list (pv 1) po_none (po_some pe_int)) pa_nil))) pa_nil)))))) pss_nil) <|
      pss_one (ps_ret (pe_tup (pa_cons pe_str (pa_cons (pe_ix ix_list (pv 1) (pe_op op_mod (pe_ix ix_list (pv 2) pe_int (fun _ _ => rfl)) pe_int) (fun _ _ => rfl)) (pa_cons (pe_ix ix_str pe_str (pe_op op_mod (pe_ix ix_list (pv 2) pe_int (fun _ _ => rfl)) pe_int) (fun _ _ => rfl)) (pa_cons (C8.pe_c cA hr (by decide) rfl (pa_cons (pe_ix ix_list (pv 2) pe_int (fun _ _ => rfl)) (pa_cons (pe_slice sl_list (pv 1) po_none (po_some pe_int)) pa_nil)))
        (pa_cons (C8.pe_c cA hr (by decide) rfl (pa_cons (pe_ix ix_list (pv 2) pe_int (fun _ _ => rfl)) (pa_cons (pe_slice sl_list (pv 1) po_none (po_some pe_int)) pa_nil))) pa_nil))))))), ?_⟩
    refine ⟨_, rfl, c, 5, rfl, by decide, fun l2 H2 zs s2 hl2 h2 hz _ => ?_⟩
    obtain ⟨z0, z1, z2, z3, z4, rfl⟩ : ∃ z0 z1 z2 z3 z4, zs = [z0, z1, z2, z3, z4] := match zs, hz with | [z0, z1, z2, z3, z4], _ => ⟨z0, z1, z2, z3, z4, rfl⟩
    have hN := s2 _ _ hl
    obtain ⟨x, _, hx⟩ := at_mod V.str ns z1 (n := 5) (by decide) (by omega)
    have hx' : atI (ns.map V.str) (z1 % 5) = some (.str x) := hx
    have e5 : cutV (ns.map V.str) none (some 5) = (ns.take 5).map V.str := by
      rw [show cutV (ns.map V.str) none (some 5) = (ns.map V.str).take 5 from cut_none _ 5, List.map_take]
    have h5 : 0 < (ns.take 5).length := by rw [List.length_take]; omega
    refine rixL rfl (SqL.of h2) rfl ⟨_, _, rfl, rfl, (by show (0:Int) < _; decide), rfl, bD (fun h => iteT ?_) (fun h => iteF ?_)⟩
    · refine ⟨_, rfl, rixL rfl (SqL.of h2) rfl ⟨_, _, rfl, rfl, (by show (0:Int) < _; decide), l, _, _, _, rfl, rfl, SqL.of hN, hx', rixL rfl (SqL.of h2) rfl ⟨_, rfl, _, rfl, l, _, rfl, SqL.of hN, fun p hp => ?_⟩⟩⟩
      refine ⟨z2, p, ns.take 5, rfl, by rw [upd_same, e5], h5, fun a => ⟨le_line (by show 3 ≤ 100000; decide), fun t ht => ?_⟩⟩
      have s3 : Same H (upd H2 p (.lst (cutV (ns.map V.str) none (some 5)))) := Same.setN s2 (s2.free hp)
      exact q t _ (.copy x a) (Same.setN s3 (s3.free ht)) upd_same ⟨rfl, rfl, (by show 1 ≤ 10; decide), fun _ _ _ _ h => by cases h⟩
    · obtain ⟨cs, hcs, hsg⟩ := sign_at z4
      refine ⟨_, rfl, rixL rfl (SqL.of h2) rfl ⟨_, _, rfl, rfl, (by show (0:Int) < _; decide), l, _, _, _, rfl, rfl, SqL.of hN, hx', rixL rfl (SqL.of h2) rfl ⟨_, _, rfl, rfl, (by show (0:Int) < _; decide), _, _, _, rfl, rfl, le_line (by decide +kernel), hcs, rixL rfl (SqL.of h2) rfl ⟨_, rfl, _, rfl, l, _, rfl, SqL.of hN, fun p hp => ?_⟩⟩⟩⟩
      refine ⟨z2, p, ns.take 5, rfl, by rw [upd_same, e5], h5, fun a => ?_⟩
      have n3 : Same H2 (upd H2 p (.lst (cutV (ns.map V.str) none (some 5)))) := Same.new hp
      have s3 : Same H (upd H2 p (.lst (cutV (ns.map V.str) none (some 5)))) := s2.trans n3
      refine rixL rfl (SqL.of (n3 _ _ h2)) rfl ⟨_, rfl, _, rfl, l, _, rfl, SqL.of (n3 _ _ hN), fun p2 hp2 => ?_⟩
      refine ⟨z3, p2, ns.take 5, rfl, by rw [upd_same, e5], h5, fun b => ⟨le_line (by show 5 ≤ 100000; decide), fun t ht => ?_⟩⟩
      have s4 := Same.setN (o := HO.lst (cutV (ns.map V.str) none (some 5))) s3 (s3.free hp2)
      refine q t _ (.op x ⟨#[cs]⟩ a b) (Same.setN s4 (s4.free ht)) upd_same ⟨rfl, rfl, (by show 2 ≤ 10; decide), fun _ _ _ _ h => ?_⟩
      cases h
      exact hsg
end
end SG


/-! the law's program. -/
namespace SG
open PySem PySem.Spec PyProof.Rows L2
/-- the law's two functions -/
structure GoodPr (Pr : List Fn) (f1 f2 : Fn) : Prop where
  eq : Pr = [f1, f2]
  ok : PrOK Pr
  p2 : f2.ps.length = 1
  nm : ∀ f ∈ Pr, okS f.name
  ca : ∀ f ∈ Pr, ∀ (x g : Str) (as : List Atom), Row.call x g as ∈ f.rows → lookF Pr g = some f1
  sg : ∀ f ∈ Pr, ∀ (x s : Str) (a b : Atom), Row.op x s a b ∈ f.rows → s ∈ signs ∧ ¬ s = "+"
def fOne (m5 m0 m1 : Str) (fb : Bool) (rs1 : List Row) (a3 : Atom) : Fn := ⟨m5, fb, [m1, m0], rs1 ++ [.back a3]⟩
def fTwo (m6 m2 m5 x : Str) (rs2 : List Row) (k : Nat) (a1 a2 a4 : Atom) : Fn := ⟨m6, false, [m2], rs2.take k ++ [.call x m5 [a1, a2]] ++ rs2.drop k ++ [.back a4]⟩
theorem good_pr {m0 m1 m2 m5 m6 x : Str} {fb : Bool} {rs1 rs2 : List Row} {a1 a2 a3 a4 : Atom} {k : Nat} (h1 : ∀ r ∈ rs1, r.Plain) (h2 : ∀ r ∈ rs2, r.Plain) (l1 : rs1.length ≤ 63) (l2 : rs2.length ≤ 63) (hne : m5 ≠ m6) (ok5 : okS m5) (ok6 : okS m6) :
    GoodPr [fOne m5 m0 m1 fb rs1 a3, fTwo m6 m2 m5 x rs2 k a1 a2 a4] (fOne m5 m0 m1 fb rs1 a3) (fTwo m6 m2 m5 x rs2 k a1 a2 a4) := by
  have lk : lookF [fOne m5 m0 m1 fb rs1 a3, fTwo m6 m2 m5 x rs2 k a1 a2 a4] m5 = some (fOne m5 m0 m1 fb rs1 a3) := by
    unfold lookF
    rw [List.find?_cons, decide_eq_true (show (fOne m5 m0 m1 fb rs1 a3).name = m5 from rfl)]
  have hm : ∀ r ∈ rs2.take k ++ [.call x m5 [a1, a2]] ++ rs2.drop k, r.Plain ∨ r = .call x m5 [a1, a2] := fun r hr => by
    rcases List.mem_append.mp hr with h | h
    · rcases List.mem_append.mp h with h | h
      · exact .inl (h2 r (List.mem_of_mem_take h))
      · exact .inr (List.mem_singleton.mp h)
    · exact .inl (h2 r (List.mem_of_mem_drop h))
  have nc : ∀ {x g : Str} {as : List Atom}, ¬ (Row.call x g as).Plain := fun h => by have := h.nc; cases this
  have ok1 : FnOK [fOne m5 m0 m1 fb rs1 a3, fTwo m6 m2 m5 x rs2 k a1 a2 a4] (fOne m5 m0 m1 fb rs1 a3) :=
    fn_ok (rs := rs1) (a := a3) rfl (fun r hr => (h1 r hr).nb) (by omega) (by show 2 ≤ 10; decide) (fun r hr => (h1 r hr).at_) (fun r hr x s a b e => ((h1 r hr).sg x s a b e).1) fun x g as hr => absurd (h1 _ hr) nc
  have ok2 : FnOK [fOne m5 m0 m1 fb rs1 a3, fTwo m6 m2 m5 x rs2 k a1 a2 a4] (fTwo m6 m2 m5 x rs2 k a1 a2 a4) := by
    refine fn_ok (rs := rs2.take k ++ [.call x m5 [a1, a2]] ++ rs2.drop k) (a := a4) rfl (fun r hr => ?_) ?_ (by show 1 ≤ 10; decide) (fun r hr => ?_) (fun r hr => ?_) fun x' g as hr => ?_
    · rcases hm r hr with h | rfl
      · exact h.nb
      · rfl
    · simp only [List.length_append, List.length_take, List.length_drop, List.length_singleton]
      omega
    · rcases hm r hr with h | rfl
      · exact h.at_
      · show 2 ≤ 10
        decide
    · rcases hm r hr with h | rfl
      · exact fun x s a b e => (h.sg x s a b e).1
      · intro _ _ _ _ h
        cases h
    · rcases hm _ hr with h | h
      · exact absurd h nc
      · cases h
        exact ⟨_, lk, rfl⟩
  have mem2 : ∀ {f : Fn}, f ∈ [fOne m5 m0 m1 fb rs1 a3, fTwo m6 m2 m5 x rs2 k a1 a2 a4] → f = fOne m5 m0 m1 fb rs1 a3 ∨ f = fTwo m6 m2 m5 x rs2 k a1 a2 a4 := fun h => by simpa using h
  refine ⟨rfl, ⟨fun f hf => ?_, ?_, by show 2 ≤ 100; decide⟩, rfl, fun f hf => ?_, fun f hf x' g as hr => ?_, fun f hf x' s a b hr => ?_⟩
  · rcases mem2 hf with rfl | rfl
    · exact ok1
    · exact ok2
  · show [m5, m6].Nodup
    simpa using hne
  · rcases mem2 hf with rfl | rfl
    · exact ok5
    · exact ok6
  · rcases mem2 hf with rfl | rfl
    · have hr' : Row.call x' g as ∈ rs1 ++ [.back a3] := hr
      rcases List.mem_append.mp hr' with h | h
      · exact absurd (h1 _ h) nc
      · cases List.mem_singleton.mp h
    · have hr' : Row.call x' g as ∈ rs2.take k ++ [.call x m5 [a1, a2]] ++ rs2.drop k ++ [.back a4] := hr
      rcases List.mem_append.mp hr' with h | h
      · rcases hm _ h with h | h
        · exact absurd h nc
        · cases h
          exact lk
      · cases List.mem_singleton.mp h
  · rcases mem2 hf with rfl | rfl
    · have hr' : Row.op x' s a b ∈ rs1 ++ [.back a3] := hr
      rcases List.mem_append.mp hr' with h | h
      · exact (h1 _ h).sg _ _ _ _ rfl
      · cases List.mem_singleton.mp h
    · have hr' : Row.op x' s a b ∈ rs2.take k ++ [.call x m5 [a1, a2]] ++ rs2.drop k ++ [.back a4] := hr
      rcases List.mem_append.mp hr' with h | h
      · rcases hm _ h with h | h
        · exact h.sg _ _ _ _ rfl
        · cases h
      · cases List.mem_singleton.mp h
section
variable {P : Program} {w : World} {K : PySem.W.Frag} {mg : Str → Option Value} {base : Heap}
abbrev sLProg : Stmt := top 28
abbrev nLProg : List Str := ["_law_script", "_law_names_here", "_law_size", "_law_inner", "_law_outer", "_law_at", "_law_xs", "_law_call", "_law_rows", "_law_first", "_law_cell"]
theorem scLProg : FnScope nLProg ["_law_script", "_law_names_here"] (defScope sLProg) := ⟨rfl, rfl, rfl, by decide +kernel, rfl, by decide +kernel, by decide +kernel⟩
def spLProg (K : PySem.W.Frag) : Sp := fun vs H Q _ => ∃ (a l : Addr) (zs : List Int) (ns : List Str), vs = [.ref a, .ref l] ∧ SqL K H a (zs.map V.int) ∧ zs.length ≤ 63 ∧ H l = some (.lst (ns.map V.str)) ∧ ns.length = 7 ∧ (∀ x y, ns[5]? = some x → ns[6]? = some y → x ≠ y) ∧ (∀ x ∈ ns, okS x) ∧
  ∀ (p : Addr) (H' : Hp) (Pr : List Fn) (f1 f2 : Fn), Same H H' → H p = none → ProgAt H' p Pr → GoodPr Pr f1 f2 → Q (.ref p) H'
abbrev teRow : TE := tCall spLRow [] E0 (tCons (tVar 10) (tCons (tVar 1) tNil))
abbrev PvR (H : Hp) (D : Addr) : Nat → Hp → Prop := fun i H' => ∃ (vs : List V) (rs : List Row), Same H H' ∧ H' D = some (.lst vs) ∧ RowsL H' vs rs ∧ rs.length = i ∧ ∀ r ∈ rs, r.Plain
/-- what the two comprehensions do at a turn -/
theorem row_turn {σ2 : L2.St} {H1 H' : Hp} {D l : Addr} {ns : List Str} {y : Int} {i : Nat} (hσ : σ2[10]? = some (some (.int y))) (hσ1 : σ2[1]? = some (some (.ref l))) (hD : H1 D = none) (hl : H1 l = some (.lst (ns.map V.str))) (hn : ns.length = 7) (hi : i ≤ 63)
    (h : PvR H1 D i H') : teRow σ2 H' fun y H4 => ∃ acc, H4 D = some (.lst acc) ∧ acc.length < sizeLine ∧ PvR H1 D (i + 1) (upd H4 D (.lst (acc ++ [y]))) := by
  obtain ⟨vs, rs, s1, zD, R, hln, hpl⟩ := h
  refine ⟨_, hσ, _, hσ1, y, l, ns, rfl, s1 _ _ hl, hn, fun q H2 r s2 hrow hp => ?_⟩
  have zD2 := s2 _ _ zD
  have tU : TS_ H2 (upd H2 D (.lst (vs ++ [.ref q]))) := TS_.upd fun xs z => by rw [zD2] at z; cases z
  refine ⟨vs, zD2, lt_line (by rw [R.1, hln]; omega), vs ++ [.ref q], rs ++ [r], Same.setN (s1.trans s2) hD, upd_same, ((R.mono (ts_of s2)).app (RowsL.one hrow)).mono tU, by rw [List.length_append, hln]; rfl, fun r' hr' => ?_⟩
  rcases List.mem_append.mp hr' with h | h
  · exact hpl r' h
  · rw [List.mem_singleton.mp h]
    exact hp
/-- what stays -/
structure Fx (H Hc : Hp) (l D1 D2 l6 : Addr) (ns : List Str) (vs1 : List V) (rs1 : List Row) (vs2 : List V) (rs2 : List Row) (xs : List Int) : Prop where
  s : Same H Hc
  hL : Hc l = some (.lst (ns.map V.str))
  h1 : Hc D1 = some (.lst vs1)
  R1 : RowsL Hc vs1 rs1
  h2 : Hc D2 = some (.lst vs2)
  R2 : RowsL Hc vs2 rs2
  h6 : Hc l6 = some (.lst (xs.map V.int))
theorem Fx.sm {H Hc H' : Hp} {l D1 D2 l6 : Addr} {ns : List Str} {vs1 : List V} {rs1 : List Row} {vs2 : List V} {rs2 : List Row} {xs : List Int} (F : Fx H Hc l D1 D2 l6 ns vs1 rs1 vs2 rs2 xs) (t : Same Hc H') : Fx H H' l D1 D2 l6 ns vs1 rs1 vs2 rs2 xs :=
  ⟨F.s.trans t, t _ _ F.hL, t _ _ F.h1, F.R1.mono (ts_of t), t _ _ F.h2, F.R2.mono (ts_of t), t _ _ F.h6⟩
theorem c_lprog (D : DefG K mg "_law_program" sLProg) (cC : C8.Cal P w K mg base 1 "_law_cell_at" (spCellAt K) []) (cS : C8.Cal P w K mg base 1 "_law_stream" spStream []) (cA : C8.Cal P w K mg base 2 "_law_atom" spAtom []) (cR : C8.Cal P w K mg base 3 "_law_row" spLRow [])
    (zL : mg "len" = none) (zT : mg "tuple" = none) : C8.Cal P w K mg base 4 "_law_program" (spLProg K) [] := by
  refine cal_of D scLProg (fun _ _ _ _ _ _ us hl => match us, hl with | [_, _], _ => rfl) (fun vs H Q E h => ?_) (fun f0 cdv A outer s H vs Q E hr h => ?_)
  · obtain ⟨a, l, zs, ns, rfl, _⟩ := h
    rfl
  · obtain ⟨a, l, zs, ns, rfl, ha, hzl, hl, hn, hne, hok, q⟩ := h
    refine ⟨_, pss_cons (ps_set (i := 2) scLProg.nd rfl (.inl rfl) (pe_op op_mod (C8.pe_c cC hr (by decide) rfl (pa_cons (pv 0) (pa_cons pe_int pa_nil))) pe_int)) <|
      pss_cons (ps_setLc (i := 3) (own := [("_law_cell", 10)]) (g := gName 10) (tt := tYes) (te := teRow) (by rfl) scLProg.nd rfl rfl (sw_true rfl rfl rfl (by decide +kernel)) (pi_list (pe_slice sl_list (pv 0) (po_some pe_int) (po_some (pe_op op_add pe_int (pv 2))))) (blkOk_by (own := [("_law_cell", 10)]) (N := nLProg) (sc := defScope sLProg) (by decide +kernel))
        (fun _ _ _ _ _ => pg_name (i := 10) scLProg.nd rfl (Or.inl rfl)) (fun _ _ _ _ _ => pts_nil) (fun _ _ _ _ _ => C8.pe_c cR hr (by decide) rfl (pa_cons (pv 10) (pa_cons (pv 1) pa_nil)))) <|
      pss_cons (ps_setLc (i := 4) (own := [("_law_cell", 10)]) (g := gName 10) (tt := tYes) (te := teRow) (by rfl) scLProg.nd rfl rfl (sw_true rfl rfl rfl (by decide +kernel)) (pi_list (pe_slice sl_list (pv 0) (po_some (pe_op op_add pe_int (pv 2))) (po_some pe_int))) (blkOk_by (own := [("_law_cell", 10)]) (N := nLProg) (sc := defScope sLProg) (by decide +kernel))
        (fun _ _ _ _ _ => pg_name (i := 10) scLProg.nd rfl (Or.inl rfl)) (fun _ _ _ _ _ => pts_nil) (fun _ _ _ _ _ => C8.pe_c cR hr (by decide) rfl (pa_cons (pv 10) (pa_cons (pv 1) pa_nil)))) <|
      pss_cons (ps_set (i := 5) scLProg.nd rfl (.inl rfl) (pe_op op_mod (C8.pe_c cC hr (by decide) rfl (pa_cons (pv 0) (pa_cons pe_int pa_nil))) (pe_op op_add (pe_callB call_len_seq (by rfl) zL PySem.boot_len (pa_cons (pv 4) pa_nil)) pe_int))) <|
      pss_cons (ps_set (i := 6) scLProg.nd rfl (.inl rfl) (C8.pe_c cS hr (by decide) rfl (pa_cons (C8.pe_c cC hr (by decide) rfl (pa_cons (pv 0) (pa_cons pe_int pa_nil))) (pa_cons pe_int pa_nil)))) <|
      pss_cons (ps_set (i := 7) scLProg.nd rfl (.inl rfl) (pe_tup (pa_cons pe_str (pa_cons (pe_ix ix_list (pv 1) (pe_op op_mod (pe_ix ix_list (pv 6) pe_int (fun _ _ => rfl)) pe_int) (fun _ _ => rfl)) (pa_cons (pe_ix ix_list (pv 1) pe_int (fun _ _ => rfl))
        (pa_cons (pe_tup (pa_cons (C8.pe_c cA hr (by decide) rfl (pa_cons (pe_ix ix_list (pv 6) pe_int (fun _ _ => rfl)) (pa_cons (pe_slice sl_list (pv 1) po_none (po_some pe_int)) pa_nil))) (pa_cons (C8.pe_c cA hr (by decide) rfl (pa_cons (pe_ix ix_list (pv 6) pe_int (fun _ _ => rfl)) (pa_cons (pe_slice sl_list (pv 1) po_none (po_some pe_int)) pa_nil))) pa_nil))) pa_nil)))))) <|
      pss_cons (ps_expr (pe_bm PySem.F.plainAttrs_list PySem.F.slot_list_append PySem.F.type_list_append mt_append (pv 3) (pa_cons (pe_tup (pa_cons pe_str (pa_cons (C8.pe_c cA hr (by decide) rfl (pa_cons (pe_ix ix_list (pv 6) pe_int (fun _ _ => rfl)) (pa_cons (pe_slice sl_list (pv 1) po_none (po_some pe_int)) pa_nil))) pa_nil))) pa_nil))) <|
      pss_cons (ps_set (i := 8) scLProg.nd rfl (.inl rfl) (pe_op op_cat (pe_op op_cat (pe_op op_cat (pe_slice sl_list (pv 4) po_none (po_some (pv 5))) (pe_lst (pa_cons (pv 7) pa_nil))) (pe_slice sl_list (pv 4) (po_some (pv 5)) po_none))
        (pe_lst (pa_cons (pe_tup (pa_cons pe_str (pa_cons (C8.pe_c cA hr (by decide) rfl (pa_cons (pe_ix ix_list (pv 6) pe_int (fun _ _ => rfl)) (pa_cons (pe_slice sl_list (pv 1) po_none (po_some pe_int)) pa_nil))) pa_nil))) pa_nil)))) <|
      pss_cons (ps_set (i := 9) scLProg.nd rfl (.inl rfl) (pe_tup (pa_cons (pe_ix ix_list (pv 1) pe_int (fun _ _ => rfl)) (pa_cons (pe_cmpR op_eq (pe_op op_mod (pe_ix ix_list (pv 6) pe_int (fun _ _ => rfl)) pe_int) pe_int (nomark _))
        (pa_cons (pe_tup (pa_cons (pe_ix ix_list (pv 1) pe_int (fun _ _ => rfl)) (pa_cons (pe_ix ix_list (pv 1) pe_int (fun _ _ => rfl)) pa_nil))) (pa_cons (pe_callTy call_tuple_of (by rfl) zT (by decide +kernel) (pa_cons (pv 3) pa_nil)) pa_nil)))))) <|
      pss_one (ps_ret (pe_lst (pa_cons (pv 9) (pa_cons (pe_tup (pa_cons (pe_ix ix_list (pv 1) pe_int (fun _ _ => rfl)) (pa_cons pe_bl (pa_cons (pe_tup (pa_cons (pe_ix ix_list (pv 1) pe_int (fun _ _ => rfl)) pa_nil)) (pa_cons (pe_callTy call_tuple_of (by rfl) zT (by decide +kernel) (pa_cons (pv 8) pa_nil)) pa_nil))))) pa_nil)))), ?_⟩
    -- size
    refine ⟨_, rfl, a, 1, zs, rfl, ha, fun z1 => ⟨_, _, rfl, rfl, (by show (0:Int) < _; decide), ?_⟩⟩
    -- inner
    obtain ⟨ys1, ey1, ly1, _⟩ := cut_map V.int zs (some 3) (some (3 + z1 % 6))
    refine ⟨_, rfl, _, rfl, _, rfl, _, _, rfl, rfl, _, rfl, a, _, rfl, ha, fun p1 hp1 => ?_⟩
    have n1 : Same H (upd H p1 (.lst (cutV (zs.map V.int) (some 3) (some (3 + z1 % 6))))) := Same.new hp1
    have e1 : (upd H p1 (.lst (cutV (zs.map V.int) (some 3) (some (3 + z1 % 6))))) p1 = some (.lst (ys1.map V.int)) := by rw [upd_same, ey1]
    refine ⟨p1, rfl, ⟨_, SqL.of e1⟩, fun D1 hD1 => lc_list (K := K) (a := p1) (xs := ys1.map V.int) (PvR _ D1) ⟨[], [], Same.new hD1, upd_same, RowsL.nil _, rfl, by simp⟩ (fun i H' _ ⟨_, _, z, _⟩ => SqL.of (z _ _ e1)) ?_ ?_⟩
    · intro i x H' hi hP
      obtain ⟨y, hy, rfl⟩ := int_at hi
      have := (List.getElem?_eq_some_iff.mp hy).1
      exact ⟨rfl, lcY (row_turn rfl rfl hD1 (n1 _ _ hl) hn (by omega) hP)⟩
    rintro H1 ⟨vs1, rs1, s1, z1D, R1, hr1, hp1'⟩
    rw [List.length_map] at hr1
    have s1' : Same H H1 := n1.trans s1
    -- outer
    obtain ⟨ys2, ey2, ly2, _⟩ := cut_map V.int zs (some (3 + z1 % 6)) (some 19)
    refine ⟨_, rfl, _, rfl, _, _, rfl, rfl, _, rfl, _, rfl, a, _, rfl, SqL.sm ha s1', fun p2 hp2 => ?_⟩
    have n2 : Same H1 (upd H1 p2 (.lst (cutV (zs.map V.int) (some (3 + z1 % 6)) (some 19)))) := Same.new hp2
    have e2 : (upd H1 p2 (.lst (cutV (zs.map V.int) (some (3 + z1 % 6)) (some 19)))) p2 = some (.lst (ys2.map V.int)) := by rw [upd_same, ey2]
    refine ⟨p2, rfl, ⟨_, SqL.of e2⟩, fun D2 hD2 => lc_list (K := K) (a := p2) (xs := ys2.map V.int) (PvR _ D2) ⟨[], [], Same.new hD2, upd_same, RowsL.nil _, rfl, by simp⟩ (fun i H' _ ⟨_, _, z, _⟩ => SqL.of (z _ _ e2)) ?_ ?_⟩
    · intro i x H' hi hP
      obtain ⟨y, hy, rfl⟩ := int_at hi
      have := (List.getElem?_eq_some_iff.mp hy).1
      exact ⟨rfl, lcY (row_turn rfl rfl hD2 (n2 _ _ (s1' _ _ hl)) hn (by omega) hP)⟩
    rintro H2 ⟨vs2, rs2, s2, z2D, R2, hr2, hp2'⟩
    rw [List.length_map] at hr2
    have s2' : Same H1 H2 := n2.trans s2
    have nD : D2 ≠ D1 := fun z => by rw [z, n2 _ _ z1D] at hD2; cases hD2
    -- at
    refine ⟨_, rfl, a, 2, zs, rfl, SqL.sm ha (s1'.trans s2'), fun z2 => ⟨_, rfl, D2, _, rfl, .inl (SqL.of z2D), _, _, rfl, rfl, _, _, rfl, rfl, (by show (0:Int) < _; omega), ?_⟩⟩
    obtain ⟨k, hk, hkl⟩ := mod_nat z2 (n := vs2.length + 1) (by omega)
    have hk' : z2 % ((vs2.length : Int) + 1) = (k : Int) := hk
    -- xs
    refine ⟨_, rfl, a, 2, zs, rfl, SqL.sm ha (s1'.trans s2'), fun z3 => ⟨z3, 5, rfl, by decide, fun l6 H6 xs s6 hl6 h6 hx6 _ => ?_⟩⟩
    have n6 : l6 ≠ D1 := fun z => by rw [z, s2' _ _ z1D] at hl6; cases hl6
    have hD10 : H D1 = none := n1.free hD1
    have nlD : l ≠ D1 := ne_of_none hl hD10
    have F : Fx H H6 l D1 D2 l6 ns vs1 rs1 vs2 rs2 xs := ⟨(s1'.trans s2').trans s6, s6 _ _ (s2' _ _ (s1' _ _ hl)), s6 _ _ (s2' _ _ z1D), R1.mono (ts_of (s2'.trans s6)), s6 _ _ z2D, R2.mono (ts_of s6), h6⟩
    clear s6 hl6 h6 z2D R2 z1D R1
    obtain ⟨x0, x1, x2, x3, x4, rfl⟩ : ∃ x0 x1 x2 x3 x4, xs = [x0, x1, x2, x3, x4] := match xs, hx6 with | [x0, x1, x2, x3, x4], _ => ⟨x0, x1, x2, x3, x4, rfl⟩
    obtain ⟨m0, m1, m2, m3, m4, m5, m6, rfl⟩ : ∃ m0 m1 m2 m3 m4 m5 m6, ns = [m0, m1, m2, m3, m4, m5, m6] := match ns, hn with | [m0, m1, m2, m3, m4, m5, m6], _ => ⟨m0, m1, m2, m3, m4, m5, m6, rfl⟩
    have hne' : m5 ≠ m6 := hne m5 m6 rfl rfl
    have ok5 : okS m5 := hok m5 (by simp)
    have ok6 : okS m6 := hok m6 (by simp)
    obtain ⟨x, _, hx⟩ := at_mod V.str [m0, m1, m2, m3, m4, m5, m6] x0 (n := 5) (by decide) (by show 5 ≤ 7; decide)
    have hx' : atI ([m0, m1, m2, m3, m4, m5, m6].map V.str) (x0 % 5) = some (.str x) := hx
    have e5 : cutV ([m0, m1, m2, m3, m4, m5, m6].map V.str) none (some 5) = [m0, m1, m2, m3, m4].map V.str := cut_none _ 5
    have g0 : ([m0, m1, m2, m3, m4, m5, m6].map V.str)[0]? = some (.str m0) := rfl
    have g1 : ([m0, m1, m2, m3, m4, m5, m6].map V.str)[1]? = some (.str m1) := rfl
    have g2 : ([m0, m1, m2, m3, m4, m5, m6].map V.str)[2]? = some (.str m2) := rfl
    have g5 : ([m0, m1, m2, m3, m4, m5, m6].map V.str)[5]? = some (.str m5) := rfl
    have g6 : ([m0, m1, m2, m3, m4, m5, m6].map V.str)[6]? = some (.str m6) := rfl
    clear hne hx hok
    generalize [m0, m1, m2, m3, m4, m5, m6] = ns at F hx' e5 g0 g1 g2 g5 g6
    have lt5 : 0 < [m0, m1, m2, m3, m4].length := by show 0 < 5; decide
    -- the call
    refine ⟨_, rfl, rixL rfl (SqL.of F.h6) rfl ⟨_, _, rfl, rfl, (by show (0:Int) < _; decide), l, _, _, _, rfl, rfl, SqL.of F.hL, hx', rixL rfl (SqL.of F.hL) g5 (rixL rfl (SqL.of F.h6) rfl ⟨_, rfl, _, rfl, l, _, rfl, SqL.of F.hL, fun p3 hp3 => ?_⟩)⟩⟩
    have F1 := F.sm (Same.new (o := HO.lst (cutV (ns.map V.str) none (some 5))) hp3)
    refine ⟨x1, p3, _, rfl, by rw [upd_same, e5], lt5, fun a1 => ?_⟩
    refine rixL rfl (SqL.of F1.h6) rfl ⟨_, rfl, _, rfl, l, _, rfl, SqL.of F1.hL, fun p4 hp4 => ?_⟩
    have F2 := F1.sm (Same.new (o := HO.lst (cutV (ns.map V.str) none (some 5))) hp4)
    refine ⟨x2, p4, _, rfl, by rw [upd_same, e5], lt5, fun a2 => ⟨le_line (by show 2 ≤ 100000; decide), fun tq htq => ⟨le_line (by show 4 ≤ 100000; decide), fun tc htc => ?_⟩⟩⟩
    have F3 := F2.sm (Same.new (o := HO.tup [a1.v, a2.v]) htq)
    have F4 := F3.sm (Same.new (o := HO.tup [.str "call", .str x, .str m5, .ref tq]) htc)
    have hcall : RowAt _ tc (.call x m5 [a1, a2]) := ⟨tq, upd_same, (Same.new (o := HO.tup [.str "call", .str x, .str m5, .ref tq]) htc) _ _ upd_same⟩
    generalize (upd (upd _ tq _) tc _) = H7 at F4 hcall
    clear F F1 F2 F3
    -- inner gets its back
    refine ⟨_, rfl, .inl ⟨rfl, _, SqL.of F4.h1⟩, ?_⟩
    refine rixL rfl (SqL.of F4.h6) rfl ⟨_, rfl, _, rfl, l, _, rfl, SqL.of F4.hL, fun p5 hp5 => ?_⟩
    have F5 := F4.sm (Same.new (o := HO.lst (cutV (ns.map V.str) none (some 5))) hp5)
    have hcall5 := hcall.mono (ts_of (Same.new (o := HO.lst (cutV (ns.map V.str) none (some 5))) hp5))
    refine ⟨x3, p5, _, rfl, by rw [upd_same, e5], lt5, fun a3 => ⟨le_line (by show 2 ≤ 100000; decide), fun tb htb => ?_⟩⟩
    have F6 := F5.sm (Same.new (o := HO.tup [.str "back", a3.v]) htb)
    have hcall6 := hcall5.mono (ts_of (Same.new (o := HO.tup [.str "back", a3.v]) htb))
    have hback : RowAt (upd (upd H7 p5 (.lst (cutV (ns.map V.str) none (some 5)))) tb (.tup [.str "back", a3.v])) tb (.back a3) := upd_same
    refine ⟨D1, _, _, rfl, rfl, F6.h1, lt_line (by rw [F6.R1.1, hr1]; omega), ?_⟩
    have F6' := F6
    generalize (upd (upd H7 p5 (.lst (cutV (ns.map V.str) none (some 5)))) tb (.tup [.str "back", a3.v])) = H8 at F6' hcall6 hback
    have tU : TS_ H8 (upd H8 D1 (.lst (vs1 ++ [.ref tb]))) := TS_.upd fun xs z => by rw [F6'.h1] at z; cases z
    have F7 : Fx H (upd H8 D1 (.lst (vs1 ++ [.ref tb]))) l D1 D2 l6 ns (vs1 ++ [.ref tb]) (rs1 ++ [.back a3]) vs2 rs2 [x0, x1, x2, x3, x4] :=
      ⟨Same.setN F6'.s hD10, by rw [upd_ne nlD]; exact F6'.hL, upd_same, (F6'.R1.app (RowsL.one hback)).mono tU, by rw [upd_ne nD]; exact F6'.h2, F6'.R2.mono tU, by rw [upd_ne n6]; exact F6'.h6⟩
    have hcall7 := hcall6.mono tU
    generalize (upd H8 D1 (.lst (vs1 ++ [.ref tb]))) = H9 at F7 hcall7
    clear F6 F6' F5 F4 hcall hcall5 hcall6 tU hback
    -- the rows
    refine ⟨_, rfl, _, rfl, _, rfl, D2, _, rfl, SqL.of F7.h2, fun q1 hq1 => ⟨_, rfl, le_line (by show 1 ≤ 100000; decide), fun q2 hq2 => ?_⟩⟩
    rw [hk', cut_none] at hq2 ⊢
    have t1 : Same H9 (upd H9 q1 (.lst (vs2.take k))) := Same.new hq1
    have t2 : Same (upd H9 q1 (.lst (vs2.take k))) (upd (upd H9 q1 (.lst (vs2.take k))) q2 (.lst [.ref tc])) := Same.new hq2
    have F8 := F7.sm (t1.trans t2)
    have e1' := t2 _ _ (upd_same (H := H9) (a := q1) (o := .lst (vs2.take k)))
    refine ⟨q1, q2, _, _, rfl, rfl, e1', upd_same, le_line (by rw [List.length_take]; show _ + 1 ≤ _; rw [F8.R2.1, hr2]; omega), fun q3 hq3 => ?_⟩
    have hcall8 := hcall7.mono (ts_of (t1.trans t2))
    generalize (upd (upd H9 q1 (.lst (vs2.take k))) q2 (.lst [.ref tc])) = H10 at F8 hcall8 hq3
    clear t1 t2 e1' hq2 hq1
    have t3 : Same H10 (upd H10 q3 (.lst (vs2.take k ++ [.ref tc]))) := Same.new hq3
    have F9 := F8.sm t3
    refine ⟨_, rfl, _, rfl, _, rfl, D2, _, rfl, SqL.of F9.h2, fun q4 hq4 => ?_⟩
    rw [hk', cut_from]
    have t4 : Same (upd H10 q3 (.lst (vs2.take k ++ [.ref tc]))) (upd (upd H10 q3 (.lst (vs2.take k ++ [.ref tc]))) q4 (.lst (vs2.drop k))) := Same.new hq4
    refine ⟨q3, q4, _, _, rfl, rfl, t4 _ _ upd_same, upd_same, le_line (by rw [List.length_append, List.length_take, List.length_drop, List.length_singleton, F8.R2.1, hr2]; omega), fun q5 hq5 => ?_⟩
    have F10 := F9.sm t4
    have hcall10 := hcall8.mono (ts_of (t3.trans t4))
    generalize (upd (upd H10 q3 (.lst (vs2.take k ++ [.ref tc]))) q4 (.lst (vs2.drop k))) = H11 at F10 hcall10 hq5
    clear t3 t4 hq4 hq3 F9 F8 hcall8 hcall7 F7
    have t5 : Same H11 (upd H11 q5 (.lst (vs2.take k ++ [.ref tc] ++ vs2.drop k))) := Same.new hq5
    have F11 := F10.sm t5
    refine rixL rfl (SqL.of F11.h6) rfl ⟨_, rfl, _, rfl, l, _, rfl, SqL.of F11.hL, fun p6 hp6 => ?_⟩
    have t6 := Same.new (o := HO.lst (cutV (ns.map V.str) none (some 5))) hp6
    refine ⟨x4, p6, _, rfl, by rw [upd_same, e5], lt5, fun a4 => ⟨le_line (by show 2 ≤ 100000; decide), fun t7 ht7 => ⟨le_line (by show 1 ≤ 100000; decide), fun q6 hq6 => ?_⟩⟩⟩
    have t7' := Same.new (o := HO.tup [.str "back", a4.v]) ht7
    have t8 := Same.new (o := HO.lst [.ref t7]) hq6
    have F12 := F11.sm (t6.trans (t7'.trans t8))
    have hcall12 := hcall10.mono (ts_of (t5.trans (t6.trans (t7'.trans t8))))
    have e5' := (t6.trans (t7'.trans t8)) _ _ (upd_same (H := H11) (a := q5) (o := .lst (vs2.take k ++ [.ref tc] ++ vs2.drop k)))
    have hback2 : RowAt _ t7 (.back a4) := t8 _ _ upd_same
    have e6' := upd_same (H := (upd (upd (upd H11 q5 (.lst (vs2.take k ++ [.ref tc] ++ vs2.drop k))) p6 (.lst (cutV (ns.map V.str) none (some 5)))) t7 (.tup [.str "back", a4.v]))) (a := q6) (o := .lst [.ref t7])
    refine ⟨q5, q6, _, _, rfl, rfl, e5', e6', le_line (by rw [List.length_append, List.length_append, List.length_take, List.length_drop, List.length_singleton, List.length_singleton, F10.R2.1, hr2]; omega), fun q7 hq7 => ?_⟩
    generalize (upd (upd (upd (upd H11 q5 (.lst (vs2.take k ++ [.ref tc] ++ vs2.drop k))) p6 (.lst (cutV (ns.map V.str) none (some 5)))) t7 (.tup [.str "back", a4.v])) q6 (.lst [.ref t7])) = H12 at F12 hcall12 hback2 hq7
    clear t5 t6 t7' t8 e5' e6' F11 F10 hcall10
    have R3 : RowsL H12 (vs2.take k ++ [.ref tc] ++ vs2.drop k ++ [.ref t7]) (rs2.take k ++ [.call x m5 [a1, a2]] ++ rs2.drop k ++ [.back a4]) := (((F12.R2.take k).app (RowsL.one hcall12)).app (F12.R2.drop k)).app (RowsL.one hback2)
    have t9 : Same H12 (upd H12 q7 (.lst (vs2.take k ++ [.ref tc] ++ vs2.drop k ++ [.ref t7]))) := Same.new hq7
    have F13 := F12.sm t9
    have R3' := R3.mono (ts_of t9)
    have e7 := upd_same (H := H12) (a := q7) (o := .lst (vs2.take k ++ [.ref tc] ++ vs2.drop k ++ [.ref t7]))
    have hr2' : rs2.length ≤ 63 := by omega
    have hv2 : (vs2.take k ++ [V.ref tc] ++ vs2.drop k ++ [V.ref t7]).length ≤ 99 := by
      rw [R3.1]
      simp only [List.length_append, List.length_take, List.length_drop, List.length_singleton]
      omega
    generalize (upd H12 q7 (.lst (vs2.take k ++ [V.ref tc] ++ vs2.drop k ++ [V.ref t7]))) = H13 at F13 R3' e7 ⊢
    generalize (vs2.take k ++ [V.ref tc] ++ vs2.drop k ++ [V.ref t7]) = ws at R3' e7 hv2
    clear t9 F12 hcall12 hback2 R3 hq7
    -- the first function
    refine rixL rfl (SqL.of F13.hL) g5 (rixL rfl (SqL.of F13.h6) rfl ⟨_, _, rfl, rfl, (by show (0:Int) < _; decide), rfl, ?_⟩)
    generalize decide ((fun i j => V.int (i % j)) x3 2 = V.int 1) = fb
    refine rixL rfl (SqL.of F13.hL) g1 (rixL rfl (SqL.of F13.hL) g0 ⟨le_line (by show 2 ≤ 100000; decide), fun u1 hu1 => ?_⟩)
    have v1 := Same.new (o := HO.tup [.str m1, .str m0]) hu1
    have F14 := F13.sm v1
    refine ⟨_, rfl, _, _, rfl, .inl ⟨SqL.of F14.h1, fun u2 hu2 => ⟨le_line (by show 4 ≤ 100000; decide), fun u3 hu3 => ?_⟩⟩⟩
    have v2 := Same.new (o := HO.tup (vs1 ++ [.ref tb])) hu2
    have v3 := Same.new (o := HO.tup [.str m5, .bl fb, .ref u1, .ref u2]) hu3
    have F15 := F14.sm (v2.trans v3)
    have A1 : FnAt _ u3 ⟨m5, fb, [m1, m0], rs1 ++ [.back a3]⟩ := ⟨u1, u2, upd_same, v3 _ _ (v2 _ _ upd_same), _, v3 _ _ upd_same, F15.R1⟩
    have R4 := R3'.mono (ts_of (v1.trans (v2.trans v3)))
    have e8 := (v1.trans (v2.trans v3)) _ _ e7
    generalize (upd (upd (upd H13 u1 _) u2 _) u3 _) = H14 at F15 A1 R4 e8 ⊢
    clear v1 v2 v3 F14 F13 e7 R3' hu1 hu2 hu3
    -- the second
    refine ⟨_, rfl, rixL rfl (SqL.of F15.hL) g6 (rixL rfl (SqL.of F15.hL) g2 ⟨le_line (by show 1 ≤ 100000; decide), fun u4 hu4 => ?_⟩)⟩
    have v4 := Same.new (o := HO.tup [.str m2]) hu4
    refine ⟨_, rfl, _, _, rfl, .inl ⟨SqL.of (v4 _ _ e8), fun u5 hu5 => ⟨le_line (by show 4 ≤ 100000; decide), fun u6 hu6 => ⟨le_line (by show 2 ≤ 100000; decide), fun p hp => ?_⟩⟩⟩⟩
    have v5 := Same.new (o := HO.tup ws) hu5
    have v6 := Same.new (o := HO.tup [.str m6, .bl false, .ref u4, .ref u5]) hu6
    have v7 := Same.new (o := HO.lst [.ref u3, .ref u6]) hp
    have A2 : FnAt _ u6 ⟨m6, false, [m2], rs2.take k ++ [.call x m5 [a1, a2]] ++ rs2.drop k ++ [.back a4]⟩ := ⟨u4, u5, v7 _ _ upd_same, v7 _ _ (v6 _ _ (v5 _ _ upd_same)), _, v7 _ _ (v6 _ _ upd_same), R4.mono (ts_of (v4.trans (v5.trans (v6.trans v7))))⟩
    have A1' := A1.mono (ts_of (v4.trans (v5.trans (v6.trans v7))))
    have F16 := F15.sm (v4.trans (v5.trans v6))
    refine q p _ [fOne m5 m0 m1 fb rs1 a3, fTwo m6 m2 m5 x rs2 k a1 a2 a4] (fOne m5 m0 m1 fb rs1 a3) (fTwo m6 m2 m5 x rs2 k a1 a2 a4) (F16.s.trans v7) (F16.s.free hp) ⟨_, upd_same, rfl, fun i f hf => ?_⟩ (good_pr hp1' hp2' (by omega) hr2' hne' ok5 ok6)
    match i, hf with
    | 0, hf =>
      rw [← Option.some.inj hf]
      exact ⟨u3, rfl, A1'⟩
    | 1, hf =>
      rw [← Option.some.inj hf]
      exact ⟨u6, rfl, A2⟩
end
end SG


/-! the law's own stack in the heap. -/
namespace SG
open PySem PySem.Spec PyProof.Rows L2
structure LF where
  y : Addr
  f : Addr
  d : Addr
  fr : Fr
def LF.setFr (x : LF) (fr : Fr) : LF := ⟨x.y, x.f, x.d, fr⟩
structure LFok (S : Addr → Prop) (H : Hp) (x : LF) : Prop where
  oy : H x.y = some (.lst [.ref x.f, .int x.fr.at_, .ref x.d])
  fn : FnAt H x.f x.fr.fn
  dc : DictIs H x.d x.fr.env
  sy : S x.y
  sd : S x.d
structure LIn (H : Hp) (L : Addr) (S : Addr → Prop) (xs : List LF) : Prop where
  li : H L = some (.lst (xs.map fun x => V.ref x.y))
  ok : ∀ (i : Nat) (x : LF), xs[i]? = some x → LFok S H x
  ap : ∀ (i j : Nat) (x z : LF), xs[i]? = some x → xs[j]? = some z → i ≠ j → x.y ≠ z.y ∧ x.d ≠ z.d
  ny : ∀ (i : Nat) (x : LF), xs[i]? = some x → x.y ≠ L
  sl : S L
  sub : ∀ b, S b → ∃ o, H b = some o ∧ ownB o = true
def LawAt (H : Hp) (L : Addr) (S : Addr → Prop) (st : List Fr) : Prop := ∃ xs : List LF, LIn H L S xs ∧ xs.map (·.fr) = st
theorem LFok.at {S S' : Addr → Prop} {H H' : Hp} {x : LF} (h : LFok S H x) (t : TS_ H H') (k1 : ∀ o, H x.y = some o → H' x.y = some o) (k2 : ∀ o, H x.d = some o → H' x.d = some o) (hs : ∀ b, S b → S' b) : LFok S' H' x :=
  ⟨k1 _ h.oy, h.fn.mono t, h.dc.at k2, hs _ h.sy, hs _ h.sd⟩
section
variable {H H' : Hp} {L : Addr} {S : Addr → Prop} {xs : List LF} {st : List Fr}
theorem LIn.keep (h : LIn H L S xs) (k : KeepS S H H') : LIn H' L S xs where
  li := k.1 _ _ h.li h.sl
  ok := fun i x hx => have q := h.ok i x hx; q.at k.2 (fun o e => k.1 _ _ e q.sy) (fun o e => k.1 _ _ e q.sd) fun _ z => z
  ap := h.ap
  ny := h.ny
  sl := h.sl
  sub := fun b hb => let ⟨o, e, z⟩ := h.sub b hb; ⟨o, k.1 b o e hb, z⟩
theorem LawAt.keep (h : LawAt H L S st) (k : KeepS S H H') : LawAt H' L S st := by
  obtain ⟨xs, w, e⟩ := h
  exact ⟨xs, w.keep k, e⟩
theorem lset_at {xs : List LF} {i j : Nat} {a x : LF} (h : (xs.set i a)[j]? = some x) : (j = i ∧ x = a) ∨ (j ≠ i ∧ xs[j]? = some x) := by
  by_cases e : j = i
  · subst e
    rw [List.getElem?_set] at h
    simp only [if_true] at h
    split at h
    · exact .inl ⟨rfl, (Option.some.inj h).symm⟩
    · cases h
  · rw [List.getElem?_set_ne (Ne.symm e)] at h
    exact .inr ⟨e, h⟩
theorem lmap_set {xs : List LF} {i : Nat} {x : LF} {fr : Fr} (hx : xs[i]? = some x) : (xs.set i (x.setFr fr)).map (fun x => V.ref x.y) = xs.map fun x => V.ref x.y := by
  rw [List.map_set]
  refine List.ext_getElem? fun j => ?_
  by_cases q : i = j
  · subst q
    have hlt : i < xs.length := (List.getElem?_eq_some_iff.mp hx).1
    rw [List.getElem?_set_self (by simpa using hlt), List.getElem?_map, hx]
    rfl
  · rw [List.getElem?_set_ne q]
theorem LIn.putEnv (h : LIn H L S xs) {i : Nat} {x : LF} (hx : xs[i]? = some x) {kvs : List (Key × V)} {e : EnvF} (hD : DRep kvs e) : LIn (upd H x.d (.dK kvs)) L S (xs.set i (x.setFr ⟨x.fr.fn, x.fr.at_, e⟩)) := by
  have q := h.ok i x hx
  obtain ⟨k0, hd0, _⟩ := q.dc
  have ts : TS_ H (upd H x.d (.dK kvs)) := TS_.upd fun xs z => by rw [hd0] at z; cases z
  have other : ∀ {b : Addr} {o : HO}, H b = some o → (∀ k, o ≠ .dK k) → (upd H x.d (.dK kvs)) b = some o := fun {b o} e n => by
    rw [upd_ne (ne_of e hd0 (n k0))]
    exact e
  refine ⟨?_, fun j y hy => ?_, fun j1 j2 y1 y2 h1 h2 hn => ?_, fun j y hy => ?_, h.sl, fun b hb => ?_⟩
  · rw [lmap_set hx]
    exact other h.li (fun k z => by cases z)
  · rcases lset_at hy with ⟨_, rfl⟩ | ⟨hne, hy⟩
    · exact ⟨other q.oy (fun k z => by cases z), q.fn.mono ts, ⟨kvs, upd_same, hD⟩, q.sy, q.sd⟩
    · have q2 := h.ok j y hy
      refine q2.at ts (fun o e => ?_) (fun o e => ?_) fun _ z => z
      · rw [q2.oy] at e
        cases e
        exact other q2.oy (fun k z => by cases z)
      · rw [upd_ne (h.ap j i y x hy hx hne).2]
        exact e
  · rcases lset_at h1 with ⟨e1, rfl⟩ | ⟨n1, h1⟩
    · rcases lset_at h2 with ⟨e2, rfl⟩ | ⟨n2, h2⟩
      · exact absurd (e1.trans e2.symm) hn
      · exact h.ap i j2 x y2 hx h2 (Ne.symm n2)
    · rcases lset_at h2 with ⟨e2, rfl⟩ | ⟨n2, h2⟩
      · exact h.ap j1 i y1 x h1 hx n1
      · exact h.ap j1 j2 y1 y2 h1 h2 hn
  · rcases lset_at hy with ⟨_, rfl⟩ | ⟨hne, hy⟩
    · exact h.ny i x hx
    · exact h.ny j y hy
  · by_cases e : b = x.d
    · rw [e]
      exact ⟨_, upd_same, rfl⟩
    · obtain ⟨o, e1, e2⟩ := h.sub b hb
      exact ⟨o, by rw [upd_ne e]; exact e1, e2⟩
theorem LIn.putAt (h : LIn H L S xs) {i : Nat} {x : LF} (hx : xs[i]? = some x) (k : Nat) : LIn (upd H x.y (.lst [.ref x.f, .int (k : Int), .ref x.d])) L S (xs.set i (x.setFr ⟨x.fr.fn, k, x.fr.env⟩)) := by
  have q := h.ok i x hx
  have ts : TS_ H (upd H x.y (.lst [.ref x.f, .int (k : Int), .ref x.d])) := TS_.upd fun xs z => by rw [q.oy] at z; cases z
  have dck : ∀ {y : Addr} {e : EnvF}, DictIs H y e → ∀ o, H y = some o → (upd H x.y (.lst [.ref x.f, .int (k : Int), .ref x.d])) y = some o := fun {y e0} hf o e => by
    obtain ⟨ts', e1, _⟩ := hf
    rw [upd_ne (ne_of e1 q.oy (by intro z; cases z))]
    exact e
  refine ⟨?_, fun j y hy => ?_, fun j1 j2 y1 y2 h1 h2 hn => ?_, fun j y hy => ?_, h.sl, fun b hb => ?_⟩
  · rw [lmap_set hx, upd_ne (Ne.symm (h.ny i x hx))]
    exact h.li
  · rcases lset_at hy with ⟨_, rfl⟩ | ⟨hne, hy⟩
    · exact ⟨upd_same, q.fn.mono ts, q.dc.at (dck q.dc), q.sy, q.sd⟩
    · have q2 := h.ok j y hy
      refine q2.at ts (fun o e => ?_) (dck q2.dc) fun _ z => z
      rw [upd_ne (h.ap j i y x hy hx hne).1]
      exact e
  · rcases lset_at h1 with ⟨e1, rfl⟩ | ⟨n1, h1⟩
    · rcases lset_at h2 with ⟨e2, rfl⟩ | ⟨n2, h2⟩
      · exact absurd (e1.trans e2.symm) hn
      · exact h.ap i j2 x y2 hx h2 (Ne.symm n2)
    · rcases lset_at h2 with ⟨e2, rfl⟩ | ⟨n2, h2⟩
      · exact h.ap j1 i y1 x h1 hx n1
      · exact h.ap j1 j2 y1 y2 h1 h2 hn
  · rcases lset_at hy with ⟨_, rfl⟩ | ⟨hne, hy⟩
    · exact h.ny i x hx
    · exact h.ny j y hy
  · by_cases e : b = x.y
    · rw [e]
      exact ⟨_, upd_same, rfl⟩
    · obtain ⟨o, e1, e2⟩ := h.sub b hb
      exact ⟨o, by rw [upd_ne e]; exact e1, e2⟩
theorem LIn.putList (h : LIn H L S xs) {ys : List LF} {S' : Addr → Prop} (hS : ∀ b, S b → S' b) (hok : ∀ (i : Nat) (x : LF), ys[i]? = some x → LFok S' H x)
    (hap : ∀ (i j : Nat) (x y : LF), ys[i]? = some x → ys[j]? = some y → i ≠ j → x.y ≠ y.y ∧ x.d ≠ y.d) (hny : ∀ (i : Nat) (x : LF), ys[i]? = some x → x.y ≠ L)
    (hsub : ∀ b, S' b → ∃ o, H b = some o ∧ ownB o = true) : LIn (upd H L (.lst (ys.map fun x => V.ref x.y))) L S' ys := by
  have ts : TS_ H (upd H L (.lst (ys.map fun x => V.ref x.y))) := TS_.upd fun xs z => by rw [h.li] at z; cases z
  refine ⟨upd_same, fun j y hy => ?_, hap, hny, hS _ h.sl, fun b hb => ?_⟩
  · have q := hok j y hy
    refine q.at ts (fun o e => ?_) (fun o e => ?_) fun _ z => z
    · rw [upd_ne (hny j y hy)]
      exact e
    · obtain ⟨kvs, e1, _⟩ := id q.dc
      rw [upd_ne (ne_of e1 h.li (by intro z; cases z))]
      exact e
  · by_cases e : b = L
    · rw [e]
      exact ⟨_, upd_same, rfl⟩
    · obtain ⟨o, e1, e2⟩ := hsub b hb
      exact ⟨o, by rw [upd_ne e]; exact e1, e2⟩
theorem LIn.push (h : LIn H L S xs) {y : LF} (hy : LFok (fun b => b = y.y ∨ b = y.d) H y) (n1 : ¬ S y.y) (n2 : ¬ S y.d) :
    LIn (upd H L (.lst ((xs ++ [y]).map fun x => V.ref x.y))) L (fun b => S b ∨ b = y.y ∨ b = y.d) (xs ++ [y]) := by
  have at_ : ∀ {i : Nat} {x : LF}, (xs ++ [y])[i]? = some x → (i < xs.length ∧ xs[i]? = some x) ∨ (i = xs.length ∧ x = y) := fun {i x} hx => by
    by_cases e : i < xs.length
    · rw [List.getElem?_append_left e] at hx
      exact .inl ⟨e, hx⟩
    · have hl := (List.getElem?_eq_some_iff.mp hx).1
      rw [List.length_append, List.length_singleton] at hl
      have e' : i = xs.length := by omega
      subst e'
      rw [List.getElem?_concat_length] at hx
      exact .inr ⟨rfl, (Option.some.inj hx).symm⟩
  refine h.putList (fun b z => .inl z) (fun i x hx => ?_) (fun i j x1 x2 h1 h2 hn => ?_) (fun i x hx => ?_) fun b hb => ?_
  · rcases at_ hx with ⟨_, hx⟩ | ⟨_, rfl⟩
    · exact (h.ok i x hx).at (TS_.refl _) (fun _ e => e) (fun _ e => e) fun b z => .inl z
    · exact hy.at (TS_.refl _) (fun _ e => e) (fun _ e => e) fun b z => .inr z
  · rcases at_ h1 with ⟨l1, g1⟩ | ⟨l1, g1⟩
    · rcases at_ h2 with ⟨l2, g2⟩ | ⟨l2, g2⟩
      · exact h.ap i j x1 x2 g1 g2 hn
      · rw [g2]
        exact ⟨fun e => n1 (by rw [← e]; exact (h.ok i x1 g1).sy), fun e => n2 (by rw [← e]; exact (h.ok i x1 g1).sd)⟩
    · rw [g1]
      rcases at_ h2 with ⟨l2, g2⟩ | ⟨l2, g2⟩
      · exact ⟨fun e => n1 (by rw [e]; exact (h.ok j x2 g2).sy), fun e => n2 (by rw [e]; exact (h.ok j x2 g2).sd)⟩
      · exact absurd (l1.trans l2.symm) hn
  · rcases at_ hx with ⟨_, hx⟩ | ⟨_, rfl⟩
    · exact h.ny i x hx
    · exact fun e => n1 (by rw [e]; exact h.sl)
  · rcases hb with hb | rfl | rfl
    · exact h.sub b hb
    · exact ⟨_, hy.oy, rfl⟩
    · obtain ⟨kvs, e, _⟩ := hy.dc
      exact ⟨_, e, rfl⟩
theorem LIn.pop {x : LF} (h : LIn H L S (xs ++ [x])) : LIn (upd H L (.lst (xs.map fun x => V.ref x.y))) L S xs := by
  have up : ∀ {i : Nat} {y : LF}, xs[i]? = some y → (xs ++ [x])[i]? = some y := fun {i y} hy => by
    rw [List.getElem?_append_left (List.getElem?_eq_some_iff.mp hy).1]
    exact hy
  exact h.putList (fun _ z => z) (fun i y hy => h.ok i y (up hy)) (fun i j x1 x2 h1 h2 hn => h.ap i j x1 x2 (up h1) (up h2) hn) (fun i y hy => h.ny i y (up hy)) h.sub
theorem lat_st {xs : List LF} {st : List Fr} {i : Nat} {fr : Fr} (e : xs.map (·.fr) = st) (h : st[i]? = some fr) : ∃ y, xs[i]? = some y ∧ y.fr = fr := by
  rw [← e, List.getElem?_map] at h
  cases q : xs[i]? with
  | none => rw [q] at h; cases h
  | some y => rw [q] at h; exact ⟨y, rfl, Option.some.inj h⟩
theorem lmap_snoc {xs : List LF} {st : List Fr} {fr : Fr} (h : xs.map (·.fr) = st ++ [fr]) : ∃ xs0 x, xs = xs0 ++ [x] ∧ xs0.map (·.fr) = st ∧ x.fr = fr := by
  obtain ⟨a, b, e, h1, h2⟩ := List.map_eq_append_iff.mp h
  obtain ⟨x, rfl, h3⟩ := List.map_eq_singleton_iff.mp h2
  exact ⟨a, x, e, h1, h3⟩
theorem lset_last (xs : List LF) (y a : LF) : (xs ++ [y]).set xs.length a = xs ++ [a] := by
  rw [List.set_append_right _ _ (Nat.le_refl _), Nat.sub_self]
  rfl
end
theorem pow48 : (2 : Int) ^ (48 : Int).toNat = wide := by decide +kernel
theorem disp_val {s : Str} (h : s ∈ signs ∧ ¬ s = "+") (i j : Int) : valV (mergeK [] [((Sum.inr ("-" : Str) : Key), V.int ((i - j) % 2 ^ (48 : Int).toNat)), (Sum.inr ("<" : Str), .int (if decide (i < j) = true then 1 else 0)), (Sum.inr ("&" : Str), .int (Builtin.bitAnd i j))]) (Sum.inr s : Key) = some (.int (valA s i j)) := by
  have hs : s = "-" ∨ s = "<" ∨ s = "&" := by
    have h1 := h.1
    simp only [signs, List.mem_cons, List.not_mem_nil, or_false] at h1
    rcases h1 with h1 | h1
    · exact absurd h1 h.2
    · exact h1
  have k1 : ¬ (Sum.inr ("-" : Str) : Key) = Sum.inr ("&" : Str) := by decide +kernel
  have k2 : ¬ (Sum.inr ("-" : Str) : Key) = Sum.inr ("<" : Str) := by decide +kernel
  have k3 : ¬ (Sum.inr ("<" : Str) : Key) = Sum.inr ("&" : Str) := by decide +kernel
  have m1 : ¬ ("-" : Str) = "+" := by decide +kernel
  have m2 : ¬ ("<" : Str) = "+" := by decide +kernel
  have m3 : ¬ ("<" : Str) = "-" := by decide +kernel
  have m4 : ¬ ("&" : Str) = "+" := by decide +kernel
  have m5 : ¬ ("&" : Str) = "-" := by decide +kernel
  have m6 : ¬ ("&" : Str) = "<" := by decide +kernel
  unfold mergeK
  simp only [List.foldl_cons, List.foldl_nil]
  rw [valV_put, valV_put, valV_put]
  unfold valA
  rcases hs with rfl | rfl | rfl
  · rw [if_neg k1, if_neg k2, if_pos rfl, if_neg m1, if_pos rfl, pow48]
  · rw [if_neg k3, if_pos rfl, if_neg m2, if_neg m3, if_pos rfl]
    by_cases q : i < j
    · rw [if_pos q, decide_eq_true q, if_pos rfl]
    · rw [if_neg q, decide_eq_false q]
      rfl
  · rw [if_pos rfl, if_neg m4, if_neg m5, if_neg m6]
theorem cut_last (ys : List V) (y : V) : cutV (ys ++ [y]) (some (-1)) none = [y] := by
  unfold cutV
  rw [HT.sIx_none]
  have e : HT.sIx (ys ++ [y]).length 0 (some (-1)) = ys.length := by
    show (if (-1 : Int) < 0 then ((-1 : Int) + ((ys ++ [y]).length : Int)).toNat else min (-1 : Int).toNat (ys ++ [y]).length) = _
    rw [if_pos (by decide), List.length_append, List.length_singleton]
    omega
  rw [e, List.drop_left, List.length_append, List.length_singleton]
  rw [show ys.length + 1 - ys.length = 1 by omega]
  rfl
theorem cut_lastE : cutV ([] : List V) (some (-1)) none = [] := by
  unfold cutV
  simp
section
variable {P : Program} {w : World} {K : PySem.W.Frag} {mg : Str → Option Value} {base : Heap}
/-! ### _law_moved -/
abbrev sMoved : Stmt := top 32
abbrev nMoved : List Str := ["_law_stack", "_law_program_here", "_law_function", "_law_at", "_law_now", "_law_row_here", "_law_number", "_law_frame_here", "_law_one", "_law_other", "_law_atom_here"]
theorem scMoved : FnScope nMoved ["_law_stack", "_law_program_here"] (defScope sMoved) := ⟨rfl, rfl, rfl, by decide +kernel, rfl, by decide +kernel, by decide +kernel⟩
def spMoved : Sp := fun vs H Q _ => ∃ (L pl : Addr) (S : Addr → Prop) (st : List Fr) (fr : Fr) (Pr : List Fn) (f1 f2 : Fn), vs = [.ref L, .ref pl] ∧ LawAt H L S (st ++ [fr]) ∧ StOK Pr (st ++ [fr]) ∧ GoodPr Pr f1 f2 ∧ ProgAt H pl Pr ∧ fr.fn ∈ Pr ∧ st.length + 2 ≤ 1000 ∧
  ∀ H' S', Ch H S H' S' → LawAt H' L S' (stepA Pr (st ++ [fr])) → Q .non H'
theorem c_moved (D : DefG K mg "_law_moved" sMoved) (cF : C8.Cal P w K mg base 2 "_law_frame" spLFrame []) (cW : C8.Cal P w K mg base 1 "_law_worth" spLWorth []) (zI : mg "int" = none) : C8.Cal P w K mg base 3 "_law_moved" spMoved [] := by
  refine cal_of D scMoved (fun _ _ _ _ _ _ us hl => match us, hl with | [_, _], _ => rfl) (fun vs H Q E h => ?_) (fun f0 cdv A outer s H vs Q E hr h => ?_)
  · obtain ⟨L, pl, S, st, fr, Pr, f1, f2, rfl, _⟩ := h
    rfl
  · obtain ⟨L, pl, S, st, fr, Pr, f1, f2, rfl, ⟨xs, W, e⟩, hst, hG, hPl, hfm, hl2, k⟩ := h
    have hu := hu_of hr
    refine ⟨_, pss_cons (ps_asg (pe_ix ix_list (pv 0) (pe_un un_neg pe_int) (fun _ _ => rfl)) (pg_lst rfl (pgs_cons (pg_name (i := 2) scMoved.nd rfl (.inl rfl)) (pgs_cons (pg_name (i := 3) scMoved.nd rfl (.inl rfl)) (pgs_cons (pg_name (i := 4) scMoved.nd rfl (.inr rfl)) pgs_nil))))) <|
      pss_cons (ps_set (i := 5) scMoved.nd rfl (.inl rfl) (pe_ix ix_tup (pe_ix ix_tup (pv 2) pe_int (fun _ _ => rfl)) (pv 3) (fun _ _ => rfl))) <|
      pss_cons (ps_if (pt_cmpR op_eq (pe_ix ix_tup (pv 5) pe_int (fun _ _ => rfl)) pe_str (nomark _))
        (pss_cons (ps_expr (pe_bm PySem.F.plainAttrs_list PySem.F.slot_list_append PySem.F.type_list_append mt_append (pv 0) (pa_cons (C8.pe_c cF hr (by decide) rfl (pa_cons (pe_ix ix_list (pv 1) pe_int (fun _ _ => rfl)) (pa_cons
          (pe_lc (own := [("_law_atom_here", 10)]) (g := gName 10) (tt := tYes) (te := tCall spLWorth [] E0 (tCons (tVar 10) (tCons (tVar 4) tNil))) (by rfl) scMoved.nd (pi_tup (pe_ix ix_tup (pv 5) pe_int (fun _ _ => rfl))) (blkOk_by (own := [("_law_atom_here", 10)]) (N := nMoved) (sc := defScope sMoved) (by decide +kernel))
            (fun _ _ _ _ _ => pg_name (i := 10) scMoved.nd rfl (Or.inl rfl)) (fun _ _ _ _ _ => pts_nil) (fun _ _ _ _ _ => C8.pe_c cW hr (by decide) rfl (pa_cons (pv 10) (pa_cons (pv 4) pa_nil)))) pa_nil))) pa_nil))) <|
          pss_one ps_retN) pss_nil) <|
      pss_cons (ps_if (pt_cmpR op_eq (pe_ix ix_tup (pv 5) pe_int (fun _ _ => rfl)) pe_str (nomark _))
        (pss_cons (ps_set (i := 6) scMoved.nd rfl (.inl rfl) (C8.pe_c cW hr (by decide) rfl (pa_cons (pe_ix ix_tup (pv 5) pe_int (fun _ _ => rfl)) (pa_cons (pv 4) pa_nil)))) <|
          pss_cons (ps_expr (pe_bm0 PySem.F.plainAttrs_list PySem.F.slot_list_pop PySem.F.type_list_pop mt_pop (pv 0))) <|
          pss_cons (ps_for PassesOwn.never rfl (pi_list (pe_slice sl_list (pv 0) (po_some (pe_un un_neg pe_int)) po_none)) (pg_name (i := 7) scMoved.nd rfl (.inl rfl)) <|
            pss_cons (ps_dput hu (pe_ix ix_list (pv 7) pe_int (fun _ _ => rfl)) (pe_ix ix_tup (pe_ix ix_tup (pe_ix ix_tup (pe_ix ix_list (pv 7) pe_int (fun _ _ => rfl)) pe_int (fun _ _ => rfl)) (pe_ix ix_list (pv 7) pe_int (fun _ _ => rfl)) (fun _ _ => rfl)) pe_int (fun _ _ => rfl)) (pv 6) rfl) <|
            pss_one (ps_asg (pe_op op_add (pe_ix ix_list (pv 7) pe_int (fun _ _ => rfl)) pe_int) (pg_sub (pv 7) pe_int set_list))) <|
          pss_one ps_retN) pss_nil) <|
      C8.pss_cut (ps_if (pt_cmpR op_eq (pe_ix ix_tup (pv 5) pe_int (fun _ _ => rfl)) pe_str (nomark _))
        (pss_one (ps_dput hu (pv 4) (pe_ix ix_tup (pv 5) pe_int (fun _ _ => rfl)) (C8.pe_c cW hr (by decide) rfl (pa_cons (pe_ix ix_tup (pv 5) pe_int (fun _ _ => rfl)) (pa_cons (pv 4) pa_nil))) rfl))
        (pss_cons (ps_set (i := 8) scMoved.nd rfl (.inl rfl) (C8.pe_c cW hr (by decide) rfl (pa_cons (pe_ix ix_tup (pv 5) pe_int (fun _ _ => rfl)) (pa_cons (pv 4) pa_nil)))) <|
          pss_cons (ps_set (i := 9) scMoved.nd rfl (.inl rfl) (C8.pe_c cW hr (by decide) rfl (pa_cons (pe_ix ix_tup (pv 5) pe_int (fun _ _ => rfl)) (pa_cons (pv 4) pa_nil)))) <|
          pss_one (ps_dput hu (pv 4) (pe_ix ix_tup (pv 5) pe_int (fun _ _ => rfl)) (pe_dget hu (pe_disp (pps_cons pe_str (pe_op op_mod (pe_op op_sub (pv 8) (pv 9)) (pe_op op_pow pe_int pe_int)) (pps_cons pe_str (pe_callTy call_int1 (by rfl) zI (by decide +kernel) (pa_cons (pe_cmpR op_lt (pv 8) (pv 9) (nomark _)) pa_nil)) (pps_cons pe_str (pe_op op_and (pv 8) (pv 9)) pps_nil))) rfl rfl (by decide) (by decide)) (pe_ix ix_tup (pv 5) pe_int (fun _ _ => rfl)) (fun _ _ => rfl)) rfl))) <|
      pss_one (ps_asg (pe_op op_add (pv 3) pe_int) (pg_sub (pe_ix ix_list (pv 0) (pe_un un_neg pe_int) (fun _ _ => rfl)) pe_int set_list)), ?_⟩
    obtain ⟨xs0, x, rfl, e0, rfl⟩ := lmap_snoc e
    have elist : (xs0 ++ [x]).map (fun x => V.ref x.y) = xs0.map (fun x => V.ref x.y) ++ [V.ref x.y] := by rw [List.map_append]; rfl
    have hx : (xs0 ++ [x])[xs0.length]? = some x := List.getElem?_concat_length
    have elen : xs0.length = st.length := by rw [← e0, List.length_map]
    have q := W.ok xs0.length x hx
    have hf := hst.last
    obtain ⟨r, hr1, hm⟩ := hf.at_row
    obtain ⟨qa, ra, a1, a2, rvs, r1, r2, r3⟩ := id q.fn
    obtain ⟨rp, r4, hrow⟩ := r3 x.fr.at_ _ hr1
    refine ⟨_, rfl, 1, rfl, L, _, _, _, rfl, rfl, SqL.of W.li, (by rw [elist]; exact atI_last _ _), x.y, _, rfl, SqL.of q.oy, rfl, _, _, rfl, _, _, rfl, _, _, rfl, rfl, ?_⟩
    refine ⟨_, rfl, x.f, _, _, _, rfl, rfl, SqT.of a1, atI_nat (j := 3) rfl, _, rfl, ra, rvs, _, _, rfl, rfl, SqT.of r1, atI_nat r4, ?_⟩
    obtain ⟨txs, htx⟩ := hrow.tup
    cases hc : r.isCall with
    | true =>
      refine rIxEqT rfl (SqT.of htx) rfl ((call_ne r).1 hc) (iteT ?_)
      cases r with
      | call cx cg cas =>
        obtain ⟨qc, c1, c2⟩ := hrow
        have hg := hG.ca x.fr.fn hfm cx cg cas hm
        obtain ⟨f, hg', hn⟩ := hf.fn.ca cx cg cas hm
        rw [hg] at hg'
        cases hg'
        obtain ⟨pvs, l1, l2, l3⟩ := id hPl
        obtain ⟨fa, u3, u4⟩ := l3 0 f1 (by rw [hG.eq]; rfl)
        refine ⟨_, rfl, .inl ⟨rfl, _, SqL.of W.li⟩, rixL rfl (SqL.of l1) u3 (rix rfl (SqT.of c1) rfl ⟨qc, rfl, ⟨_, SqT.of c2⟩, fun D hD => lc_tup (K := K) (a := qc) (xs := cas.map Atom.v) (fun i H' => Same H H' ∧ H' D = some (.lst (((cas.take i).map (worth x.fr.env)).map V.int)))
          ⟨Same.new hD, upd_same⟩ (fun i H' _ ⟨z, _⟩ => SqT.of (z _ _ c2)) ?_ ?_⟩)⟩
        · rintro i y H' hi ⟨s1, zD⟩
          obtain ⟨a, ha, rfl⟩ : ∃ a, cas[i]? = some a ∧ a.v = y := by
            rw [List.getElem?_map] at hi
            cases e : cas[i]? with
            | none => rw [e] at hi; cases hi
            | some a => rw [e] at hi; exact ⟨a, rfl, Option.some.inj hi⟩
          have hin : a.inE x.fr.env := hf.atom hm (List.mem_of_getElem? ha)
          have hsz := hf.fn.sza _ hm
          refine ⟨rfl, lcY ?_⟩
          refine ⟨_, rfl, _, rfl, x.d, a, x.fr.env, rfl, q.dc.at (fun o e => s1 _ _ e), hin, ?_⟩
          refine ⟨_, zD, lt_line (by rw [List.length_map, List.length_map, List.length_take]; have : cas.length ≤ 10 := hsz; omega), Same.setN s1 hD, ?_⟩
          rw [upd_same, take_snoc ha, List.map_append, List.map_append]
          rfl
        · rintro H1 ⟨s1, zD⟩
          rw [List.length_map, List.take_length] at zD
          refine ⟨fa, D, f1, cas.map (worth x.fr.env), rfl, u4.mono (ts_of s1), (hG.ok.fns f1 (lookF_mem hg).1).small, zD, by rw [List.length_map]; exact hn, fun y d H3 s3 ny nd oy' dc' => ?_⟩
          have s4 : Same H H3 := s1.trans s3
          have nS : ∀ b, H b = none → ¬ S b := fun b h hs => by
            obtain ⟨o, e1, _⟩ := W.sub b hs
            rw [h] at e1
            cases e1
          have ny0 : H y = none := s1.free ny
          have nd0 : H d = none := s1.free nd
          have W3 := W.keep (KeepS.of_same s4)
          have W4 := W3.push (y := ⟨y, fa, d, newA f1 (cas.map (worth x.fr.env))⟩) ⟨oy', u4.mono (ts_of s4), dc', .inl rfl, .inr rfl⟩ (nS _ ny0) (nS _ nd0)
          refine ⟨L, _, _, rfl, rfl, W3.li, lt_line (by rw [List.length_map, List.length_append, List.length_singleton]; omega), ?_⟩
          have elist2 : (xs0 ++ [x]).map (fun x => V.ref x.y) ++ [V.ref y] = ((xs0 ++ [x]) ++ [(⟨y, fa, d, newA f1 (cas.map (worth x.fr.env))⟩ : LF)]).map (fun x : LF => V.ref x.y) := by simp only [List.map_append, List.map_cons, List.map_nil]
          rw [elist2]
          have cS : Ch H S H3 (fun b => S b ∨ b = y ∨ b = d) := ⟨fun b o h _ => s4 b o h, fun b hb => by
            rcases hb with hb | rfl | rfl
            · exact .inl hb
            · exact .inr ny0
            · exact .inr nd0⟩
          refine k _ _ (cS.put (.inl W.sl)) ?_
          rw [stepA_call hr1 hg]
          refine ⟨_, W4, ?_⟩
          simp only [List.map_append, List.map_cons, List.map_nil, e0]
      | _ => cases hc
    | false =>
      refine rIxEqF rfl (SqT.of htx) rfl ((call_ne r).2 hc) (iteF ?_)
      cases hb : r.isBack with
      | true =>
        refine rIxEqT rfl (SqT.of htx) rfl ((kind_back r).1 hb) (iteT ?_)
        cases r with
        | back a =>
          have hin : a.inE x.fr.env := hf.atom hm (by simp [Row.atoms])
          refine rix rfl (SqT.of hrow) rfl ⟨_, rfl, x.d, a, x.fr.env, rfl, q.dc, hin, ?_⟩
          refine ⟨_, rfl, .inl ⟨rfl, _, SqL.of W.li⟩, L, _, .ref x.y, rfl, rfl, W.li, ?_, ?_⟩
          · rw [elist, List.length_append, List.length_singleton, Nat.add_sub_cancel, List.getElem?_concat_length]
          rw [elist, List.dropLast_concat]
          have W1 := W.pop
          have c1 : Ch H S (upd H L (.lst (xs0.map fun x => V.ref x.y))) S := Ch.refl.put W.sl
          generalize upd H L (.lst (xs0.map fun x => V.ref x.y)) = H1 at W1 c1
          refine ⟨_, rfl, 1, rfl, _, rfl, L, _, rfl, SqL.of W1.li, fun t ht => ?_⟩
          rw [stepA_back hr1] at k
          have sN := Same.new (o := HO.lst (cutV (xs0.map fun x => V.ref x.y) (some (-1)) none)) ht
          have W2 := W1.keep (KeepS.of_same sN)
          have c2 := c1.sm sN
          have et := upd_same (H := H1) (a := t) (o := HO.lst (cutV (xs0.map fun x => V.ref x.y) (some (-1)) none))
          generalize upd H1 t _ = H2 at W2 c2 et
          clear sN
          rcases List.eq_nil_or_concat xs0 with e1 | ⟨xs1, y, e1⟩
          · subst e1
            have est : st = [] := by rw [← e0]; rfl
            subst est
            rw [List.map_nil, cut_lastE] at et
            refine ⟨t, rfl, ⟨_, SqL.of et⟩, for_list (K := K) (a := t) (xs := []) (fun i σ H' => H' = H2) rfl (fun i σ H' _ z => by rw [z]; exact SqL.of et) (fun i x σ H' hi _ => by cases hi) (fun σ H' z => ?_)⟩
            rw [z]
            exact k H2 S c2 ⟨[], W2, rfl⟩
          · have e1 : xs0 = xs1 ++ [y] := by simpa using e1
            subst e1
            have est : st = xs1.map (·.fr) ++ [y.fr] := by rw [← e0, List.map_append]; rfl
            subst est
            have elist1 : (xs1 ++ [y]).map (fun x => V.ref x.y) = xs1.map (fun x => V.ref x.y) ++ [V.ref y.y] := by rw [List.map_append]; rfl
            rw [elist1, cut_last] at et
            have hnt : ¬ S t := fun hs => by
              obtain ⟨o, e3, _⟩ := W1.sub t hs
              rw [ht] at e3
              cases e3
            refine ⟨t, rfl, ⟨_, SqL.of et⟩, for_list (K := K) (a := t) (xs := [V.ref y.y]) (fun i σ H' => (∃ b, σ = [some (.ref L), some (.ref pl), some (.ref x.f), some (.int x.fr.at_), some (.ref x.d), some (.ref rp), some (.int (worth x.fr.env a)), b, none, none, none]) ∧ H' t = some (.lst [V.ref y.y]) ∧ (i = 0 → H' = H2) ∧ (¬ i = 0 → Ch H S H' S ∧ LawAt H' L S (popA (xs1.map (·.fr) ++ [y.fr]) (worth x.fr.env a))))
              ⟨⟨none, rfl⟩, et, fun _ => rfl, fun h => absurd rfl h⟩ (fun i σ H' _ z => SqL.of z.2.1) ?_ ?_⟩
            · rintro i v σ H' hi ⟨⟨b, rfl⟩, zt, z0, _⟩
              have ei : i = 0 := by
                have := (List.getElem?_eq_some_iff.mp hi).1
                simpa using this
              subst ei
              have eH := z0 rfl
              subst eH
              have ev : v = .ref y.y := (Option.some.inj hi).symm
              subst ev
              have hy : (xs1 ++ [y])[xs1.length]? = some y := List.getElem?_concat_length
              have q := W2.ok xs1.length y hy
              obtain ⟨r, hr1, hr2⟩ := hst.ca xs1.length y.fr (by simp) (by rw [List.getElem?_append_left (by simp)]; rw [List.getElem?_append_right (by simp)]; simp)
              have hfy := hst.init.last
              cases r with
              | call cx cg cas =>
                have hm : Row.call cx cg cas ∈ y.fr.fn.rows := by
                  unfold Fr.row at hr1
                  exact List.mem_of_getElem? hr1
                have hin : (y.fr.env cx).isSome = true := hfy.give hm rfl
                obtain ⟨kvs, d1, d2⟩ := id q.dc
                obtain ⟨qa, ra, a1, a2, rvs, r1, r2, r3⟩ := id q.fn
                obtain ⟨rp', r4, z, r5, r6⟩ := r3 y.fr.at_ _ hr1
                refine ⟨_, rfl, _, rfl, y.y, _, _, _, rfl, rfl, SqL.of q.oy, atI_nat (j := 2) rfl, ?_⟩
                refine ⟨_, rfl, y.y, _, _, _, rfl, rfl, SqL.of q.oy, atI_nat (j := 0) rfl, y.f, _, _, _, rfl, rfl, SqT.of a1, atI_nat (j := 3) rfl, _, rfl, y.y, _, _, _, rfl, rfl, SqL.of q.oy, atI_nat (j := 1) rfl, ra, rvs, _, _, rfl, rfl, SqT.of r1, atI_nat r4, rp', _, _, _, rfl, rfl, SqT.of r5, atI_nat (j := 1) rfl, ?_⟩
                refine ⟨y.d, _, rfl, DPut.k (k := Sum.inr cx) d1 (lt_line (by have := d2.len; omega)), ?_⟩
                have W3 := W2.putEnv hy (d2.put (worth x.fr.env a) (.inl hin))
                have c3 : Ch H S (upd H' y.d (.dK (putK kvs (Sum.inr cx) (.int (worth x.fr.env a))))) S := c2.put q.sd
                have zt3 : (upd H' y.d (.dK (putK kvs (Sum.inr cx) (.int (worth x.fr.env a))))) t = some (.lst [V.ref y.y]) := by
                  rw [upd_ne (fun z => hnt (by rw [z]; exact q.sd))]
                  exact zt
                generalize upd H' y.d (.dK (putK kvs (Sum.inr cx) (.int (worth x.fr.env a)))) = H3 at W3 c3 zt3
                have hy3 : ((xs1 ++ [y]).set xs1.length (y.setFr ⟨y.fr.fn, y.fr.at_, setE y.fr.env cx (worth x.fr.env a)⟩))[xs1.length]? = some (y.setFr ⟨y.fr.fn, y.fr.at_, setE y.fr.env cx (worth x.fr.env a)⟩) := by
                  rw [lset_last]
                  exact List.getElem?_concat_length
                have q3 := W3.ok _ _ hy3
                have W4 := W3.putAt hy3 (y.fr.at_ + 1)
                refine ⟨_, rfl, y.y, _, _, _, rfl, rfl, SqL.of q3.oy, atI_nat (j := 1) rfl, _, _, rfl, rfl, _, rfl, y.y, _, _, 1, rfl, rfl, q3.oy, rfl, ?_⟩
                refine ⟨⟨_, rfl⟩, ?_, fun h => (by cases h), fun _ => ⟨c3.put q.sy, _, W4, ?_⟩⟩
                · rw [upd_ne (fun z => hnt (by rw [z]; exact q.sy))]
                  exact zt3
                · rw [popA_snoc, got_of hr1 rfl, lset_last, lset_last, List.map_append]
                  rfl
              | _ => cases hr2
            · rintro σ H' ⟨⟨b, rfl⟩, zt, _, z1⟩
              obtain ⟨c9, w9⟩ := z1 (by simp)
              exact k H' S c9 w9
        | _ => cases hb
      | false =>
        refine rIxEqF rfl (SqT.of htx) rfl ((kind_back r).2 hb) (iteF ?_)
        obtain ⟨gx, gv, he, hgv⟩ := eff_of x.fr.env hb hc
        have hin : (x.fr.env gx).isSome = true := hf.give hm hgv
        obtain ⟨kvs, d1, d2⟩ := id q.dc
        refine ⟨fun σ' H2 => (∃ b c, σ' = [some (.ref L), some (.ref pl), some (.ref x.f), some (.int x.fr.at_), some (.ref x.d), some (.ref rp), none, none, b, c, none]) ∧ Ch H S H2 S ∧ LIn H2 L S ((xs0 ++ [x]).set xs0.length (x.setFr ⟨x.fr.fn, x.fr.at_, setE x.fr.env gx gv⟩)), ?_, ?_⟩
        · have fin : ∀ {H1 : Hp}, Same H H1 → Ch H S (upd H1 x.d (.dK (putK kvs (Sum.inr gx) (.int gv)))) S ∧ LIn (upd H1 x.d (.dK (putK kvs (Sum.inr gx) (.int gv)))) L S ((xs0 ++ [x]).set xs0.length (x.setFr ⟨x.fr.fn, x.fr.at_, setE x.fr.env gx gv⟩)) := fun {H1} s1 =>
            ⟨(Ch.same s1).put q.sd, (W.keep (KeepS.of_same s1)).putEnv hx (d2.put gv (.inl hin))⟩
          cases r with
          | copy rx ra' =>
            have e1 := Option.some.inj he
            cases e1
            refine rIxEqT rfl (SqT.of hrow) rfl rfl (iteT ?_)
            refine rix rfl (SqT.of hrow) rfl ⟨_, rfl, x.d, ra', x.fr.env, rfl, q.dc, hf.atom hm (by simp [Row.atoms]), _, rfl, _, rfl, rp, _, _, _, rfl, rfl, SqT.of hrow, atI_nat (j := 1) rfl, x.d, _, rfl, DPut.k (k := Sum.inr gx) d1 (lt_line (by have := d2.len; omega)), ?_⟩
            exact ⟨⟨_, _, rfl⟩, fin (fun _ _ e => e)⟩
          | op rx rs ra' rb =>
            have e1 := Option.some.inj he
            cases e1
            have hs := hG.sg x.fr.fn hfm _ _ _ _ hm
            refine rIxEqF rfl (SqT.of hrow) rfl (by decide +kernel) (iteF ?_)
            refine rix rfl (SqT.of hrow) rfl ⟨_, rfl, x.d, ra', x.fr.env, rfl, q.dc, hf.atom hm (by simp [Row.atoms]), ?_⟩
            refine rix rfl (SqT.of hrow) rfl ⟨_, rfl, x.d, rb, x.fr.env, rfl, q.dc, hf.atom hm (by simp [Row.atoms]), ?_⟩
            intro pd hpd
            have sA := Same.new (o := HO.dK []) hpd
            refine ⟨_, rfl, _, rfl, _, _, rfl, rfl, _, _, rfl, rfl, (by unfold CPow; decide), _, _, rfl, rfl, (by show (0:Int) < 2 ^ (48 : Int).toNat; rw [pow48]; decide), _, rfl, _, rfl, _, _, rfl, rfl, .inr ⟨_, rfl, _, rfl, _, rfl, _, _, rfl, rfl, upd_same, [((Sum.inr ("-" : Str) : Key), V.int ((worth x.fr.env ra' - worth x.fr.env rb) % 2 ^ (48 : Int).toNat)), (Sum.inr ("<" : Str), .int (if decide (worth x.fr.env ra' < worth x.fr.env rb) = true then 1 else 0)), (Sum.inr ("&" : Str), .int (Builtin.bitAnd (worth x.fr.env ra') (worth x.fr.env rb)))], rfl, by show 3 ≤ 15; decide, ?_⟩⟩
            generalize hmk : mergeK [] [((Sum.inr ("-" : Str) : Key), V.int ((worth x.fr.env ra' - worth x.fr.env rb) % 2 ^ (48 : Int).toNat)), (Sum.inr ("<" : Str), .int (if decide (worth x.fr.env ra' < worth x.fr.env rb) = true then 1 else 0)), (Sum.inr ("&" : Str), .int (Builtin.bitAnd (worth x.fr.env ra') (worth x.fr.env rb)))] = mk
            have sB : Same H (upd (upd H pd (.dK [])) pd (.dK mk)) := Same.setN sA hpd
            have hget : DGet (upd (upd H pd (.dK [])) pd (.dK mk)) pd (.str rs) (some (.int (valA rs (worth x.fr.env ra') (worth x.fr.env rb)))) := by
              rw [← disp_val hs, hmk]
              exact DGet.k (k := (Sum.inr rs : Key)) upd_same
            refine ⟨_, rfl, rp, _, _, _, rfl, rfl, SqT.of (sB _ _ hrow), atI_nat (j := 2) rfl, pd, _, rfl, hget, _, rfl, _, rfl, rp, _, _, _, rfl, rfl, SqT.of (sB _ _ hrow), atI_nat (j := 1) rfl, x.d, _, rfl, DPut.k (k := Sum.inr gx) (sB _ _ d1) (lt_line (by have := d2.len; omega)), ?_⟩
            exact ⟨⟨_, _, rfl⟩, fin sB⟩
          | call rx g as => cases hc
          | back ra' => cases hb
        · rintro σ' H2 ⟨⟨b, c, rfl⟩, c2, W2⟩
          have hx2 : ((xs0 ++ [x]).set xs0.length (x.setFr ⟨x.fr.fn, x.fr.at_, setE x.fr.env gx gv⟩))[xs0.length]? = some (x.setFr ⟨x.fr.fn, x.fr.at_, setE x.fr.env gx gv⟩) := by
            rw [lset_last]
            exact List.getElem?_concat_length
          have q2 := W2.ok _ _ hx2
          have W3 := W2.putAt hx2 (x.fr.at_ + 1)
          have li2 := W2.li
          rw [lmap_set hx, elist] at li2
          refine ⟨_, rfl, _, _, rfl, rfl, _, rfl, 1, rfl, L, _, _, _, rfl, rfl, SqL.of li2, atI_last _ _, x.y, _, _, 1, rfl, rfl, q2.oy, rfl, ?_⟩
          refine k _ S (c2.put q.sy) ?_
          rw [step_eff hr1 he]
          refine ⟨_, W3, ?_⟩
          rw [lset_last, lset_last, List.map_append, e0]
          rfl
end
end SG


/-! refused: fill raises NoName, it is caught. -/
namespace SG
open PySem PySem.Spec PyProof.Rows L2
def rIsE' (K : PySem.W.Frag) (D a : Addr) (cls : Value) (d : Option Addr) : List V → Hp → VK → Prop := fun xs H Q => (cls = .ref D ∧ d = none) ∧ rIsE K D a xs H Q
theorem call_isE' {X : Cx} {a D : Addr} {oe : Obj} {pn : List (Addr × Obj)} {cls : Value} {d : Option Addr} (C : ExcC X.K D) (hz : Zc cls d oe) (hf : ∃ vs, oe.data = .fields vs) : CallR (X.suite a ((a, oe) :: pn)) (.builtin "isinstance") (rIsE' X.K D a cls d) := by
  intro pins s σ H xs us Q I r h
  obtain ⟨⟨rfl, rfl⟩, h⟩ := h
  exact call_isE C hz hf pins s σ H xs us Q I r h
abbrev rInt1 : List V → Hp → VK → Prop := fun xs H Q => (∃ i, xs = [.int i] ∧ Q (.int i) H) ∨ ∃ k, xs = [.bl k] ∧ Q (.int (if k then 1 else 0)) H
abbrev rStrI : List V → Hp → VK → Prop := fun xs H Q => ∃ i, xs = [.int i] ∧ i.natAbs.log2 < 1920 ∧ Q (.str (toString i)) H
abbrev rAddS : R2 := fun x y H Q => ∃ i j, x = .str i ∧ y = .str j ∧ i.length + j.length ≤ sizeLine ∧ Q (.str (i ++ j)) H
abbrev teIs (K : PySem.W.Frag) (CN a : Addr) (cls : Value) (d : Option Addr) (c : V) : TE := tCB rStrI (tCons (tCB rInt1 (tCons (tCB (rIsE' K CN a cls d) (tCons (tVar 5) (tCons (tC c) tNil))) tNil)) tNil)
/-- what of the errors' text is asked -/
structure TxtR (K : PySem.W.Frag) (mg : Str → Option Value) (CN CG CE : Addr) : Prop where
  gN : mg "NoName" = some (.ref CN)
  gG : mg "GlassError" = some (.ref CG)
  gE : mg "Ended" = some (.ref CE)
  te : PySem.W.exmOne K (.ref CN) (.ref CG) = some true
  xc : ExcC K CN
  k1 : PySem.W.kitOne K (.ref CN) (.ref CN) = some true
  k2 : PySem.W.kitOne K (.ref CN) (.ref CE) = some false
  k3 : PySem.W.kitOne K (.ref CN) (.type "ValueError") = some true
section
variable {P : Program} {w : World} {K : PySem.W.Frag} {mg : Str → Option Value} {base : Heap}
/-! ### _law_refused -/
abbrev sRefused : Stmt := top 33
theorem scRefused : FnScope ["_law_walker", "_law_level", "_law_name", "_law_number", "_law_word", "e"] ["_law_walker", "_law_level", "_law_name", "_law_number"] (defScope sRefused) := ⟨rfl, rfl, rfl, by decide +kernel, rfl, by decide +kernel, by decide +kernel⟩
def spRefused (C CF : Addr) : Sp := fun vs H Q _ => ∃ (Pr : List Fn), ∃ (p : Addr) (S : Addr → Prop) (st : List Fr) (res : V) (z : Int) (x : Str) (v : Int), vs = [.ref p, .int z, .str x, .int v] ∧ WalkerAt C CF Pr H p S st res ∧ BadAt st z x ∧ Q (.bl true) H
theorem c_refused {C CF CN CG CE : Addr} (D : DefG K mg "_law_refused" sRefused) (R : TxtR K mg CN CG CE) (xF : MetX P w K mg base 2 C "fill" (spFillX C CF CN)) (zI : mg "isinstance" = none) (zS : mg "str" = none) (zN : mg "int" = none) (zV : mg "ValueError" = none) :
    C8.Cal P w K mg base 3 "_law_refused" (spRefused C CF) [] := by
  obtain ⟨f1, fd1, ps1, cl, M1, F1, b1⟩ := xF.ex
  refine cal_of D scRefused (fun _ _ _ _ _ _ us hl => match us, hl with | [_, _, _, _], _ => rfl) (fun vs H Q E h => ?_) (fun f0 cdv A outer s H vs Q E hr h => ?_)
  · obtain ⟨Pr, p, S, st, res, z, x, v, rfl, _⟩ := h
    rfl
  · obtain ⟨Pr, p, S, st, res, z, x, v, rfl, hW, hbad, q⟩ := h
    refine ⟨_, pss_cons (ps_set (i := 4) scRefused.nd rfl (.inl rfl) pe_str) <|
      pss_cons (ps_try_as (i := 5) (tb := fun W => tDrop (tMethS C "fill" (spFillX C CF CN) (WE W) (tVar 0) (tCons (tVar 1) (tCons (tVar 2) (tCons (tVar 3) tNil)))))
          (ts := fun a cls d => tAsg (tOp rAddS (tOp rAddS (teIs K CN a cls d (.ref CN)) (teIs K CN a cls d (.ref CE))) (teIs K CN a cls d (.ty "ValueError"))) (gName 4)) (Wout := fun _ _ _ _ => False) rfl rfl scRefused.nd rfl rfl ⟨rfl, by decide, Or.inl R.gG⟩ takes0
          (fun W pn xe tk _ => pss_one (ps_expr (pe_methE (pv 0) cl M1 F1 hr b1 (fun σ => passAt tk σ) (pa_cons (pv 1) (pa_cons (pv 2) (pa_cons (pv 3) pa_nil))))))
          (fun a oe cls d pn hz hf => pss_one (ps_set (i := 4) scRefused.nd rfl (Or.inl rfl) (pe_op op_add_str (pe_op op_add_str
            (pe_callTy call_str_int (by rfl) zS (by decide +kernel) (pa_cons (pe_callTy call_int1 (by rfl) zN (by decide +kernel) (pa_cons (pe_callB (call_isE' R.xc hz hf) (by rfl) zI (by decide +kernel) (pa_cons (pv 5) (pa_cons (pe_glob (v := .ref CN) rfl R.gN rfl) pa_nil))) pa_nil)) pa_nil))
            (pe_callTy call_str_int (by rfl) zS (by decide +kernel) (pa_cons (pe_callTy call_int1 (by rfl) zN (by decide +kernel) (pa_cons (pe_callB (call_isE' R.xc hz hf) (by rfl) zI (by decide +kernel) (pa_cons (pv 5) (pa_cons (pe_glob (v := .ref CE) rfl R.gE rfl) pa_nil))) pa_nil)) pa_nil)))
            (pe_callTy call_str_int (by rfl) zS (by decide +kernel) (pa_cons (pe_callTy call_int1 (by rfl) zN (by decide +kernel) (pa_cons (pe_callB (call_isE' R.xc hz hf) (by rfl) zI (by decide +kernel) (pa_cons (pv 5) (pa_cons (pe_bltn (v := .ty "ValueError") (by rfl) zV (by decide +kernel) rfl) pa_nil))) pa_nil)) pa_nil)))))) <|
      pss_one (ps_ret (pe_cmpR op_eq (pv 4) pe_str (nomark _))), ?_⟩
    obtain ⟨dx, ls, ds, fd, l, xs, W, e⟩ := id hW
    refine ⟨_, rfl, p, dx, _, rfl, W.ob, w_no _ _ _ _ _ (by decide +kernel) (by decide +kernel) (by decide +kernel) (by decide +kernel) (by decide +kernel) (by decide +kernel), _, rfl, _, rfl, _, rfl, ?_⟩
    refine ⟨Pr, p, S, st, res, z, x, v, rfl, hW, hbad, true, R.te, fun _ a ha => ?_, fun q => Bool.noConfusion q⟩
    refine ⟨_, rfl, ⟨rfl, rfl⟩, _, _, true, rfl, (fun u r => r), R.k1, .inr ⟨_, rfl, _, rfl, (by decide), ?_⟩⟩
    refine ⟨_, rfl, ⟨rfl, rfl⟩, _, _, false, rfl, (fun u r => r), R.k2, .inr ⟨_, rfl, _, rfl, (by decide), ?_⟩⟩
    refine ⟨_, _, rfl, rfl, le_line (by decide +kernel), ?_⟩
    refine ⟨_, rfl, ⟨rfl, rfl⟩, _, _, true, rfl, (fun u r => r), R.k3, .inr ⟨_, rfl, _, rfl, (by decide), ?_⟩⟩
    refine ⟨_, _, rfl, rfl, le_line (by decide +kernel), ?_⟩
    refine ⟨_, rfl, rfl, ?_⟩
    have e1 : decide (V.str (Str.ofString (toString (if true = true then (1 : Int) else 0)) ++ Str.ofString (toString (if false = true then (1 : Int) else 0)) ++ Str.ofString (toString (if true = true then (1 : Int) else 0))) = V.str "101") = true := by
      rw [decide_eq_true_iff]
      exact congrArg V.str (by decide +kernel)
    rw [show ∀ (b : Bool) (h : b = true), V.bl b = V.bl true from fun b h => by rw [h]]
    · exact q
    · exact e1
end
end SG


/-! stands: the walker tells what the law's stack holds. -/
namespace SG
open PySem PySem.Spec PyProof.Rows L2
def frD (fr : Fr) : PyData := .tuple [.str fr.fn.name, .int fr.at_]
theorem okS_strOk {x : Str} (h : okS x) : PyData.strOk x = true := by
  unfold PyData.strOk
  rw [Array.all_eq_true]
  intro i hi
  exact decide_eq_true (h _ (by rw [Array.mem_toList_iff]; exact Array.getElem_mem hi))
theorem frD_lay {fr : Fr} (h : okS fr.fn.name) : (frD fr).canLay0 = true := by simp [frD, PyData.canLay0, PyData.canLayAll0, okS_strOk h]
theorem frD_depth (fr : Fr) : (frD fr).depth ≤ 2 := by simp [frD, PyData.depth, PyData.depthAll]
theorem frDs_lay : ∀ (st : List Fr), (∀ fr ∈ st, okS fr.fn.name) → PyData.canLayAll0 (st.map frD) = true
  | [], _ => by simp [PyData.canLayAll0]
  | z :: zs, h => by simp [PyData.canLayAll0, frD_lay (h z (by simp)), frDs_lay zs fun fr hf => h fr (List.mem_cons_of_mem _ hf)]
theorem frDs_depth : ∀ st : List Fr, PyData.depthAll (st.map frD) ≤ 2
  | [] => by simp [PyData.depthAll]
  | z :: zs => by
    have h1 := frDs_depth zs
    have h2 := frD_depth z
    simp only [List.map_cons, PyData.depthAll]
    omega
theorem frDs_shaped {st : List Fr} (h : ∀ fr ∈ st, okS fr.fn.name) : SeqAt.shaped (.list (st.map frD)) = true := by
  have h1 := frDs_depth st
  have h2 : PyData.depth (.list (st.map frD)) ≤ 64 := by
    simp only [PyData.depth]
    omega
  show (PyData.canLay0 (.list (st.map frD)) && decide (PyData.depth (.list (st.map frD)) ≤ 64)) = true
  rw [Bool.and_eq_true]
  exact ⟨by simp only [PyData.canLay0]; exact frDs_lay st h, decide_eq_true h2⟩
theorem dp_frames {K : PySem.W.Frag} {H : Hp} : ∀ (ts : List Addr) (st : List Fr), ts.length = st.length → (∀ (i : Nat) (t : Addr) (fr : Fr), ts[i]? = some t → st[i]? = some fr → H t = some (.tup [.str fr.fn.name, .int fr.at_])) → DpAll K H (ts.map V.ref) (st.map frD)
  | [], [], _, _ => .nil
  | [], _ :: _, h, _ => by simp at h
  | _ :: _, [], h, _ => by simp at h
  | t :: ts, fr :: st, hl, h => .cons (.tup (SqT.of (h 0 t fr rfl rfl)) (.cons (.str _) (.cons (.int _) .nil))) (dp_frames ts st (by simpa using hl) fun i t' fr' h1 h2 => h (i + 1) t' fr' h1 h2)
/-- a key of the dict has a value -/
theorem DRep.at_key {kvs : List (Key × V)} {e : EnvF} (d : DRep kvs e) {i : Nat} {k : Key} {v : V} (h : kvs[i]? = some (k, v)) : ∃ (x : Str) (z : Int), k = Sum.inr x ∧ e x = some z := by
  have hm := List.mem_of_getElem? h
  obtain ⟨x, hx⟩ := d.key _ hm
  have hx' : k = Sum.inr x := hx
  have any : (kvs.any fun kv => decide (kv.1 = (Sum.inr x : Key))) = true := List.any_eq_true.mpr ⟨_, hm, decide_eq_true hx'⟩
  rw [valV_any, d.val x] at any
  cases q : e x with
  | none => rw [q] at any; cases any
  | some z => exact ⟨x, z, hx', q⟩
section
variable {P : Program} {w : World} {K : PySem.W.Frag} {mg : Str → Option Value} {base : Heap}
/-! ### _law_stands -/
abbrev sStands : Stmt := top 34
abbrev nStands : List Str := ["_law_walker", "_law_stack", "_law_level", "_law_name", "_law_told", "_law_frame_here"]
theorem scStands : FnScope nStands ["_law_walker", "_law_stack"] (defScope sStands) := ⟨rfl, rfl, rfl, by decide +kernel, rfl, by decide +kernel, by decide +kernel⟩
def spStands (C CF : Addr) : Sp := fun vs H Q _ => ∃ (Pr : List Fn), ∃ (p L : Addr) (S T : Addr → Prop) (st : List Fr) (res : V), vs = [.ref p, .ref L] ∧ WalkerAt C CF Pr H p S st res ∧ LawAt H L T st ∧ (∀ b, S b → ¬ T b) ∧ st.length ≤ 1000 ∧ (∀ fr ∈ st, okS fr.fn.name) ∧ ∀ H', Same H H' → Q (.bl true) H'
theorem c_stands {C CF : Addr} (D : DefG K mg "_law_stands" sStands) (mFr : C8.Met P w K mg base 1 C "frames" (spFrames C CF) []) (mT : C8.Met P w K mg base 2 C "told" (spTold C CF) []) (zR : mg "range" = none) (zL : mg "len" = none) (zI : mg "isinstance" = none) (zN : mg "int" = none) (zB : mg "bool" = none) :
    C8.Cal P w K mg base 3 "_law_stands" (spStands C CF) [] := by
  refine cal_of D scStands (fun _ _ _ _ _ _ us hl => match us, hl with | [_, _], _ => rfl) (fun vs H Q E h => ?_) (fun f0 cdv A outer s H vs Q E hr h => ?_)
  · obtain ⟨Pr, p, L, S, T, st, res, rfl, _⟩ := h
    rfl
  · obtain ⟨Pr, p, L, S, T, st, res, rfl, hW, hL, hST, hlen, hok, k⟩ := h
    have hu := hu_of hr
    refine ⟨_, pss_cons (ps_if (pt_cmpR (op_neD hr.units) (C8.pe_mt0 mFr hr (by decide) (pv 0))
          (pe_lc (own := [("_law_frame_here", 5)]) (g := gName 5) (tt := tYes) (te := tTup (tCons (tOp (rIxT K) (tOp (rIxL K) (tVar 5) (tC (.int 0))) (tC (.int 0))) (tCons (tOp (rIxL K) (tVar 5) (tC (.int 1))) tNil))) (by rfl) scStands.nd (pi_list (pv 1)) (blkOk_by (own := [("_law_frame_here", 5)]) (N := nStands) (sc := defScope sStands) (by decide +kernel))
            (fun _ _ _ _ _ => pg_name (i := 5) scStands.nd rfl (Or.inl rfl)) (fun _ _ _ _ _ => pts_nil) (fun _ _ _ _ _ => pe_tup (pa_cons (pe_ix ix_tup (pe_ix ix_list (pv 5) pe_int (fun _ _ => rfl)) pe_int (fun _ _ => rfl)) (pa_cons (pe_ix ix_list (pv 5) pe_int (fun _ _ => rfl)) pa_nil)))) (nomark _)) pss_never pss_nil) <|
      pss_cons (ps_for PassesOwn.never rfl (pi_range1 (by rfl) zR (pa_cons (pe_callB call_len_seq (by rfl) zL PySem.boot_len (pa_cons (pv 1) pa_nil)) pa_nil)) (pg_name (i := 2) scStands.nd rfl (.inl rfl)) <|
        pss_one (ps_lock (ps_for PassesOwn.never rfl (pi_keys (pe_ix ix_list (pe_ix ix_list (pv 1) (pv 2) (fun _ _ => rfl)) pe_int (fun _ _ => rfl))) (pg_name (i := 3) scStands.nd rfl (.inl rfl)) <|
          pss_cons (ps_set (i := 4) scStands.nd rfl (.inl rfl) (C8.pe_mt mT hr (by decide) (pv 0) (pa_cons (pv 2) (pa_cons (pv 3) pa_nil)))) <|
          pss_one (ps_if (PW.pt (pw_or (pt_not (pt_val (pe_callB call_isi (by rfl) zI (by decide +kernel) (pa_cons (pv 4) (pa_cons (pe_bltn (v := .ty "int") (by rfl) zN (by decide +kernel) rfl) pa_nil)))))
            (pw_or (pt_val (pe_callB call_isi (by rfl) zI (by decide +kernel) (pa_cons (pv 4) (pa_cons (pe_bltn (v := .ty "bool") (by rfl) zB (by decide +kernel) rfl) pa_nil))))
            (pw_or1 (pt_cmpR op_ne (pv 4) (pe_dget hu (pe_ix ix_list (pe_ix ix_list (pv 1) (pv 2) (fun _ _ => rfl)) pe_int (fun _ _ => rfl)) (pv 3) (fun _ _ => rfl)) (nomark _)))))) pss_never pss_nil)))) <|
      pss_one (ps_ret pe_bl), ?_⟩
    obtain ⟨xs, W, e⟩ := id hL
    obtain ⟨dx, ls, ds, fd, l, ps, Ww, ew⟩ := id hW
    have exl : xs.length = st.length := by rw [← e, List.length_map]
    refine ⟨_, rfl, p, dx, _, rfl, Ww.ob, w_no _ _ _ _ _ (by decide +kernel) (by decide +kernel) (by decide +kernel) (by decide +kernel) (by decide +kernel) (by decide +kernel), ?_⟩
    refine ⟨Pr, p, S, st, res, rfl, hW, hlen, fun D1 ts H1 s1 nD1 hD1 htl hts => ?_⟩
    refine ⟨_, rfl, L, rfl, ⟨_, SqL.of (s1 _ _ W.li)⟩, fun D2 hD2 => lc_list (K := K) (a := L) (xs := xs.map fun x => V.ref x.y) (fun i H' => ∃ ts : List Addr, Same H1 H' ∧ H' D2 = some (.lst (ts.map V.ref)) ∧ ts.length = i ∧ ∀ (j : Nat) (t : Addr) (fr : Fr), ts[j]? = some t → st[j]? = some fr → H' t = some (.tup [.str fr.fn.name, .int fr.at_]))
      ⟨[], Same.new hD2, upd_same, rfl, fun j t x h => by cases h⟩ (fun i H' _ ⟨_, z, _⟩ => SqL.of (z _ _ (s1 _ _ W.li))) ?_ ?_⟩
    · rintro i y H' hi ⟨us, s2, zD, hul, hus⟩
      obtain ⟨x, hx, rfl⟩ : ∃ x, xs[i]? = some x ∧ V.ref x.y = y := by
        rw [List.getElem?_map] at hi
        cases e : xs[i]? with
        | none => rw [e] at hi; cases hi
        | some x => rw [e] at hi; exact ⟨x, rfl, Option.some.inj hi⟩
      have hil : i < xs.length := (List.getElem?_eq_some_iff.mp hx).1
      have hfr : st[i]? = some x.fr := by rw [← e, List.getElem?_map, hx]; rfl
      have q := W.ok i x hx
      obtain ⟨qa, ra, a1, a2, _⟩ := id q.fn
      have qo := s2 _ _ (s1 _ _ q.oy)
      refine ⟨rfl, lcY ?_⟩
      refine ⟨_, rfl, x.y, _, _, _, rfl, rfl, SqL.of qo, atI_nat (j := 0) rfl, x.f, _, _, _, rfl, rfl, SqT.of (s2 _ _ (s1 _ _ a1)), atI_nat (j := 0) rfl, _, rfl, x.y, _, _, _, rfl, rfl, SqL.of qo, atI_nat (j := 1) rfl, le_line (by show 2 ≤ 100000; decide), fun t ht => ?_⟩
      refine ⟨_, (Same.new ht) _ _ zD, lt_line (by rw [List.length_map]; omega), us ++ [t], Same.setN (s2.trans (Same.new ht)) hD2, ?_, by rw [List.length_append, hul]; rfl, fun j t' fr' h1 h2 => ?_⟩
      · rw [upd_same, List.map_append]
        rfl
      · by_cases hj : j < us.length
        · rw [List.getElem?_append_left hj] at h1
          have z := hus j t' fr' h1 h2
          have z' := (Same.new (o := HO.tup [.str x.fr.fn.name, .int x.fr.at_]) ht) _ _ z
          rw [upd_ne (ne_of z zD (by intro z; cases z))]
          exact z'
        · have hjl := (List.getElem?_eq_some_iff.mp h1).1
          rw [List.length_append, List.length_singleton] at hjl
          have ej : j = us.length := by omega
          rw [ej, List.getElem?_concat_length] at h1
          cases h1
          rw [ej, hul, hfr] at h2
          cases h2
          rw [upd_ne (ne_of_none zD ht).symm, upd_same]
    · rintro H2 ⟨us, s2, zD, hul, hus⟩
      rw [List.length_map, exl] at hul
      have sh := frDs_shaped hok
      have s12 := s1.trans s2
      have lay : (PyData.list (st.map frD)).canLay0 = true := SeqAt.canLay_of_shaped sh
      refine ⟨.list (st.map frD), .list (st.map frD), .lst (SqL.of (s2 _ _ hD1)) (dp_frames ts st htl fun i t fr h1 h2 => s2 _ _ (hts i t fr h1 h2)), .lst (SqL.of zD) (dp_frames us st hul hus), sh, sh, false, congrArg V.bl (by rw [SeqAt.eqv_refl _ lay]; rfl), iteF ?_⟩
      have W2 := W.keep (KeepS.of_same s12)
      have hW2 := hW.keep (KeepS.of_same s12)
      refine ⟨_, rfl, L, _, rfl, .inl (SqL.of W2.li), _, rfl, by rw [List.length_map]; omega, by rw [List.length_map]; omega, for_range (fun i σ H' => (∃ a b c, σ = [some (.ref p), some (.ref L), a, b, c, none]) ∧ H' = H2) ⟨⟨_, _, _, rfl⟩, rfl⟩ ?_ ?_⟩
      · rintro i σ H' hi ⟨⟨a, b, c, rfl⟩, rfl⟩
        rw [Int.zero_add]
        rw [List.length_map] at hi
        obtain ⟨x, hx⟩ : ∃ x, xs[i]? = some x := ⟨xs[i]'(by omega), List.getElem?_eq_getElem (by omega)⟩
        have hfr : st[i]? = some x.fr := by rw [← e, List.getElem?_map, hx]; rfl
        have q := W2.ok i x hx
        obtain ⟨kvs, d1, d2⟩ := id q.dc
        have hyl : (xs.map fun x => V.ref x.y)[i]? = some (.ref x.y) := by rw [List.getElem?_map, hx]; rfl
        refine ⟨x.d, .dK kvs, d1, trivial, fun od => ?_⟩
        have nLd : L ≠ x.d := ne_of W2.li d1 (by intro z; cases z)
        have nyd : x.y ≠ x.d := ne_of q.oy d1 (by intro z; cases z)
        have liF : (upd H' x.d (.frz od (.dK kvs))) L = some (.lst (xs.map fun x => V.ref x.y)) := by rw [upd_ne nLd]; exact W2.li
        have oyF : (upd H' x.d (.frz od (.dK kvs))) x.y = some (.lst [.ref x.f, .int x.fr.at_, .ref x.d]) := by rw [upd_ne nyd]; exact q.oy
        have kS : KeepS S H' (upd H' x.d (.frz od (.dK kvs))) := ⟨fun b o eb sb => by rw [upd_ne (fun z => hST b sb (by rw [z]; exact q.sd))]; exact eb, TS_.upd fun xs z => by rw [d1] at z; cases z⟩
        have hWF := hW2.keep kS
        obtain ⟨dx', ls', ds', fd', l', ps', WwF, ewF⟩ := id hWF
        refine ⟨_, rfl, _, rfl, L, _, _, _, rfl, rfl, SqL.of liF, atI_nat hyl, x.y, _, _, _, rfl, rfl, SqL.of oyF, atI_nat (j := 2) rfl, x.d, od, rfl, .inl ⟨kvs, upd_same, for_it walk_keys (fun j σ H'' => (∃ b c, σ = [some (.ref p), some (.ref L), some (.int (i : Int)), b, c, none]) ∧ H'' = upd H' x.d (.frz od (.dK kvs))) ⟨⟨_, _, rfl⟩, rfl⟩ (fun j σ H'' _ z => by rw [z.2]; exact upd_same) ?_ ?_⟩⟩
        · rintro j v σ H3 H4 hj ⟨⟨b, c, rfl⟩, rfl⟩ ⟨rfl, kk, vv, hkv, rfl⟩
          obtain ⟨nm, z, rfl, hz⟩ := d2.at_key hkv
          refine ⟨_, rfl, p, dx', _, rfl, WwF.ob, w_no _ _ _ _ _ (by decide +kernel) (by decide +kernel) (by decide +kernel) (by decide +kernel) (by decide +kernel) (by decide +kernel), _, rfl, _, rfl, ?_⟩
          refine ⟨Pr, p, S, st, res, i, x.fr, nm, z, rfl, hWF, hfr, hz, ?_⟩
          have hget : DGet (upd H' x.d (.frz od (.dK kvs))) x.d (.str nm) (some (.int z)) := by
            refine .inl ⟨kvs, Sum.inr nm, .inr ⟨od, upd_same⟩, rfl, ?_⟩
            rw [d2.val nm, hz]
            rfl
          refine ⟨_, rfl, _, _, _, _, true, rfl, ClsV.ty _, TyX.base (TyOf.int _), kit_ty (by decide +kernel), true, rfl, iteF ?_⟩
          refine ⟨_, rfl, _, _, _, _, false, rfl, ClsV.ty _, TyX.base (TyOf.int _), kit_ty (by decide +kernel), false, rfl, iteF ?_⟩
          refine ⟨_, rfl, _, rfl, _, rfl, L, _, _, _, rfl, rfl, SqL.of liF, atI_nat hyl, x.y, _, _, _, rfl, rfl, SqL.of oyF, atI_nat (j := 2) rfl, _, rfl, x.d, _, rfl, hget, rfl, false, congrArg V.bl (by rw [decide_eq_true rfl]; rfl), iteF ?_⟩
          exact ⟨⟨_, _, rfl⟩, rfl⟩
        · rintro σ H3 ⟨⟨b, c, rfl⟩, rfl⟩
          refine ⟨upd_same, ⟨_, _, _, rfl⟩, ?_⟩
          rw [upd_upd, upd_self d1]
      · rintro σ H' ⟨⟨a, b, c, rfl⟩, rfl⟩
        exact k _ s12
end
end SG


/-! filled: a value set by hand, or refused. -/
namespace SG
open PySem PySem.Spec PyProof.Rows L2
theorem Ch.keepS {H H' : Hp} {S S' T : Addr → Prop} (c : Ch H S H' S') (sub : ∀ b, S b → ∃ o, H b = some o ∧ ownB o = true) (dis : ∀ b, T b → ¬ S b) : KeepS T H H' :=
  ⟨fun b o e t => c.kp b o e (dis b t), fun b xs e => c.kp b _ e fun s => by
    obtain ⟨o, e1, e2⟩ := sub b s
    rw [e] at e1
    cases e1
    cases e2⟩
theorem Ch.wide {H H' : Hp} {S T : Addr → Prop} (c : Ch H S H' S) : Ch H (fun b => S b ∨ T b) H' (fun b => S b ∨ T b) :=
  ⟨fun b o e n => c.kp b o e fun s => n (.inl s), fun b h => .inl h⟩
theorem LawAt.sub {H : Hp} {L : Addr} {T : Addr → Prop} {st : List Fr} (h : LawAt H L T st) : ∀ b, T b → ∃ o, H b = some o ∧ ownB o = true := by
  obtain ⟨xs, w, e⟩ := h
  exact w.sub
theorem three_at (a b c : Int) (z : Int) : ∃ y, atI [V.int a, V.int b, V.int c] (z % 3) = some (.int y) := by
  obtain ⟨y, _, hy⟩ := at_mod V.int [a, b, c] z (n := 3) (by decide) (by show 3 ≤ 3; decide)
  exact ⟨y, hy⟩
section
variable {P : Program} {w : World} {K : PySem.W.Frag} {mg : Str → Option Value} {base : Heap}
/-! ### _law_filled -/
abbrev sFilled : Stmt := top 35
abbrev nFilled : List Str := ["_law_walker", "_law_stack", "_law_xs", "_law_names_here", "_law_level", "_law_name", "_law_number"]
theorem scFilled : FnScope nFilled ["_law_walker", "_law_stack", "_law_xs", "_law_names_here"] (defScope sFilled) := ⟨rfl, rfl, rfl, by decide +kernel, rfl, by decide +kernel, by decide +kernel⟩
def spFilled (C CF : Addr) : Sp := fun vs H Q _ => ∃ (Pr : List Fn), ∃ (p L lx ln : Addr) (S T : Addr → Prop) (st : List Fr) (res : V) (zs : List Int) (ns : List Str), vs = [.ref p, .ref L, .ref lx, .ref ln] ∧ WalkerAt C CF Pr H p S st res ∧ LawAt H L T st ∧ (∀ b, S b → ¬ T b) ∧ st.length ≤ 1000 ∧ 0 < st.length ∧ (∀ fr ∈ st, okS fr.fn.name) ∧
  H lx = some (.lst (zs.map V.int)) ∧ zs.length = 4 ∧ H ln = some (.lst (ns.map V.str)) ∧ ns.length = 7 ∧
  ∀ (H' : Hp) (st' : List Fr), Ch H (fun b => S b ∨ T b) H' (fun b => S b ∨ T b) → (st' = st ∨ ∃ (i : Nat) (fr : Fr) (x : Str) (v : Int), st[i]? = some fr ∧ st' = st.set i (fr.put x v)) → WalkerAt C CF Pr H' p S st' res → LawAt H' L T st' → Q (.bl true) H'
theorem c_filled {C CF CN : Addr} (D : DefG K mg "_law_filled" sFilled) (cV : C8.Cal P w K mg base 1 "_law_value_by" spValueBy []) (cR : C8.Cal P w K mg base 3 "_law_refused" (spRefused C CF) []) (cS : C8.Cal P w K mg base 3 "_law_stands" (spStands C CF) []) (mF : C8.Met P w K mg base 2 C "fill" (spFill C CF) []) (zL : mg "len" = none) :
    C8.Cal P w K mg base 4 "_law_filled" (spFilled C CF) [] := by
  refine cal_of D scFilled (fun _ _ _ _ _ _ us hl => match us, hl with | [_, _, _, _], _ => rfl) (fun vs H Q E h => ?_) (fun f0 cdv A outer s H vs Q E hr h => ?_)
  · obtain ⟨Pr, p, L, lx, ln, S, T, st, res, zs, ns, rfl, _⟩ := h
    rfl
  · obtain ⟨Pr, p, L, lx, ln, S, T, st, res, zs, ns, rfl, hW, hL, hST, hlen, hpos, hok, hx, hz, hn, hnl, k⟩ := h
    have hu := hu_of hr
    refine ⟨_, pss_cons (ps_set (i := 4) scFilled.nd rfl (.inl rfl) (pe_op op_mod (pe_ix ix_list (pv 2) pe_int (fun _ _ => rfl)) (pe_callB call_len_seq (by rfl) zL PySem.boot_len (pa_cons (pv 1) pa_nil)))) <|
      pss_cons (ps_set (i := 5) scFilled.nd rfl (.inl rfl) (pe_ix ix_list (pv 3) (pe_op op_mod (pe_ix ix_list (pv 2) pe_int (fun _ _ => rfl)) pe_int) (fun _ _ => rfl))) <|
      pss_cons (ps_set (i := 6) scFilled.nd rfl (.inl rfl) (C8.pe_c cV hr (by decide) rfl (pa_cons (pe_ix ix_list (pv 2) pe_int (fun _ _ => rfl)) pa_nil))) <|
      C8.pss_cut (ps_if (pt_cmpR op_eq (pe_op op_mod (pe_ix ix_list (pv 2) pe_int (fun _ _ => rfl)) pe_int) pe_int (nomark _))
        (pss_one (ps_set (i := 4) scFilled.nd rfl (.inl rfl) (pe_ix ix_list (pe_lst (pa_cons (pe_un un_neg pe_int) (pa_cons (pe_callB call_len_seq (by rfl) zL PySem.boot_len (pa_cons (pv 1) pa_nil)) (pa_cons (pe_un un_neg (pe_callB call_len_seq (by rfl) zL PySem.boot_len (pa_cons (pv 1) pa_nil))) pa_nil)))) (pe_op op_mod (pe_ix ix_list (pv 2) pe_int (fun _ _ => rfl)) pe_int) (fun _ _ => rfl)))) pss_nil) <|
      pss_cons (ps_if (PW.pt (pw_or (pt_cmpR op_lt (pv 4) pe_int (nomark _)) (pw_or (pt_cmpR op_ge (pv 4) (pe_callB call_len_seq (by rfl) zL PySem.boot_len (pa_cons (pv 1) pa_nil)) (nomark _)) (pw_or1 (pt_cmp (pc_dnotin hu (pv 5) (pe_ix ix_list (pe_ix ix_list (pv 1) (pv 4) (fun _ _ => rfl)) pe_int (fun _ _ => rfl))))))))
        (pss_one (ps_ret (pe_and (C8.pe_c cR hr (by decide) rfl (pa_cons (pv 0) (pa_cons (pv 4) (pa_cons (pv 5) (pa_cons (pv 6) pa_nil))))) (pe_one (C8.pe_c cS hr (by decide) rfl (pa_cons (pv 0) (pa_cons (pv 1) pa_nil))))))) pss_nil) <|
      pss_cons (ps_if (pt_cmpR op_isnot_bl (C8.pe_mt mF hr (by decide) (pv 0) (pa_cons (pv 4) (pa_cons (pv 5) (pa_cons (pv 6) pa_nil)))) pe_bl (nomark _)) pss_never pss_nil) <|
      pss_cons (ps_dput hu (pe_ix ix_list (pe_ix ix_list (pv 1) (pv 4) (fun _ _ => rfl)) pe_int (fun _ _ => rfl)) (pv 5) (pv 6) rfl) <|
      pss_one (ps_ret (C8.pe_c cS hr (by decide) rfl (pa_cons (pv 0) (pa_cons (pv 1) pa_nil)))), ?_⟩
    obtain ⟨z0, z1, z2, z3, rfl⟩ : ∃ z0 z1 z2 z3, zs = [z0, z1, z2, z3] := match zs, hz with | [z0, z1, z2, z3], _ => ⟨z0, z1, z2, z3, rfl⟩
    obtain ⟨xs, W, e⟩ := id hL
    have exl : xs.length = st.length := by rw [← e, List.length_map]
    obtain ⟨x, _, hxn⟩ := at_mod V.str ns z1 (n := 5) (by decide) (by omega)
    have hx' : atI (ns.map V.str) (z1 % 5) = some (.str x) := hxn
    refine rixL rfl (SqL.of hx) rfl ⟨_, rfl, L, _, rfl, .inl (SqL.of W.li), _, _, rfl, rfl, (by rw [List.length_map]; omega), ?_⟩
    refine ⟨_, rfl, rixL rfl (SqL.of hx) rfl ⟨_, _, rfl, rfl, (by show (0:Int) < _; decide), ln, _, _, _, rfl, rfl, SqL.of hn, hx', ?_⟩⟩
    refine rixL rfl (SqL.of hx) rfl ⟨z2, rfl, fun v => ?_⟩
    refine ⟨fun σ' H2 => (∃ z : Int, σ' = [some (.ref p), some (.ref L), some (.ref lx), some (.ref ln), some (.int z), some (.str x), some (.int v)]) ∧ Same H H2, ?_, ?_⟩
    · refine rixL rfl (SqL.of hx) rfl ⟨_, _, rfl, rfl, (by show (0:Int) < _; decide), rfl, bD (fun h => iteT ?_) (fun h => iteF ?_)⟩
      · refine ⟨_, rfl, _, rfl, L, _, rfl, .inl (SqL.of W.li), _, rfl, L, _, rfl, .inl (SqL.of W.li), _, rfl, le_line (by show 3 ≤ 100000; decide), fun t ht => ?_⟩
        have s1 := Same.new (o := HO.lst [.int (-1), .int ((xs.map fun x => V.ref x.y).length : Nat), .int (-((xs.map fun x => V.ref x.y).length : Nat))]) ht
        obtain ⟨y, hy⟩ := three_at (-1) ((xs.map fun x => V.ref x.y).length : Nat) (-((xs.map fun x => V.ref x.y).length : Nat)) z0
        refine rixL rfl (SqL.of (s1 _ _ hx)) rfl ⟨_, _, rfl, rfl, (by show (0:Int) < _; decide), t, _, _, _, rfl, rfl, SqL.of upd_same, hy, ?_⟩
        exact ⟨⟨_, rfl⟩, s1⟩
      · exact ⟨⟨_, rfl⟩, fun _ _ e => e⟩
    · rintro σ' H2 ⟨⟨z, rfl⟩, s2⟩
      have W2 := W.keep (KeepS.of_same s2)
      have hW2 := hW.keep (KeepS.of_same s2)
      have hL2 := hL.keep (KeepS.of_same s2)
      have bad : BadAt st z x → tRet (tAndV (tCall (spRefused C CF) [] E0 (tCons (tVar 0) (tCons (tVar 4) (tCons (tVar 5) (tCons (tVar 6) tNil))))) (tCall (spStands C CF) [] E0 (tCons (tVar 0) (tCons (tVar 1) tNil)))) { nx := fun _ _ => False, rt := Q } [some (.ref p), some (.ref L), some (.ref lx), some (.ref ln), some (.int z), some (.str x), some (.int v)] H2 := fun hb => by
        refine ⟨_, rfl, _, rfl, _, rfl, _, rfl, Pr, p, S, st, res, z, x, v, rfl, hW2, hb, true, rfl, iteT ?_⟩
        refine ⟨_, rfl, _, rfl, Pr, p, L, S, T, st, res, rfl, hW2, hL2, hST, hlen, hok, fun H3 s3 => ?_⟩
        exact k H3 st (Ch.same (s2.trans s3)) (.inl rfl) (hW2.keep (KeepS.of_same s3)) (hL2.keep (KeepS.of_same s3))
      by_cases h0 : z < 0
      · exact ⟨_, rfl, _, _, rfl, rfl, true, congrArg V.bl (decide_eq_true h0), iteT (iteT (bad (.inl h0)))⟩
      · refine ⟨_, rfl, _, _, rfl, rfl, false, congrArg V.bl (decide_eq_false h0), iteF ?_⟩
        by_cases h1 : (st.length : Int) ≤ z
        · exact ⟨_, rfl, _, rfl, L, _, rfl, .inl (SqL.of W2.li), _, _, rfl, rfl, true, congrArg V.bl (decide_eq_true (by rw [List.length_map, exl]; exact h1)), iteT (iteT (bad (.inr (.inl h1))))⟩
        · refine ⟨_, rfl, _, rfl, L, _, rfl, .inl (SqL.of W2.li), _, _, rfl, rfl, false, congrArg V.bl (decide_eq_false (by rw [List.length_map, exl]; exact h1)), iteF ?_⟩
          obtain ⟨i, rfl⟩ := Int.eq_ofNat_of_zero_le (show 0 ≤ z by omega)
          have hi : i < st.length := by omega
          obtain ⟨y, hy⟩ : ∃ y, xs[i]? = some y := ⟨xs[i]'(by omega), List.getElem?_eq_getElem (by omega)⟩
          have hfr : st[i]? = some y.fr := by rw [← e, List.getElem?_map, hy]; rfl
          have q := W2.ok i y hy
          have hyl : (xs.map fun x => V.ref x.y)[i]? = some (.ref y.y) := by rw [List.getElem?_map, hy]; rfl
          obtain ⟨kvs, d1, d2⟩ := id q.dc
          cases hev : y.fr.env x with
          | none =>
            refine ⟨_, rfl, _, rfl, _, rfl, L, _, _, _, rfl, rfl, SqL.of W2.li, atI_nat hyl, y.y, _, _, _, rfl, rfl, SqL.of q.oy, atI_nat (j := 2) rfl, y.d, _, rfl, q.dc.getN hev, _, rfl, iteT ?_⟩
            exact bad (.inr (.inr ⟨i, y.fr, rfl, hfr, hev⟩))
          | some ov =>
            have hin : (y.fr.env x).isSome = true := by rw [hev]; rfl
            refine ⟨_, rfl, _, rfl, _, rfl, L, _, _, _, rfl, rfl, SqL.of W2.li, atI_nat hyl, y.y, _, _, _, rfl, rfl, SqL.of q.oy, atI_nat (j := 2) rfl, y.d, _, rfl, q.dc.get hin, _, rfl, iteF ?_⟩
            obtain ⟨dx, ls, ds, fd, l, ps, Ww, ew⟩ := id hW2
            refine ⟨_, rfl, p, dx, _, rfl, Ww.ob, w_no _ _ _ _ _ (by decide +kernel) (by decide +kernel) (by decide +kernel) (by decide +kernel) (by decide +kernel) (by decide +kernel), _, rfl, _, rfl, _, rfl, ?_⟩
            refine ⟨Pr, p, S, st, res, i, y.fr, x, v, rfl, hW2, hfr, hin, fun H3 c3 hW3 => ?_⟩
            refine ⟨true, true, rfl, rfl, false, rfl, iteF ?_⟩
            have kT : KeepS T H2 H3 := c3.keepS hW2.sub fun b t s => hST b s t
            have W3 := W2.keep kT
            have q3 := W3.ok i y hy
            obtain ⟨kvs3, d3, d4⟩ := id q3.dc
            refine ⟨_, rfl, _, rfl, _, rfl, L, _, _, _, rfl, rfl, SqL.of W3.li, atI_nat hyl, y.y, _, _, _, rfl, rfl, SqL.of q3.oy, atI_nat (j := 2) rfl, _, rfl, y.d, _, rfl, DPut.k (k := Sum.inr x) d3 (lt_line (by have := d4.len; omega)), ?_⟩
            have W4 := W3.putEnv hy (d4.put v (.inl hin))
            have hL4 : LawAt (upd H3 y.d (.dK (putK kvs3 (Sum.inr x) (.int v)))) L T (st.set i (y.fr.put x v)) := ⟨_, W4, by rw [List.map_set, e]; rfl⟩
            have kS : KeepS S H3 (upd H3 y.d (.dK (putK kvs3 (Sum.inr x) (.int v)))) := ⟨fun b o eb sb => by rw [upd_ne (fun z => hST b sb (by rw [z]; exact q3.sd))]; exact eb, TS_.upd fun xs z => by rw [d3] at z; cases z⟩
            have hW4 := hW3.keep kS
            have c4 : Ch H (fun b => S b ∨ T b) (upd H3 y.d (.dK (putK kvs3 (Sum.inr x) (.int v)))) (fun b => S b ∨ T b) := ((Ch.same s2).trans c3.wide).put (.inr q3.sd)
            generalize (upd H3 y.d (.dK (putK kvs3 (Sum.inr x) (.int v)))) = H4 at hL4 hW4 c4
            refine ⟨_, rfl, _, rfl, Pr, p, L, S, T, _, res, rfl, hW4, hL4, hST, by rw [List.length_set]; exact hlen, fun fr hf => ?_, fun H5 s5 => ?_⟩
            · rcases List.mem_or_eq_of_mem_set hf with h | h
              · exact hok fr h
              · rw [h]
                exact hok y.fr (List.mem_of_getElem? hfr)
            · exact k H5 _ (c4.sm s5) (.inr ⟨i, y.fr, x, v, hfr, rfl⟩) (hW4.keep (KeepS.of_same s5)) (hL4.keep (KeepS.of_same s5))
end
end SG


/-! deep: a function that calls itself, a value set at one level. -/
namespace SG
open PySem PySem.Spec PyProof.Rows L2
def fD (n0 n1 n6 : Str) : Fn := ⟨n6, false, [n0], [.op n0 "+" (.x n0) (.n 1), .call n1 n6 [.x n0], .back (.x n1)]⟩
section
variable {n0 n1 n6 : Str} {z : Int}
noncomputable def frA (n0 n1 n6 : Str) (z : Int) (i : Nat) : Fr := (newA (fD n0 n1 n6) [z + (i : Int)]).adv n0 (z + (i : Int) + 1)
noncomputable def stE (n0 n1 n6 : Str) (z : Int) (j : Nat) : List Fr := (List.range j).map (frA n0 n1 n6 z) ++ [newA (fD n0 n1 n6) [z + (j : Int)]]
noncomputable def stO (n0 n1 n6 : Str) (z : Int) (j : Nat) : List Fr := (List.range j).map (frA n0 n1 n6 z) ++ [frA n0 n1 n6 z j]
noncomputable def stK (n0 n1 n6 : Str) (z : Int) : Nat → List Fr
  | 0 => [newA (fD n0 n1 n6) [z]]
  | k + 1 => stepA [fD n0 n1 n6] (stK n0 n1 n6 z k)
theorem env_new (v : Int) : (newA (fD n0 n1 n6) [v]).env n0 = some v := by
  show initE (fD n0 n1 n6) [v] n0 = some v
  unfold initE
  show foldE _ [n0] [v] n0 = some v
  rw [foldE_cons, foldE_nil, setE_same]
theorem env_frA (i : Nat) : (frA n0 n1 n6 z i).env n0 = some (z + (i : Int) + 1) := setE_same _ _ _
theorem look_D : lookF [fD n0 n1 n6] n6 = some (fD n0 n1 n6) := by
  unfold lookF
  rw [List.find?_cons, decide_eq_true (show (fD n0 n1 n6).name = n6 from rfl)]
theorem step_E (h0 : 0 ≤ z) (h1 : z < 2147483647) {j : Nat} (hj : j ≤ 100) : stepA [fD n0 n1 n6] (stE n0 n1 n6 z j) = stO n0 n1 n6 z j := by
  unfold stE stO
  rw [stepA_op (x := n0) (s := "+") (a := .x n0) (b := .n 1) rfl]
  have e : valA "+" (worth (newA (fD n0 n1 n6) [z + (j : Int)]).env (.x n0)) (worth (newA (fD n0 n1 n6) [z + (j : Int)]).env (.n 1)) = z + (j : Int) + 1 := by
    have e1 : worth (newA (fD n0 n1 n6) [z + (j : Int)]).env (.x n0) = z + (j : Int) := by
      show ((newA (fD n0 n1 n6) [z + (j : Int)]).env n0).getD 0 = _
      rw [env_new]
      rfl
    rw [e1]
    show (if ("+" : Str) = "+" then (z + (j : Int) + 1) % wide else _) = _
    rw [if_pos rfl]
    exact Int.emod_eq_of_lt (by omega) (by show _ < 281474976710656; omega)
  rw [e]
  rfl
theorem step_O {j : Nat} : stepA [fD n0 n1 n6] (stO n0 n1 n6 z j) = stE n0 n1 n6 z (j + 1) := by
  unfold stO stE
  rw [stepA_call (x := n1) (g := n6) (as := [.x n0]) (f := fD n0 n1 n6) rfl look_D]
  have e1 : ([Atom.x n0].map (worth (frA n0 n1 n6 z j).env)) = [z + ((j + 1 : Nat) : Int)] := by
    show [((frA n0 n1 n6 z j).env n0).getD 0] = _
    rw [env_frA]
    show [z + (j : Int) + 1] = _
    rw [show z + (j : Int) + 1 = z + ((j + 1 : Nat) : Int) by omega]
  rw [e1, List.range_succ, List.map_append]
  rfl
theorem stK_eq (h0 : 0 ≤ z) (h1 : z < 2147483647) : ∀ j : Nat, j ≤ 100 → stK n0 n1 n6 z (2 * j) = stE n0 n1 n6 z j ∧ stK n0 n1 n6 z (2 * j + 1) = stO n0 n1 n6 z j
  | 0, _ => by
    have e : stK n0 n1 n6 z (2 * 0) = stE n0 n1 n6 z 0 := by
      show [newA (fD n0 n1 n6) [z]] = [newA (fD n0 n1 n6) [z + ((0 : Nat) : Int)]]
      rw [show z + ((0 : Nat) : Int) = z by omega]
    refine ⟨e, ?_⟩
    show stepA _ (stK n0 n1 n6 z (2 * 0)) = _
    rw [e]
    exact step_E h0 h1 (by omega)
  | j + 1, hj => by
    have ih := stK_eq h0 h1 j (by omega)
    have e : stK n0 n1 n6 z (2 * (j + 1)) = stE n0 n1 n6 z (j + 1) := by
      show stepA _ (stK n0 n1 n6 z (2 * j + 1)) = _
      rw [ih.2]
      exact step_O
    refine ⟨e, ?_⟩
    show stepA _ (stK n0 n1 n6 z (2 * (j + 1))) = _
    rw [e]
    exact step_E h0 h1 hj
theorem stK_form (h0 : 0 ≤ z) (h1 : z < 2147483647) {k : Nat} (hk : k ≤ 100) : ∃ A fr, stK n0 n1 n6 z k = A ++ [fr] ∧ A.length ≤ 100 ∧ ∃ r, fr.row = some r ∧ r.isBack = false := by
  rcases Nat.mod_two_eq_zero_or_one k with h | h
  · have e : k = 2 * (k / 2) := by omega
    rw [e, (stK_eq h0 h1 (k / 2) (by omega)).1]
    exact ⟨_, _, rfl, by rw [List.length_map, List.length_range]; omega, _, rfl, rfl⟩
  · have e : k = 2 * (k / 2) + 1 := by omega
    rw [e, (stK_eq h0 h1 (k / 2) (by omega)).2]
    exact ⟨_, _, rfl, by rw [List.length_map, List.length_range]; omega, _, rfl, rfl⟩
theorem ok_D : PrOK [fD n0 n1 n6] := by
  have ok1 : FnOK [fD n0 n1 n6] (fD n0 n1 n6) := by
    refine fn_ok (rs := [.op n0 "+" (.x n0) (.n 1), .call n1 n6 [.x n0]]) (a := .x n1) rfl (fun r hr => ?_) (by show 2 ≤ 99; decide) (by show 1 ≤ 10; decide) (fun r hr => ?_) (fun r hr x s a b e => ?_) fun x g as hr => ?_
    · simp only [List.mem_cons, List.not_mem_nil, or_false] at hr
      rcases hr with rfl | rfl <;> rfl
    · simp only [List.mem_cons, List.not_mem_nil, or_false] at hr
      rcases hr with rfl | rfl
      · show 2 ≤ 10; decide
      · show 1 ≤ 10; decide
    · simp only [List.mem_cons, List.not_mem_nil, or_false] at hr
      rcases hr with rfl | rfl
      · cases e
        decide +kernel
      · cases e
    · simp only [List.mem_cons, List.not_mem_nil, or_false] at hr
      rcases hr with h | h
      · cases h
      · cases h
        exact ⟨_, look_D, rfl⟩
  refine ⟨fun f hf => ?_, by show [n6].Nodup; simp, by show 1 ≤ 100; decide⟩
  rw [List.mem_singleton.mp hf]
  exact ok1
theorem ok_st0 : StOK [fD n0 n1 n6] (stK n0 n1 n6 z 0) := by
  refine ⟨fun fr hf => ?_, fun i fr hi => ?_, by show 1 ≤ 1000; decide⟩
  · have hf' : fr ∈ [newA (fD n0 n1 n6) [z]] := hf
    rw [List.mem_singleton.mp hf']
    exact newA_ok (ok_D.fns _ (by simp)) rfl
  · have hi' : i + 1 < 1 := hi
    omega
def dueL (z : Int) (j : Nat) : List Int := (List.range j).map (fun (i : Nat) => z + (i : Int) + 1) ++ [z + (j : Int)]
/-- what each frame tells of x -/
structure Told (x : Str) (st : List Fr) (due : List Int) : Prop where
  len : st.length = due.length
  at_ : ∀ (i : Nat) (fr : Fr), st[i]? = some fr → fr.env x = due[i]?
theorem told_E (j : Nat) : Told n0 (stE n0 n1 n6 z j) (dueL z j) := by
  unfold stE dueL
  refine ⟨by simp, fun i fr h => ?_⟩
  by_cases hi : i < j
  · rw [List.getElem?_append_left (by simpa using hi)] at h
    rw [List.getElem?_append_left (by simpa using hi)]
    rw [List.getElem?_map, List.getElem?_range hi] at h ⊢
    rw [← Option.some.inj h]
    exact env_frA i
  · have hl := (List.getElem?_eq_some_iff.mp h).1
    rw [List.length_append, List.length_map, List.length_range, List.length_singleton] at hl
    have e : i = j := by omega
    subst e
    rw [List.getElem?_append_right (by simp)] at h
    rw [List.getElem?_append_right (by simp)]
    simp only [List.length_map, List.length_range, Nat.sub_self, List.getElem?_cons_zero] at h ⊢
    rw [← Option.some.inj h]
    exact env_new _
theorem Told.set {x : Str} {st : List Fr} {due : List Int} (h : Told x st due) {i : Nat} {fr : Fr} (hi : st[i]? = some fr) (v : Int) : Told x (st.set i (fr.put x v)) (due.set i v) := by
  have hlt : i < st.length := (List.getElem?_eq_some_iff.mp hi).1
  refine ⟨by rw [List.length_set, List.length_set, h.len], fun j g hg => ?_⟩
  by_cases e : i = j
  · subst e
    rw [List.getElem?_set_self hlt] at hg
    rw [List.getElem?_set_self (by rw [← h.len]; exact hlt)]
    rw [← Option.some.inj hg]
    exact setE_same _ _ _
  · rw [List.getElem?_set_ne e] at hg
    rw [List.getElem?_set_ne e]
    exact h.at_ j g hg
end
theorem intDs_lay : ∀ zs : List Int, PyData.canLayAll0 (zs.map PyData.int) = true
  | [] => by simp [PyData.canLayAll0]
  | z :: zs => by simp [PyData.canLayAll0, PyData.canLay0, intDs_lay zs]
theorem intDs_depth : ∀ zs : List Int, PyData.depthAll (zs.map PyData.int) ≤ 2
  | [] => by simp [PyData.depthAll]
  | z :: zs => by
    have h1 := intDs_depth zs
    simp only [List.map_cons, PyData.depthAll, PyData.depth]
    omega
theorem intDs_shaped (zs : List Int) : SeqAt.shaped (.list (zs.map PyData.int)) = true := by
  have h1 := intDs_depth zs
  have h2 : PyData.depth (.list (zs.map PyData.int)) ≤ 64 := by
    simp only [PyData.depth]
    omega
  show (PyData.canLay0 (.list (zs.map PyData.int)) && decide (PyData.depth (.list (zs.map PyData.int)) ≤ 64)) = true
  rw [Bool.and_eq_true]
  exact ⟨by simp only [PyData.canLay0]; exact intDs_lay zs, decide_eq_true h2⟩
theorem dp_ints {K : PySem.W.Frag} {H : Hp} : ∀ zs : List Int, DpAll K H (zs.map V.int) (zs.map PyData.int)
  | [] => .nil
  | z :: zs => .cons (.int z) (dp_ints zs)
theorem ixN_nat {n j : Nat} (h : j < n) : ixN n (j : Int) = some j := by
  unfold ixN
  rw [if_pos (by omega), if_pos (by omega)]
  rfl
section
variable {P : Program} {w : World} {K : PySem.W.Frag} {mg : Str → Option Value} {base : Heap}
/-! ### _law_deep -/
abbrev sDeep : Stmt := top 36
abbrev nDeep : List Str := ["_law_names_here", "_law_cell", "_law_xs", "_law_deep_here", "_law_call", "_law_rows", "_law_walker", "_law_k", "_law_level", "_law_due"]
theorem scDeep : FnScope nDeep ["_law_names_here", "_law_cell"] (defScope sDeep) := ⟨rfl, rfl, rfl, by decide +kernel, rfl, by decide +kernel, by decide +kernel⟩
def spDeep : Sp := fun vs H Q _ => ∃ (ln : Addr) (c : Int) (ns : List Str), vs = [.ref ln, .int c] ∧ H ln = some (.lst (ns.map V.str)) ∧ ns.length = 7 ∧ ∀ H', Same H H' → Q (.bl true) H'
theorem c_deep {C CF : Addr} (T : TxtW K C) (D : DefG K mg "_law_deep" sDeep) (cS : C8.Cal P w K mg base 1 "_law_stream" spStream []) (cV : C8.Cal P w K mg base 1 "_law_value_by" spValueBy []) (kT : C8.Mak P w K mg base 6 "TextWalker" C (spTInit C CF) [])
    (mS : C8.Met P w K mg base 7 C "step" (spStep C CF) []) (mF : C8.Met P w K mg base 2 C "fill" (spFill C CF) []) (mT : C8.Met P w K mg base 2 C "told" (spTold C CF) []) (zR : mg "range" = none) : C8.Cal P w K mg base 8 "_law_deep" spDeep [] := by
  refine cal_of D scDeep (fun _ _ _ _ _ _ us hl => match us, hl with | [_, _], _ => rfl) (fun vs H Q E h => ?_) (fun f0 cdv A outer s H vs Q E hr h => ?_)
  · obtain ⟨ln, c, ns, rfl, _⟩ := h
    rfl
  · obtain ⟨ln, c, ns, rfl, hl, hn, k⟩ := h
    refine ⟨_, pss_cons (ps_set (i := 2) scDeep.nd rfl (.inr rfl) (C8.pe_c cS hr (by decide) rfl (pa_cons (pv 1) (pa_cons pe_int pa_nil)))) <|
      pss_cons (ps_set (i := 3) scDeep.nd rfl (.inl rfl) (pe_op op_add pe_int (pe_op op_mod (pe_ix ix_list (pv 2) pe_int (fun _ _ => rfl)) pe_int))) <|
      pss_cons (ps_set (i := 4) scDeep.nd rfl (.inl rfl) (pe_tup (pa_cons pe_str (pa_cons (pe_ix ix_list (pv 0) pe_int (fun _ _ => rfl)) (pa_cons (pe_ix ix_list (pv 0) pe_int (fun _ _ => rfl)) (pa_cons (pe_tup (pa_cons (pe_ix ix_list (pv 0) pe_int (fun _ _ => rfl)) pa_nil)) pa_nil)))))) <|
      pss_cons (ps_set (i := 5) scDeep.nd rfl (.inl rfl) (pe_tup (pa_cons (pe_tup (pa_cons pe_str (pa_cons (pe_ix ix_list (pv 0) pe_int (fun _ _ => rfl)) (pa_cons pe_str (pa_cons (pe_ix ix_list (pv 0) pe_int (fun _ _ => rfl)) (pa_cons pe_int pa_nil)))))) (pa_cons (pv 4) (pa_cons (pe_tup (pa_cons pe_str (pa_cons (pe_ix ix_list (pv 0) pe_int (fun _ _ => rfl)) pa_nil))) pa_nil))))) <|
      pss_cons (ps_set (i := 6) scDeep.nd rfl (.inr rfl) (C8.pe_mk kT hr (by decide) rfl (pa_cons (pe_lst (pa_cons (pe_tup (pa_cons (pe_ix ix_list (pv 0) pe_int (fun _ _ => rfl)) (pa_cons pe_bl (pa_cons (pe_tup (pa_cons (pe_ix ix_list (pv 0) pe_int (fun _ _ => rfl)) pa_nil)) (pa_cons (pv 5) pa_nil))))) pa_nil)) (pa_cons (pe_lst (pa_cons (pe_ix ix_list (pv 2) pe_int (fun _ _ => rfl)) pa_nil)) pa_nil)))) <|
      pss_cons (ps_for PassesOwn.never rfl (pi_range1 (by rfl) zR (pa_cons (pe_op op_mul pe_int (pv 3)) pa_nil)) (pg_name (i := 7) scDeep.nd rfl (.inl rfl)) (pss_one (ps_expr (C8.pe_mt0 mS hr (by decide) (pv 6))))) <|
      pss_cons (ps_set (i := 9) scDeep.nd rfl (.inl rfl) (pe_op op_cat (pe_lc (own := [("_law_level", 8)]) (g := gName 8) (tt := tYes) (te := tOp (rI0 fun i j => .int (i + j)) (tOp (rI0 fun i j => .int (i + j)) (tOp (rIxL K) (tVar 2) (tC (.int 1))) (tVar 8)) (tC (.int 1))) (by rfl) scDeep.nd
          (pi_range1 (by rfl) zR (pa_cons (pv 3) pa_nil)) (blkOk_by (own := [("_law_level", 8)]) (N := nDeep) (sc := defScope sDeep) (by decide +kernel))
          (fun _ _ _ _ _ => pg_name (i := 8) scDeep.nd rfl (Or.inl rfl)) (fun _ _ _ _ _ => pts_nil) (fun _ _ _ _ _ => pe_op op_add (pe_op op_add (pe_ix ix_list (pv 2) pe_int (fun _ _ => rfl)) (pv 8)) pe_int))
        (pe_lst (pa_cons (pe_op op_add (pe_ix ix_list (pv 2) pe_int (fun _ _ => rfl)) (pv 3)) pa_nil)))) <|
      pss_cons (ps_set (i := 8) scDeep.nd rfl (.inl rfl) (pe_op op_mod (pe_op op_fdiv (pe_ix ix_list (pv 2) pe_int (fun _ _ => rfl)) pe_int) (pe_op op_add (pv 3) pe_int))) <|
      pss_cons (ps_asg (C8.pe_c cV hr (by decide) rfl (pa_cons (pe_ix ix_list (pv 2) pe_int (fun _ _ => rfl)) pa_nil)) (pg_sub (pv 9) (pv 8) set_list)) <|
      pss_cons (ps_if (pt_cmpR op_isnot_bl (C8.pe_mt mF hr (by decide) (pv 6) (pa_cons (pv 8) (pa_cons (pe_ix ix_list (pv 0) pe_int (fun _ _ => rfl)) (pa_cons (pe_ix ix_list (pv 9) (pv 8) (fun _ _ => rfl)) pa_nil)))) pe_bl (nomark _)) pss_never pss_nil) <|
      pss_one (ps_ret (pe_cmpR (op_eqD hr.units) (pe_lc (own := [("_law_k", 7)]) (g := gName 7) (tt := tYes) (te := tMeth C "told" (spTold C CF) [] E0 (tVar 6) (tCons (tVar 7) (tCons (tOp (rIxL K) (tVar 0) (tC (.int 0))) tNil))) (by rfl) scDeep.nd
          (pi_range1 (by rfl) zR (pa_cons (pe_op op_add (pv 3) pe_int) pa_nil)) (blkOk_by (own := [("_law_k", 7)]) (N := nDeep) (sc := defScope sDeep) (by decide +kernel))
          (fun _ _ _ _ _ => pg_name (i := 7) scDeep.nd rfl (Or.inl rfl)) (fun _ _ _ _ _ => pts_nil) (fun _ _ _ _ _ => C8.pe_mt mT hr (by decide) (pv 6) (pa_cons (pv 7) (pa_cons (pe_ix ix_list (pv 0) pe_int (fun _ _ => rfl)) pa_nil)))) (pv 9) (nomark _))), ?_⟩
    obtain ⟨m0, m1, m2, m3, m4, m5, m6, rfl⟩ : ∃ m0 m1 m2 m3 m4 m5 m6, ns = [m0, m1, m2, m3, m4, m5, m6] := match ns, hn with | [m0, m1, m2, m3, m4, m5, m6], _ => ⟨m0, m1, m2, m3, m4, m5, m6, rfl⟩
    have g0 : ([m0, m1, m2, m3, m4, m5, m6].map V.str)[0]? = some (.str m0) := rfl
    have g1 : ([m0, m1, m2, m3, m4, m5, m6].map V.str)[1]? = some (.str m1) := rfl
    have g6 : ([m0, m1, m2, m3, m4, m5, m6].map V.str)[6]? = some (.str m6) := rfl
    generalize [m0, m1, m2, m3, m4, m5, m6].map V.str = nv at hl g0 g1 g6
    refine ⟨_, rfl, c, 3, rfl, by decide, fun lx H1 zs s1 hlx h1 hz hzb => ?_⟩
    obtain ⟨x0, x1, x2, rfl⟩ : ∃ x0 x1 x2, zs = [x0, x1, x2] := match zs, hz with | [x0, x1, x2], _ => ⟨x0, x1, x2, rfl⟩
    have hx1 := hzb x1 (by simp)
    have i0 : ([x0, x1, x2].map V.int)[0]? = some (.int x0) := rfl
    have i1 : ([x0, x1, x2].map V.int)[1]? = some (.int x1) := rfl
    have i2 : ([x0, x1, x2].map V.int)[2]? = some (.int x2) := rfl
    generalize [x0, x1, x2].map V.int = xv at h1 i0 i1 i2
    have hN1 := s1 _ _ hl
    -- deep
    refine rixL rfl (SqL.of h1) i0 ⟨_, _, rfl, rfl, (by show (0:Int) < _; decide), _, _, rfl, rfl, ?_⟩
    obtain ⟨dm, hdm, hdm9⟩ := mod_nat x0 (n := 9) (by decide)
    have hdp : (1 : Int) + x0 % 9 = ((dm + 1 : Nat) : Int) := by
      have : x0 % 9 = (dm : Int) := hdm
      omega
    show gName 3 (.int (1 + x0 % 9)) _ _ _
    rw [hdp]
    have hdpl : dm + 1 ≤ 9 := by omega
    generalize dm + 1 = dp at hdpl
    -- call
    refine rixL rfl (SqL.of hN1) g1 (rixL rfl (SqL.of hN1) g6 (rixL rfl (SqL.of hN1) g0 ⟨le_line (by show 1 ≤ 100000; decide), fun t1 ht1 => ⟨le_line (by show 4 ≤ 100000; decide), fun t2 ht2 => ?_⟩⟩))
    have v1 := Same.new (o := HO.tup [.str m0]) ht1
    have v2 := Same.new (o := HO.tup [.str "call", .str m1, .str m6, .ref t1]) ht2
    have r2 : RowAt _ t2 (.call m1 m6 [.x m0]) := ⟨t1, upd_same, v2 _ _ upd_same⟩
    have h2 := v2 _ _ (v1 _ _ h1)
    have hN2 := v2 _ _ (v1 _ _ hN1)
    have s2 : Same H _ := s1.trans (v1.trans v2)
    generalize (upd (upd H1 t1 _) t2 _) = H2 at r2 h2 hN2 s2
    clear v1 v2 ht1 ht2
    -- rows
    refine rixL rfl (SqL.of hN2) g0 (rixL rfl (SqL.of hN2) g0 ⟨le_line (by show 5 ≤ 100000; decide), fun t3 ht3 => ?_⟩)
    have v3 := Same.new (o := HO.tup [.str "op", .str m0, .str "+", .str m0, .int 1]) ht3
    refine ⟨_, rfl, rixL rfl (SqL.of (v3 _ _ hN2)) g1 ⟨le_line (by show 2 ≤ 100000; decide), fun t4 ht4 => ⟨le_line (by show 3 ≤ 100000; decide), fun t5 ht5 => ?_⟩⟩⟩
    have v4 := Same.new (o := HO.tup [.str "back", .str m1]) ht4
    have v5 := Same.new (o := HO.tup [.ref t3, .ref t2, .ref t4]) ht5
    have R : RowsAt (upd (upd (upd H2 t3 (.tup [.str "op", .str m0, .str "+", .str m0, .int 1])) t4 (.tup [.str "back", .str m1])) t5 (.tup [.ref t3, .ref t2, .ref t4])) t5 (fD m0 m1 m6).rows := by
      refine ⟨_, upd_same, rfl, fun i r hr => ?_⟩
      match i, hr with
      | 0, hr =>
        rw [← Option.some.inj hr]
        exact ⟨t3, rfl, v5 _ _ (v4 _ _ upd_same)⟩
      | 1, hr =>
        rw [← Option.some.inj hr]
        exact ⟨t2, rfl, r2.mono (ts_of (v3.trans (v4.trans v5)))⟩
      | 2, hr =>
        rw [← Option.some.inj hr]
        exact ⟨t4, rfl, v5 _ _ upd_same⟩
    have h3 := v5 _ _ (v4 _ _ (v3 _ _ h2))
    have hN3 := v5 _ _ (v4 _ _ (v3 _ _ hN2))
    have s3 : Same H _ := s2.trans (v3.trans (v4.trans v5))
    generalize (upd (upd (upd H2 t3 _) t4 _) t5 _) = H3 at R h3 hN3 s3
    clear v3 v4 v5 ht3 ht4 ht5 r2
    -- the walker
    refine rixL rfl (SqL.of hN3) g6 (rixL rfl (SqL.of hN3) g0 ⟨le_line (by show 1 ≤ 100000; decide), fun t6 ht6 => ⟨_, rfl, le_line (by show 4 ≤ 100000; decide), fun t7 ht7 => ⟨le_line (by show 1 ≤ 100000; decide), fun l8 hl8 => ?_⟩⟩⟩)
    have v6 := Same.new (o := HO.tup [.str m0]) ht6
    have v7 := Same.new (o := HO.tup [.str m6, .bl false, .ref t6, .ref t5]) ht7
    have v8 := Same.new (o := HO.lst [.ref t7]) hl8
    have A : FnAt _ t7 (fD m0 m1 m6) := ⟨t6, t5, v8 _ _ upd_same, v8 _ _ (v7 _ _ upd_same), R.mono (ts_of (v6.trans (v7.trans v8)))⟩
    have h4 := v8 _ _ (v7 _ _ (v6 _ _ h3))
    have hN4 := v8 _ _ (v7 _ _ (v6 _ _ hN3))
    have hl8' := upd_same (H := (upd (upd H3 t6 (.tup [.str m0])) t7 (.tup [.str m6, .bl false, .ref t6, .ref t5]))) (a := l8) (o := HO.lst [.ref t7])
    have s4 : Same H _ := s3.trans (v6.trans (v7.trans v8))
    generalize (upd (upd (upd H3 t6 _) t7 _) l8 _) = H4 at A h4 hN4 s4 hl8' ⊢
    clear v6 v7 v8 ht6 ht7 hl8 R
    refine rixL rfl (SqL.of h4) i1 ⟨le_line (by show 1 ≤ 100000; decide), fun l9 hl9 => ?_⟩
    have v9 := Same.new (o := HO.lst [.int x1]) hl9
    intro p dx np ndx npd
    have v10 : Same (upd H4 l9 (.lst [.int x1])) (upd (upd (upd H4 l9 (.lst [.int x1])) dx (.own p)) p (.ins C dx [])) := (Same.new ndx).trans (Same.new (by rw [upd_ne (Ne.symm npd)]; exact np))
    have vv := v9.trans v10
    have l9' := v10 _ _ (upd_same (H := H4) (a := l9) (o := HO.lst [.int x1]))
    have hp0 := upd_same (H := upd (upd H4 l9 (.lst [.int x1])) dx (.own p)) (a := p) (o := HO.ins C dx [])
    have np4 : H4 p = none := v9.free np
    refine ⟨p, dx, l8, l9, [fD m0 m1 m6], [], fD m0 m1 m6, [x1], rfl, upd_same, ⟨_, vv _ _ hl8', rfl, fun i f hf => ?_⟩, ok_D, rfl, l9', rfl, fun H5 S0 b5 hS0 hW0 => ⟨rfl, ?_⟩⟩
    · match i, hf with
      | 0, hf =>
        rw [← Option.some.inj hf]
        exact ⟨t7, rfl, A.mono (ts_of vv)⟩
    have c0 : Ch H4 (fun _ => False) H5 S0 := ⟨fun b o e _ => b5 b o (vv _ _ e) (ne_of_none e np4), fun b hb => by
      rcases hS0 b hb with h | h
      · rw [h]
        exact .inr np4
      · exact .inr (vv.free h)⟩
    clear vv v9 v10 l9' hp0 b5 hS0 A np ndx npd hl9 hl8'
    -- the steps
    have hd' : ((2 : Int) * (dp : Int)).toNat = 2 * dp := by omega
    refine ⟨_, rfl, _, _, rfl, rfl, .inl ⟨by decide, by decide⟩, _, rfl, by omega, by omega, for_range (fun i σ H' => (∃ a, σ = [some (.ref ln), some (.int c), some (.ref lx), some (.int (dp : Int)), some (.ref t2), some (.ref t5), some (.ref p), a, none, none]) ∧ ∃ S, Ch H4 (fun _ => False) H' S ∧ WalkerAt C CF [fD m0 m1 m6] H' p S (stK m0 m1 m6 x1 i) .non ∧ StOK [fD m0 m1 m6] (stK m0 m1 m6 x1 i)) ⟨⟨_, rfl⟩, S0, c0, hW0, ok_st0⟩ ?_ ?_⟩
    · rintro i σ H' hi ⟨⟨a, rfl⟩, S, cS, hW, hst⟩
      have hi' : i < 2 * dp := by omega
      obtain ⟨dx', ls, ds, fd, l, ps, Ww, ew⟩ := id hW
      obtain ⟨A, fr, eA, hAl, r, hr1, hr2⟩ := stK_form (n0 := m0) (n1 := m1) (n6 := m6) hx1.1 hx1.2 (k := i) (by omega)
      have eK : stK m0 m1 m6 x1 (i + 1) = stepA [fD m0 m1 m6] (A ++ [fr]) := by rw [← eA]; rfl
      refine ⟨_, rfl, p, dx', _, rfl, Ww.ob, w_no _ _ _ _ _ (by decide +kernel) (by decide +kernel) (by decide +kernel) (by decide +kernel) (by decide +kernel) (by decide +kernel), ?_⟩
      rw [eA] at hW hst
      refine ⟨[fD m0 m1 m6], p, S, A, fr, rfl, hW, hst, ok_D, by omega, fun H6 S6 c6 w6 => ⟨⟨_, rfl⟩, S6, cS.trans c6, ?_, ?_⟩⟩
      · rw [eK, ← resV_not (st := A) hr1 hr2]
        exact w6
      · rw [eK]
        exact hst.step ok_D (by omega)
    · rintro σ H6 ⟨⟨a, rfl⟩, S, cS, hW, hst⟩
      rw [hd', (stK_eq hx1.1 hx1.2 dp (by omega)).1] at hW hst
      have hto := told_E (n0 := m0) (n1 := m1) (n6 := m6) (z := x1) dp
      have hN6 := cS.kp _ _ hN4 id
      have h6 := cS.kp _ _ h4 id
      have nS4 : ∀ {b : Addr} {o : HO}, H4 b = some o → ¬ S b := fun {b o} e hs => by
        rcases cS.nw b hs with h | h
        · exact h
        · rw [e] at h
          cases h
      -- due
      refine ⟨_, rfl, _, rfl, by omega, by omega, fun DL hDL => lc_range (fun i H' => Same H6 H' ∧ H' DL = some (.lst (((List.range i).map (fun (i : Nat) => x1 + (i : Int) + 1)).map V.int))) ⟨Same.new hDL, upd_same⟩ ?_ ?_⟩
      · rintro i H' hi ⟨s7, zD⟩
        refine ⟨rfl, lcY ?_⟩
        refine rixL rfl (SqL.of (s7 _ _ h6)) i1 ⟨_, rfl, _, _, rfl, rfl, _, _, rfl, rfl, _, zD, lt_line (by rw [List.length_map, List.length_map, List.length_range]; omega), Same.setN s7 hDL, ?_⟩
        rw [upd_same, List.range_succ, List.map_append, List.map_append, Int.zero_add]
        rfl
      · rintro H7 ⟨s7, zD⟩
        rw [Int.toNat_natCast] at zD
        refine rixL rfl (SqL.of (s7 _ _ h6)) i1 ⟨_, rfl, _, _, rfl, rfl, le_line (by show 1 ≤ 100000; decide), fun l10 hl10 => ?_⟩
        have u1 := Same.new (o := HO.lst [.int (x1 + (dp : Int))]) hl10
        refine ⟨DL, l10, _, _, rfl, rfl, u1 _ _ zD, upd_same, le_line (by rw [List.length_map, List.length_map, List.length_range, List.length_singleton]; omega), fun LD hLD => ?_⟩
        have edue : ((List.range dp).map (fun (i : Nat) => x1 + (i : Int) + 1)).map V.int ++ [V.int (x1 + (dp : Int))] = (dueL x1 dp).map V.int := by
          unfold dueL
          rw [List.map_append]
          rfl
        rw [edue]
        have u2 := Same.new (o := HO.lst ((dueL x1 dp).map V.int)) hLD
        have nLD : ¬ S LD := fun hs => by
          obtain ⟨o, e1, _⟩ := (hW.keep (KeepS.of_same (s7.trans u1))).sub LD hs
          rw [hLD] at e1
          cases e1
        have s8 := s7.trans (u1.trans u2)
        have hW8 := hW.keep (KeepS.of_same s8)
        have hLD8 := upd_same (H := upd H7 l10 (.lst [.int (x1 + (dp : Int))])) (a := LD) (o := HO.lst ((dueL x1 dp).map V.int))
        have nLD0 : ∀ {b : Addr} {o : HO}, H6 b = some o → b ≠ LD := fun {b o} e => ne_of_none ((s7.trans u1) _ _ e) hLD
        generalize (upd (upd H7 l10 (.lst [.int (x1 + (dp : Int))])) LD (.lst ((dueL x1 dp).map V.int))) = H8 at s8 hW8 hLD8 ⊢
        clear u1 u2 hLD hl10 zD s7 hDL
        have h8 := s8 _ _ h6
        have hN8 := s8 _ _ hN6
        -- level
        refine rixL rfl (SqL.of h8) i2 ⟨_, _, rfl, rfl, (by unfold CDiv; decide), _, rfl, _, _, rfl, rfl, _, _, rfl, rfl, (by show (0:Int) < _; omega), ?_⟩
        obtain ⟨lv, hlv, hlvl⟩ := mod_nat (x2 / 5) (n := dp + 1) (by omega)
        have hlv' : x2 / 5 % ((dp : Int) + 1) = (lv : Int) := hlv
        show gName 8 (.int (x2 / 5 % ((dp : Int) + 1))) _ _ _
        rw [hlv']
        have hdl : (dueL x1 dp).length = dp + 1 := by unfold dueL; simp
        refine rixL rfl (SqL.of h8) i2 ⟨x2, rfl, fun v => ⟨_, rfl, _, rfl, LD, _, _, lv, rfl, rfl, hLD8, ixN_nat (by rw [List.length_map, hdl]; exact hlvl), ?_⟩⟩
        have eset : ((dueL x1 dp).map V.int).set lv (.int v) = ((dueL x1 dp).set lv v).map V.int := by rw [List.map_set]
        rw [eset]
        have hW9 : WalkerAt C CF [fD m0 m1 m6] (upd H8 LD (.lst (((dueL x1 dp).set lv v).map V.int))) p S (stE m0 m1 m6 x1 dp) .non := hW8.keep ⟨fun b o e sb => by rw [upd_ne (fun z => nLD (by rw [← z]; exact sb))]; exact e, TS_.upd fun xs z => by rw [hLD8] at z; cases z⟩
        have hLD9 := upd_same (H := H8) (a := LD) (o := HO.lst (((dueL x1 dp).set lv v).map V.int))
        have k9 : ∀ {b : Addr} {o : HO}, H6 b = some o → (upd H8 LD (.lst (((dueL x1 dp).set lv v).map V.int))) b = some o := fun {b o} e => by
          rw [upd_ne (nLD0 e)]
          exact s8 _ _ e
        generalize (upd H8 LD (.lst (((dueL x1 dp).set lv v).map V.int))) = H9 at hW9 hLD9 k9 ⊢
        -- fill
        have hsl : lv < (stE m0 m1 m6 x1 dp).length := by rw [hto.len, hdl]; exact hlvl
        have hfr : (stE m0 m1 m6 x1 dp)[lv]? = some (stE m0 m1 m6 x1 dp)[lv] := List.getElem?_eq_getElem hsl
        generalize (stE m0 m1 m6 x1 dp)[lv] = fr at hfr
        have hin : (fr.env m0).isSome = true := by
          rw [hto.at_ lv fr hfr, List.getElem?_eq_getElem (by rw [hdl]; exact hlvl)]
          rfl
        obtain ⟨dx', ls, ds, fd, l, ps, Ww, ew⟩ := id hW9
        have hat : (((dueL x1 dp).set lv v).map V.int)[lv]? = some (.int v) := by
          rw [List.getElem?_map, List.getElem?_set_self (by rw [hdl]; exact hlvl)]
          rfl
        refine ⟨_, rfl, p, dx', _, rfl, Ww.ob, w_no _ _ _ _ _ (by decide +kernel) (by decide +kernel) (by decide +kernel) (by decide +kernel) (by decide +kernel) (by decide +kernel), _, rfl, ?_⟩
        refine rixL rfl (SqL.of (k9 hN6)) g0 ⟨_, rfl, _, rfl, LD, _, _, _, rfl, rfl, SqL.of hLD9, atI_nat hat, ?_⟩
        refine ⟨[fD m0 m1 m6], p, S, _, .non, lv, fr, m0, v, rfl, hW9, hfr, hin, fun H10 c10 hW10 => ⟨true, true, rfl, rfl, false, rfl, iteF ?_⟩⟩
        have hto2 := hto.set hfr v
        have hLD10 := c10.kp _ _ hLD9 nLD
        have hN10 := c10.kp _ _ (k9 hN6) (nS4 hN4)
        have sEnd : Same H H10 := fun b o e => c10.kp _ _ (k9 (cS.kp _ _ (s4 _ _ e) id)) (nS4 (s4 _ _ e))
        have hd2 : ((dp : Int) + 1).toNat = dp + 1 := by omega
        refine ⟨_, rfl, _, _, rfl, rfl, _, rfl, by omega, by omega, fun DT hDT => lc_range (fun i H' => Same H10 H' ∧ H' DT = some (.lst ((((dueL x1 dp).set lv v).take i).map V.int))) ⟨Same.new hDT, upd_same⟩ ?_ ?_⟩
        · rintro i H' hi ⟨s11, zD⟩
          have hi' : i < ((dueL x1 dp).set lv v).length := by rw [List.length_set, hdl]; omega
          have hval : ((dueL x1 dp).set lv v)[i]? = some ((dueL x1 dp).set lv v)[i] := List.getElem?_eq_getElem hi'
          generalize ((dueL x1 dp).set lv v)[i] = val at hval
          obtain ⟨fr', hfr'⟩ : ∃ fr', ((stE m0 m1 m6 x1 dp).set lv (fr.put m0 v))[i]? = some fr' := ⟨_, List.getElem?_eq_getElem (by rw [hto2.len]; exact hi')⟩
          have hW11 := hW10.keep (KeepS.of_same s11)
          obtain ⟨dx2, ls2, ds2, fd2, l2, ps2, Ww2, ew2⟩ := id hW11
          refine ⟨rfl, lcY ?_⟩
          refine ⟨_, rfl, p, dx2, _, rfl, Ww2.ob, w_no _ _ _ _ _ (by decide +kernel) (by decide +kernel) (by decide +kernel) (by decide +kernel) (by decide +kernel) (by decide +kernel), _, rfl, ?_⟩
          refine rixL rfl (SqL.of (s11 _ _ hN10)) g0 ⟨[fD m0 m1 m6], p, S, _, .non, i, fr', m0, val, by rw [Int.zero_add]; rfl, hW11, hfr', by rw [hto2.at_ i fr' hfr', hval], ?_⟩
          refine ⟨_, zD, lt_line (by rw [List.length_map, List.length_take]; rw [List.length_set, hdl] at *; omega), Same.setN s11 hDT, ?_⟩
          rw [upd_same, take_snoc hval, List.map_append]
          rfl
        · rintro H11 ⟨s11, zD⟩
          rw [List.take_of_length_le (by rw [List.length_set, hdl]; omega)] at zD
          have sh := intDs_shaped ((dueL x1 dp).set lv v)
          have lay : (PyData.list (((dueL x1 dp).set lv v).map PyData.int)).canLay0 = true := SeqAt.canLay_of_shaped sh
          refine ⟨_, rfl, .list (((dueL x1 dp).set lv v).map PyData.int), .list (((dueL x1 dp).set lv v).map PyData.int), .lst (SqL.of zD) (dp_ints _), .lst (SqL.of (s11 _ _ hLD10)) (dp_ints _), sh, sh, ?_⟩
          rw [SeqAt.eqv_refl _ lay]
          exact k _ (sEnd.trans s11)
end
end SG


/-! the law. -/
namespace SG
open PySem PySem.Spec PyProof.Rows L2
/-- what stands behind the kind -/
def Row.snd : Row → Atom
  | .copy x _ => .x x
  | .op x _ _ _ => .x x
  | .call x _ _ => .x x
  | .back a => a
theorem RowAt.two {H : Hp} {p : Addr} {r : Row} (h : RowAt H p r) : ∃ xs, H p = some (.tup (.str r.kind :: r.snd.v :: xs)) := by
  cases r with
  | copy x a => exact ⟨_, h⟩
  | op x s a b => exact ⟨_, h⟩
  | call x g as => exact ⟨_, h.choose_spec.1⟩
  | back a => exact ⟨_, h⟩
theorem snd_in {Pr : List Fn} {fr : Fr} {r : Row} (h : FrOK Pr fr) (hm : r ∈ fr.fn.rows) : r.snd.inE fr.env := by
  cases r with
  | copy x a => exact h.give hm rfl
  | op x s a b => exact h.give hm rfl
  | call x g as => exact h.give hm rfl
  | back a => exact h.atom hm (by simp [Row.atoms, Row.snd])
/-- a step: where the functions lie, how long the stack is, when it is empty -/
theorem step_fn {Pr : List Fn} {st : List Fr} {fr : Fr} (hP : PrOK Pr) (h : StOK Pr (st ++ [fr])) (hm : ∀ g ∈ st ++ [fr], g.fn ∈ Pr) :
    (∀ g ∈ stepA Pr (st ++ [fr]), g.fn ∈ Pr) ∧ (stepA Pr (st ++ [fr])).length ≤ st.length + 2 ∧ (stepA Pr (st ++ [fr]) ≠ [] → resV (st ++ [fr]) = .non) ∧ (stepA Pr (st ++ [fr]) = [] → ∃ r, fr.row = some r ∧ resV (st ++ [fr]) = .int (worth fr.env r.snd)) := by
  have hf := h.last
  obtain ⟨r, hr, hrm⟩ := hf.at_row
  have hfr : fr.fn ∈ Pr := hm fr (by simp)
  have hst : ∀ g ∈ st, g.fn ∈ Pr := fun g hg => hm g (List.mem_append_left _ hg)
  have app : ∀ {g' : Fr}, g'.fn ∈ Pr → ∀ g ∈ st ++ [g'], g.fn ∈ Pr := fun {g'} hg' g hg => by
    rcases List.mem_append.mp hg with q | q
    · exact hst g q
    · rw [List.mem_singleton.mp q]
      exact hg'
  cases r with
  | copy x a =>
    rw [stepA_copy hr]
    exact ⟨app hfr, by simp, fun _ => resV_not hr rfl, fun e => by simp at e⟩
  | op x s a b =>
    rw [stepA_op hr]
    exact ⟨app hfr, by simp, fun _ => resV_not hr rfl, fun e => by simp at e⟩
  | call x g as =>
    obtain ⟨f, hg, hn⟩ := hf.fn.ca x g as hrm
    rw [stepA_call hr hg]
    refine ⟨fun g' hg' => ?_, by simp, fun _ => resV_not hr rfl, fun e => by simp at e⟩
    rcases List.mem_append.mp hg' with q | q
    · exact hm g' q
    · rw [List.mem_singleton.mp q]
      exact (lookF_mem hg).1
  | back a =>
    rw [stepA_back hr]
    rcases List.eq_nil_or_concat st with e | ⟨s1, f1, e⟩
    · subst e
      rw [popA_nil]
      exact ⟨fun g hg => (by cases hg), by simp, fun e => absurd rfl e, fun _ => ⟨_, hr, resV_back hr⟩⟩
    · have e : st = s1 ++ [f1] := by simpa using e
      subst e
      rw [popA_snoc]
      refine ⟨fun g hg => ?_, by simp, fun _ => resV_more _ _ _, fun e => by simp at e⟩
      rcases List.mem_append.mp hg with q | q
      · exact hst g (List.mem_append_left _ q)
      · rw [List.mem_singleton.mp q]
        have e1 : (f1.got (worth fr.env a)).fn = f1.fn := by
          unfold Fr.got
          split
          · split <;> rfl
          · rfl
        rw [e1]
        exact hst f1 (by simp)
theorem Ch.wideR {H H' : Hp} {S T T' : Addr → Prop} (c : Ch H T H' T') : Ch H (fun b => S b ∨ T b) H' (fun b => S b ∨ T' b) :=
  ⟨fun b o e n => c.kp b o e fun t => n (.inr t), fun b h => by
    rcases h with h | h
    · exact .inl (.inl h)
    · rcases c.nw b h with h | h
      · exact .inl (.inr h)
      · exact .inr h⟩
theorem Ch.wideL {H H' : Hp} {S S' T : Addr → Prop} (c : Ch H S H' S') : Ch H (fun b => S b ∨ T b) H' (fun b => S' b ∨ T b) :=
  ⟨fun b o e n => c.kp b o e fun t => n (.inl t), fun b h => by
    rcases h with h | h
    · rcases c.nw b h with h | h
      · exact .inl (.inl h)
      · exact .inr h
    · exact .inl (.inr h)⟩
section
variable {P : Program} {w : World} {K : PySem.W.Frag} {mg : Str → Option Value} {base : Heap}
abbrev sLaw : Stmt := top 37
abbrev nLaw : List Str := ["_law_script", "_law_names_here", "_law_program_here", "_law_args", "_law_walker", "_law_stack", "_law_last", "_law_pick", "_law_xs"]
theorem scLaw : FnScope nLaw ["_law_script"] (defScope sLaw) := ⟨rfl, rfl, rfl, by decide +kernel, rfl, by decide +kernel, by decide +kernel⟩
def spLaw (K : PySem.W.Frag) : Sp := fun vs H Q _ => ∃ (a : Addr) (zs : List Int), vs = [.ref a] ∧ SqL K H a (zs.map V.int) ∧ zs.length ≤ 63 ∧ ∀ H', Q (.bl true) H'
theorem ok_law {f0 C CF : Addr} {fd0 : FuncData} (T : TxtW K C) (F : Fun K "law" "law" sLaw f0 fd0) (cC : C8.Cal P w K mg base 1 "_law_cell_at" (spCellAt K) []) (cS : C8.Cal P w K mg base 1 "_law_stream" spStream []) (cN : C8.Cal P w K mg base 1 "_law_names" spLNames []) (cV : C8.Cal P w K mg base 1 "_law_value_by" spValueBy [])
    (cP : C8.Cal P w K mg base 4 "_law_program" (spLProg K) []) (cW : C8.Cal P w K mg base 1 "_law_worth" spLWorth []) (cF : C8.Cal P w K mg base 2 "_law_frame" spLFrame []) (cM : C8.Cal P w K mg base 3 "_law_moved" spMoved []) (cR : C8.Cal P w K mg base 3 "_law_refused" (spRefused C CF) []) (cFl : C8.Cal P w K mg base 4 "_law_filled" (spFilled C CF) [])
    (cD : C8.Cal P w K mg base 8 "_law_deep" spDeep []) (kT : C8.Mak P w K mg base 6 "TextWalker" C (spTInit C CF) []) (mS : C8.Met P w K mg base 7 C "step" (spStep C CF) []) (mE : C8.Met P w K mg base 1 C "ended" (spEnded C CF) []) (mA : C8.Met P w K mg base 1 C "answer" (spAnswer C CF) []) :
    FnOk P w K mg base CX0 9 f0 fd0 ["_law_script"] (spLaw K) := by
  refine F.ok scLaw (fun vs H Q E h => ?_) (fun cdv A outer s H vs Q E hr h => ?_)
  · obtain ⟨a, zs, rfl, _⟩ := h
    rfl
  · obtain ⟨a, zs, rfl, ha, hz, k⟩ := h
    have hu := hu_of hr
    refine ⟨_, pss_cons (ps_set (i := 1) scLaw.nd rfl (.inl rfl) (C8.pe_c cN hr (by decide) rfl (pa_cons (C8.pe_c cC hr (by decide) rfl (pa_cons (pv 0) (pa_cons pe_int pa_nil))) (pa_cons pe_int pa_nil)))) <|
      pss_cons (ps_set (i := 2) scLaw.nd rfl (.inl rfl) (C8.pe_c cP hr (by decide) rfl (pa_cons (pv 0) (pa_cons (pv 1) pa_nil)))) <|
      pss_cons (ps_if (pt_not (pt_val (C8.pe_c cD hr (by decide) rfl (pa_cons (pv 1) (pa_cons (C8.pe_c cC hr (by decide) rfl (pa_cons (pv 0) (pa_cons pe_int pa_nil))) pa_nil))))) pss_never pss_nil) <|
      pss_cons (ps_set (i := 3) scLaw.nd rfl (.inl rfl) (pe_lst (pa_cons (C8.pe_c cV hr (by decide) rfl (pa_cons (pe_op op_mod (C8.pe_c cC hr (by decide) rfl (pa_cons (pv 0) (pa_cons pe_int pa_nil))) pe_int) pa_nil)) pa_nil))) <|
      pss_cons (ps_set (i := 4) scLaw.nd rfl (.inl rfl) (C8.pe_mk kT hr (by decide) rfl (pa_cons (pv 2) (pa_cons (pv 3) pa_nil)))) <|
      pss_cons (ps_set (i := 5) scLaw.nd rfl (.inl rfl) (pe_lst (pa_cons (C8.pe_c cF hr (by decide) rfl (pa_cons (pe_ix ix_list (pv 2) (pe_un un_neg pe_int) (fun _ _ => rfl)) (pa_cons (pv 3) pa_nil))) pa_nil))) <|
      pss_cons (ps_set (i := 6) scLaw.nd rfl (.inl rfl) pe_int) <|
      C8.pss_cut (ps_for PassesOwn.never rfl (pi_list (C8.pe_c cS hr (by decide) rfl (pa_cons (C8.pe_c cC hr (by decide) rfl (pa_cons (pv 0) (pa_cons pe_int pa_nil))) (pa_cons pe_int pa_nil)))) (pg_name (i := 7) scLaw.nd rfl (.inl rfl)) <|
        pss_cons (ps_set (i := 8) scLaw.nd rfl (.inl rfl) (C8.pe_c cS hr (by decide) rfl (pa_cons (pv 7) (pa_cons pe_int pa_nil)))) <|
        pss_cons (ps_if (pt_not (pt_val (C8.pe_c cFl hr (by decide) rfl (pa_cons (pv 4) (pa_cons (pv 5) (pa_cons (pv 8) (pa_cons (pv 1) pa_nil))))))) pss_never pss_nil) <|
        pss_cons (ps_set (i := 6) scLaw.nd rfl (.inl rfl) (C8.pe_c cW hr (by decide) rfl (pa_cons (pe_ix ix_tup (pe_ix ix_tup (pe_ix ix_tup (pe_ix ix_list (pe_ix ix_list (pv 5) (pe_un un_neg pe_int) (fun _ _ => rfl)) pe_int (fun _ _ => rfl)) pe_int (fun _ _ => rfl)) (pe_ix ix_list (pe_ix ix_list (pv 5) (pe_un un_neg pe_int) (fun _ _ => rfl)) pe_int (fun _ _ => rfl)) (fun _ _ => rfl)) pe_int (fun _ _ => rfl))
          (pa_cons (pe_ix ix_list (pe_ix ix_list (pv 5) (pe_un un_neg pe_int) (fun _ _ => rfl)) pe_int (fun _ _ => rfl)) pa_nil)))) <|
        pss_cons (ps_expr (C8.pe_c cM hr (by decide) rfl (pa_cons (pv 5) (pa_cons (pv 2) pa_nil)))) <|
        pss_cons (ps_expr (C8.pe_mt0 mS hr (by decide) (pv 4))) <|
        pss_one (ps_if (pt_cmpR (op_eqNil hr.units0) (pv 5) (pe_lst pa_nil) (nomark _)) (pss_one ps_break) pss_nil)) <|
      pss_cons (ps_if (pt_cmpR (op_eqNil hr.units0) (pv 5) (pe_lst pa_nil) (nomark _))
        (pss_one (ps_if (PW.pt (pw_or (pt_not (pt_val (C8.pe_c cR hr (by decide) rfl (pa_cons (pv 4) (pa_cons pe_int (pa_cons (pe_ix ix_list (pv 1) pe_int (fun _ _ => rfl)) (pa_cons pe_int pa_nil))))))) (pw_or (pt_cmpR op_isnot_bl (C8.pe_mt0 mE hr (by decide) (pv 4)) pe_bl (nomark _)) (pw_or1 (pt_cmpR op_ne (C8.pe_mt0 mA hr (by decide) (pv 4)) (pv 6) (nomark _)))))) pss_never pss_nil)) pss_nil) <|
      pss_one (ps_ret pe_bl), ?_⟩
    refine ⟨_, rfl, a, 0, zs, rfl, ha, fun c0 => ⟨c0, rfl, fun ln H1 ns s1 nln hln hn hne hok => ?_⟩⟩
    refine ⟨_, rfl, _, rfl, a, ln, zs, ns, rfl, SqL.sm ha s1, hz, hln, hn, hne, hok, fun pl H2 Pr f1 f2 s2 npl hPl hG => ?_⟩
    have ha2 := SqL.sm ha (s1.trans s2)
    have hln2 := s2 _ _ hln
    clear s1 hln nln npl s2 hne hok
    refine ⟨_, rfl, _, rfl, a, 2, zs, rfl, ha2, fun c2 => ⟨ln, c2, ns, rfl, hln2, hn, fun H3 s3 => ⟨true, rfl, iteF ?_⟩⟩⟩
    have ha3 := SqL.sm ha2 s3
    have hln3 := s3 _ _ hln2
    have hPl3 := hPl.at (ts_of s3) fun o e => s3 _ _ e
    clear ha2 hln2 s3 hPl
    refine ⟨_, rfl, a, 1, zs, rfl, ha3, fun c1 => ⟨_, _, rfl, rfl, (by show (0:Int) < _; decide), _, rfl, fun v => ⟨le_line (by show 1 ≤ 100000; decide), fun la hla => ?_⟩⟩⟩
    have v1 := Same.new (o := HO.lst [.int v]) hla
    have hla4 := upd_same (H := H3) (a := la) (o := HO.lst [.int v])
    have ha4 := SqL.sm ha3 v1
    have hln4 := v1 _ _ hln3
    have hPl4 := hPl3.at (ts_of v1) fun o e => v1 _ _ e
    generalize upd H3 la (.lst [.int v]) = H4 at hla4 ha4 hln4 hPl4 ⊢
    clear v1 hla ha3 hln3 hPl3
    -- the walker
    refine ⟨_, rfl, _, rfl, ?_⟩
    intro p dx np ndx npd
    have vv : Same H4 (upd (upd H4 dx (.own p)) p (.ins C dx [])) := (Same.new ndx).trans (Same.new (by rw [upd_ne (Ne.symm npd)]; exact np))
    refine ⟨p, dx, pl, la, Pr, [f1], f2, [v], rfl, upd_same, hPl4.at (ts_of vv) fun o e => vv _ _ e, hG.ok, by rw [hG.eq]; rfl, vv _ _ hla4, by rw [hG.p2]; rfl, fun H5 S0 b5 hS0 hW0 => ⟨rfl, ?_⟩⟩
    have k5 : Same H4 H5 := fun b o e => b5 b o (vv _ _ e) (ne_of_none e np)
    have nS0 : ∀ {b : Addr}, H5 b = none → ¬ S0 b := fun {b} e hs => by
      obtain ⟨o, e1, _⟩ := hW0.sub b hs
      rw [e] at e1
      cases e1
    have nS4 : ∀ {b : Addr} {o : HO}, H4 b = some o → ¬ S0 b := fun {b o} e hs => by
      rcases hS0 b hs with h | h
      · rw [h, np] at e
        cases e
      · have := vv _ _ e
        rw [h] at this
        cases this
    have hPl5 := hPl4.at (ts_of k5) fun o e => k5 _ _ e
    obtain ⟨pvs, q1, q2, q3⟩ := id hPl4
    have nSpl : ¬ S0 pl := nS4 q1
    have nSln : ¬ S0 ln := nS4 hln4
    have ha5 := SqL.sm ha4 k5
    have hln5 := k5 _ _ hln4
    have hla5 := k5 _ _ hla4
    clear vv b5 hS0 q1 q2 q3 pvs ha4 hln4 hla4 hPl4 k5 nS4
    -- the law's stack
    obtain ⟨pvs, q1, q2, q3⟩ := id hPl5
    have hlen2 : Pr.length = 2 := by rw [hG.eq]; rfl
    obtain ⟨a2, a2e, a2f⟩ := q3 1 f2 (by rw [hG.eq]; rfl)
    obtain ⟨pv0, epv⟩ : ∃ pv0, pvs = pv0 ++ [.ref a2] := by
      refine ⟨pvs.take 1, ?_⟩
      have h1 := take_snoc a2e
      rw [List.take_of_length_le (by omega)] at h1
      exact h1
    have hf2 : FnOK Pr f2 := hG.ok.fns f2 (by rw [hG.eq]; simp)
    refine ⟨_, rfl, 1, rfl, pl, _, _, _, rfl, rfl, SqL.of q1, (by rw [epv]; exact atI_last _ _), _, rfl, ?_⟩
    refine ⟨a2, la, f2, [v], rfl, a2f, hf2.small, hla5, by rw [hG.p2]; rfl, fun y d H6 s6 ny nd oy dc => ⟨le_line (by show 1 ≤ 100000; decide), fun L hL => ?_⟩⟩
    have vL := Same.new (o := HO.lst [.ref y]) hL
    have nL5 : H5 L = none := s6.free hL
    have s7 : Same H5 (upd H6 L (.lst [.ref y])) := s6.trans vL
    have nLy : L ≠ y := fun z => by rw [z, oy] at hL; cases hL
    have nyd : y ≠ d := fun z => by
      obtain ⟨kv, e1, _⟩ := dc
      rw [z, e1] at oy
      cases oy
    have W0 : LIn (upd H6 L (.lst [.ref y])) L (fun b => b = L ∨ b = y ∨ b = d) [⟨y, a2, d, newA f2 [v]⟩] := by
      have at0 : ∀ {i : Nat} {x : LF}, ([⟨y, a2, d, newA f2 [v]⟩] : List LF)[i]? = some x → i = 0 ∧ x = ⟨y, a2, d, newA f2 [v]⟩ := fun {i x} h => by
        cases i with
        | zero => exact ⟨rfl, (Option.some.inj h).symm⟩
        | succ n => cases h
      refine ⟨upd_same, fun i x hx => ?_, fun i j x z h1 h2 hn => ?_, fun i x hx => ?_, .inl rfl, fun b hb => ?_⟩
      · obtain ⟨_, rfl⟩ := at0 hx
        exact ⟨vL _ _ oy, a2f.mono (ts_of s7), dc.at fun o e => vL _ _ e, .inr (.inl rfl), .inr (.inr rfl)⟩
      · exact absurd ((at0 h1).1.trans (at0 h2).1.symm) hn
      · obtain ⟨_, rfl⟩ := at0 hx
        exact nLy.symm
      · rcases hb with rfl | rfl | rfl
        · exact ⟨_, upd_same, rfl⟩
        · exact ⟨_, vL _ _ oy, rfl⟩
        · obtain ⟨kv, e1, _⟩ := dc
          exact ⟨_, vL _ _ e1, rfl⟩
    have hW7 := hW0.keep (KeepS.of_same s7)
    have dis0 : ∀ b, S0 b → ¬ (b = L ∨ b = y ∨ b = d) := fun b hs hb => by
      rcases hb with rfl | rfl | rfl
      · exact nS0 nL5 hs
      · exact nS0 ny hs
      · exact nS0 nd hs
    have nT : ∀ {b : Addr} {o : HO}, H5 b = some o → ¬ (b = L ∨ b = y ∨ b = d) := fun {b o} e hb => by
      rcases hb with rfl | rfl | rfl
      · rw [nL5] at e; cases e
      · rw [ny] at e; cases e
      · rw [nd] at e; cases e
    have nTpl := nT q1
    have nTln := nT hln5
    have ha7 := SqL.sm ha5 s7
    have hln7 := s7 _ _ hln5
    have hPl7 := hPl5.at (ts_of s7) fun o e => s7 _ _ e
    have hst0 : StOK Pr [newA f2 [v]] := ⟨fun fr hf => by rw [List.mem_singleton.mp hf]; exact newA_ok hf2 (by rw [hG.p2]; rfl), fun i fr hi => by have : i + 1 < 1 := hi; omega, by show 1 ≤ 1000; decide⟩
    generalize (upd H6 L (.lst [.ref y])) = H7 at W0 hW7 ha7 hln7 hPl7 ⊢
    clear s7 vL hL dc oy nyd nLy s6 nT ha5 hln5 hPl5 hla5 nL5 nd ny nS0 hW0 q1 q2 q3 a2e a2f epv
    have key : ∃ T0 : Addr → Prop, LIn H7 L T0 [⟨y, a2, d, newA f2 [v]⟩] ∧ (∀ b, S0 b → ¬ T0 b) ∧ ¬ T0 pl ∧ ¬ T0 ln := ⟨_, W0, dis0, nTpl, nTln⟩
    clear W0 dis0 nTpl nTln
    obtain ⟨T0, W0, dis0, nTpl, nTln⟩ := key
    refine ⟨fun σ' H' => ∃ (last : Int) (o7 o8 : Option V) (S T : Addr → Prop) (st : List Fr) (res : V), σ' = [some (.ref a), some (.ref ln), some (.ref pl), some (.ref la), some (.ref p), some (.ref L), some (.int last), o7, o8] ∧ WalkerAt C CF Pr H' p S st res ∧ LawAt H' L T st ∧ (st = [] → res = .int last) ∧ H' ln = some (.lst (ns.map V.str)), ?_, ?_⟩
    · refine ⟨_, rfl, a, 0, zs, rfl, ha7, fun c3 => ⟨c3, 24, rfl, by decide, fun lp H8 ps s8 nlp hlp hpn _ => ?_⟩⟩
      have hW8 := hW7.keep (KeepS.of_same s8)
      have hL8 : LawAt H8 L T0 [newA f2 [v]] := ⟨_, W0.keep (KeepS.of_same s8), rfl⟩
      have hln8 := s8 _ _ hln7
      have hPl8 := hPl7.at (ts_of s8) fun o e => s8 _ _ e
      have nOlp : ¬ (S0 lp ∨ T0 lp) := fun h => by
        rcases h with h | h
        · obtain ⟨o, e1, _⟩ := hW7.sub lp h
          rw [nlp] at e1
          cases e1
        · obtain ⟨o, e1, _⟩ := W0.sub lp h
          rw [nlp] at e1
          cases e1
      have nOln : ¬ (S0 ln ∨ T0 ln) := fun h => h.elim nSln nTln
      have nOpl : ¬ (S0 pl ∨ T0 pl) := fun h => h.elim nSpl nTpl
      have subO : ∀ b, (S0 b ∨ T0 b) → ∃ o, H8 b = some o ∧ ownB o = true := fun b h => h.elim (hW8.sub b) (hL8.sub b)
      clear hW7 W0 hln7 hPl7 ha7 nSln nTln nSpl nTpl
      refine ⟨lp, rfl, ⟨_, SqL.of hlp⟩, for_list (K := K) (a := lp) (xs := ps.map V.int) (fun i σ H' => ∃ (last : Int) (o7 o8 : Option V) (S T : Addr → Prop) (st : List Fr), σ = [some (.ref a), some (.ref ln), some (.ref pl), some (.ref la), some (.ref p), some (.ref L), some (.int last), o7, o8] ∧
          Ch H8 (fun b => S0 b ∨ T0 b) H' (fun b => S b ∨ T b) ∧ (∀ b, S b → ¬ T b) ∧ WalkerAt C CF Pr H' p S st .non ∧ LawAt H' L T st ∧ StOK Pr st ∧ (∀ fr ∈ st, fr.fn ∈ Pr) ∧ st ≠ [] ∧ st.length ≤ i + 1)
        ⟨0, none, none, S0, T0, _, rfl, Ch.refl, dis0, hW8, hL8, hst0, fun fr hf => by rw [List.mem_singleton.mp hf]; show f2 ∈ Pr; rw [hG.eq]; simp, by simp, Nat.le_refl _⟩ (fun i σ H' _ ⟨_, _, _, _, _, _, _, c, _⟩ => SqL.of (c.kp _ _ hlp nOlp)) ?_ ?_⟩
      · rintro i x σ H' hi ⟨last, o7, o8, S, T, st, rfl, cc, dis, hW, hL, hst, hmem, hne, hlen⟩
        obtain ⟨pick, hpk, rfl⟩ := int_at hi
        have hil := (List.getElem?_eq_some_iff.mp hpk).1
        have hpos : 0 < st.length := by
          cases st with
          | nil => exact absurd rfl hne
          | cons a b => exact Nat.succ_pos _
        refine ⟨_, rfl, pick, 4, rfl, by decide, fun lx Ha xs sa nlx hlx hxn _ => ?_⟩
        have ca := cc.sm sa
        refine ⟨_, rfl, _, rfl, _, rfl, _, rfl, Pr, p, L, lx, ln, S, T, st, .non, xs, ns, rfl, hW.keep (KeepS.of_same sa), hL.keep (KeepS.of_same sa), dis, by omega, hpos, fun fr hf => hG.nm _ (hmem fr hf), hlx, hxn, ca.kp _ _ hln8 nOln, hn, fun Hb st' cb hst' hWb hLb => ⟨true, rfl, iteF ?_⟩⟩
        have cb' := ca.trans cb
        have facts : StOK Pr st' ∧ (∀ fr ∈ st', fr.fn ∈ Pr) ∧ st'.length = st.length := by
          rcases hst' with rfl | ⟨j, fr', x', v', hfr', rfl⟩
          · exact ⟨hst, hmem, rfl⟩
          · refine ⟨hst.putAt hfr' x' v', fun g hg => ?_, List.length_set⟩
            rcases List.mem_or_eq_of_mem_set hg with h | h
            · exact hmem g h
            · rw [h]
              exact hmem fr' (List.mem_of_getElem? hfr')
        clear hst' hst hmem hne cc ca cb hlx hxn nlx sa hW hL
        obtain ⟨hstb, hmemb, hlenb⟩ := facts
        obtain ⟨B, fr, est⟩ : ∃ B fr, st' = B ++ [fr] := by
          rcases List.eq_nil_or_concat st' with e | ⟨s1, g1, e⟩
          · rw [e] at hlenb
            rw [← hlenb] at hpos
            exact absurd hpos (by decide)
          · exact ⟨s1, g1, by simpa using e⟩
        subst est
        have hBl : B.length + 1 = st.length := by rw [← hlenb, List.length_append]; rfl
        have hf := hstb.last
        obtain ⟨r, hr1, hrm⟩ := hf.at_row
        obtain ⟨ls, Wl, el⟩ := id hLb
        obtain ⟨ls0, x, rfl, el0, rfl⟩ := lmap_snoc el
        have elist : (ls0 ++ [x]).map (fun x => V.ref x.y) = ls0.map (fun x => V.ref x.y) ++ [V.ref x.y] := by rw [List.map_append]; rfl
        have li := Wl.li
        rw [elist] at li
        have q := Wl.ok ls0.length x List.getElem?_concat_length
        obtain ⟨qa, ra, a1, a2', rvs, r1, r2, r3⟩ := id q.fn
        obtain ⟨rp, r4, hrow⟩ := r3 x.fr.at_ _ hr1
        obtain ⟨txs, htx⟩ := hrow.two
        -- last
        refine ⟨_, rfl, 1, rfl, L, _, _, _, rfl, rfl, SqL.of li, atI_last _ _, x.y, _, _, _, rfl, rfl, SqL.of q.oy, atI_nat (j := 0) rfl, x.f, _, _, _, rfl, rfl, SqT.of a1, atI_nat (j := 3) rfl, ?_⟩
        refine ⟨_, rfl, 1, rfl, L, _, _, _, rfl, rfl, SqL.of li, atI_last _ _, x.y, _, _, _, rfl, rfl, SqL.of q.oy, atI_nat (j := 1) rfl, ra, rvs, _, _, rfl, rfl, SqT.of r1, atI_nat r4, rp, _, _, _, rfl, rfl, SqT.of htx, atI_nat (j := 1) rfl, ?_⟩
        refine ⟨_, rfl, 1, rfl, L, _, _, _, rfl, rfl, SqL.of li, atI_last _ _, x.y, _, _, _, rfl, rfl, SqL.of q.oy, atI_nat (j := 2) rfl, ?_⟩
        refine ⟨x.d, r.snd, x.fr.env, rfl, q.dc, snd_in hf hrm, ?_⟩
        -- moved
        have hPlb := hPl8.at (fun b xs e => cb'.kp b _ e fun h => by
          obtain ⟨o, e1, e2⟩ := subO b h
          rw [e] at e1
          cases e1
          cases e2) fun o e => cb'.kp _ _ e nOpl
        refine ⟨_, rfl, _, rfl, L, pl, T, B, x.fr, Pr, f1, f2, rfl, hLb, hstb, hG, hPlb, hmemb x.fr (by simp), by omega, fun Hc T' ct hLc => ?_⟩
        have hWc := hWb.keep (ct.keepS hLb.sub dis)
        have dis' : ∀ b, T' b → ¬ S b := fun b ht hs => by
          rcases ct.nw b ht with h | h
          · exact dis b hs h
          · obtain ⟨o, e1, _⟩ := hWb.sub b hs
            rw [h] at e1
            cases e1
        obtain ⟨dx', ls', ds, fd, l, pfs, Ww, ew⟩ := id hWc
        refine ⟨_, rfl, p, dx', _, rfl, Ww.ob, w_no _ _ _ _ _ (by decide +kernel) (by decide +kernel) (by decide +kernel) (by decide +kernel) (by decide +kernel) (by decide +kernel), ?_⟩
        refine ⟨Pr, p, S, B, x.fr, rfl, hWc, hstb, hG.ok, by omega, fun Hd S' cs hWd => ?_⟩
        have hLd := hLc.keep (cs.keepS hWc.sub dis')
        have dis'' : ∀ b, S' b → ¬ T' b := fun b hs ht => by
          rcases cs.nw b hs with h | h
          · exact dis' b ht h
          · obtain ⟨o, e1, _⟩ := hLc.sub b ht
            rw [h] at e1
            cases e1
        have cd := (cb'.trans ct.wideR).trans cs.wideL
        obtain ⟨sf1, sf2, sf3, sf4⟩ := step_fn hG.ok hstb hmemb
        have hstd := hstb.step hG.ok (by omega)
        obtain ⟨ls2, Wl2, el2⟩ := id hLd
        refine ⟨_, rfl, Nat.zero_le _, fun bb hbb => ?_⟩
        have sb := Same.new (o := HO.lst []) hbb
        refine ⟨L, bb, _, rfl, rfl, SqL.of (sb _ _ Wl2.li), SqL.of upd_same, _, rfl, ?_⟩
        have hWe := hWd.keep (KeepS.of_same sb)
        have hLe := hLd.keep (KeepS.of_same sb)
        have ce := cd.sm sb
        cases ls2 with
        | nil =>
          have es : stepA Pr (B ++ [x.fr]) = [] := by rw [← el2]; rfl
          obtain ⟨r', hr', hres⟩ := sf4 es
          rw [hr1] at hr'
          cases hr'
          refine iteT ⟨_, _, _, S', T', _, _, rfl, hWe, hLe, fun _ => hres, ce.kp _ _ hln8 nOln⟩
        | cons g gs =>
          have hne2 : stepA Pr (B ++ [x.fr]) ≠ [] := by rw [← el2]; simp
          rw [sf3 hne2] at hWe
          exact iteF ⟨_, _, _, S', T', _, rfl, ce, dis'', hWe, hLe, hstd, sf1, hne2, by omega⟩
      · rintro σ H' ⟨last, o7, o8, S, T, st, rfl, cc, dis, hW, hL, hst, hmem, hne, hlen⟩
        exact ⟨last, o7, o8, S, T, st, .non, rfl, hW, hL, fun e => absurd e hne, cc.kp _ _ hln8 nOln⟩
    · rintro σ' H' ⟨last, o7, o8, S, T, st, res, rfl, hW, hL, hres, hln'⟩
      obtain ⟨ls2, Wl2, el2⟩ := id hL
      refine ⟨_, rfl, Nat.zero_le _, fun bb hbb => ?_⟩
      have sb := Same.new (o := HO.lst []) hbb
      refine ⟨L, bb, _, rfl, rfl, SqL.of (sb _ _ Wl2.li), SqL.of upd_same, _, rfl, ?_⟩
      have hWe := hW.keep (KeepS.of_same sb)
      have hlne := sb _ _ hln'
      cases ls2 with
      | cons g gs => exact iteF (k _)
      | nil =>
        have es : st = [] := by rw [← el2]; rfl
        have er := hres es
        subst er
        obtain ⟨m0, hm0⟩ : ∃ m0, (ns.map V.str)[0]? = some (.str m0) := ⟨ns[0]'(by omega), by rw [List.getElem?_map, List.getElem?_eq_getElem (by omega)]; rfl⟩
        obtain ⟨dx', ls', ds, fd, l, pfs, Ww, ew⟩ := id hWe
        refine iteT ⟨_, rfl, rixL rfl (SqL.of hlne) hm0 ⟨Pr, p, S, st, .int last, 0, m0, 3, rfl, hWe, .inr (.inl (by rw [es]; exact Int.le_refl _)), true, rfl, iteF ?_⟩⟩
        refine ⟨_, rfl, p, dx', _, rfl, Ww.ob, w_no _ _ _ _ _ (by decide +kernel) (by decide +kernel) (by decide +kernel) (by decide +kernel) (by decide +kernel) (by decide +kernel), Pr, p, S, st, .int last, rfl, hWe, _, true, rfl, rfl, false, congrArg V.bl (by simp), iteF ?_⟩
        refine ⟨_, rfl, p, dx', _, rfl, Ww.ob, w_no _ _ _ _ _ (by decide +kernel) (by decide +kernel) (by decide +kernel) (by decide +kernel) (by decide +kernel) (by decide +kernel), Pr, p, S, st, .int last, rfl, hWe, _, rfl, rfl, false, congrArg V.bl (by simp), iteF ?_⟩
        exact k _
end
end SG


/-! what the text says, joined. -/
namespace SG
open PySem PySem.Spec PyProof.Rows L2
section
variable {w : World} {K : PySem.W.Frag} {h : Heap} {mg : Str → Option Value}
theorem defG_mk {x : Str} {st : Stmt} {f : Addr} {oc : Value} {od an : Option Addr} {osl : Array (Option Value)} {kV doc pm cdv ct : Value} (X : K.In h) (G : h.Ns mainGlobals mg) (a : PySem.W.nsIn K mainGlobals x = some (some (.ref f)))
    (l : K.lookup f = some ⟨oc, od, .func (PySem.W.fnOf x x (defArgs st) (defBody st) (defScope st) .none kV doc pm an cdv ct), osl⟩) (c : PySem.W.codeIn K cdv x = true) (k : PySem.W.keepIn K (.ref f) = true) : DefG K mg x st :=
  ⟨f, _, fun_mk l c k, PySem.W.mg_of X G a⟩
theorem methG_mk {C : Addr} {m qual : Str} {st : Stmt} {f : Addr} {oc : Value} {od an : Option Addr} {osl : Array (Option Value)} {kV doc pm cdv ct : Value} (a : PySem.W.findIn K (.ref C) m = some (some (.ref f))) (i : PySem.W.isFn K (.ref f) = true)
    (l : K.lookup f = some ⟨oc, od, .func (PySem.W.fnOf m qual (defArgs st) (defBody st) (defScope st) .none kV doc pm an cdv ct), osl⟩) (c : PySem.W.codeIn K cdv qual = true) (k : PySem.W.keepIn K (.ref f) = true) : MethG K C m qual st :=
  ⟨f, _, fun_mk l c k, ⟨a, i, k⟩⟩
theorem kit_same {C : Addr} : PySem.W.kitOne K (.ref C) (.ref C) = some true := by
  unfold PySem.W.kitOne
  rw [if_pos (beq_self_eq_true _)]
theorem kit_ref {C D : Addr} {b : Bool} (hne : C ≠ D) (hd : PySem.W.hasDictIn K D = true) (ht : PySem.W.typeIn K (.ref D) = some (.type "type")) (hs : PySem.W.subIn K (.ref C) (.ref D) = some b) : PySem.W.kitOne K (.ref C) (.ref D) = some b := by
  obtain ⟨cd, hc, _⟩ := PySem.W.any_some hd
  unfold PySem.W.kitOne PySem.W.kitCls
  rw [if_neg (fun h => hne (Value.ref.inj (beq_iff_eq.mp h)))]
  have e2 : ((PySem.W.clsIn K D).isSome && PySem.W.typeIn K (.ref D) == some (.type "type")) = true := by rw [hc, ht] <;> rfl
  show (if ((PySem.W.clsIn K D).isSome && PySem.W.typeIn K (.ref D) == some (.type "type")) = true then PySem.W.subIn K (.ref C) (.ref D) else none) = some b
  rw [if_pos e2]
  exact hs
theorem kit_val {C : Addr} {b : Bool} (hs : PySem.W.subIn K (.ref C) (.type "ValueError") = some b) : PySem.W.kitOne K (.ref C) (.type "ValueError") = some b := by
  unfold PySem.W.kitOne PySem.W.kitCls
  rw [if_neg (fun h => by cases beq_iff_eq.mp h)]
  show (if PySem.W.kitMeta "ValueError" = true then PySem.W.subIn K (.ref C) (.type "ValueError") else none) = some b
  rw [if_pos (by decide +kernel)]
  exact hs
/-- a class, its __init__ -/
def MkG (K : PySem.W.Frag) (C : Addr) (qual : Str) (st : Stmt) : Prop := ∃ (f : Addr) (fd : FuncData), Fun K "__init__" qual st f fd ∧ Mk K C f
theorem mkG_mk {C : Addr} {qual : Str} {st : Stmt} {f : Addr} {oc : Value} {od an : Option Addr} {osl : Array (Option Value)} {kV doc pm cdv ct : Value} (m : PySem.W.makesIn K C = true) (a : PySem.W.findIn K (.ref C) "__init__" = some (some (.ref f))) (i : PySem.W.isFn K (.ref f) = true) (kC : PySem.W.keepIn K (.ref C) = true)
    (l : K.lookup f = some ⟨oc, od, .func (PySem.W.fnOf "__init__" qual (defArgs st) (defBody st) (defScope st) .none kV doc pm an cdv ct), osl⟩) (c : PySem.W.codeIn K cdv qual = true) (k : PySem.W.keepIn K (.ref f) = true) : MkG K C qual st :=
  ⟨f, _, fun_mk l c k, ⟨m, a, i, kC⟩⟩
/-- the base's __init__, called off the base -/
def BaseG (K : PySem.W.Frag) (mg : Str → Option Value) : Prop := ∃ (CW fw : Addr) (fdw : FuncData), mg "Walker" = some (.ref CW) ∧ ClX.CRead K CW (.type "type") ∧ ClX.CVal K CW (.type "type") "__init__" (.ref fw) (.ref fw) ∧ Fun K "__init__" "Walker.__init__" sWInit fw fdw
theorem baseG_mk {CW f : Addr} {oc : Value} {od an : Option Addr} {osl : Array (Option Value)} {kV doc pm cdv ct : Value} (X : K.In h) (G : h.Ns mainGlobals mg) (a : PySem.W.nsIn K mainGlobals "Walker" = some (some (.ref CW))) (r1 : PySem.W.readsIn K CW (.type "type") = true) (r2 : PySem.W.specialIn K (.ref CW) "__getattribute__" = some (some (.builtin "type.__getattribute__")))
    (v : PySem.W.findCls K (.ref CW) (.type "type") "__init__" = some (.val (.ref f)))
    (l : K.lookup f = some ⟨oc, od, .func (PySem.W.fnOf "__init__" "Walker.__init__" (defArgs sWInit) (defBody sWInit) (defScope sWInit) .none kV doc pm an cdv ct), osl⟩) (c : PySem.W.codeIn K cdv "Walker.__init__" = true) (k : PySem.W.keepIn K (.ref f) = true) : BaseG K mg :=
  ⟨CW, f, _, PySem.W.mg_of X G a, ⟨r1, r2⟩, ⟨v, rfl⟩, fun_mk l c k⟩
theorem gtup_mk {x : Str} {xs : List V} {a : Addr} {od : Option Addr} {its : Array Value} {n : Nat} {osl : Array (Option Value)} (X : K.In h) (G : h.Ns mainGlobals mg) (e : PySem.W.nsIn K mainGlobals x = some (some (.ref a))) (l : K.lookup a = some ⟨.type "tuple", od, .seq its n, osl⟩) (hs : its.size ≤ 1000) (v : Vals xs its.toList) : GTup K mg x xs :=
  ⟨a, PySem.W.mg_of X G e, fun H => .inr ⟨_, its, n, l, rfl, rfl, le_line (by omega), v⟩⟩
end
theorem all_mk {l : PySem.W.OpenLaw} {w : World} {K : PySem.W.Frag} {mg : Str → Option Value} {fa C CF CN CG CE : Addr} {tW : Tok} (hfa : mg "law" = some (.ref fa))
    (Dgives : DefG K mg "gives" sGives)
    (Datomsof : DefG K mg "atoms_of" sAtoms)
    (Dreads : DefG K mg "reads" sReads)
    (Dnamesof : DefG K mg "names_of" sNames)
    (Dopeners : DefG K mg "openers" sOpeners)
    (Dclosers : DefG K mg "closers" sClosers)
    (Dlanding : DefG K mg "landing" sLanding)
    (Dways : DefG K mg "ways" sWays)
    (Dvalue : DefG K mg "value" sValue)
    (Dlawcellat : DefG K mg "_law_cell_at" sCellAt)
    (Dlawstream : DefG K mg "_law_stream" sStream)
    (Dlawnames : DefG K mg "_law_names" sLNames)
    (Dlawvalueby : DefG K mg "_law_value_by" sValueBy)
    (Dlawatom : DefG K mg "_law_atom" sAtom)
    (Dlawrow : DefG K mg "_law_row" sLRow)
    (Dlawprogram : DefG K mg "_law_program" sLProg)
    (Dlawworth : DefG K mg "_law_worth" sLWorth)
    (Dlawparts : DefG K mg "_law_parts" sParts)
    (Dlawframe : DefG K mg "_law_frame" sLFrame)
    (Dlawmoved : DefG K mg "_law_moved" sMoved)
    (Dlawrefused : DefG K mg "_law_refused" sRefused)
    (Dlawstands : DefG K mg "_law_stands" sStands)
    (Dlawfilled : DefG K mg "_law_filled" sFilled)
    (Dlawdeep : DefG K mg "_law_deep" sDeep)
    (Dlaw : DefG K mg "law" sLaw)
    (Mworthof : MethG K CF "worth_of" "Frame.worth_of" sWorth)
    (Mgoon : MethG K CF "go_on" "Frame.go_on" sGo)
    (Madvance : MethG K C "advance" "TextWalker.advance" sAdvance)
    (Mdone : MethG K C "done" "TextWalker.done" sDone)
    (Mgoneback : MethG K C "gone_back" "TextWalker.gone_back" sBack)
    (Mframes : MethG K C "frames" "TextWalker.frames" sFrames)
    (Mframeof : MethG K C "frame_of" "TextWalker.frame_of" sFrameOf)
    (Mtold : MethG K C "told" "TextWalker.told" sTold)
    (Mfill : MethG K C "fill" "TextWalker.fill" sFill)
    (Mended : MethG K C "ended" "Walker.ended" sEnded)
    (Manswer : MethG K C "answer" "Walker.answer" sAnswer)
    (Mstep : MethG K C "step" "Walker.step" sStep)
    (MF : MkG K CF "Frame.__init__" sFInit) (MT : MkG K C "TextWalker.__init__" sTInit) (MB : BaseG K mg) (gF : mg "Frame" = some (.ref CF)) (gT : mg "TextWalker" = some (.ref C))
    (TF : TxtF K CF) (TW : TxtW K C) (TN : TxtN K mg CN) (TR : TxtR K mg CN CG CE) (gG : GTup K mg "GIVING" kGiving) (gA : GTup K mg "ASKING" kAsking) (mW : mg "WIDE" = some (.int wide tW))
    (zlen : mg "len" = none) (zisinstance : mg "isinstance" = none) (zstr : mg "str" = none) (zint : mg "int" = none) (zlist : mg "list" = none) (ztuple : mg "tuple" = none) (zzip : mg "zip" = none) (zenumerate : mg "enumerate" = none) (zrange : mg "range" = none) (zbool : mg "bool" = none) (zValueError : mg "ValueError" = none) :
    ∃ fd : FuncData, (∀ (s : Shared) (v : Value), BindsTo s fd ⟨[v], []⟩ [("_law_script", v)]) ∧ ∀ base : Heap, FnOk l.prog w K mg base CX0 9 fa fd ["_law_script"] (spLaw K) := by
  obtain ⟨fL, fdL, FL, mL⟩ := Dlaw
  have e := hfa.symm.trans mL
  cases e
  refine ⟨fdL, fun s v => ?_, fun base => ?_⟩
  · obtain ⟨oc, od, kV, doc, pm, an, cdv, ct, osl, rfl, lk, hcd⟩ := FL.ex
    exact .of_eq rfl
  · have c1 := c_gives (P := l.prog) (w := w) (base := base) Dgives gG
    have c2 := c_atoms (P := l.prog) (w := w) (base := base) Datomsof gA zlist
    have c3 := c_reads Dreads c2 zisinstance zstr
    have c4 := c_names Dnamesof c1 c3 zlist
    have c5 := c_openers (P := l.prog) (w := w) (base := base) Dopeners zenumerate
    have c6 := c_closers (P := l.prog) (w := w) (base := base) Dclosers
    have c7 := c_landing (P := l.prog) (w := w) (base := base) Dlanding
    have c8 := c_ways Dways c5 c6 c7 zenumerate
    have c9 := c_value (P := l.prog) (w := w) (base := base) Dvalue mW zint
    obtain ⟨fF, fdF, FF, MkF⟩ := MF
    obtain ⟨fT, fdT, FT, MkT⟩ := MT
    obtain ⟨CW, fw, fdw, gW, crW, cvW, FW⟩ := MB
    have kF : C8.Mak l.prog w K mg base 4 "Frame" CF (spFInit CF) [] := ⟨fF, fdF, ["self", "function", "args"], [], MkF, ok_finit FF TF c8 c4 zzip, gF, FF.binds fun _ _ _ _ _ _ us hl => match us, hl with | [_, _, _], _ => rfl, .nil⟩
    have kT : C8.Mak l.prog w K mg base 6 "TextWalker" C (spTInit C CF) [] := ⟨fT, fdT, ["self", "program", "args"], [], MkT, ok_tinit FT TW gW crW cvW FW kF, gT, FT.binds fun _ _ _ _ _ _ us hl => match us, hl with | [_, _, _], _ => rfl, .nil⟩
    have m1 := m_worth (P := l.prog) (w := w) (base := base) TF Mworthof zisinstance zstr
    have m2 := m_go (P := l.prog) (w := w) (mg := mg) (base := base) TF Mgoon
    have m3 := m_done TW.cl TF Mdone c9 m1
    have m4 := m_ended (CF := CF) (P := l.prog) (w := w) (mg := mg) (base := base) TW Mended
    have m5 := m_answer (CF := CF) (P := l.prog) (w := w) (mg := mg) (base := base) TW Manswer
    have m6 := m_back TW TF Mgoneback m2
    have m7 := m_frames (P := l.prog) (w := w) (mg := mg) (base := base) TW TF Mframes
    have m8 := m_frameof (P := l.prog) (w := w) (base := base) TW TF Mframeof zlen
    have m9 := m_told TW TF Mtold m8
    have m10 := m_fill TW TF Mfill m8
    have x1 := x_fill (P := l.prog) (w := w) (base := base) TW TF TN Mfill Mframeof zlen
    have m11 := m_advance TW TF Madvance kF m1 m2 m6 m3
    have m12 := m_step TW Mstep m4 m11
    have l1 := c_cellat (P := l.prog) (w := w) (base := base) Dlawcellat zlen
    have l2 := c_stream (P := l.prog) (w := w) (base := base) Dlawstream zrange
    have l3 := c_lnames (P := l.prog) (w := w) (base := base) Dlawnames zrange
    have l4 := c_valueby (P := l.prog) (w := w) (base := base) Dlawvalueby
    have l5 := c_atom Dlawatom l4 zlen
    have l6 := c_lrow Dlawrow l2 l5
    have l7 := c_lprog Dlawprogram l1 l2 l5 l6 zlen ztuple
    have l8 := c_lworth (P := l.prog) (w := w) (base := base) Dlawworth zisinstance zstr
    have l9 := c_parts (P := l.prog) (w := w) (base := base) Dlawparts zlist
    have l10 := c_lframe Dlawframe l9 zisinstance zstr zzip
    have l11 := c_moved Dlawmoved l10 l8 zint
    have l12 := c_refused Dlawrefused TR x1 zisinstance zstr zint zValueError
    have l13 := c_stands Dlawstands m7 m9 zrange zlen zisinstance zint zbool
    have l14 := c_filled (CN := CN) Dlawfilled l4 l12 l13 m10 zlen
    have l15 := c_deep TW Dlawdeep l2 l4 kT m12 m10 m9 zrange
    exact ok_law TW FL l1 l2 l3 l4 l7 l8 l10 l11 l12 l14 l15 kT m12 m4 m5
theorem walk {l : PySem.W.OpenLaw} {q : Program} {loose : List Str} {XP : (Str → Option Value) → Heap → Prop} {YP : World → Heap → Prop} {d : DefRec} {K : Params → PySem.W.Frag} (hn : l.most = some 63) (hdf : d.params.defaults = [])
    (hY : ∀ (w : World) (h : Heap), YP w h → (K w.params).In h)
    (F : ∀ (w : World) (mg : Str → Option Value) (fa : Addr) (h : Heap), (K w.params).In h → h.Ns mainGlobals mg → mg d.name = some (.ref fa) →
      ∃ fd : FuncData, (∀ (s : Shared) (u : Value), BindsTo s fd ⟨[u], []⟩ [("_law_script", u)]) ∧ ∀ base : Heap, FnOk l.prog w (K w.params) mg base CX0 9 fa fd ["_law_script"] (spLaw (K w.params))) :
    PySem.W.WalkO q loose XP YP l.row.toRowW d [] (fun f vs => PySem.call f vs) :=
  L2.walk_of (n := 63) (k := 9) (x := "_law_script") (CX := fun _ => CX0) (sp := fun w => spLaw (K w.params)) hn (by decide) hdf ⟨rfl, by decide, by decide⟩ hY (fun w mg fa h KX G hm => let ⟨fd, h1, h2⟩ := F w mg fa h KX G hm; ⟨fd, h1, fun base _ _ => h2 base⟩) (fun _ _ a ns hl _ hS => ⟨a, ns, rfl, hS, hl, fun _ => rfl⟩) fun _ _ _ _ _ z => z
end SG


/-! the end. -/
open PySem PySem.W PyProof.Rows
set_option maxRecDepth 100000 in
set_option maxHeartbeats 0 in
theorem PySem.Challenge.cw_stopglass_k26_values_set_by_hand_holds : PySem.Challenge.rw_stopglass_k26_values_set_by_hand.Holds := by
  w_on; o_law; k_head; (case hw => w_witness2)
  k_fill
  refine SG.walk (l := PySem.Challenge.rw_stopglass_k26_values_set_by_hand) rfl rfl (fun w h Y => PySem.W.kIn_of Y) ?F
  case F =>
    intro w mg fa h KX G hmg
    refine' SG.all_mk hmg
      (SG.defG_mk KX G ?aDgives ?lDgives ?cDgives ?kDgives)
      (SG.defG_mk KX G ?aDatomsof ?lDatomsof ?cDatomsof ?kDatomsof)
      (SG.defG_mk KX G ?aDreads ?lDreads ?cDreads ?kDreads)
      (SG.defG_mk KX G ?aDnamesof ?lDnamesof ?cDnamesof ?kDnamesof)
      (SG.defG_mk KX G ?aDopeners ?lDopeners ?cDopeners ?kDopeners)
      (SG.defG_mk KX G ?aDclosers ?lDclosers ?cDclosers ?kDclosers)
      (SG.defG_mk KX G ?aDlanding ?lDlanding ?cDlanding ?kDlanding)
      (SG.defG_mk KX G ?aDways ?lDways ?cDways ?kDways)
      (SG.defG_mk KX G ?aDvalue ?lDvalue ?cDvalue ?kDvalue)
      (SG.defG_mk KX G ?aDlawcellat ?lDlawcellat ?cDlawcellat ?kDlawcellat)
      (SG.defG_mk KX G ?aDlawstream ?lDlawstream ?cDlawstream ?kDlawstream)
      (SG.defG_mk KX G ?aDlawnames ?lDlawnames ?cDlawnames ?kDlawnames)
      (SG.defG_mk KX G ?aDlawvalueby ?lDlawvalueby ?cDlawvalueby ?kDlawvalueby)
      (SG.defG_mk KX G ?aDlawatom ?lDlawatom ?cDlawatom ?kDlawatom)
      (SG.defG_mk KX G ?aDlawrow ?lDlawrow ?cDlawrow ?kDlawrow)
      (SG.defG_mk KX G ?aDlawprogram ?lDlawprogram ?cDlawprogram ?kDlawprogram)
      (SG.defG_mk KX G ?aDlawworth ?lDlawworth ?cDlawworth ?kDlawworth)
      (SG.defG_mk KX G ?aDlawparts ?lDlawparts ?cDlawparts ?kDlawparts)
      (SG.defG_mk KX G ?aDlawframe ?lDlawframe ?cDlawframe ?kDlawframe)
      (SG.defG_mk KX G ?aDlawmoved ?lDlawmoved ?cDlawmoved ?kDlawmoved)
      (SG.defG_mk KX G ?aDlawrefused ?lDlawrefused ?cDlawrefused ?kDlawrefused)
      (SG.defG_mk KX G ?aDlawstands ?lDlawstands ?cDlawstands ?kDlawstands)
      (SG.defG_mk KX G ?aDlawfilled ?lDlawfilled ?cDlawfilled ?kDlawfilled)
      (SG.defG_mk KX G ?aDlawdeep ?lDlawdeep ?cDlawdeep ?kDlawdeep)
      (SG.defG_mk KX G ?aDlaw ?lDlaw ?cDlaw ?kDlaw)
      (SG.methG_mk ?aMworthof ?iMworthof ?lMworthof ?cMworthof ?kMworthof)
      (SG.methG_mk ?aMgoon ?iMgoon ?lMgoon ?cMgoon ?kMgoon)
      (SG.methG_mk ?aMadvance ?iMadvance ?lMadvance ?cMadvance ?kMadvance)
      (SG.methG_mk ?aMdone ?iMdone ?lMdone ?cMdone ?kMdone)
      (SG.methG_mk ?aMgoneback ?iMgoneback ?lMgoneback ?cMgoneback ?kMgoneback)
      (SG.methG_mk ?aMframes ?iMframes ?lMframes ?cMframes ?kMframes)
      (SG.methG_mk ?aMframeof ?iMframeof ?lMframeof ?cMframeof ?kMframeof)
      (SG.methG_mk ?aMtold ?iMtold ?lMtold ?cMtold ?kMtold)
      (SG.methG_mk ?aMfill ?iMfill ?lMfill ?cMfill ?kMfill)
      (SG.methG_mk ?aMended ?iMended ?lMended ?cMended ?kMended)
      (SG.methG_mk ?aManswer ?iManswer ?lManswer ?cManswer ?kManswer)
      (SG.methG_mk ?aMstep ?iMstep ?lMstep ?cMstep ?kMstep)
      (SG.mkG_mk ?mMF ?aMF ?iMF ?kCMF ?lMF ?cMF ?kMF)
      (SG.mkG_mk ?mMT ?aMT ?iMT ?kCMT ?lMT ?cMT ?kMT)
      (SG.baseG_mk KX G ?aMB ?r1MB ?r2MB ?vMB ?lMB ?cMB ?kMB)
      (PySem.W.mg_of KX G ?gF)
      (PySem.W.mg_of KX G ?gT)
      (SG.TxtF.mk (L2.Cls.mk ?pgF ?hdF ?poF ?saF) ?nFowner ?nFrows ?nFflow ?nFat ?nFnow)
      (SG.TxtW.mk (L2.Cls.mk ?pgW ?hdW ?poW ?saW) ?nWsends ?nWstore ?nWmade ?nWresult ?nWfunctions ?nWstack)
      (SG.TxtN.mk (PySem.W.mg_of KX G ?gN) ?xN ?kN ?bN ?tN)
      (SG.TxtR.mk (PySem.W.mg_of KX G ?gN2) (PySem.W.mg_of KX G ?gG) (PySem.W.mg_of KX G ?gE) (PySem.W.exm_ref ?te1 ?te2 ?te3 ?te4) (L2.ExcC.mk ?xc0 ?xc1 ?xc2 ?xc3 ?xc4 ?xc5 ?xc6 ?xc7) SG.kit_same (SG.kit_ref ?q0 ?q1 ?q2 ?q3) (SG.kit_val ?q4))
      (SG.gtup_mk KX G ?tg1 ?tl1 ?ts1 ?tv1)
      (SG.gtup_mk KX G ?tg2 ?tl2 ?ts2 ?tv2)
      (PySem.W.mg_of KX G ?gW)
      (PySem.W.mg_none_of KX G ?zlen)
      (PySem.W.mg_none_of KX G ?zisinstance)
      (PySem.W.mg_none_of KX G ?zstr)
      (PySem.W.mg_none_of KX G ?zint)
      (PySem.W.mg_none_of KX G ?zlist)
      (PySem.W.mg_none_of KX G ?ztuple)
      (PySem.W.mg_none_of KX G ?zzip)
      (PySem.W.mg_none_of KX G ?zenumerate)
      (PySem.W.mg_none_of KX G ?zrange)
      (PySem.W.mg_none_of KX G ?zbool)
      (PySem.W.mg_none_of KX G ?zValueError)
    (case gF => k_is)
    (case gT => k_is)
    (case gN => k_is)
    (case gN2 => k_is)
    (case gG => k_is)
    (case gE => k_is)
    (case aDgives => k_is)
    (case lDgives => k_is)
    (case cDgives => k_is)
    (case kDgives => k_is)
    (case aDatomsof => k_is)
    (case lDatomsof => k_is)
    (case cDatomsof => k_is)
    (case kDatomsof => k_is)
    (case aDreads => k_is)
    (case lDreads => k_is)
    (case cDreads => k_is)
    (case kDreads => k_is)
    (case aDnamesof => k_is)
    (case lDnamesof => k_is)
    (case cDnamesof => k_is)
    (case kDnamesof => k_is)
    (case aDopeners => k_is)
    (case lDopeners => k_is)
    (case cDopeners => k_is)
    (case kDopeners => k_is)
    (case aDclosers => k_is)
    (case lDclosers => k_is)
    (case cDclosers => k_is)
    (case kDclosers => k_is)
    (case aDlanding => k_is)
    (case lDlanding => k_is)
    (case cDlanding => k_is)
    (case kDlanding => k_is)
    (case aDways => k_is)
    (case lDways => k_is)
    (case cDways => k_is)
    (case kDways => k_is)
    (case aDvalue => k_is)
    (case lDvalue => k_is)
    (case cDvalue => k_is)
    (case kDvalue => k_is)
    (case aDlawcellat => k_is)
    (case lDlawcellat => k_is)
    (case cDlawcellat => k_is)
    (case kDlawcellat => k_is)
    (case aDlawstream => k_is)
    (case lDlawstream => k_is)
    (case cDlawstream => k_is)
    (case kDlawstream => k_is)
    (case aDlawnames => k_is)
    (case lDlawnames => k_is)
    (case cDlawnames => k_is)
    (case kDlawnames => k_is)
    (case aDlawvalueby => k_is)
    (case lDlawvalueby => k_is)
    (case cDlawvalueby => k_is)
    (case kDlawvalueby => k_is)
    (case aDlawatom => k_is)
    (case lDlawatom => k_is)
    (case cDlawatom => k_is)
    (case kDlawatom => k_is)
    (case aDlawrow => k_is)
    (case lDlawrow => k_is)
    (case cDlawrow => k_is)
    (case kDlawrow => k_is)
    (case aDlawprogram => k_is)
    (case lDlawprogram => k_is)
    (case cDlawprogram => k_is)
    (case kDlawprogram => k_is)
    (case aDlawworth => k_is)
    (case lDlawworth => k_is)
    (case cDlawworth => k_is)
    (case kDlawworth => k_is)
    (case aDlawparts => k_is)
    (case lDlawparts => k_is)
    (case cDlawparts => k_is)
    (case kDlawparts => k_is)
    (case aDlawframe => k_is)
    (case lDlawframe => k_is)
    (case cDlawframe => k_is)
    (case kDlawframe => k_is)
    (case aDlawmoved => k_is)
    (case lDlawmoved => k_is)
    (case cDlawmoved => k_is)
    (case kDlawmoved => k_is)
    (case aDlawrefused => k_is)
    (case lDlawrefused => k_is)
    (case cDlawrefused => k_is)
    (case kDlawrefused => k_is)
    (case aDlawstands => k_is)
    (case lDlawstands => k_is)
    (case cDlawstands => k_is)
    (case kDlawstands => k_is)
    (case aDlawfilled => k_is)
    (case lDlawfilled => k_is)
    (case cDlawfilled => k_is)
    (case kDlawfilled => k_is)
    (case aDlawdeep => k_is)
    (case lDlawdeep => k_is)
    (case cDlawdeep => k_is)
    (case kDlawdeep => k_is)
    (case aDlaw => k_is)
    (case lDlaw => k_is)
    (case cDlaw => k_is)
    (case kDlaw => k_is)
    (case aMworthof => k_is)
    (case iMworthof => k_is)
    (case lMworthof => k_is)
    (case cMworthof => k_is)
    (case kMworthof => k_is)
    (case aMgoon => k_is)
    (case iMgoon => k_is)
    (case lMgoon => k_is)
    (case cMgoon => k_is)
    (case kMgoon => k_is)
    (case aMadvance => k_is)
    (case iMadvance => k_is)
    (case lMadvance => k_is)
    (case cMadvance => k_is)
    (case kMadvance => k_is)
    (case aMdone => k_is)
    (case iMdone => k_is)
    (case lMdone => k_is)
    (case cMdone => k_is)
    (case kMdone => k_is)
    (case aMgoneback => k_is)
    (case iMgoneback => k_is)
    (case lMgoneback => k_is)
    (case cMgoneback => k_is)
    (case kMgoneback => k_is)
    (case aMframes => k_is)
    (case iMframes => k_is)
    (case lMframes => k_is)
    (case cMframes => k_is)
    (case kMframes => k_is)
    (case aMframeof => k_is)
    (case iMframeof => k_is)
    (case lMframeof => k_is)
    (case cMframeof => k_is)
    (case kMframeof => k_is)
    (case aMtold => k_is)
    (case iMtold => k_is)
    (case lMtold => k_is)
    (case cMtold => k_is)
    (case kMtold => k_is)
    (case aMfill => k_is)
    (case iMfill => k_is)
    (case lMfill => k_is)
    (case cMfill => k_is)
    (case kMfill => k_is)
    (case aMended => k_is)
    (case iMended => k_is)
    (case lMended => k_is)
    (case cMended => k_is)
    (case kMended => k_is)
    (case aManswer => k_is)
    (case iManswer => k_is)
    (case lManswer => k_is)
    (case cManswer => k_is)
    (case kManswer => k_is)
    (case aMstep => k_is)
    (case iMstep => k_is)
    (case lMstep => k_is)
    (case cMstep => k_is)
    (case kMstep => k_is)
    (case mMF => k_is)
    (case aMF => k_is)
    (case iMF => k_is)
    (case kCMF => k_is)
    (case lMF => k_is)
    (case cMF => k_is)
    (case kMF => k_is)
    (case mMT => k_is)
    (case aMT => k_is)
    (case iMT => k_is)
    (case kCMT => k_is)
    (case lMT => k_is)
    (case cMT => k_is)
    (case kMT => k_is)
    (case aMB => k_is)
    (case r1MB => k_is)
    (case r2MB => k_is)
    (case vMB => k_is)
    (case lMB => k_is)
    (case cMB => k_is)
    (case kMB => k_is)
    (case pgF => k_is)
    (case hdF => k_is)
    (case poF => k_is)
    (case saF => k_is)
    (case nFowner => (unfold L2.NoAttr; k_is))
    (case nFrows => (unfold L2.NoAttr; k_is))
    (case nFflow => (unfold L2.NoAttr; k_is))
    (case nFat => (unfold L2.NoAttr; k_is))
    (case nFnow => (unfold L2.NoAttr; k_is))
    (case pgW => k_is)
    (case hdW => k_is)
    (case poW => k_is)
    (case saW => k_is)
    (case nWsends => (unfold L2.NoAttr; k_is))
    (case nWstore => (unfold L2.NoAttr; k_is))
    (case nWmade => (unfold L2.NoAttr; k_is))
    (case nWresult => (unfold L2.NoAttr; k_is))
    (case nWfunctions => (unfold L2.NoAttr; k_is))
    (case nWstack => (unfold L2.NoAttr; k_is))
    (case xN => k_exc)
    (case kN => k_is)
    (case bN => k_is)
    (case tN => k_is)
    (case te1 => k_is)
    (case te2 => k_is)
    (case te3 => k_is)
    (case te4 => k_is)
    (case xc0 => k_is)
    (case xc1 => k_is)
    (case xc2 => k_is)
    (case xc3 => k_is)
    (case xc4 => k_is)
    (case xc5 => k_is)
    (case xc6 => k_is)
    (case xc7 => k_is)
    (case q0 => decide)
    (case q1 => k_is)
    (case q2 => k_is)
    (case q3 => k_is)
    (case q4 => k_is)
    (case tg1 => k_is)
    (case tl1 => k_is)
    (case ts1 => decide)
    (case tv1 => exact .cons ⟨_, rfl⟩ (.cons ⟨_, rfl⟩ (.cons ⟨_, rfl⟩ (.cons ⟨_, rfl⟩ (.cons ⟨_, rfl⟩ (.nil))))))
    (case tg2 => k_is)
    (case tl2 => k_is)
    (case ts2 => decide)
    (case tv2 => exact .cons ⟨_, rfl⟩ (.cons ⟨_, rfl⟩ (.cons ⟨_, rfl⟩ (.cons ⟨_, rfl⟩ (.nil)))))
    (case gW => k_is)
    (case zlen => k_is)
    (case zisinstance => k_is)
    (case zstr => k_is)
    (case zint => k_is)
    (case zlist => k_is)
    (case ztuple => k_is)
    (case zzip => k_is)
    (case zenumerate => k_is)
    (case zrange => k_is)
    (case zbool => k_is)
    (case zValueError => k_is)

