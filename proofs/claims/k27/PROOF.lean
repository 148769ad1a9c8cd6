import PyProof.Rows.All
import HandS.Property
import HandS.HeadNt
import Wide.All
import OpenK.AllK
import Wide.FinOn
import HandS.ForMost
import KE.GoesEnum
import HandS.ForExc
import HandS.Wide
import HandS.IsInst
import HandS.Style
import HandS.Walk
import HandS.Conv
import HandS.Flow
import HandS.Defaults
import HandS.Star
import HandS.Deep
import HandS.Head0
import HandS.Head1
import HandS.Head2
import HandS.HeadEnd
import HandS.HeadHook1
import HandS.HeadHook2
import HandS.HeadWalk
import HandS.TryOnly
import PySem.Challenge.RW_pressalike_k27_blocks_on_pages
set_option Elab.async false
set_option linter.all false
set_option maxRecDepth 100000
set_option maxHeartbeats 2000000
/-! MirH: the head's facts: defs at any address, and any test of the written part. -/
namespace Mr
open PySem PySem.Spec PyProof.Rows L2
abbrev FrT := PySem.W.Frag → Bool
def obsE (fa : List He.Fa) (fn : List He5.DefA) (ex : List FrT) (K : PySem.W.Frag) : He.AlD := (((fa.all fun f => f.ok K) && fn.all fun d => d.ok K) && ex.all fun f => f K, fn.map fun d => He5.fnA K (d.at_ K))
def valE (fn : List He5.DefA) : He.AlD := (true, fn.map He5.DefA.val)
def SaysE (fa : List He.Fa) (fn : List He5.DefA) (ex : List FrT) (K : PySem.W.Frag) : Prop := obsE fa fn ex K = valE fn
def obsEG (n : Nat) (fa : List He.Fa) (fn : List He5.DefA) (ex : List FrT) (g : Addr → Option Obj) : He.AlD := obsE fa fn ex (He.frG g (He.asD g n))
def hookE (n : Nat) (fa : List He.Fa) (fn : List He5.DefA) (ex : List FrT) : PySem.W.Hook where
  α := He.AlD
  obs := fun s => obsEG n fa fn ex s.heap.get?
  val := fun _ => valE fn
  says := fun _ h => ∃ K : PySem.W.Frag, K.In h ∧ SaysE fa fn ex K
  of := fun _ _ e => ⟨_, He.frG_in, e⟩
  keeps := fun _ _ _ ⟨K, hK, c⟩ k => ⟨K, PySem.W.Frag.In.keeps hK k, c⟩
theorem obsEG_eq {n : Nat} {fa : List He.Fa} {fn : List He5.DefA} {ex : List FrT} {g : Addr → Option Obj} {s : Shared} (h : ∀ a, g a = s.heap.get? a) : obsEG n fa fn ex g = (hookE n fa fn ex).obs s := by
  have e : g = s.heap.get? := funext h
  rw [e] <;> rfl
section
variable {fa : List He.Fa} {fn : List He5.DefA} {ex : List FrT} {K : PySem.W.Frag}
theorem SaysE.all (c : SaysE fa fn ex K) : ((fa.all fun f => f.ok K) = true ∧ (fn.all fun d => d.ok K) = true) ∧ (ex.all fun f => f K) = true := by
  have h := He.ba (show (((fa.all fun f => f.ok K) && fn.all fun d => d.ok K) && ex.all fun f => f K) = true from congrArg (fun z : He.AlD => z.1) c)
  exact ⟨He.ba h.1, h.2⟩
theorem SaysE.fact (c : SaysE fa fn ex K) (i : Nat) {f : He.Fa} (h : fa[i]? = some f := by rfl) : f.ok K = true := List.all_eq_true.mp c.all.1.1 f (List.mem_of_getElem? h)
theorem SaysE.test (c : SaysE fa fn ex K) (i : Nat) {f : FrT} (h : ex[i]? = some f := by rfl) : f K = true := List.all_eq_true.mp c.all.2 f (List.mem_of_getElem? h)
theorem SaysE.def_ (c : SaysE fa fn ex K) (i : Nat) {d : He5.DefA} (h : fn[i]? = some d := by rfl) : ∃ fd, L2.FunD K d.name d.qual d.params d.body d.scope (d.dvs K) (d.kws K) (d.at_ K) fd := by
  have e : fn.map (fun d => He5.fnA K (d.at_ K)) = fn.map He5.DefA.val := congrArg (fun z : He.AlD => z.2) c
  have e2 : (fn.map fun d => He5.fnA K (d.at_ K))[i]? = (fn.map He5.DefA.val)[i]? := by rw [e]
  rw [List.getElem?_map, List.getElem?_map, h] at e2
  exact He5.DefA.funD (Option.some.inj e2) (List.all_eq_true.mp c.all.1.2 d (List.mem_of_getElem? h))
end
/-! ### properties -/
abbrev pAd (K : PySem.W.Frag) (C f : Str) : Addr := He.ma K (He.ga K C) f
abbrev gAd (K : PySem.W.Frag) (C f : Str) : Addr := He5.wf K (He.ga K C) "property" f
def propB (C f : Str) : FrT := fun K => He.eqO (PySem.W.findIn K (.ref (He.ga K C)) f) (some (some (.ref (pAd K C f)))) && (He.eqO (PySem.W.specialIn K (.ref (pAd K C f)) "__get__") (some (some (.builtin "property.__get__"))) &&
  (decide (PySem.W.takesIn K (.ref (pAd K C f)) = some true) && (match PySem.W.recIn K (pAd K C f) "property" with
    | some (.ref _ :: _) => true
    | _ => false)))
theorem propB_ok {C f : Str} {K : PySem.W.Frag} (h : propB C f K = true) : PropOf K (He.ga K C) f (pAd K C f) (gAd K C f) := by
  obtain ⟨h1, h⟩ := He.ba h
  obtain ⟨h2, h⟩ := He.ba h
  obtain ⟨h3, h4⟩ := He.ba h
  refine ⟨He.eqO_ok h1, He.eqO_ok h2, of_decide_eq_true h3, ?_⟩
  show ∃ rest, PySem.W.recIn K (pAd K C f) "property" = some (.ref (He5.wf K (He.ga K C) "property" f) :: rest)
  unfold He5.wf
  split at h4
  · rename_i g r e
    exact ⟨r, by rw [e]⟩
  · cases h4
/-! ### len by an own __len__ -/
def spcB (C m : Str) : FrT := fun K => He.eqO (PySem.W.findIn K (.ref (He.ga K C)) m) (some (some (.ref (He.ma K (He.ga K C) m)))) && PySem.W.isFn K (.ref (He.ma K (He.ga K C) m))
structure Spc (K : PySem.W.Frag) (C : Addr) (m : Str) (f : Addr) : Prop where
  at_ : PySem.W.findIn K (.ref C) m = some (some (.ref f))
  fn : PySem.W.isFn K (.ref f) = true
theorem spcB_ok {C m : Str} {K : PySem.W.Frag} (h : spcB C m K = true) : Spc K (He.ga K C) m (He.ma K (He.ga K C) m) := by
  obtain ⟨h1, h2⟩ := He.ba h
  exact ⟨He.eqO_ok h1, h2⟩
def lenQ (Q : VK) : VK := fun v H' => ∃ n : Nat, v = .int n ∧ n < 2 ^ 62 ∧ Q (.int n) H'
def rLenOwn (C : Addr) (sp : Sp) (E : XK) : List V → Hp → VK → Prop := fun xs H Q => ∃ a dx fs, xs = [.ref a] ∧ H a = some (.ins C dx fs) ∧ sp [.ref a] H (lenQ Q) E
theorem cr_lenOwn {X : Cx} {CX : CXT} {k : Nat} {C f : Addr} {fd : FuncData} {ps : List Str} {sp : Sp} {E : XK} (F : FnOk X.prog X.w X.K X.mg X.base CX k f fd ps sp) (hs : Spc X.K C "__len__" f) (hr : Room (k + 1) X.A) (hb : Binds X.K fd ps []) (hx : Passes CX X.nox E) :
    CallR X (.builtin "len") (rLenOwn C sp E) := by
  intro pins s σ H xs us Q I r h
  obtain ⟨a, dx, fs, rfl, ea, h⟩ := h
  obtain ⟨u, rfl, rx⟩ := vals1 r
  obtain rfl : u = Value.ref a := rx
  obtain ⟨mA, O, _, _, _, _⟩ := ins_get I.hok ea
  obtain ⟨od, J, _⟩ := O.look
  have hl : ([Value.ref a] ++ ([] : List Value)).length = ps.length := by
    rw [← F.len _ _ _ _ h]; rfl
  refine PySem.Calls.call_function_entry kind_len plain_len entry_len (args_len1 _) ?_
  unfold Builtin.«len»
  refine wpAny_bind (m := oneArg "len" _) (wpAny_pure ?_)
  refine wpAny_bind (m := callSpecial? (.ref a) (Str.ofString "__len__")) (PySem.W.special_fn I.kIn J hs.at_ (beq_iff_eq.mp hs.fn) ?_)
  refine wpAny_call (codeAny_mono (F.run X.A.in1 X.stack s H ⟨[.ref a], []⟩ [.ref a] [.ref a] _ E hr.in1 I.env0.in1 (hb s [.ref a] I.kIn hl) (.cons rfl .nil) h) fun r s' hq => ?_)
  cases r with
  | error er => exact False.elim (hx pins σ H s er s' (I.wish _) hq)
  | ok fl =>
    cases fl with
    | ret u =>
      obtain ⟨v, H', I3, rv, n, rfl, hn, q3⟩ := I.after hq
      obtain ⟨t, rfl⟩ := rv
      refine wpAny_bind (wpAny_holding (wpAny_pure ?_))
      refine wpAny_bind (wpAny_letGo ?_)
      show wpAny _ _ (if (n : Int) < 0 then _ else _) _ _ _
      rw [if_neg (by omega)]
      show wpAny _ _ (if (n : Int) ≥ 2 ^ 63 then _ else _) _ _ _
      rw [if_neg (by omega)]
      exact wpAny_bind (wpAny_mkInt (wpAny_pure ⟨_, rfl, ⟨.int n, H', I3.tok _, ⟨_, rfl⟩, q3⟩⟩))
    | next => exact False.elim hq
    | brk => exact False.elim hq
    | cont => exact False.elim hq
end Mr

set_option Elab.async false
set_option linter.all false
set_option maxRecDepth 100000
set_option maxHeartbeats 2000000
/-! MirE: enumerate of a tuple, of a list or a tuple. -/
namespace Mr
open PySem PySem.Spec PyProof.Rows L2
theorem meets_enum1 {v : Value} {o : Obj} {H : Heap → Prop} (B : Begins v o H) :
    Meets (Builtin.«enumerate.__new__» ⟨[.type "enumerate", v], []⟩) (fun _ R s => H s.heap ∧
      R (.ok (.ret (.ref (s.heap.push o).objs.size))) { s with heap := (s.heap.push o).push { cls := .type "enumerate", data := .fields #[.none, .bool false, .ref s.heap.objs.size, rawInt 0, .none, .none] } }) :=
  .of_wp fun prog w A R s h => by
    obtain ⟨hp, g, d, tk, os⟩ := s; obtain ⟨h1, h⟩ := h
    have hsub := sub_enumerate
    have q1 : ∀ {A' : Around} {E : Value → Shared → Prop} {Q : Value → Shared → Prop}, Q (.ref hp.objs.size) ⟨hp.push o, g, d, tk, os⟩ → wpAny (model prog w) A' (pyIter v) Q E ⟨hp, g, d, tk, os⟩ :=
      fun q => B.iter prog w _ _ ⟨hp, g, d, tk, os⟩ _ h1 q
    wp_walk using q1
    refine wpAny_stack_any fun st => wpAny_pure ?_
    split
    · rename_i c _ _ _ _ _
      cases (c == Value.type "enumerate")
      · wp_walk using q1
        exact ⟨_, rfl, h⟩
      · wp_walk using q1
        exact ⟨_, rfl, h⟩
    · wp_walk using q1
      exact ⟨_, rfl, h⟩
theorem call_enum1 {prog : Program} {w : World} {A : Around} {E : Value → Shared → Prop} {s : Shared} {v : Value} {o : Obj} {H : Heap → Prop} {Q : Value → Shared → Prop} (B : Begins v o H) (h1 : H s.heap)
    (h : ∀ h', IsEnum h' (s.heap.objs.size + 1) s.heap.objs.size 0 .none → h'.get? s.heap.objs.size = some o → h'.objs.size = s.heap.objs.size + 2 →
      (∀ b o, s.heap.get? b = some o → h'.get? b = some o) → Q (.ref (s.heap.objs.size + 1)) { s with heap := h' }) :
    wpAny (model prog w) A (call (.type "enumerate") [v]) Q E s := by
  refine callType_new F.called_enumerate (by decide) (F.typeCall_enumerate_1 _) (F.newCall_enumerate_1 _) (fun obj => F.args_object_init_2 obj _) F.entry_enumerate_new
    (meets_enum1 B) ⟨h1, ?_⟩
  have hz : (s.heap.push o).objs.size = s.heap.objs.size + 1 := Heap.size_push ..
  show _ ∧ _
  rw [hz]
  have he : IsEnum ((s.heap.push o).push { cls := .type "enumerate", data := .fields #[.none, .bool false, .ref s.heap.objs.size, rawInt 0, .none, .none] }) (s.heap.objs.size + 1) s.heap.objs.size 0 .none := by
    have := Heap.get?_push_size (s.heap.push o) (o := { cls := .type "enumerate", data := .fields #[.none, .bool false, .ref s.heap.objs.size, rawInt 0, .none, .none] }) rfl
    rw [hz] at this; exact this
  refine ⟨⟨_, he, rfl⟩, h _ he (Heap.get?_push_of_some _ (Heap.get?_push_size _ B.free)) (by rw [Heap.size_push, hz]) fun b o x => Heap.get?_push_of_some _ (Heap.get?_push_of_some _ x)⟩
/-- the tuple at a, each item in a new pair -/
def IteT (K : PySem.W.Frag) (a : Addr) : It :=
  ⟨fun i H => ∃ (xs : List V) (x : V), SqT K H a xs ∧ xs[i]? = some x, fun i H v H' => ∃ T x, v = .ref T ∧ H T = none ∧ H' = upd H T (.tup [.int (i : Nat), x]) ∧ ∀ xs, SqT K H a xs → xs[i]? = some x, fun i H => ∃ xs : List V, SqT K H a xs ∧ xs.length = i⟩
theorem turn_enumT {P : Program} {w : World} {K : PySem.W.Frag} {elts : List Expr} {kk : Nat} {tpos : Pos} (a e it : Addr) :
    Turn P w K (.Tuple elts kk tpos) (IteT K a) [e, it] e (fun i h => (∃ old, IsEnum h e it ((i : Nat) : Int) old) ∧ h.IsTupleIter it a i ∧ e ≠ it ∧ a ≠ it ∧ a ≠ e) where
  mem := by simp
  obj := fun i h st b hb => by
    obtain ⟨⟨old, he⟩, ⟨o, ho, hc, hd⟩, _⟩ := st
    have e' : b = e ∨ b = it := by simpa using hb
    rcases e' with z | z
    · rw [z]; exact ⟨_, he, fun v q => nomatch q⟩
    · rw [z]; exact ⟨o, ho, fun v q => by rw [hd] at q; cases q⟩
  keep := fun i h h' st k => let ⟨⟨old, he⟩, hi, hne⟩ := st; ⟨⟨old, k e (by simp) _ he⟩, hi.at fun o q => k it (by simp) o q, hne⟩
  item := by
    intro X hP hw hK hc i pins s σ H E I hf st hg
    subst hP hw hK
    obtain ⟨⟨old, he⟩, hit, hne, hai, hae⟩ := st
    obtain ⟨xs, x, hq, hx⟩ := hg
    obtain ⟨its, rv, p, hz⟩ := I.tuple hq
    have hi : i < its.length := by rw [← rv.length]; exact (List.getElem?_eq_some_iff.mp hx).1
    have hel : e < s.heap.objs.size := Heap.lt_size he
    have hil : it < s.heap.objs.size := by obtain ⟨_, q, _⟩ := hit; exact Heap.lt_size q
    have D : Draws X.prog X.w X.A.in1 it [it, a] its.toArray.size (fun i v => its.toArray[i]? = some v) (fun i h => h.IsTupleIter it a i ∧ h.IsTuple a its.toArray) := Draws.tuple (A := X.A.in1) (show X.A.in1.handled = none from I.ok.hd hc) it a hai its.toArray
    refine wpAny_pyNext_enum_itemC D he ⟨hit, p⟩ (by simpa using hi) hne (fun hm => ?_) fun u h' tk hu ho hst' hT hsz hk => ?_
    · rcases List.mem_cons.mp hm with z | hm
      · exact hne z
      · rcases List.mem_cons.mp hm with z | hm
        · exact hae z.symm
        · cases hm
    obtain ⟨u', hu', ru⟩ := rv.get hx
    have hu2 : its[i]? = some u := by simpa using hu
    rw [hu2] at hu'
    cases hu'
    refine ⟨_, rfl, wpAny_letOwnedTupleGo_enum (s := { s with heap := h', toks := tk + 1 }) ho fun h'' he' sb => ?_⟩
    have hT2 : h''.get? s.heap.objs.size = some { cls := .type "tuple", data := .seq #[.int i tk, u] } := (sb.2 _ (Nat.ne_of_gt hel)).trans hT
    have new : ObjOk X.prog X.w (upd H s.heap.objs.size (.tup [.int (i : Nat), x])) h'' s.heap.objs.size (.tup [.int (i : Nat), x]) :=
      ⟨by show 2 ≤ sizeLine; decide, [.int i tk, u], .cons ⟨_, rfl⟩ (.cons ru .nil), ⟨_, hT2, rfl, _, rfl⟩⟩
    have I1 : Inv X pins σ (upd H s.heap.objs.size (.tup [.int (i : Nat), x])) { s with heap := h'', toks := tk + 1 } :=
      I.turnedNew (ch := [e, it]) (fun b ob hb q => (sb.2 b (fun z => hb (by simp [z]))).trans (hk b ob (fun z => hb (by simp [z])) (fun z => hb (by simp [z])) q)) hf (Nat.le_refl _) new
    refine ⟨.ref s.heap.objs.size, _, I1, rfl, ⟨_, x, rfl, I.hok.fresh (Nat.le_refl _), rfl, fun ys hy => by rw [I.tuple_inj hy hq]; exact hx⟩, ⟨⟨u, ?_⟩, hst'.1.at fun o q => (sb.2 it (Ne.symm hne)).trans q, hne, hai, hae⟩, fun b hb => ?_⟩
    · have e1 : ((i + 1 : Nat) : Int) = (i : Int) + 1 := by omega
      rw [e1]; exact he'
    · have hb' : b < s.heap.objs.size := by
        have e' : b = e ∨ b = it := by simpa using hb
        rcases e' with z | z
        · rw [z]; exact hel
        · rw [z]; exact hil
      rw [upd_ne (Nat.ne_of_lt hb')]
      exact (hf b hb).1
  done := by
    intro X hP hw hK hc i pins s σ H E I hf st hg
    subst hP hw hK
    obtain ⟨⟨old, he⟩, hit, hne, hai, hae⟩ := st
    obtain ⟨xs, hq, hx⟩ := hg
    obtain ⟨its, rv, p, hz⟩ := I.tuple hq
    obtain ⟨f0, f1, f2, f3, f4, f5⟩ := hf it (by simp)
    have hl := rv.length
    have D : Draws X.prog X.w X.A.in1 it [it, a] its.toArray.size (fun i v => its.toArray[i]? = some v) (fun i h => h.IsTupleIter it a i ∧ h.IsTuple a its.toArray) := Draws.tuple (A := X.A.in1) (show X.A.in1.handled = none from I.ok.hd hc) it a hai its.toArray
    have e0 : its.toArray.size = i := by simp; omega
    refine wpAny_pyNext_enum_endD D he (by rw [e0]; exact ⟨hit, p⟩) fun h' eb => ⟨rfl, I.turned (t' := s.toks) (fun b o hb q => eb b o hb q) f0 f1 f3 f4 f5⟩
  self := fun A i s Q E st h => let ⟨⟨_, he⟩, _⟩ := st; wpAny_pyIter_enum he h
def iEnumQ (K : PySem.W.Frag) (ta : TA) : TI := fun σ H R => ta σ H fun vs H1 => ∃ a xs, vs = [.ref a] ∧ ((SqL K H1 a xs ∧ R (Ite K a) H1) ∨ (SqT K H1 a xs ∧ R (IteT K a) H1))
theorem pi_enumQ {X : Cx} {e : Expr} {ta : TA} {p pos tpos : Pos} {elts : List Expr} {kk : Nat} (hg : Gl X "enumerate") (hm : X.mg "enumerate" = none) (ha : PA X [e] ta) (hs : starEach [e] X.env = [(false, eval e X.env)] := by rfl) :
    PI X (.Tuple elts kk tpos) (.Call (.Name "enumerate" p) [e] [] pos) (iEnumQ X.K ta) := by
  refine ⟨fun pins s σ H R I h => ?_⟩
  refine Call_ (ld_blt I hg hm boot_enumerate (PyProof.Rows.callWith_type1 (thn (ha.run pos pins s σ H _ I h) fun us s1 ⟨vs, H1, I1, r1, q1⟩ => ?_) hs rfl))
  obtain ⟨a, xs, ex, hqq⟩ := q1
  subst ex
  cases r1 with
  | cons r rr =>
    cases rr
    cases r
    have fin : ∀ b, b ∈ [s1.heap.objs.size + 1, s1.heap.objs.size] → s1.heap.objs.size ≤ b := fun b hb => by
      have e' : b = s1.heap.objs.size + 1 ∨ b = s1.heap.objs.size := by simpa using hb
      rcases e' with z | z
      · rw [z]; exact Nat.le_add_right _ _
      · rw [z]; exact Nat.le_refl _
    rcases hqq with ⟨hq, q⟩ | ⟨hq, q⟩
    · obtain ⟨its, rv, p', hz⟩ := I1.list hq
      refine call_enumerate_list p'.isList fun h' he hit hsz hk => wpAny_pyIter_enum he ?_
      have I2 : Inv X pins σ H1 { s1 with heap := h' } := I1.kept (t' := s1.toks) hk
      exact ⟨s1.heap.objs.size + 1, [s1.heap.objs.size + 1, s1.heap.objs.size], _, _, H1, rfl, I2, turn_enum a (s1.heap.objs.size + 1) s1.heap.objs.size, ⟨⟨.none, he⟩, hit, Nat.succ_ne_self _⟩, fun b hb => I1.fpOk (fin b hb) (I1.hok.fresh (fin b hb)), q⟩
    · obtain ⟨its, rv, p', hz⟩ := I1.tuple hq
      have hlt : a < s1.heap.objs.size := by obtain ⟨_, q, _⟩ := id p'; exact Heap.lt_size q
      refine call_enum1 (begins_tuple a its.toArray) p' fun h' he hit hsz hk => wpAny_pyIter_enum he ?_
      have I2 : Inv X pins σ H1 { s1 with heap := h' } := I1.kept (t' := s1.toks) hk
      exact ⟨s1.heap.objs.size + 1, [s1.heap.objs.size + 1, s1.heap.objs.size], _, _, H1, rfl, I2, turn_enumT a (s1.heap.objs.size + 1) s1.heap.objs.size,
        ⟨⟨.none, he⟩, ⟨_, hit, rfl, rfl⟩, Nat.succ_ne_self _, Nat.ne_of_lt hlt, Nat.ne_of_lt (Nat.lt_succ_of_lt hlt)⟩, fun b hb => I1.fpOk (fin b hb) (I1.hok.fresh (fin b hb)), q⟩
end Mr

set_option linter.all false
set_option maxRecDepth 100000
/-! MirP: the plain part of the mirrors: Option computations (none: the model's rules do not cover it), folds, loops. -/
namespace Mr
theorem bindS {α β : Type} {o : Option α} {f : α → Option β} {r : β} (h : o.bind f = some r) : ∃ a, o = some a ∧ f a = some r := by
  cases o with
  | none => cases h
  | some a => exact ⟨a, rfl, h⟩
def fdivM (a b : Int) : Option Int := if 0 < b ∧ b.natAbs.log2 < 9000 then some (a / b) else none
def modM (a b : Int) : Option Int := if 0 < b then some (a % b) else none
def mulM (a b : Int) : Option Int := if (-(2 ^ 64) < a ∧ a < 2 ^ 64) ∨ (-(2 ^ 64) < b ∧ b < 2 ^ 64) then some (a * b) else none
def ixM (n : Nat) (i : Int) : Option Nat := if 0 ≤ i then (if i < n then some i.toNat else none) else if -(n : Int) ≤ i then some (i + n).toNat else none
def getM {α : Type} (xs : List α) (i : Int) : Option α := (ixM xs.length i).bind fun j => xs[j]?
def setM {α : Type} (xs : List α) (i : Int) (x : α) : Option (List α) := (ixM xs.length i).bind fun j => some (xs.set j x)
def appM {α : Type} (xs : List α) (x : α) : Option (List α) := if xs.length < 100000 then some (xs ++ [x]) else none
def rngM (n : Int) : Option (List Int) := if -(2 ^ 62) ≤ n ∧ n < 2 ^ 62 then some ((List.range n.toNat).map fun (i : Nat) => (i : Int)) else none
def rng2M (a b : Int) : Option (List Int) := if -(2 ^ 62) ≤ a ∧ a < 2 ^ 62 ∧ -(2 ^ 62) ≤ b ∧ b < 2 ^ 62 then some ((List.range (b - a).toNat).map fun (i : Nat) => a + (i : Int)) else none
def enumF {α : Type} : Nat → List α → List (Int × α)
  | _, [] => []
  | k, x :: xs => ((k : Int), x) :: enumF (k + 1) xs
def enumM {α : Type} (xs : List α) : List (Int × α) := enumF 0 xs
def slIx (n d : Nat) : Option Int → Nat
  | none => d
  | some v => if v < 0 then (v + (n : Int)).toNat else min v.toNat n
def cutM {α : Type} (xs : List α) (lo hi : Option Int) : List α := (xs.drop (slIx xs.length 0 lo)).take (slIx xs.length xs.length hi - slIx xs.length 0 lo)
def catM {α : Type} (xs ys : List α) : Option (List α) := if xs.length + ys.length ≤ 100000 then some (xs ++ ys) else none
theorem catM_some {α : Type} {xs ys zs : List α} (h : catM xs ys = some zs) : xs.length + ys.length ≤ 100000 ∧ xs ++ ys = zs := by
  unfold catM at h
  split at h
  · rename_i c; exact ⟨c, Option.some.inj h⟩
  · cases h
def szM {α : Type} (xs : List α) : Option (List α) := if xs.length ≤ 100000 then some xs else none
theorem szM_some {α : Type} {xs ys : List α} (h : szM xs = some ys) : xs.length ≤ 100000 ∧ xs = ys := by
  unfold szM at h
  split at h
  · rename_i c; exact ⟨c, Option.some.inj h⟩
  · cases h
/-- a loop that is never left -/
def folM {α σ : Type} (f : σ → α → Option σ) : List α → σ → Option σ
  | [], s => some s
  | x :: xs, s => (f s x).bind fun s' => folM f xs s'
/-- a turn's end, a loop's end -/
inductive Bf (σ ρ : Type) where
  | go (s : σ) | bk (s : σ) | rt (r : ρ)
inductive Fl (σ ρ : Type) where
  | nx (s : σ) | rt (r : ρ)
def forL {α σ ρ : Type} (f : σ → α → Option (Bf σ ρ)) : List α → σ → Option (Fl σ ρ)
  | [], s => some (.nx s)
  | x :: xs, s => (f s x).bind fun b => match b with
    | .go s' => forL f xs s'
    | .bk s' => some (.nx s')
    | .rt r => some (.rt r)
def conL {α σ ρ : Type} (f : σ → α → Option (Bf σ ρ)) (xs : List α) : Bf σ ρ → Option (Fl σ ρ)
  | .go s' => forL f xs s'
  | .bk s' => some (.nx s')
  | .rt r => some (.rt r)
theorem forL_cons {α σ ρ : Type} {f : σ → α → Option (Bf σ ρ)} {x : α} {xs : List α} {s : σ} : forL f (x :: xs) s = (f s x).bind (conL f xs) := by
  show (f s x).bind _ = _
  congr 1
/-- [e for x in xs if t]: none of a turn: left out -/
def mapM' {α β : Type} (f : α → Option β) : List α → Option (List β)
  | [] => some []
  | x :: xs => (f x).bind fun y => (mapM' f xs).bind fun ys => some (y :: ys)
def selM {α β : Type} (f : α → Option (Option β)) : List α → Option (List β)
  | [] => some []
  | x :: xs => (f x).bind fun y => (selM f xs).bind fun ys => some (match y with
    | some z => z :: ys
    | none => ys)
/-- while: n turns at most -/
def whlM {σ : Type} (c : σ → Option Bool) (f : σ → Option σ) : Nat → σ → Option σ
  | 0, _ => none
  | n + 1, s => (c s).bind fun b => if b then (f s).bind fun s' => whlM c f n s' else some s
/-- while: test and body as one turn; N turns at most -/
def whL {σ ρ : Type} (f : σ → Option (Bf σ ρ)) : Nat → σ → Option (Fl σ ρ)
  | 0, _ => none
  | n + 1, s => (f s).bind fun b => match b with
    | .go s' => whL f n s'
    | .bk s' => some (.nx s')
    | .rt r => some (.rt r)
def conW {σ ρ : Type} (f : σ → Option (Bf σ ρ)) (n : Nat) : Bf σ ρ → Option (Fl σ ρ)
  | .go s' => whL f n s'
  | .bk s' => some (.nx s')
  | .rt r => some (.rt r)
theorem whL_succ {σ ρ : Type} {f : σ → Option (Bf σ ρ)} {n : Nat} {s : σ} : whL f (n + 1) s = (f s).bind (conW f n) := by
  show (f s).bind _ = _
  congr 1
def goF {α σ : Type} (ρ : Type) (f : σ → α → Option σ) : σ → α → Option (Bf σ ρ) := fun s x => (f s x).bind fun s' => some (.go s')
theorem goF_some {α σ ρ : Type} {f : σ → α → Option σ} {s : σ} {x : α} {b : Bf σ ρ} (h : goF ρ f s x = some b) : ∃ s', f s x = some s' ∧ Bf.go s' = b := by
  obtain ⟨s', h1, h2⟩ := bindS h
  exact ⟨s', h1, Option.some.inj h2⟩
theorem fol_for {α σ : Type} (ρ : Type) {f : σ → α → Option σ} : ∀ {xs : List α} {s r : σ}, folM f xs s = some r → forL (goF ρ f) xs s = some (.nx r)
  | [], s, r, h => by cases h; rfl
  | x :: xs, s, r, h => by
    obtain ⟨s', h1, h2⟩ := bindS h
    rw [forL_cons]
    show ((f s x).bind fun s' => some (Bf.go s')).bind _ = _
    rw [h1]
    exact fol_for ρ h2
theorem mulM_some {a b x : Int} (h : mulM a b = some x) : ((-(2 ^ 64) < a ∧ a < 2 ^ 64) ∨ (-(2 ^ 64) < b ∧ b < 2 ^ 64)) ∧ a * b = x := by
  unfold mulM at h
  split at h
  · rename_i c; exact ⟨c, Option.some.inj h⟩
  · cases h
theorem fdivM_some {a b x : Int} (h : fdivM a b = some x) : (0 < b ∧ b.natAbs.log2 < 9000) ∧ a / b = x := by
  unfold fdivM at h
  split at h
  · rename_i c; exact ⟨c, Option.some.inj h⟩
  · cases h
theorem modM_some {a b x : Int} (h : modM a b = some x) : 0 < b ∧ a % b = x := by
  unfold modM at h
  split at h
  · rename_i c; exact ⟨c, Option.some.inj h⟩
  · cases h
theorem appM_some {α : Type} {xs ys : List α} {x : α} (h : appM xs x = some ys) : xs.length < 100000 ∧ xs ++ [x] = ys := by
  unfold appM at h
  split at h
  · rename_i c; exact ⟨c, Option.some.inj h⟩
  · cases h
theorem setM_some {α : Type} {xs ys : List α} {i : Int} {x : α} (h : setM xs i x = some ys) : ∃ j, ixM xs.length i = some j ∧ xs.set j x = ys := by
  obtain ⟨j, h1, h2⟩ := bindS h
  exact ⟨j, h1, Option.some.inj h2⟩
theorem rngM_some {n : Int} {xs : List Int} (h : rngM n = some xs) : (-(2 ^ 62) ≤ n ∧ n < 2 ^ 62) ∧ (List.range n.toNat).map (fun (i : Nat) => (i : Int)) = xs := by
  unfold rngM at h
  split at h
  · rename_i c; exact ⟨c, Option.some.inj h⟩
  · cases h
theorem rng2M_some {a b : Int} {xs : List Int} (h : rng2M a b = some xs) : (-(2 ^ 62) ≤ a ∧ a < 2 ^ 62 ∧ -(2 ^ 62) ≤ b ∧ b < 2 ^ 62) ∧ (List.range (b - a).toNat).map (fun (i : Nat) => a + (i : Int)) = xs := by
  unfold rng2M at h
  split at h
  · rename_i c; exact ⟨c, Option.some.inj h⟩
  · cases h
theorem folM_drop {α σ : Type} {f : σ → α → Option σ} {xs : List α} {s r : σ} {i : Nat} {x : α} (hx : xs[i]? = some x) (h : folM f (xs.drop i) s = some r) :
    ∃ s', f s x = some s' ∧ folM f (xs.drop (i + 1)) s' = some r := by
  have hi : i < xs.length := (List.getElem?_eq_some_iff.mp hx).1
  have e : xs[i] = x := (List.getElem?_eq_some_iff.mp hx).2
  rw [List.drop_eq_getElem_cons hi, e] at h
  exact bindS h
theorem forL_drop {α σ ρ : Type} {f : σ → α → Option (Bf σ ρ)} {xs : List α} {s : σ} {r : Fl σ ρ} {i : Nat} {x : α} (hx : xs[i]? = some x) (h : forL f (xs.drop i) s = some r) :
    ∃ b, f s x = some b ∧ conL f (xs.drop (i + 1)) b = some r := by
  have hi : i < xs.length := (List.getElem?_eq_some_iff.mp hx).1
  have e : xs[i] = x := (List.getElem?_eq_some_iff.mp hx).2
  rw [List.drop_eq_getElem_cons hi, e, forL_cons] at h
  exact bindS h
theorem enumF_get {α : Type} : ∀ (xs : List α) (k i : Nat), (enumF k xs)[i]? = (xs[i]?).map fun x => (((k + i : Nat) : Int), x)
  | [], k, i => by simp [enumF]
  | x :: xs, k, 0 => by simp [enumF]
  | x :: xs, k, i + 1 => by
    show (enumF (k + 1) xs)[i]? = _
    rw [enumF_get xs (k + 1) i]
    have e : k + 1 + i = k + (i + 1) := by omega
    rw [e]
    rfl
theorem enumF_length {α : Type} : ∀ (xs : List α) (k : Nat), (enumF k xs).length = xs.length
  | [], _ => rfl
  | x :: xs, k => congrArg Nat.succ (enumF_length xs (k + 1))
theorem enumM_get {α : Type} (xs : List α) (i : Nat) : (enumM xs)[i]? = (xs[i]?).map fun x => ((i : Int), x) := by
  unfold enumM
  rw [enumF_get, Nat.zero_add]
theorem enumM_length {α : Type} (xs : List α) : (enumM xs).length = xs.length := enumF_length xs 0
def maxM : List Int → Option Int
  | [] => none
  | x :: xs => some (xs.foldl (fun a b => if a < b then b else a) x)
theorem maxF_ge : ∀ (xs : List Int) (x : Int), x ≤ xs.foldl (fun a b => if a < b then b else a) x ∧ (∀ y ∈ xs, y ≤ xs.foldl (fun a b => if a < b then b else a) x) ∧ (xs.foldl (fun a b => if a < b then b else a) x = x ∨ xs.foldl (fun a b => if a < b then b else a) x ∈ xs)
  | [], x => ⟨Int.le_refl _, (fun y h => by cases h), .inl rfl⟩
  | z :: xs, x => by
    obtain ⟨h1, h2, h3⟩ := maxF_ge xs (if x < z then z else x)
    have ha : x ≤ (if x < z then z else x) := by split <;> omega
    have hb : z ≤ (if x < z then z else x) := by split <;> omega
    refine ⟨Int.le_trans ha h1, fun y hy => ?_, ?_⟩
    · rcases List.mem_cons.mp hy with rfl | hy
      · exact Int.le_trans hb h1
      · exact h2 y hy
    · rcases h3 with h3 | h3
      · show List.foldl _ (if x < z then z else x) xs = x ∨ _
        by_cases c : x < z
        · right
          show List.foldl _ (if x < z then z else x) xs ∈ z :: xs
          rw [h3, if_pos c]; exact List.mem_cons_self ..
        · left
          rw [h3, if_neg c]
      · exact .inr (List.mem_cons_of_mem _ h3)
theorem maxM_some {xs : List Int} {m : Int} (h : maxM xs = some m) : m ∈ xs ∧ (∀ y ∈ xs, y ≤ m) ∧ 0 < xs.length := by
  cases xs with
  | nil => cases h
  | cons x xs =>
    cases h
    obtain ⟨h1, h2, h3⟩ := maxF_ge xs x
    refine ⟨?_, fun y hy => ?_, by simp⟩
    · rcases h3 with h3 | h3
      · rw [h3]; exact List.mem_cons_self ..
      · exact List.mem_cons_of_mem _ h3
    · rcases List.mem_cons.mp hy with rfl | hy
      · exact h1
      · exact h2 y hy
theorem max_uniq {xs : List Int} {m m' : Int} (h : m ∈ xs ∧ ∀ y ∈ xs, y ≤ m) (h' : m' ∈ xs ∧ ∀ y ∈ xs, y ≤ m') : m = m' := by
  have := h.2 m' h'.1
  have := h'.2 m h.1
  omega
end Mr

set_option Elab.async false
set_option linter.all false
set_option maxRecDepth 100000
set_option maxHeartbeats 2000000
/-! Mir: worlds (frozen part G, owned part O), what data a value stands for (R), steps and loops over the readings of HandS. -/
namespace Mr
open PySem PySem.Spec PyProof.Rows L2

/-! ### worlds -/
def Ext (G H : Hp) : Prop := ∀ a o, G a = some o → H a = some o
theorem Ext.refl (H : Hp) : Ext H H := fun _ _ h => h
theorem Ext.trans {H H1 H2 : Hp} (a : Ext H H1) (b : Ext H1 H2) : Ext H H2 := fun x o h => b x o (a x o h)
abbrev Own := List (Addr × HO)
structure Sub (G : Hp) (O : Own) (H : Hp) : Prop where
  ext : Ext G H
  own : ∀ p ∈ O, H p.1 = some p.2 ∧ G p.1 = none
  nd : (O.map (·.1)).Nodup
section
variable {G G' H H' : Hp} {O O' : Own} {a b p : Addr} {o o' : HO}
theorem Sub.gnone (S : Sub G O H) (hp : H p = none) : G p = none := by
  cases h : G p with
  | none => rfl
  | some u => rw [S.ext p u h] at hp; cases hp
theorem Sub.junk (S : Sub G O H) (hp : H p = none) : Sub G O (upd H p o) := by
  refine ⟨fun x u h => ?_, fun q hq => ?_, S.nd⟩
  · rw [upd_ne (ne_of_none (S.ext x u h) hp)]; exact S.ext x u h
  · obtain ⟨h1, h2⟩ := S.own q hq
    exact ⟨by rw [upd_ne (ne_of_none h1 hp)]; exact h1, h2⟩
theorem Sub.extNew (S : Sub G O H) (hp : H p = none) (o : HO) : Ext G (upd G p o) := fun x u h => by
  rw [upd_ne (ne_of_none h (S.gnone hp))]; exact h
theorem Sub.new (S : Sub G O H) (hp : H p = none) : Sub (upd G p o) O (upd H p o) := by
  refine ⟨fun x u h => ?_, fun q hq => ?_, S.nd⟩
  · by_cases e : x = p
    · subst e; rw [upd_same] at h ⊢; exact h
    · rw [upd_ne e] at h ⊢; exact S.ext x u h
  · obtain ⟨h1, h2⟩ := S.own q hq
    have e := ne_of_none h1 hp
    exact ⟨by rw [upd_ne e]; exact h1, by rw [upd_ne e]; exact h2⟩
theorem Sub.newOwn (S : Sub G O H) (hp : H p = none) : Sub G ((p, o) :: O) (upd H p o) := by
  refine ⟨(S.junk hp).ext, fun q hq => ?_, ?_⟩
  · rcases List.mem_cons.mp hq with e | hq
    · subst e; exact ⟨upd_same, S.gnone hp⟩
    · exact (S.junk hp).own q hq
  · refine List.nodup_cons.mpr ⟨fun hm => ?_, S.nd⟩
    obtain ⟨q, hq, e⟩ := List.mem_map.mp hm
    exact ne_of_none (S.own q hq).1 hp e
theorem Sub.head (S : Sub G ((a, o) :: O) H) : H a = some o := (S.own (a, o) (List.mem_cons_self ..)).1
theorem Sub.ghead (S : Sub G ((a, o) :: O) H) : G a = none := (S.own (a, o) (List.mem_cons_self ..)).2
theorem Sub.tail (S : Sub G ((a, o) :: O) H) : Sub G O H :=
  ⟨S.ext, fun q hq => S.own q (List.mem_cons_of_mem _ hq), (List.nodup_cons.mp S.nd).2⟩
theorem Sub.head_ne (S : Sub G ((a, o) :: O) H) : ∀ q ∈ O, q.1 ≠ a := fun q hq e =>
  (List.nodup_cons.mp S.nd).1 (List.mem_map.mpr ⟨q, hq, e⟩)
/-- the first owned object is written -/
theorem Sub.wr (S : Sub G ((a, o) :: O) H) : Sub G ((a, o') :: O) (upd H a o') := by
  refine ⟨fun x u h => ?_, fun q hq => ?_, S.nd⟩
  · have e : x ≠ a := ne_of_none h S.ghead
    rw [upd_ne e]; exact S.ext x u h
  · rcases List.mem_cons.mp hq with e | hq
    · subst e; exact ⟨upd_same, S.ghead⟩
    · have e := S.head_ne q hq
      exact ⟨by rw [upd_ne e]; exact (S.tail.own q hq).1, (S.tail.own q hq).2⟩
/-- the first owned object is frozen -/
theorem Sub.frz (S : Sub G ((a, o) :: O) H) : Sub (upd G a o) O H := by
  refine ⟨fun x u h => ?_, fun q hq => ?_, S.tail.nd⟩
  · by_cases e : x = a
    · subst e; rw [upd_same] at h; cases h; exact S.head
    · rw [upd_ne e] at h; exact S.ext x u h
  · rw [upd_ne (S.head_ne q hq)]; exact S.tail.own q hq
theorem Sub.extFrz (S : Sub G ((a, o) :: O) H) : Ext G (upd G a o) := fun x u h => by
  rw [upd_ne (ne_of_none h S.ghead)]; exact h
theorem Sub.perm (S : Sub G O H) (h : O.Perm O') : Sub G O' H :=
  ⟨S.ext, fun q hq => S.own q (h.mem_iff.mpr hq), (h.map _).nodup_iff.mp S.nd⟩
theorem perm_erase {α : Type} : ∀ (l : List α) (i : Nat) (q : α), l[i]? = some q → l.Perm (q :: l.eraseIdx i)
  | [], i, q, h => by simp at h
  | x :: l, 0, q, h => by simp at h; subst h; exact List.Perm.refl _
  | x :: l, i + 1, q, h => by
    have ih := perm_erase l i q (by simpa using h)
    exact (List.Perm.cons x ih).trans (List.Perm.swap q x _)
/-- the i-th owned object to the front -/
theorem Sub.front (S : Sub G O H) (i : Nat) {q : Addr × HO} {O' : Own} (h : O[i]? = some q) (h' : O.eraseIdx i = O') : Sub G (q :: O') H := by
  subst h'
  exact S.perm (perm_erase O i q h)
theorem Sub.of (H : Hp) : Sub H [] H := ⟨Ext.refl H, fun q h => (nomatch h), List.nodup_nil⟩
end

/-! ### what a value stands for -/
structure R (α : Type) where
  rel : Hp → V → α → Prop
  mono : ∀ {G G' : Hp} {v : V} {x : α}, Ext G G' → rel G v x → rel G' v x
theorem R.up {α : Type} {r : R α} {G G' : Hp} {v : V} {x : α} (e : Ext G G') (h : r.rel G v x) : r.rel G' v x := r.mono e h
def rSc {α : Type} (f : α → V) : R α := ⟨fun _ v x => v = f x, fun _ h => h⟩
abbrev rInt : R Int := rSc V.int
abbrev rBool : R Bool := rSc V.bl
abbrev rStr : R Str := rSc V.str
abbrev rNon : R Unit := rSc fun _ => V.non
def Al {α : Type} (r : R α) (G : Hp) : List V → List α → Prop
  | [], [] => True
  | v :: vs, x :: xs => r.rel G v x ∧ Al r G vs xs
  | _, _ => False
section
variable {α β γ : Type} {r : R α} {G G' H : Hp} {K : PySem.W.Frag} {v w : V} {vs : List V} {x : α} {xs : List α} {a : Addr}
theorem Al.nil : Al r G [] [] := True.intro
theorem Al.up (e : Ext G G') : ∀ {vs : List V} {xs : List α}, Al r G vs xs → Al r G' vs xs
  | [], [], _ => True.intro
  | _ :: _, _ :: _, h => ⟨r.mono e h.1, Al.up e h.2⟩
  | [], _ :: _, h => h.elim
  | _ :: _, [], h => h.elim
theorem Al.len : ∀ {vs : List V} {xs : List α}, Al r G vs xs → vs.length = xs.length
  | [], [], _ => rfl
  | _ :: _, _ :: _, h => congrArg Nat.succ (Al.len h.2)
  | [], _ :: _, h => h.elim
  | _ :: _, [], h => h.elim
theorem Al.get : ∀ {vs : List V} {xs : List α} {i : Nat} {x : α}, Al r G vs xs → xs[i]? = some x → ∃ v, vs[i]? = some v ∧ r.rel G v x
  | [], [], i, x, _, e => by simp at e
  | v :: vs, y :: xs, 0, x, h, e => by simp at e; subst e; exact ⟨v, rfl, h.1⟩
  | v :: vs, y :: xs, i + 1, x, h, e => by
    obtain ⟨w, h1, h2⟩ := Al.get (i := i) h.2 (by simpa using e)
    exact ⟨w, by simpa using h1, h2⟩
  | [], _ :: _, _, _, h, _ => h.elim
  | _ :: _, [], _, _, h, _ => h.elim
theorem Al.getV : ∀ {vs : List V} {xs : List α} {i : Nat} {v : V}, Al r G vs xs → vs[i]? = some v → ∃ x, xs[i]? = some x ∧ r.rel G v x
  | [], [], i, v, _, e => by simp at e
  | v :: vs, y :: xs, 0, w, h, e => by simp at e; subst e; exact ⟨y, rfl, h.1⟩
  | v :: vs, y :: xs, i + 1, w, h, e => by
    obtain ⟨z, h1, h2⟩ := Al.getV (i := i) h.2 (by simpa using e)
    exact ⟨z, by simpa using h1, h2⟩
  | [], _ :: _, _, _, h, _ => h.elim
  | _ :: _, [], _, _, h, _ => h.elim
theorem Al.app : ∀ {vs ws : List V} {xs ys : List α}, Al r G vs xs → Al r G ws ys → Al r G (vs ++ ws) (xs ++ ys)
  | [], _, [], _, _, h => h
  | _ :: _, _, _ :: _, _, h, h' => ⟨h.1, Al.app h.2 h'⟩
  | [], _, _ :: _, _, h, _ => h.elim
  | _ :: _, _, [], _, h, _ => h.elim
theorem Al.set : ∀ {vs : List V} {xs : List α} (i : Nat), Al r G vs xs → r.rel G v x → Al r G (vs.set i v) (xs.set i x)
  | [], [], _, _, _ => True.intro
  | _ :: _, _ :: _, 0, h, h' => ⟨h', h.2⟩
  | _ :: _, _ :: _, i + 1, h, h' => ⟨h.1, Al.set i h.2 h'⟩
  | [], _ :: _, _, h, _ => h.elim
  | _ :: _, [], _, h, _ => h.elim
theorem Al.take : ∀ {vs : List V} {xs : List α} (n : Nat), Al r G vs xs → Al r G (vs.take n) (xs.take n)
  | _, _, 0, _ => True.intro
  | [], [], _ + 1, _ => True.intro
  | _ :: _, _ :: _, n + 1, h => ⟨h.1, Al.take n h.2⟩
  | [], _ :: _, _ + 1, h => h.elim
  | _ :: _, [], _ + 1, h => h.elim
theorem Al.drop : ∀ {vs : List V} {xs : List α} (n : Nat), Al r G vs xs → Al r G (vs.drop n) (xs.drop n)
  | _, _, 0, h => h
  | [], [], _ + 1, _ => True.intro
  | _ :: _, _ :: _, n + 1, h => Al.drop n h.2
  | [], _ :: _, _ + 1, h => h.elim
  | _ :: _, [], _ + 1, h => h.elim
theorem Al.sc {f : α → V} : ∀ {vs : List V} {xs : List α}, Al (rSc f) G vs xs → vs = xs.map f
  | [], [], _ => rfl
  | _ :: _, _ :: _, h => by rw [h.1, Al.sc h.2]; rfl
  | [], _ :: _, h => h.elim
  | _ :: _, [], h => h.elim
theorem Al.ofSc {f : α → V} : ∀ {xs : List α}, Al (rSc f) G (xs.map f) xs
  | [] => True.intro
  | _ :: _ => ⟨rfl, Al.ofSc⟩
end
theorem sqL_up {K : PySem.W.Frag} {G G' : Hp} {a : Addr} {xs : List V} (e : Ext G G') (h : SqL K G a xs) : SqL K G' a xs := by
  rcases h with (h | ⟨o, h⟩) | h
  · exact .inl (.inl (e _ _ h))
  · exact .inl (.inr ⟨o, e _ _ h⟩)
  · exact .inr h
theorem sqT_up {K : PySem.W.Frag} {G G' : Hp} {a : Addr} {xs : List V} (e : Ext G G') (h : SqT K G a xs) : SqT K G' a xs := by
  rcases h with (h | ⟨o, h⟩) | h
  · exact .inl (.inl (e _ _ h))
  · exact .inl (.inr ⟨o, e _ _ h⟩)
  · exact .inr h
section
variable (K : PySem.W.Frag) {α β γ δ : Type}
/-- a list; a tuple of any length; either -/
def rL (r : R α) : R (List α) := ⟨fun G v xs => ∃ p vs, v = .ref p ∧ SqL K G p vs ∧ Al r G vs xs, fun e ⟨p, vs, h1, h2, h3⟩ => ⟨p, vs, h1, sqL_up e h2, h3.up e⟩⟩
def rT (r : R α) : R (List α) := ⟨fun G v xs => ∃ p vs, v = .ref p ∧ SqT K G p vs ∧ Al r G vs xs, fun e ⟨p, vs, h1, h2, h3⟩ => ⟨p, vs, h1, sqT_up e h2, h3.up e⟩⟩
def rQ (r : R α) : R (List α) := ⟨fun G v xs => ∃ p vs, v = .ref p ∧ (SqL K G p vs ∨ SqT K G p vs) ∧ Al r G vs xs, fun e ⟨p, vs, h1, h2, h3⟩ => ⟨p, vs, h1, h2.imp (sqL_up e) (sqT_up e), h3.up e⟩⟩
end

/-! ### rules with a cut, ints and bools compared -/
def tCutE (t : TE) : TE := fun σ H Q => ∃ J : VK, t σ H J ∧ ∀ v H', J v H' → Q v H'
def tCutT (t : TT) : TT := fun σ H Q => ∃ J : Bool → Hp → Prop, t σ H J ∧ ∀ b H', J b H' → Q b H'
def tCutS (t : TS) : TS := fun D σ H => ∃ J : L2.St → Hp → Prop, t { D with nx := J } σ H ∧ ∀ σ' H', J σ' H' → D.nx σ' H'
section
variable {X : Cx} {e : Expr} {st : Stmt} {te : TE} {tt : TT} {ts : TS}
theorem pe_cut (h : PE X e te) : PE X e (tCutE te) := by
  refine ⟨fun pins s σ H Q I hq => ?_⟩
  obtain ⟨J, h1, h2⟩ := hq
  exact thn (h.run pins s σ H J I h1) fun v s1 ⟨x, H1, I1, r1, q1⟩ => ⟨x, H1, I1, r1, h2 _ _ q1⟩
theorem pt_cut (h : PT X e tt) : PT X e (tCutT tt) := by
  refine ⟨fun pins s σ H Q I hq => ?_⟩
  obtain ⟨J, h1, h2⟩ := hq
  exact thn (h.run pins s σ H J I h1) fun b s1 ⟨H1, I1, q1⟩ => ⟨H1, I1, h2 _ _ q1⟩
theorem ps_cut (h : PS X st ts) : PS X st (tCutS ts) := by
  refine ⟨fun pins s σ H D I hq => ?_⟩
  obtain ⟨J, h1, h2⟩ := hq
  refine thn (h.run pins s σ H { D with nx := J } I h1) fun f s1 q => ?_
  cases f with
  | next => obtain ⟨σ', H', I', q⟩ := q; exact ⟨σ', H', I', h2 _ _ q⟩
  | ret v => exact q
  | brk => exact q
  | cont => exact q
theorem op_eqI : OpR X (compareOp .Eq) (rI0 fun i j => .bl (decide (i = j))) := fun pins s σ H x y v u Q I rx ry h => by
  obtain ⟨i, j, rfl, rfl, q⟩ := h
  refine op_eq pins s σ H _ _ v u Q I rx ry ⟨rfl, ?_⟩
  have e : decide (V.int i = V.int j) = decide (i = j) := by
    by_cases h : i = j
    · subst h; simp
    · rw [decide_eq_false h, decide_eq_false (fun z => h (V.int.inj z))]
  rw [e]; exact q
theorem op_neI : OpR X (compareOp .NotEq) (rI0 fun i j => .bl (!decide (i = j))) := fun pins s σ H x y v u Q I rx ry h => by
  obtain ⟨i, j, rfl, rfl, q⟩ := h
  refine op_ne pins s σ H _ _ v u Q I rx ry ⟨rfl, ?_⟩
  have e : decide (V.int i = V.int j) = decide (i = j) := by
    by_cases h : i = j
    · subst h; simp
    · rw [decide_eq_false h, decide_eq_false (fun z => h (V.int.inj z))]
  rw [e]; exact q
def rB0 (g : Bool → Bool → V) : R2 := fun x y H Q => ∃ i j, x = .bl i ∧ y = .bl j ∧ Q (g i j) H
theorem op_eqB : OpR X (compareOp .Eq) (rB0 fun i j => .bl (i == j)) := fun pins s σ H x y v u Q I rx ry h => by
  obtain ⟨i, j, rfl, rfl, q⟩ := h
  refine op_eq pins s σ H _ _ v u Q I rx ry ⟨rfl, ?_⟩
  have e : decide (V.bl i = V.bl j) = (i == j) := by cases i <;> cases j <;> rfl
  rw [e]; exact q
theorem op_neB : OpR X (compareOp .NotEq) (rB0 fun i j => .bl (i != j)) := fun pins s σ H x y v u Q I rx ry h => by
  obtain ⟨i, j, rfl, rfl, q⟩ := h
  refine op_ne pins s σ H _ _ v u Q I rx ry ⟨rfl, ?_⟩
  have e : (!decide (V.bl i = V.bl j)) = (i != j) := by cases i <;> cases j <;> rfl
  rw [e]; exact q
def rS0 (g : Str → Str → V) : R2 := fun x y H Q => ∃ i j, x = .str i ∧ y = .str j ∧ Q (g i j) H
theorem op_eqS : OpR X (compareOp .Eq) (rS0 fun i j => .bl (decide (i = j))) := fun pins s σ H x y v u Q I rx ry h => by
  obtain ⟨i, j, rfl, rfl, q⟩ := h
  refine op_eq pins s σ H _ _ v u Q I rx ry ⟨rfl, ?_⟩
  have e : decide (V.str i = V.str j) = decide (i = j) := by
    by_cases h : i = j
    · subst h; simp
    · rw [decide_eq_false h, decide_eq_false (fun z => h (V.str.inj z))]
  rw [e]; exact q
theorem op_neS : OpR X (compareOp .NotEq) (rS0 fun i j => .bl (!decide (i = j))) := fun pins s σ H x y v u Q I rx ry h => by
  obtain ⟨i, j, rfl, rfl, q⟩ := h
  refine op_ne pins s σ H _ _ v u Q I rx ry ⟨rfl, ?_⟩
  have e : decide (V.str i = V.str j) = decide (i = j) := by
    by_cases h : i = j
    · subst h; simp
    · rw [decide_eq_false h, decide_eq_false (fun z => h (V.str.inj z))]
  rw [e]; exact q
end

/-! ### relations by name -/
def rLenM (K : PySem.W.Frag) : List V → Hp → VK → Prop := fun xs H Q => ∃ p ys, xs = [.ref p] ∧ (SqL K H p ys ∨ SqT K H p ys) ∧ Q (.int ys.length) H
def rTupOf (K : PySem.W.Frag) : List V → Hp → VK → Prop := fun xs H Q => ∃ p ys, xs = [.ref p] ∧ ((SqL K H p ys ∧ ∀ l, H l = none → Q (.ref l) (upd H l (.tup ys))) ∨ (SqT K H p ys ∧ Q (.ref p) H))
def rListOf (K : PySem.W.Frag) : List V → Hp → VK → Prop := fun xs H Q => ∃ p ys, xs = [.ref p] ∧ (SqL K H p ys ∨ SqT K H p ys) ∧ ∀ l, H l = none → Q (.ref l) (upd H l (.lst ys))
section
variable {X : Cx}
theorem call_lenM : CallR X (.builtin "len") (rLenM X.K) := call_len_seq
theorem call_tupOf : CallR X (.type "tuple") (rTupOf X.K) := call_tuple_of
theorem call_listOf : CallR X (.type "list") (rListOf X.K) := call_list_of
end
def mkTup (xs : List V) (H : Hp) (Q : VK) : Prop := xs.length ≤ sizeLine ∧ ∀ p, H p = none → Q (.ref p) (upd H p (.tup xs))
def mkLst (xs : List V) (H : Hp) (Q : VK) : Prop := xs.length ≤ sizeLine ∧ ∀ p, H p = none → Q (.ref p) (upd H p (.lst xs))
def LpW (g : TG) (tb : TS) (D : Ends) (σ : L2.St) (J : It) (H : Hp) : Prop := ∃ W : Nat → Nat → L2.St → Hp → Prop, (∃ m, W 0 m σ H) ∧ ∀ i m σ H, W i m σ H →
  (J.stop i H ∧ D.nx σ H) ∨ (J.go i H ∧ ∃ N : L2.St → Hp → Prop, (∀ σ' H', N σ' H' → ∃ m', m' < m ∧ W (i + 1) m' σ' H') ∧ ∀ x H', J.yld i H x H' → g x σ H' fun σ2 H2 => tb { D with nx := N, ct := N, bk := D.nx } σ2 H2)
def itL (K : PySem.W.Frag) (x : V) (H : Hp) (RI : It → Hp → Prop) : Prop := ∃ a, x = .ref a ∧ (∃ xs, SqL K H a xs) ∧ RI (Itl K a) H
def itT (K : PySem.W.Frag) (x : V) (H : Hp) (RI : It → Hp → Prop) : Prop := ∃ a, x = .ref a ∧ (∃ xs, SqT K H a xs) ∧ RI (Itt K a) H
def itR (vs : List V) (H : Hp) (RI : It → Hp → Prop) : Prop := ∃ j : Int, vs = [.int j] ∧ -(2 ^ 62) ≤ j ∧ j < 2 ^ 62 ∧ RI (Itr 0 j.toNat) H
def itR2 (vs : List V) (H : Hp) (RI : It → Hp → Prop) : Prop := ∃ i j : Int, vs = [.int i, .int j] ∧ (-(2 ^ 62) ≤ i ∧ i < 2 ^ 62 ∧ -(2 ^ 62) ≤ j ∧ j < 2 ^ 62) ∧ RI (Itr i (j - i).toNat) H
def itE (K : PySem.W.Frag) (vs : List V) (H : Hp) (RI : It → Hp → Prop) : Prop := ∃ a xs, vs = [.ref a] ∧ ((SqL K H a xs ∧ RI (Ite K a) H) ∨ (SqT K H a xs ∧ RI (IteT K a) H))

/-! ### peeling a reading -/
section
variable {σ : L2.St} {H : Hp} {Q : VK} {QB : Bool → Hp → Prop} {QA : List V → Hp → Prop} {QO : Option Int → Hp → Prop} {v : V} {i j l : Nat} {ta tb te : TE} {tt tu : TT} {ts tr : TS} {t : TA} {D : Ends} {K : PySem.W.Frag}
theorem gV (e : σ[i]? = some (some v)) (h : Q v H) : tVar i σ H Q := ⟨v, e, h⟩
theorem gC (h : Q v H) : tC v σ H Q := h
theorem gOp {r : R2} (h : ta σ H fun x H1 => tb σ H1 fun y H2 => r x y H2 Q) : tOp r ta tb σ H Q := h
theorem gUn {r : V → Hp → VK → Prop} (h : ta σ H fun x H1 => r x H1 Q) : tUn r ta σ H Q := h
theorem gTest (h : te σ H fun x H' => ∃ k, x = .bl k ∧ QB k H') : tTest te σ H QB := h
theorem gB (h : te σ H fun x H' => ∃ k, x = .bl k ∧ QB k H') : tB te σ H QB := h
theorem gNot (h : tt σ H fun c H1 => QB (!c) H1) : tNot tt σ H QB := h
theorem gAnd (h : tt σ H fun c H1 => if c = true then tu σ H1 QB else QB false H1) : tAnd tt tu σ H QB := h
theorem gOr (h : tt σ H fun c H1 => if c = true then QB true H1 else tu σ H1 QB) : tOr tt tu σ H QB := h
theorem gAndV (h : ta σ H fun x H1 => ∃ c, x = .bl c ∧ if c = true then tb σ H1 Q else Q (.bl false) H1) : tAndV ta tb σ H Q := h
theorem gOrV (h : ta σ H fun x H1 => ∃ c, x = .bl c ∧ if c = true then Q (.bl true) H1 else tb σ H1 Q) : tOrV ta tb σ H Q := h
theorem gNotV (h : ta σ H fun x H1 => ∃ c, x = .bl c ∧ Q (.bl (!c)) H1) : tNotV ta σ H Q := h
theorem gIf (h : tt σ H fun c H1 => if c = true then ta σ H1 Q else tb σ H1 Q) : tIf tt ta tb σ H Q := h
theorem gCons' (h : ta σ H fun x H1 => t σ H1 fun xs H2 => QA (x :: xs) H2) : tCons ta t σ H QA := h
theorem gNil' (h : QA [] H) : tNil σ H QA := h
theorem gCB {r : List V → Hp → VK → Prop} (h : t σ H fun vs H1 => r vs H1 Q) : tCB r t σ H Q := h
theorem gCall {sp : Sp} {dvs : List V} {E : XK} (h : t σ H fun vs H1 => sp (vs ++ dvs) H1 Q E) : tCall sp dvs E t σ H Q := h
theorem gTup' (h : t σ H fun xs H1 => mkTup xs H1 Q) : tTup t σ H Q := h
theorem gLst (h : t σ H fun xs H1 => mkLst xs H1 Q) : tLst t σ H Q := h
theorem gSl {r : V → Option Int → Option Int → Hp → VK → Prop} {to tp : TO} (h : te σ H fun x H1 => to σ H1 fun l H2 => tp σ H2 fun u H3 => r x l u H3 Q) : tSl r te to tp σ H Q := h
theorem gPart (h : te σ H fun x H1 => ∃ i, x = .int i ∧ QO (some i) H1) : tPart te σ H QO := h
theorem gNoPart (h : QO none H) : tNoPart σ H QO := h
theorem gBM {T : String} {r : V → List V → Hp → VK → Prop} (h : te σ H fun x H1 => tyV K T x H1 ∧ t σ H1 fun xs H2 => r x xs H2 Q) : tBM K T r te t σ H Q := h
theorem gSeq (h : ts { D with nx := tr D } σ H) : tSeq ts tr D σ H := h
theorem gNext (h : D.nx σ H) : tNext D σ H := h
theorem gAsgN (h : te σ H fun x H1 => D.nx (σ.set i (some x)) H1) : tAsg te (gName i) D σ H := h
theorem gAsg {g : TG} (h : te σ H fun x H1 => g x σ H1 D.nx) : tAsg te g D σ H := h
theorem gSub' {ts' : TSet} {QS : L2.St → Hp → Prop} (h : ta σ H fun o H1 => tb σ H1 fun i H2 => ts' o i v H2 fun H3 => QS σ H3) : gSub ta tb ts' v σ H QS := h
theorem gPar (h : t σ H fun vs H1 => ∃ v w, vs = [v, w] ∧ D.nx ((σ.set i (some v)).set j (some w)) H1) : tPar i j t D σ H := h
theorem gPar3 (h : t σ H fun vs H1 => ∃ u v w, vs = [u, v, w] ∧ D.nx (((σ.set i (some u)).set j (some v)).set l (some w)) H1) : tPar3 i j l t D σ H := h
theorem gAug {ti : TIp} {x : V} (e : σ[i]? = some (some x)) (h : te σ H fun y H1 => ti x y H1 fun z H2 => D.nx (σ.set i (some z)) H2) : tAug i te ti D σ H := ⟨x, e, h⟩
theorem gDrop (h : te σ H fun _ H1 => D.nx σ H1) : tDrop te D σ H := h
theorem gRet (h : te σ H D.rt) : tRet te D σ H := h
theorem gIfS (h : tt σ H fun b H1 => if b = true then ts D σ H1 else tr D σ H1) : tIfS tt ts tr D σ H := h
theorem gFor {wi : TI} {g : TG} (h : wi σ H (LpW g ts D σ)) : tFor wi g ts D σ H := h
variable {RI : It → Hp → Prop}
theorem gIL (h : te σ H fun x H1 => itL K x H1 RI) : iList K te σ H RI := h
theorem gIT (h : te σ H fun x H1 => itT K x H1 RI) : iTup K te σ H RI := h
theorem gIR (h : t σ H fun vs H1 => itR vs H1 RI) : iRng1 t σ H RI := h
theorem gIR2 (h : t σ H fun vs H1 => itR2 vs H1 RI) : iRng2 t σ H RI := h
theorem gIE (h : t σ H fun vs H1 => itE K vs H1 RI) : iEnumQ K t σ H RI := h
theorem gCE (J : VK) (h : te σ H J) (h2 : ∀ v H', J v H' → Q v H') : tCutE te σ H Q := ⟨J, h, h2⟩
theorem gCT (J : Bool → Hp → Prop) (h : tt σ H J) (h2 : ∀ v H', J v H' → QB v H') : tCutT tt σ H QB := ⟨J, h, h2⟩
theorem gCS (J : L2.St → Hp → Prop) (h : ts { D with nx := J } σ H) (h2 : ∀ σ' H', J σ' H' → D.nx σ' H') : tCutS ts D σ H := ⟨J, h, h2⟩
theorem gS_AsgN (h : te σ H fun x H1 => tr D (σ.set i (some x)) H1) : tSeq (tAsg te (gName i)) tr D σ H := h
theorem gS_Asg {g : TG} (h : te σ H fun x H1 => g x σ H1 (tr D)) : tSeq (tAsg te g) tr D σ H := h
theorem gS_Par (h : t σ H fun vs H1 => ∃ v w, vs = [v, w] ∧ tr D ((σ.set i (some v)).set j (some w)) H1) : tSeq (tPar i j t) tr D σ H := h
theorem gS_Par3 (h : t σ H fun vs H1 => ∃ u v w, vs = [u, v, w] ∧ tr D (((σ.set i (some u)).set j (some v)).set l (some w)) H1) : tSeq (tPar3 i j l t) tr D σ H := h
theorem gS_Aug {ti : TIp} {x : V} (e : σ[i]? = some (some x)) (h : te σ H fun y H1 => ti x y H1 fun z H2 => tr D (σ.set i (some z)) H2) : tSeq (tAug i te ti) tr D σ H := ⟨x, e, h⟩
theorem gS_Drop (h : te σ H fun _ H1 => tr D σ H1) : tSeq (tDrop te) tr D σ H := h
theorem gS_IfS {tw : TS} (h : tt σ H fun b H1 => if b = true then ts { D with nx := tr D } σ H1 else tw { D with nx := tr D } σ H1) : tSeq (tIfS tt ts tw) tr D σ H := h
theorem gS_CS (J : L2.St → Hp → Prop) (h : ts { D with nx := J } σ H) (h2 : ∀ σ' H', J σ' H' → tr D σ' H') : tSeq (tCutS ts) tr D σ H := ⟨J, h, h2⟩
theorem gE {f bk ct : L2.St → Hp → Prop} {rt : VK} (h : f σ H) : Ends.nx ⟨f, rt, bk, ct⟩ σ H := h
theorem ne_false {b : Bool} (h : ¬ b = true) : b = false := by
  cases b with
  | true => exact (h rfl).elim
  | false => rfl
end

/-! ### sizes -/
theorem sz {n : Nat} (h : n ≤ 100000) : n ≤ sizeLine := Nat.le_trans h (by decide)
theorem szl {n : Nat} (h : n < 100000) : n < sizeLine := Nat.lt_of_lt_of_le h (by decide)
theorem sz0 : 0 ≤ sizeLine := sz (by decide)
theorem sz1 : 1 ≤ sizeLine := sz (by decide)
theorem sz2 : 2 ≤ sizeLine := sz (by decide)
theorem sz3 : 3 ≤ sizeLine := sz (by decide)
theorem sz4 : 4 ≤ sizeLine := sz (by decide)
theorem sz5 : 5 ≤ sizeLine := sz (by decide)
theorem sz6 : 6 ≤ sizeLine := sz (by decide)

/-! ### steps -/
theorem ix_eq (n : Nat) (i : Int) : ixM n i = ixN n i := rfl
theorem get_eq {α : Type} (xs : List α) (i : Int) : getM xs i = atI xs i := rfl
theorem cut_eq (xs : List V) (lo hi : Option Int) : cutV xs lo hi = cutM xs lo hi := by
  have e : ∀ n d o, HT.sIx n d o = slIx n d o := fun n d o => by cases o <;> rfl
  unfold cutV cutM
  rw [e, e]
section
variable {α β γ δ : Type} {r : R α} {G G' H : Hp} {O : Own} {K : PySem.W.Frag} {v w : V} {vs : List V} {x : α} {xs : List α} {a : Addr} {Q : VK}
theorem Al.getI {i : Int} (h : Al r G vs xs) (e : getM xs i = some x) : ∃ v, atI vs i = some v ∧ r.rel G v x := by
  unfold getM at e
  rw [← h.len] at e
  obtain ⟨j, e1, e2⟩ := bindS e
  obtain ⟨w, h1, h2⟩ := h.get e2
  refine ⟨w, ?_, h2⟩
  show (ixN vs.length i).bind _ = some w
  rw [← ix_eq, e1]
  exact h1
theorem Al.cut {lo hi : Option Int} (h : Al r G vs xs) : Al r G (cutV vs lo hi) (cutM xs lo hi) := by
  rw [cut_eq]
  unfold cutM
  rw [h.len]
  exact (h.drop _).take _
/-- xs[i] of a frozen list, tuple, list or tuple; of an owned list -/
theorem q_ixL {i : Int} (S : Sub G O H) (h : (rL K r).rel G v xs) (e : getM xs i = some x) (q : ∀ w, r.rel G w x → Q w H) : rIxL K v (.int i) H Q := by
  obtain ⟨p, vs, rfl, hs, ha⟩ := h
  obtain ⟨w, h1, h2⟩ := ha.getI e
  exact ⟨p, vs, i, w, rfl, rfl, sqL_up S.ext hs, h1, q w h2⟩
theorem q_ixT {i : Int} (S : Sub G O H) (h : (rT K r).rel G v xs) (e : getM xs i = some x) (q : ∀ w, r.rel G w x → Q w H) : rIxT K v (.int i) H Q := by
  obtain ⟨p, vs, rfl, hs, ha⟩ := h
  obtain ⟨w, h1, h2⟩ := ha.getI e
  exact ⟨p, vs, i, w, rfl, rfl, sqT_up S.ext hs, h1, q w h2⟩
theorem q_ixO {i : Int} (S : Sub G ((a, .lst vs) :: O) H) (h : Al r G vs xs) (e : getM xs i = some x) (q : ∀ w, r.rel G w x → Q w H) : rIxL K (.ref a) (.int i) H Q := by
  obtain ⟨w, h1, h2⟩ := h.getI e
  exact ⟨a, vs, i, w, rfl, rfl, .inl (.inl S.head), h1, q w h2⟩
/-- len -/
theorem q_lenL {y : V} (S : Sub G O H) (h : (rL K r).rel G v xs) (q : Q (.int (xs.length : Int)) H) : rLenM K [v] H Q := by
  obtain ⟨p, vs, rfl, hs, ha⟩ := h
  refine ⟨p, vs, rfl, .inl (sqL_up S.ext hs), ?_⟩
  rw [ha.len]; exact q
theorem q_lenT (S : Sub G O H) (h : (rT K r).rel G v xs) (q : Q (.int (xs.length : Int)) H) : rLenM K [v] H Q := by
  obtain ⟨p, vs, rfl, hs, ha⟩ := h
  refine ⟨p, vs, rfl, .inr (sqT_up S.ext hs), ?_⟩
  rw [ha.len]; exact q
theorem q_lenO (S : Sub G ((a, .lst vs) :: O) H) (h : Al r G vs xs) (q : Q (.int (xs.length : Int)) H) : rLenM K [V.ref a] H Q := by
  refine ⟨a, vs, rfl, .inl (.inl (.inl S.head)), ?_⟩
  rw [h.len]; exact q
end
/-! ### further steps -/
section
variable {α β γ δ : Type} {r : R α} {G G' H : Hp} {O : Own} {K : PySem.W.Frag} {v w : V} {vs : List V} {x : α} {xs ys : List α} {a : Addr} {Q : VK}
theorem q_mul {i j k : Int} (h : mulM i j = some k) (q : Q (.int k) H) : rI CMul (fun i j => .int (i * j)) (.int i) (.int j) H Q := by
  obtain ⟨c, e⟩ := mulM_some h
  exact ⟨i, j, rfl, rfl, c, by show Q (.int (i * j)) H; rw [e]; exact q⟩
theorem q_fdiv {i j k : Int} (h : fdivM i j = some k) (q : Q (.int k) H) : rI CDivW (fun i j => .int (i / j)) (.int i) (.int j) H Q := by
  obtain ⟨c, e⟩ := fdivM_some h
  exact ⟨i, j, rfl, rfl, c, by show Q (.int (i / j)) H; rw [e]; exact q⟩
theorem q_mod {i j k : Int} (h : modM i j = some k) (q : Q (.int k) H) : rI (fun _ j => 0 < j) (fun i j => .int (i % j)) (.int i) (.int j) H Q := by
  obtain ⟨c, e⟩ := modM_some h
  exact ⟨i, j, rfl, rfl, c, by show Q (.int (i % j)) H; rw [e]; exact q⟩
/-- xs.append(e), the first owned list -/
theorem q_app (S : Sub G ((a, .lst vs) :: O) H) (h : Al r G vs xs) (hv : r.rel G v x) (e : appM xs x = some ys) (q : ∀ H' w, Sub G ((a, .lst w) :: O) H' → Al r G w ys → Q .non H') : rAppend (.ref a) [v] H Q := by
  obtain ⟨c, e⟩ := appM_some e
  refine ⟨a, vs, v, rfl, rfl, S.head, szl (by rw [h.len]; exact c), q _ _ S.wr ?_⟩
  rw [← e]
  exact h.app ⟨hv, True.intro⟩
/-- xs[i] = e -/
theorem q_setL {i : Int} {Q : Hp → Prop} (S : Sub G ((a, .lst vs) :: O) H) (h : Al r G vs xs) (hv : r.rel G v x) (e : setM xs i x = some ys) (q : ∀ H' ws, Sub G ((a, .lst ws) :: O) H' → Al r G ws ys → Q H') : rSetL (.ref a) (.int i) v H Q := by
  obtain ⟨j, e1, e2⟩ := setM_some e
  rw [← h.len] at e1
  refine ⟨a, vs, i, j, rfl, rfl, S.head, e1, q _ _ S.wr ?_⟩
  rw [← e2]
  exact h.set j hv
/-- slices: a new list (frozen at once) -/
theorem q_slL {lo hi : Option Int} (S : Sub G O H) (h : (rL K r).rel G v xs) (q : ∀ w G' H', Ext G G' → Sub G' O H' → (rL K r).rel G' w (cutM xs lo hi) → Q w H') : rSlL K v lo hi H Q := by
  obtain ⟨p, vs, rfl, hs, ha⟩ := h
  refine ⟨p, vs, rfl, sqL_up S.ext hs, fun t ht => q _ _ _ (S.extNew ht (.lst (cutV vs lo hi))) (S.new ht) ⟨t, _, rfl, .inl (.inl upd_same), ?_⟩⟩
  exact (ha.up (S.extNew ht _)).cut
/-- a list display, owned -/
theorem q_lst (S : Sub G O H) (h : Al r G vs xs) (hz : vs.length ≤ 100000) (q : ∀ p H' w, Sub G ((p, .lst w) :: O) H' → Al r G w xs → Q (.ref p) H') : mkLst vs H Q :=
  ⟨sz hz, fun p hp => q p _ vs (S.newOwn hp) h⟩
/-- tuple(xs) of an owned list, of a list, of a list or tuple -/
theorem q_tupO (S : Sub G ((a, .lst vs) :: O) H) (h : Al r G vs xs) (q : ∀ u G' H', Ext G G' → Sub G' ((a, .lst vs) :: O) H' → (rT K r).rel G' u xs → Q u H') :
    rTupOf K [V.ref a] H Q :=
  ⟨a, vs, rfl, .inl ⟨.inl (.inl S.head), fun l hl => q _ _ _ (S.extNew hl _) (S.new hl) ⟨l, vs, rfl, .inl (.inl upd_same), h.up (S.extNew hl _)⟩⟩⟩
theorem q_tupL (S : Sub G O H) (h : (rL K r).rel G v xs) (q : ∀ u G' H', Ext G G' → Sub G' O H' → (rT K r).rel G' u xs → Q u H') :
    rTupOf K [v] H Q := by
  obtain ⟨p, vs, rfl, hs, ha⟩ := h
  exact ⟨p, vs, rfl, .inl ⟨sqL_up S.ext hs, fun l hl => q _ _ _ (S.extNew hl _) (S.new hl) ⟨l, vs, rfl, .inl (.inl upd_same), ha.up (S.extNew hl _)⟩⟩⟩
theorem q_tupT (S : Sub G O H) (h : (rT K r).rel G v xs) (q : Q v H) :
    rTupOf K [v] H Q := by
  obtain ⟨p, vs, rfl, hs, ha⟩ := h
  exact ⟨p, vs, rfl, .inr ⟨sqT_up S.ext hs, q⟩⟩
/-- list(xs): a new list, frozen or owned -/
theorem q_listQ (S : Sub G O H) (h : (rQ K r).rel G v xs) (q : ∀ u G' H', Ext G G' → Sub G' O H' → (rL K r).rel G' u xs → Q u H') :
    rListOf K [v] H Q := by
  obtain ⟨p, vs, rfl, hs, ha⟩ := h
  exact ⟨p, vs, rfl, hs.imp (sqL_up S.ext) (sqT_up S.ext), fun l hl => q _ _ _ (S.extNew hl _) (S.new hl) ⟨l, vs, rfl, .inl (.inl upd_same), ha.up (S.extNew hl _)⟩⟩
theorem q_listQo (S : Sub G O H) (h : (rQ K r).rel G v xs) (q : ∀ p vs H', Sub G ((p, .lst vs) :: O) H' → Al r G vs xs → Q (.ref p) H') :
    rListOf K [v] H Q := by
  obtain ⟨p, vs, rfl, hs, ha⟩ := h
  exact ⟨p, vs, rfl, hs.imp (sqL_up S.ext) (sqT_up S.ext), fun l hl => q l vs _ (S.newOwn hl) ha⟩
theorem rL_Q (h : (rL K r).rel G v xs) : (rQ K r).rel G v xs := let ⟨p, vs, e, hs, ha⟩ := h; ⟨p, vs, e, .inl hs, ha⟩
theorem rT_Q (h : (rT K r).rel G v xs) : (rQ K r).rel G v xs := let ⟨p, vs, e, hs, ha⟩ := h; ⟨p, vs, e, .inr hs, ha⟩
/-- an owned list, frozen -/
theorem rL_frz (S : Sub G ((a, .lst vs) :: O) H) (h : Al r G vs xs) : (rL K r).rel (upd G a (.lst vs)) (.ref a) xs := ⟨a, vs, rfl, .inl (.inl upd_same), h.up S.extFrz⟩
theorem frz_L (S : Sub G ((a, .lst vs) :: O) H) (h : Al r G vs xs) : ∃ G', Ext G G' ∧ Sub G' O H ∧ (rL K r).rel G' (.ref a) xs := ⟨_, S.extFrz, S.frz, rL_frz S h⟩
/-- an owned list as the heap has it now -/
theorem rL_own (S : Sub G ((a, .lst vs) :: O) H) (h : Al r G vs xs) : (rL K r).rel H (.ref a) xs := ⟨a, vs, rfl, .inl (.inl S.head), h.up S.ext⟩

/-! types, for isinstance -/
theorem ty_L (h : (rL K r).rel H v xs) : TyX K H v (.type "list") := by
  obtain ⟨p, vs, rfl, hs, _⟩ := h
  rcases hs with (hs | ⟨o, hs⟩) | ⟨o, its, n, h1, h2, _⟩
  · exact .base (.lst hs)
  · exact .base (.frz hs)
  · exact .kList h1 h2
theorem ty_sqT {p : Addr} (hs : SqT K H p vs) : TyX K H (.ref p) (.type "tuple") := by
  rcases hs with (hs | ⟨o, hs⟩) | ⟨o, its, n, h1, h2, _⟩
  · exact .base (.tup hs)
  · exact .fTuple hs
  · exact .kTuple h1 h2
theorem ty_T (h : (rT K r).rel H v xs) : TyX K H v (.type "tuple") := by
  obtain ⟨p, vs, rfl, hs, _⟩ := h
  exact ty_sqT hs
theorem ty_I (i : Int) : TyX K H (.int i) (.type "int") := .base (.int i)
theorem ty_B (b : Bool) : TyX K H (.bl b) (.type "bool") := .base (.bl b)
theorem ty_S (b : Str) : TyX K H (.str b) (.type "str") := .base (.str b)
theorem ty_N : TyX K H .non (.type "NoneType") := .base .non
theorem q_isi {t c : String} {b : Bool} (h : TyX K H v (.type t)) (e : kitB t c = some b) (q : Q (.bl b) H) : rIsi K [v, .ty c] H Q := ⟨v, .ty c, .type t, .type c, b, rfl, .ty c, h, kit_ty e, q⟩
end

/-! ### data and == -/
structure RD (K : PySem.W.Frag) (α : Type) [DecidableEq α] where
  r : R α
  enc : α → PyData
  dep : Nat
  ok : α → Bool
  lay : ∀ x, ok x = true → (enc x).canLay0 = true
  dpt : ∀ x, (enc x).depth ≤ dep
  dp : ∀ {H : Hp} {v : V} {x : α}, r.rel H v x → Dp K H v (enc x)
  eqv : ∀ x y, PyData.eqv (enc x) (enc y) = decide (x = y)
section
variable {K : PySem.W.Frag} {α β γ : Type} [DecidableEq α] [DecidableEq β] [DecidableEq γ]
def dInt : RD K Int := ⟨rInt, .int, 1, fun _ => true, fun _ _ => rfl, fun _ => by simp [PyData.depth], fun {H v x} h => by cases (show v = .int x from h); exact .int x, fun x y => rfl⟩
def dBool : RD K Bool := ⟨rBool, .bool, 1, fun _ => true, fun _ _ => rfl, fun _ => by simp [PyData.depth], fun {H v x} h => by cases (show v = .bl x from h); exact .bl x, fun x y => by cases x <;> cases y <;> rfl⟩
def dStr : RD K Str := ⟨rStr, .str, 1, PyData.strOk, fun _ h => h, fun _ => by simp [PyData.depth], fun {H v x} h => by cases (show v = .str x from h); exact .str x, fun x y => by
  show (x == y) = decide (x = y)
  by_cases e : x = y
  · subst e; simp
  · rw [decide_eq_false e]; exact beq_eq_false_iff_ne.mpr e⟩
theorem Al.dps {r : R α} {enc : α → PyData} {H : Hp} (hd : ∀ {v : V} {x : α}, r.rel H v x → Dp K H v (enc x)) : ∀ {vs : List V} {xs : List α}, Al r H vs xs → DpAll K H vs (xs.map enc)
  | [], [], _ => .nil
  | _ :: _, _ :: _, h => .cons (hd h.1) (Al.dps hd h.2)
  | [], _ :: _, h => h.elim
  | _ :: _, [], h => h.elim
theorem eqvs {enc : α → PyData} (he : ∀ x y, PyData.eqv (enc x) (enc y) = decide (x = y)) : ∀ xs ys : List α, PyData.eqvAll (xs.map enc) (ys.map enc) = decide (xs = ys)
  | [], [] => rfl
  | [], _ :: _ => rfl
  | _ :: _, [] => rfl
  | x :: xs, y :: ys => by
    show (PyData.eqv (enc x) (enc y) && PyData.eqvAll (xs.map enc) (ys.map enc)) = _
    rw [he, eqvs he xs ys]
    by_cases h1 : x = y
    · subst h1
      by_cases h2 : xs = ys
      · subst h2; simp
      · simp [h2]
    · simp [h1]
theorem lays {enc : α → PyData} {ok : α → Bool} (he : ∀ x, ok x = true → (enc x).canLay0 = true) : ∀ xs : List α, xs.all ok = true → PyData.canLayAll0 (xs.map enc) = true
  | [], _ => rfl
  | x :: xs, h => by
    rw [List.all_cons, Bool.and_eq_true] at h
    show (PyData.canLay0 (enc x) && PyData.canLayAll0 (xs.map enc)) = true
    rw [he x h.1, lays he xs h.2]
    rfl
theorem deps {enc : α → PyData} {n : Nat} (he : ∀ x, (enc x).depth ≤ n) : ∀ xs : List α, PyData.depthAll (xs.map enc) ≤ n
  | [] => by simp [PyData.depthAll]
  | x :: xs => by
    have h1 := he x
    have h2 := deps he xs
    simp only [List.map_cons, PyData.depthAll]
    omega
def dL (d : RD K α) : RD K (List α) := ⟨rL K d.r, fun xs => .list (xs.map d.enc), d.dep + 1, fun xs => xs.all d.ok, fun xs h => lays d.lay xs h, fun xs => by have := deps d.dpt xs; simp only [PyData.depth]; omega,
  fun {H v x} h => by obtain ⟨p, vs, rfl, hs, ha⟩ := h; exact .lst hs (ha.dps d.dp), fun x y => eqvs d.eqv x y⟩
def dT (d : RD K α) : RD K (List α) := ⟨rT K d.r, fun xs => .tuple (xs.map d.enc), d.dep + 1, fun xs => xs.all d.ok, fun xs h => lays d.lay xs h, fun xs => by have := deps d.dpt xs; simp only [PyData.depth]; omega,
  fun {H v x} h => by obtain ⟨p, vs, rfl, hs, ha⟩ := h; exact .tup hs (ha.dps d.dp), fun x y => eqvs d.eqv x y⟩
theorem RD.shaped (d : RD K α) (hd : d.dep ≤ 64) {x : α} (h : d.ok x = true) : SeqAt.shaped (d.enc x) = true := by
  unfold SeqAt.shaped
  rw [d.lay x h, decide_eq_true (Nat.le_trans (d.dpt x) hd)]
  rfl
variable {G H : Hp} {O : Own} {v w : V} {x y : α} {Q : VK}
/-- x == y of data: the reps at the heap as it stands -/
theorem q_eqD (d : RD K α) (hd : d.dep ≤ 64) (h1 : d.r.rel H v x) (h2 : d.r.rel H w y) (o1 : d.ok x = true) (o2 : d.ok y = true) (q : Q (.bl (decide (x = y))) H) : rEqD K v w H Q :=
  ⟨d.enc x, d.enc y, d.dp h1, d.dp h2, d.shaped hd o1, d.shaped hd o2, by rw [d.eqv]; exact q⟩
theorem q_neD (d : RD K α) (hd : d.dep ≤ 64) (h1 : d.r.rel H v x) (h2 : d.r.rel H w y) (o1 : d.ok x = true) (o2 : d.ok y = true) (q : Q (.bl (!decide (x = y))) H) : rNeD K v w H Q :=
  ⟨d.enc x, d.enc y, d.dp h1, d.dp h2, d.shaped hd o1, d.shaped hd o2, by rw [d.eqv]; exact q⟩
theorem okI : ∀ x, (dInt (K := K)).ok x = true := fun _ => rfl
theorem okB : ∀ x, (dBool (K := K)).ok x = true := fun _ => rfl
theorem okL {d : RD K α} (h : ∀ x, d.ok x = true) : ∀ xs, (dL d).ok xs = true := fun xs => List.all_eq_true.mpr fun x _ => h x
theorem okT {d : RD K α} (h : ∀ x, d.ok x = true) : ∀ xs, (dT d).ok xs = true := fun xs => List.all_eq_true.mpr fun x _ => h x
theorem ok_all {ok : α → Bool} (h : ∀ x, ok x = true) (xs : List α) : xs.all ok = true := List.all_eq_true.mpr fun x _ => h x
end

/-! ### loops -/
def PvL {α σ ρ : Type} (f : σ → α → Option (Bf σ ρ)) (xs : List α) (res : Fl σ ρ) (I : σ → L2.St → Hp → Prop) (i : Nat) : L2.St → Hp → Prop := fun σ' H => ∃ s, I s σ' H ∧ forL f (xs.drop i) s = some res
section
variable {α β τ ρ : Type} {J : It} {n : Nat} {GW : Hp → Prop} {Y : Nat → Hp → V → Hp → Prop} {f : τ → α → Option (Bf τ ρ)} {xs : List α} {s0 : τ} {res : Fl τ ρ} {I : τ → L2.St → Hp → Prop} {g : TG} {tb : TS} {D : Ends} {σ : L2.St} {H : Hp}
theorem lp_it (w : Walk J n GW Y) (hn : xs.length = n) (hm : forL f xs s0 = some res) (I : τ → L2.St → Hp → Prop) (h0 : I s0 σ H) (hG : ∀ s σ H, I s σ H → GW H)
    (hs : ∀ (i : Nat) (x : α) (s : τ) (b : Bf τ ρ), xs[i]? = some x → f s x = some b → conL f (xs.drop (i + 1)) b = some res → ∀ v σ H H', I s σ H → Y i H v H' →
      g v σ H' fun σ2 H2 => tb { D with nx := PvL f xs res I (i + 1), ct := PvL f xs res I (i + 1), bk := D.nx } σ2 H2)
    (hd : ∀ s σ H, res = .nx s → I s σ H → D.nx σ H) :
    LpW g tb D σ J H := by
  refine for_it w (PvL f xs res I) ⟨s0, h0, hm⟩ (fun i σ H _ ⟨s, hI, _⟩ => hG s σ H hI) (fun i v σ H H' hi ⟨s, hI, hf⟩ hy => ?_) fun σ H ⟨s, hI, hf⟩ => ?_
  · have hx : xs[i]? = some xs[i] := List.getElem?_eq_getElem (by omega)
    obtain ⟨b, hb, hr⟩ := forL_drop hx hf
    exact hs i _ s b hx hb hr v σ H H' hI hy
  · rw [← hn, List.drop_length] at hf
    exact hd s σ H (Option.some.inj hf).symm hI
variable {K : PySem.W.Frag} {G : Hp} {O : Own} {r : R α} {v : V} {vs : List V} {a : Addr}
theorem Al.at {i : Nat} {x : α} {w : V} (h : Al r G vs xs) (hx : xs[i]? = some x) (hw : vs[i]? = some w) : r.rel G w x := by
  obtain ⟨w', h1, h2⟩ := h.get hx
  rw [hw] at h1; cases h1; exact h2
/-- for x in a frozen list -/
theorem lp_L (S : Sub G O H) (h : (rL K r).rel G v xs) (hm : forL f xs s0 = some res) (I : τ → L2.St → Hp → Prop) (h0 : I s0 σ H) (hG : ∀ s σ H, I s σ H → Ext G H)
    (hs : ∀ (i : Nat) (x : α) (s : τ) (b : Bf τ ρ), f s x = some b → conL f (xs.drop (i + 1)) b = some res → ∀ w σ H, I s σ H → r.rel G w x →
      g w σ H fun σ2 H2 => tb { D with nx := PvL f xs res I (i + 1), ct := PvL f xs res I (i + 1), bk := D.nx } σ2 H2)
    (hd : ∀ s σ H, res = .nx s → I s σ H → D.nx σ H) :
    itL K v H (LpW g tb D σ) := by
  obtain ⟨p, vs, rfl, hq, ha⟩ := h
  refine ⟨p, rfl, ⟨vs, sqL_up S.ext hq⟩, lp_it (walk_list (xs := vs)) ha.len.symm hm I h0 (fun s σ H hI => sqL_up (hG s σ H hI) hq) (fun i x s b hx hb hr w σ H H' hI hY => ?_) hd⟩
  obtain ⟨rfl, hw⟩ := hY
  exact hs i x s b hb hr w σ _ hI (ha.at hx hw)
/-- for x in a frozen tuple -/
theorem lp_T (S : Sub G O H) (h : (rT K r).rel G v xs) (hm : forL f xs s0 = some res) (I : τ → L2.St → Hp → Prop) (h0 : I s0 σ H) (hG : ∀ s σ H, I s σ H → Ext G H)
    (hs : ∀ (i : Nat) (x : α) (s : τ) (b : Bf τ ρ), f s x = some b → conL f (xs.drop (i + 1)) b = some res → ∀ w σ H, I s σ H → r.rel G w x →
      g w σ H fun σ2 H2 => tb { D with nx := PvL f xs res I (i + 1), ct := PvL f xs res I (i + 1), bk := D.nx } σ2 H2)
    (hd : ∀ s σ H, res = .nx s → I s σ H → D.nx σ H) :
    itT K v H (LpW g tb D σ) := by
  obtain ⟨p, vs, rfl, hq, ha⟩ := h
  refine ⟨p, rfl, ⟨vs, sqT_up S.ext hq⟩, lp_it (walk_tup (xs := vs)) ha.len.symm hm I h0 (fun s σ H hI => sqT_up (hG s σ H hI) hq) (fun i x s b hx hb hr w σ H H' hI hY => ?_) hd⟩
  obtain ⟨rfl, hw⟩ := hY
  exact hs i x s b hb hr w σ _ hI (ha.at hx hw)
theorem rng_at {n i k : Nat} (h : (List.range n)[i]? = some k) : k = i := by
  obtain ⟨h1, h2⟩ := List.getElem?_eq_some_iff.mp h
  rw [List.getElem_range] at h2
  exact h2.symm
/-- for i in range(n) -/
theorem lp_R {f : τ → Int → Option (Bf τ ρ)} {xs : List Int} {n : Int} (hx : rngM n = some xs) (hm : forL f xs s0 = some res) (I : τ → L2.St → Hp → Prop) (h0 : I s0 σ H)
    (hs : ∀ (i : Nat) (x : Int) (s : τ) (b : Bf τ ρ), f s x = some b → conL f (xs.drop (i + 1)) b = some res → ∀ σ H, I s σ H →
      g (.int x) σ H fun σ2 H2 => tb { D with nx := PvL f xs res I (i + 1), ct := PvL f xs res I (i + 1), bk := D.nx } σ2 H2)
    (hd : ∀ s σ H, res = .nx s → I s σ H → D.nx σ H) :
    itR [V.int n] H (LpW g tb D σ) := by
  obtain ⟨c, rfl⟩ := rngM_some hx
  refine ⟨n, rfl, c.1, c.2, lp_it walk_range (by simp) hm I h0 (fun _ _ _ _ => True.intro) (fun i x s b hx hb hr w σ H H' hI hY => ?_) hd⟩
  obtain ⟨rfl, hw⟩ := hY
  have e : (0 : Int) + (i : Nat) = x := by
    rw [List.getElem?_map] at hx
    obtain ⟨k, h1, h2⟩ := Option.map_eq_some_iff.mp hx
    have := rng_at h1
    omega
  have e2 : w = .int x := by rw [hw, ← e]
  rw [e2]
  exact hs i x s b hb hr σ _ hI
theorem lp_R2 {f : τ → Int → Option (Bf τ ρ)} {xs : List Int} {lo n : Int} (hx : rng2M lo n = some xs) (hm : forL f xs s0 = some res) (I : τ → L2.St → Hp → Prop) (h0 : I s0 σ H)
    (hs : ∀ (i : Nat) (x : Int) (s : τ) (b : Bf τ ρ), f s x = some b → conL f (xs.drop (i + 1)) b = some res → ∀ σ H, I s σ H →
      g (.int x) σ H fun σ2 H2 => tb { D with nx := PvL f xs res I (i + 1), ct := PvL f xs res I (i + 1), bk := D.nx } σ2 H2)
    (hd : ∀ s σ H, res = .nx s → I s σ H → D.nx σ H) :
    itR2 [V.int lo, V.int n] H (LpW g tb D σ) := by
  obtain ⟨c, rfl⟩ := rng2M_some hx
  refine ⟨lo, n, rfl, c, lp_it walk_range (by simp) hm I h0 (fun _ _ _ _ => True.intro) (fun i x s b hx hb hr w σ H H' hI hY => ?_) hd⟩
  obtain ⟨rfl, hw⟩ := hY
  have e : lo + (i : Nat) = x := by
    rw [List.getElem?_map] at hx
    obtain ⟨k, h1, h2⟩ := Option.map_eq_some_iff.mp hx
    have := rng_at h1
    omega
  have e2 : w = .int x := by rw [hw, ← e]
  rw [e2]
  exact hs i x s b hb hr σ _ hI
/-- for i, x in enumerate(a list or a tuple) -/
theorem walk_enumT {xs : List V} : Walk (IteT K a) xs.length (fun H => SqT K H a xs) (YPair (fun i => some (.int (i : Nat))) (fun i => xs[i]?)) := by
  refine ⟨fun i _ hi q => ⟨xs, xs[i], q, by simp [hi]⟩, fun _ q => ⟨xs, q, rfl⟩, fun i H v H' _ q y => ?_⟩
  obtain ⟨T, x, h1, h2, h3, h4⟩ := y
  exact ⟨T, .int (i : Nat), x, h1, h2, h3, rfl, h4 xs q⟩
theorem lp_Eit {f : τ → Int × α → Option (Bf τ ρ)} {i1 i2 : Nat} {J : It} {vs : List V} (w : Walk J vs.length GW (YPair (fun i => some (.int (i : Nat))) (fun i => vs[i]?))) (ha : Al r G vs xs) (hm : forL f (enumM xs) s0 = some res) (I : τ → L2.St → Hp → Prop) (h0 : I s0 σ H) (hG : ∀ s σ H, I s σ H → GW H)
    (hs : ∀ (i : Nat) (x : α) (s : τ) (b : Bf τ ρ), f s ((i : Int), x) = some b → conL f ((enumM xs).drop (i + 1)) b = some res → ∀ w σ H H', I s σ H → (∀ G O, Sub G O H → Sub G O H') → r.rel G w x →
      tb { D with nx := PvL f (enumM xs) res I (i + 1), ct := PvL f (enumM xs) res I (i + 1), bk := D.nx } ((σ.set i1 (some (.int (i : Int)))).set i2 (some w)) H')
    (hd : ∀ s σ H, res = .nx s → I s σ H → D.nx σ H) :
    LpW (gTup K 2 (gCons (gName i1) (gCons (gName i2) gNil))) tb D σ J H := by
  refine lp_it w (by rw [enumM_length, ha.len]) hm I h0 hG (fun i y s b hx hb hr v σ H H' hI hY => ?_) hd
  rw [enumM_get] at hx
  obtain ⟨x, hx2, rfl⟩ := Option.map_eq_some_iff.mp hx
  obtain ⟨T, k, w, rfl, hT, rfl, hk, hw⟩ := hY
  cases hk
  exact ⟨T, _, rfl, .inl (.inl upd_same), rfl, _, _, rfl, _, _, rfl, rfl, hs i x s b hb hr w σ H _ hI (fun G O S => S.junk hT) (ha.at hx2 hw)⟩
/-- for i, x in enumerate(xs): a frozen list or tuple -/
theorem lp_EQ {f : τ → Int × α → Option (Bf τ ρ)} {i1 i2 : Nat} (S : Sub G O H) (h : (rQ K r).rel G v xs) (hm : forL f (enumM xs) s0 = some res) (I : τ → L2.St → Hp → Prop) (h0 : I s0 σ H) (hG : ∀ s σ H, I s σ H → Ext G H)
    (hs : ∀ (i : Nat) (x : α) (s : τ) (b : Bf τ ρ), f s ((i : Int), x) = some b → conL f ((enumM xs).drop (i + 1)) b = some res → ∀ w σ H H', I s σ H → (∀ G O, Sub G O H → Sub G O H') → r.rel G w x →
      tb { D with nx := PvL f (enumM xs) res I (i + 1), ct := PvL f (enumM xs) res I (i + 1), bk := D.nx } ((σ.set i1 (some (.int (i : Int)))).set i2 (some w)) H')
    (hd : ∀ s σ H, res = .nx s → I s σ H → D.nx σ H) :
    itE K [v] H (LpW (gTup K 2 (gCons (gName i1) (gCons (gName i2) gNil))) tb D σ) := by
  obtain ⟨p, vs, rfl, hq, ha⟩ := h
  refine ⟨p, vs, rfl, ?_⟩
  rcases hq with hq | hq
  · exact .inl ⟨sqL_up S.ext hq, lp_Eit walk_enum ha hm I h0 (fun s σ H hI => sqL_up (hG s σ H hI) hq) hs hd⟩
  · exact .inr ⟨sqT_up S.ext hq, lp_Eit walk_enumT ha hm I h0 (fun s σ H hI => sqT_up (hG s σ H hI) hq) hs hd⟩
end
end Mr

set_option Elab.async false
set_option linter.all false
set_option maxRecDepth 100000
set_option maxHeartbeats 2000000
/-! MirT: tuples of fixed length (printed by wip/gen/tup.py). -/
namespace Mr
open PySem PySem.Spec PyProof.Rows L2
section
variable {α : Type} {β : Type} {K : PySem.W.Frag} {G H : Hp} {O : Own} {v : V} {Q : VK}
def rP2 (K : PySem.W.Frag) (r0 : R α) (r1 : R β) : R (α × β) := ⟨fun G v x => ∃ p v0 v1, v = .ref p ∧ SqT K G p [v0, v1] ∧ r0.rel G v0 x.1 ∧ r1.rel G v1 x.2, fun e ⟨p, v0, v1, hv, hs, h0, h1⟩ => ⟨p, v0, v1, hv, sqT_up e hs, r0.mono e h0, r1.mono e h1⟩⟩
theorem q_tup2 {r0 : R α} {r1 : R β} {v0 v1 : V} {x0 : α} {x1 : β} (S : Sub G O H) (h0 : r0.rel G v0 x0) (h1 : r1.rel G v1 x1) (q : ∀ u G' H', Ext G G' → Sub G' O H' → (rP2 K r0 r1).rel G' u (x0, x1) → Q u H') : mkTup [v0, v1] H Q :=
  ⟨sz (by show 2 ≤ 100000; decide), fun p hp => q _ _ _ (S.extNew hp _) (S.new hp) ⟨p, v0, v1, rfl, .inl (.inl upd_same), r0.mono (S.extNew hp _) h0, r1.mono (S.extNew hp _) h1⟩⟩
theorem q_p2_0 {r0 : R α} {r1 : R β} {y : α × β} (S : Sub G O H) (h : (rP2 K r0 r1).rel G v y) (q : ∀ w, r0.rel G w y.1 → Q w H) : rIxT K v (.int 0) H Q := by
  obtain ⟨p, v0, v1, rfl, hs, h0, h1⟩ := h
  exact ⟨p, _, 0, v0, rfl, rfl, sqT_up S.ext hs, rfl, q v0 h0⟩
theorem q_p2_1 {r0 : R α} {r1 : R β} {y : α × β} (S : Sub G O H) (h : (rP2 K r0 r1).rel G v y) (q : ∀ w, r1.rel G w y.2 → Q w H) : rIxT K v (.int 1) H Q := by
  obtain ⟨p, v0, v1, rfl, hs, h0, h1⟩ := h
  exact ⟨p, _, 1, v1, rfl, rfl, sqT_up S.ext hs, rfl, q v1 h1⟩
theorem q_len2 {r0 : R α} {r1 : R β} {y : α × β} (S : Sub G O H) (h : (rP2 K r0 r1).rel G v y) (q : Q (.int 2) H) : rLenM K [v] H Q := by
  obtain ⟨p, v0, v1, rfl, hs, _⟩ := h
  exact ⟨p, _, rfl, .inr (sqT_up S.ext hs), q⟩
theorem ty_P2 {r0 : R α} {r1 : R β} {y : α × β} (h : (rP2 K r0 r1).rel H v y) : TyX K H v (.type "tuple") := by
  obtain ⟨p, v0, v1, rfl, hs, _⟩ := h
  exact ty_sqT hs
theorem q_gt2 {r0 : R α} {r1 : R β} {y : α × β} {σ : L2.St} {i0 i1 : Nat} {QS : L2.St → Hp → Prop} (S : Sub G O H) (h : (rP2 K r0 r1).rel G v y) (q : ∀ v0 v1, r0.rel G v0 y.1 → r1.rel G v1 y.2 → QS ((σ.set i0 (some v0)).set i1 (some v1)) H) : gTup K 2 (gCons (gName i0) (gCons (gName i1) gNil)) v σ H QS := by
  obtain ⟨p, v0, v1, rfl, hs, h0, h1⟩ := h
  exact ⟨p, _, rfl, sqT_up S.ext hs, rfl, _, _, rfl, _, _, rfl, rfl, q v0 v1 h0 h1⟩
variable [DecidableEq α] [DecidableEq β]
def dP2 (d0 : RD K α) (d1 : RD K β) : RD K (α × β) := ⟨rP2 K d0.r d1.r, fun x => .tuple [d0.enc x.1, d1.enc x.2], d0.dep + d1.dep + 1, fun x => d0.ok x.1 && (d1.ok x.2),
  fun x h => by
    simp only [Bool.and_eq_true] at h
    show (PyData.canLay0 _ && (PyData.canLay0 _ && (true))) = true
    rw [d0.lay _ h.1, d1.lay _ h.2]; rfl,
  fun x => by
    have := d0.dpt x.1
    have := d1.dpt x.2
    simp only [PyData.depth, PyData.depthAll]; omega,
  fun {H v x} h => by
    obtain ⟨p, v0, v1, rfl, hs, h0, h1⟩ := h
    exact .tup hs (.cons (d0.dp h0) (.cons (d1.dp h1) (.nil))),
  fun x y => by
    obtain ⟨a0, a1⟩ := x
    obtain ⟨b0, b1⟩ := y
    show (PyData.eqv _ _ && (PyData.eqv _ _ && (true))) = _
    rw [d0.eqv, d1.eqv]
    simp only [Prod.mk.injEq, Bool.and_true, Bool.decide_and]⟩
theorem okP2 {d0 : RD K α} {d1 : RD K β} (h0 : ∀ x, d0.ok x = true) (h1 : ∀ x, d1.ok x = true) : ∀ x, (dP2 d0 d1).ok x = true := fun x => by
  show (d0.ok x.1 && (d1.ok x.2)) = true
  rw [h0, h1]; rfl
end
section
variable {α : Type} {β : Type} {γ : Type} {K : PySem.W.Frag} {G H : Hp} {O : Own} {v : V} {Q : VK}
def rP3 (K : PySem.W.Frag) (r0 : R α) (r1 : R β) (r2 : R γ) : R (α × β × γ) := ⟨fun G v x => ∃ p v0 v1 v2, v = .ref p ∧ SqT K G p [v0, v1, v2] ∧ r0.rel G v0 x.1 ∧ r1.rel G v1 x.2.1 ∧ r2.rel G v2 x.2.2, fun e ⟨p, v0, v1, v2, hv, hs, h0, h1, h2⟩ => ⟨p, v0, v1, v2, hv, sqT_up e hs, r0.mono e h0, r1.mono e h1, r2.mono e h2⟩⟩
theorem q_tup3 {r0 : R α} {r1 : R β} {r2 : R γ} {v0 v1 v2 : V} {x0 : α} {x1 : β} {x2 : γ} (S : Sub G O H) (h0 : r0.rel G v0 x0) (h1 : r1.rel G v1 x1) (h2 : r2.rel G v2 x2) (q : ∀ u G' H', Ext G G' → Sub G' O H' → (rP3 K r0 r1 r2).rel G' u (x0, x1, x2) → Q u H') : mkTup [v0, v1, v2] H Q :=
  ⟨sz (by show 3 ≤ 100000; decide), fun p hp => q _ _ _ (S.extNew hp _) (S.new hp) ⟨p, v0, v1, v2, rfl, .inl (.inl upd_same), r0.mono (S.extNew hp _) h0, r1.mono (S.extNew hp _) h1, r2.mono (S.extNew hp _) h2⟩⟩
theorem q_p3_0 {r0 : R α} {r1 : R β} {r2 : R γ} {y : α × β × γ} (S : Sub G O H) (h : (rP3 K r0 r1 r2).rel G v y) (q : ∀ w, r0.rel G w y.1 → Q w H) : rIxT K v (.int 0) H Q := by
  obtain ⟨p, v0, v1, v2, rfl, hs, h0, h1, h2⟩ := h
  exact ⟨p, _, 0, v0, rfl, rfl, sqT_up S.ext hs, rfl, q v0 h0⟩
theorem q_p3_1 {r0 : R α} {r1 : R β} {r2 : R γ} {y : α × β × γ} (S : Sub G O H) (h : (rP3 K r0 r1 r2).rel G v y) (q : ∀ w, r1.rel G w y.2.1 → Q w H) : rIxT K v (.int 1) H Q := by
  obtain ⟨p, v0, v1, v2, rfl, hs, h0, h1, h2⟩ := h
  exact ⟨p, _, 1, v1, rfl, rfl, sqT_up S.ext hs, rfl, q v1 h1⟩
theorem q_p3_2 {r0 : R α} {r1 : R β} {r2 : R γ} {y : α × β × γ} (S : Sub G O H) (h : (rP3 K r0 r1 r2).rel G v y) (q : ∀ w, r2.rel G w y.2.2 → Q w H) : rIxT K v (.int 2) H Q := by
  obtain ⟨p, v0, v1, v2, rfl, hs, h0, h1, h2⟩ := h
  exact ⟨p, _, 2, v2, rfl, rfl, sqT_up S.ext hs, rfl, q v2 h2⟩
theorem q_len3 {r0 : R α} {r1 : R β} {r2 : R γ} {y : α × β × γ} (S : Sub G O H) (h : (rP3 K r0 r1 r2).rel G v y) (q : Q (.int 3) H) : rLenM K [v] H Q := by
  obtain ⟨p, v0, v1, v2, rfl, hs, _⟩ := h
  exact ⟨p, _, rfl, .inr (sqT_up S.ext hs), q⟩
theorem ty_P3 {r0 : R α} {r1 : R β} {r2 : R γ} {y : α × β × γ} (h : (rP3 K r0 r1 r2).rel H v y) : TyX K H v (.type "tuple") := by
  obtain ⟨p, v0, v1, v2, rfl, hs, _⟩ := h
  exact ty_sqT hs
theorem q_gt3 {r0 : R α} {r1 : R β} {r2 : R γ} {y : α × β × γ} {σ : L2.St} {i0 i1 i2 : Nat} {QS : L2.St → Hp → Prop} (S : Sub G O H) (h : (rP3 K r0 r1 r2).rel G v y) (q : ∀ v0 v1 v2, r0.rel G v0 y.1 → r1.rel G v1 y.2.1 → r2.rel G v2 y.2.2 → QS (((σ.set i0 (some v0)).set i1 (some v1)).set i2 (some v2)) H) : gTup K 3 (gCons (gName i0) (gCons (gName i1) (gCons (gName i2) gNil))) v σ H QS := by
  obtain ⟨p, v0, v1, v2, rfl, hs, h0, h1, h2⟩ := h
  exact ⟨p, _, rfl, sqT_up S.ext hs, rfl, _, _, rfl, _, _, rfl, _, _, rfl, rfl, q v0 v1 v2 h0 h1 h2⟩
variable [DecidableEq α] [DecidableEq β] [DecidableEq γ]
def dP3 (d0 : RD K α) (d1 : RD K β) (d2 : RD K γ) : RD K (α × β × γ) := ⟨rP3 K d0.r d1.r d2.r, fun x => .tuple [d0.enc x.1, d1.enc x.2.1, d2.enc x.2.2], d0.dep + d1.dep + d2.dep + 1, fun x => d0.ok x.1 && (d1.ok x.2.1 && (d2.ok x.2.2)),
  fun x h => by
    simp only [Bool.and_eq_true] at h
    show (PyData.canLay0 _ && (PyData.canLay0 _ && (PyData.canLay0 _ && (true)))) = true
    rw [d0.lay _ h.1, d1.lay _ h.2.1, d2.lay _ h.2.2]; rfl,
  fun x => by
    have := d0.dpt x.1
    have := d1.dpt x.2.1
    have := d2.dpt x.2.2
    simp only [PyData.depth, PyData.depthAll]; omega,
  fun {H v x} h => by
    obtain ⟨p, v0, v1, v2, rfl, hs, h0, h1, h2⟩ := h
    exact .tup hs (.cons (d0.dp h0) (.cons (d1.dp h1) (.cons (d2.dp h2) (.nil)))),
  fun x y => by
    obtain ⟨a0, a1, a2⟩ := x
    obtain ⟨b0, b1, b2⟩ := y
    show (PyData.eqv _ _ && (PyData.eqv _ _ && (PyData.eqv _ _ && (true)))) = _
    rw [d0.eqv, d1.eqv, d2.eqv]
    simp only [Prod.mk.injEq, Bool.and_true, Bool.decide_and]⟩
theorem okP3 {d0 : RD K α} {d1 : RD K β} {d2 : RD K γ} (h0 : ∀ x, d0.ok x = true) (h1 : ∀ x, d1.ok x = true) (h2 : ∀ x, d2.ok x = true) : ∀ x, (dP3 d0 d1 d2).ok x = true := fun x => by
  show (d0.ok x.1 && (d1.ok x.2.1 && (d2.ok x.2.2))) = true
  rw [h0, h1, h2]; rfl
end
section
variable {α : Type} {β : Type} {γ : Type} {δ : Type} {K : PySem.W.Frag} {G H : Hp} {O : Own} {v : V} {Q : VK}
def rP4 (K : PySem.W.Frag) (r0 : R α) (r1 : R β) (r2 : R γ) (r3 : R δ) : R (α × β × γ × δ) := ⟨fun G v x => ∃ p v0 v1 v2 v3, v = .ref p ∧ SqT K G p [v0, v1, v2, v3] ∧ r0.rel G v0 x.1 ∧ r1.rel G v1 x.2.1 ∧ r2.rel G v2 x.2.2.1 ∧ r3.rel G v3 x.2.2.2, fun e ⟨p, v0, v1, v2, v3, hv, hs, h0, h1, h2, h3⟩ => ⟨p, v0, v1, v2, v3, hv, sqT_up e hs, r0.mono e h0, r1.mono e h1, r2.mono e h2, r3.mono e h3⟩⟩
theorem q_tup4 {r0 : R α} {r1 : R β} {r2 : R γ} {r3 : R δ} {v0 v1 v2 v3 : V} {x0 : α} {x1 : β} {x2 : γ} {x3 : δ} (S : Sub G O H) (h0 : r0.rel G v0 x0) (h1 : r1.rel G v1 x1) (h2 : r2.rel G v2 x2) (h3 : r3.rel G v3 x3) (q : ∀ u G' H', Ext G G' → Sub G' O H' → (rP4 K r0 r1 r2 r3).rel G' u (x0, x1, x2, x3) → Q u H') : mkTup [v0, v1, v2, v3] H Q :=
  ⟨sz (by show 4 ≤ 100000; decide), fun p hp => q _ _ _ (S.extNew hp _) (S.new hp) ⟨p, v0, v1, v2, v3, rfl, .inl (.inl upd_same), r0.mono (S.extNew hp _) h0, r1.mono (S.extNew hp _) h1, r2.mono (S.extNew hp _) h2, r3.mono (S.extNew hp _) h3⟩⟩
theorem q_p4_0 {r0 : R α} {r1 : R β} {r2 : R γ} {r3 : R δ} {y : α × β × γ × δ} (S : Sub G O H) (h : (rP4 K r0 r1 r2 r3).rel G v y) (q : ∀ w, r0.rel G w y.1 → Q w H) : rIxT K v (.int 0) H Q := by
  obtain ⟨p, v0, v1, v2, v3, rfl, hs, h0, h1, h2, h3⟩ := h
  exact ⟨p, _, 0, v0, rfl, rfl, sqT_up S.ext hs, rfl, q v0 h0⟩
theorem q_p4_1 {r0 : R α} {r1 : R β} {r2 : R γ} {r3 : R δ} {y : α × β × γ × δ} (S : Sub G O H) (h : (rP4 K r0 r1 r2 r3).rel G v y) (q : ∀ w, r1.rel G w y.2.1 → Q w H) : rIxT K v (.int 1) H Q := by
  obtain ⟨p, v0, v1, v2, v3, rfl, hs, h0, h1, h2, h3⟩ := h
  exact ⟨p, _, 1, v1, rfl, rfl, sqT_up S.ext hs, rfl, q v1 h1⟩
theorem q_p4_2 {r0 : R α} {r1 : R β} {r2 : R γ} {r3 : R δ} {y : α × β × γ × δ} (S : Sub G O H) (h : (rP4 K r0 r1 r2 r3).rel G v y) (q : ∀ w, r2.rel G w y.2.2.1 → Q w H) : rIxT K v (.int 2) H Q := by
  obtain ⟨p, v0, v1, v2, v3, rfl, hs, h0, h1, h2, h3⟩ := h
  exact ⟨p, _, 2, v2, rfl, rfl, sqT_up S.ext hs, rfl, q v2 h2⟩
theorem q_p4_3 {r0 : R α} {r1 : R β} {r2 : R γ} {r3 : R δ} {y : α × β × γ × δ} (S : Sub G O H) (h : (rP4 K r0 r1 r2 r3).rel G v y) (q : ∀ w, r3.rel G w y.2.2.2 → Q w H) : rIxT K v (.int 3) H Q := by
  obtain ⟨p, v0, v1, v2, v3, rfl, hs, h0, h1, h2, h3⟩ := h
  exact ⟨p, _, 3, v3, rfl, rfl, sqT_up S.ext hs, rfl, q v3 h3⟩
theorem q_len4 {r0 : R α} {r1 : R β} {r2 : R γ} {r3 : R δ} {y : α × β × γ × δ} (S : Sub G O H) (h : (rP4 K r0 r1 r2 r3).rel G v y) (q : Q (.int 4) H) : rLenM K [v] H Q := by
  obtain ⟨p, v0, v1, v2, v3, rfl, hs, _⟩ := h
  exact ⟨p, _, rfl, .inr (sqT_up S.ext hs), q⟩
theorem ty_P4 {r0 : R α} {r1 : R β} {r2 : R γ} {r3 : R δ} {y : α × β × γ × δ} (h : (rP4 K r0 r1 r2 r3).rel H v y) : TyX K H v (.type "tuple") := by
  obtain ⟨p, v0, v1, v2, v3, rfl, hs, _⟩ := h
  exact ty_sqT hs
theorem q_gt4 {r0 : R α} {r1 : R β} {r2 : R γ} {r3 : R δ} {y : α × β × γ × δ} {σ : L2.St} {i0 i1 i2 i3 : Nat} {QS : L2.St → Hp → Prop} (S : Sub G O H) (h : (rP4 K r0 r1 r2 r3).rel G v y) (q : ∀ v0 v1 v2 v3, r0.rel G v0 y.1 → r1.rel G v1 y.2.1 → r2.rel G v2 y.2.2.1 → r3.rel G v3 y.2.2.2 → QS ((((σ.set i0 (some v0)).set i1 (some v1)).set i2 (some v2)).set i3 (some v3)) H) : gTup K 4 (gCons (gName i0) (gCons (gName i1) (gCons (gName i2) (gCons (gName i3) gNil)))) v σ H QS := by
  obtain ⟨p, v0, v1, v2, v3, rfl, hs, h0, h1, h2, h3⟩ := h
  exact ⟨p, _, rfl, sqT_up S.ext hs, rfl, _, _, rfl, _, _, rfl, _, _, rfl, _, _, rfl, rfl, q v0 v1 v2 v3 h0 h1 h2 h3⟩
variable [DecidableEq α] [DecidableEq β] [DecidableEq γ] [DecidableEq δ]
def dP4 (d0 : RD K α) (d1 : RD K β) (d2 : RD K γ) (d3 : RD K δ) : RD K (α × β × γ × δ) := ⟨rP4 K d0.r d1.r d2.r d3.r, fun x => .tuple [d0.enc x.1, d1.enc x.2.1, d2.enc x.2.2.1, d3.enc x.2.2.2], d0.dep + d1.dep + d2.dep + d3.dep + 1, fun x => d0.ok x.1 && (d1.ok x.2.1 && (d2.ok x.2.2.1 && (d3.ok x.2.2.2))),
  fun x h => by
    simp only [Bool.and_eq_true] at h
    show (PyData.canLay0 _ && (PyData.canLay0 _ && (PyData.canLay0 _ && (PyData.canLay0 _ && (true))))) = true
    rw [d0.lay _ h.1, d1.lay _ h.2.1, d2.lay _ h.2.2.1, d3.lay _ h.2.2.2]; rfl,
  fun x => by
    have := d0.dpt x.1
    have := d1.dpt x.2.1
    have := d2.dpt x.2.2.1
    have := d3.dpt x.2.2.2
    simp only [PyData.depth, PyData.depthAll]; omega,
  fun {H v x} h => by
    obtain ⟨p, v0, v1, v2, v3, rfl, hs, h0, h1, h2, h3⟩ := h
    exact .tup hs (.cons (d0.dp h0) (.cons (d1.dp h1) (.cons (d2.dp h2) (.cons (d3.dp h3) (.nil))))),
  fun x y => by
    obtain ⟨a0, a1, a2, a3⟩ := x
    obtain ⟨b0, b1, b2, b3⟩ := y
    show (PyData.eqv _ _ && (PyData.eqv _ _ && (PyData.eqv _ _ && (PyData.eqv _ _ && (true))))) = _
    rw [d0.eqv, d1.eqv, d2.eqv, d3.eqv]
    simp only [Prod.mk.injEq, Bool.and_true, Bool.decide_and]⟩
theorem okP4 {d0 : RD K α} {d1 : RD K β} {d2 : RD K γ} {d3 : RD K δ} (h0 : ∀ x, d0.ok x = true) (h1 : ∀ x, d1.ok x = true) (h2 : ∀ x, d2.ok x = true) (h3 : ∀ x, d3.ok x = true) : ∀ x, (dP4 d0 d1 d2 d3).ok x = true := fun x => by
  show (d0.ok x.1 && (d1.ok x.2.1 && (d2.ok x.2.2.1 && (d3.ok x.2.2.2)))) = true
  rw [h0, h1, h2, h3]; rfl
end
section
variable {α : Type} {β : Type} {γ : Type} {δ : Type} {ε : Type} {K : PySem.W.Frag} {G H : Hp} {O : Own} {v : V} {Q : VK}
def rP5 (K : PySem.W.Frag) (r0 : R α) (r1 : R β) (r2 : R γ) (r3 : R δ) (r4 : R ε) : R (α × β × γ × δ × ε) := ⟨fun G v x => ∃ p v0 v1 v2 v3 v4, v = .ref p ∧ SqT K G p [v0, v1, v2, v3, v4] ∧ r0.rel G v0 x.1 ∧ r1.rel G v1 x.2.1 ∧ r2.rel G v2 x.2.2.1 ∧ r3.rel G v3 x.2.2.2.1 ∧ r4.rel G v4 x.2.2.2.2, fun e ⟨p, v0, v1, v2, v3, v4, hv, hs, h0, h1, h2, h3, h4⟩ => ⟨p, v0, v1, v2, v3, v4, hv, sqT_up e hs, r0.mono e h0, r1.mono e h1, r2.mono e h2, r3.mono e h3, r4.mono e h4⟩⟩
theorem q_tup5 {r0 : R α} {r1 : R β} {r2 : R γ} {r3 : R δ} {r4 : R ε} {v0 v1 v2 v3 v4 : V} {x0 : α} {x1 : β} {x2 : γ} {x3 : δ} {x4 : ε} (S : Sub G O H) (h0 : r0.rel G v0 x0) (h1 : r1.rel G v1 x1) (h2 : r2.rel G v2 x2) (h3 : r3.rel G v3 x3) (h4 : r4.rel G v4 x4) (q : ∀ u G' H', Ext G G' → Sub G' O H' → (rP5 K r0 r1 r2 r3 r4).rel G' u (x0, x1, x2, x3, x4) → Q u H') : mkTup [v0, v1, v2, v3, v4] H Q :=
  ⟨sz (by show 5 ≤ 100000; decide), fun p hp => q _ _ _ (S.extNew hp _) (S.new hp) ⟨p, v0, v1, v2, v3, v4, rfl, .inl (.inl upd_same), r0.mono (S.extNew hp _) h0, r1.mono (S.extNew hp _) h1, r2.mono (S.extNew hp _) h2, r3.mono (S.extNew hp _) h3, r4.mono (S.extNew hp _) h4⟩⟩
theorem q_p5_0 {r0 : R α} {r1 : R β} {r2 : R γ} {r3 : R δ} {r4 : R ε} {y : α × β × γ × δ × ε} (S : Sub G O H) (h : (rP5 K r0 r1 r2 r3 r4).rel G v y) (q : ∀ w, r0.rel G w y.1 → Q w H) : rIxT K v (.int 0) H Q := by
  obtain ⟨p, v0, v1, v2, v3, v4, rfl, hs, h0, h1, h2, h3, h4⟩ := h
  exact ⟨p, _, 0, v0, rfl, rfl, sqT_up S.ext hs, rfl, q v0 h0⟩
theorem q_p5_1 {r0 : R α} {r1 : R β} {r2 : R γ} {r3 : R δ} {r4 : R ε} {y : α × β × γ × δ × ε} (S : Sub G O H) (h : (rP5 K r0 r1 r2 r3 r4).rel G v y) (q : ∀ w, r1.rel G w y.2.1 → Q w H) : rIxT K v (.int 1) H Q := by
  obtain ⟨p, v0, v1, v2, v3, v4, rfl, hs, h0, h1, h2, h3, h4⟩ := h
  exact ⟨p, _, 1, v1, rfl, rfl, sqT_up S.ext hs, rfl, q v1 h1⟩
theorem q_p5_2 {r0 : R α} {r1 : R β} {r2 : R γ} {r3 : R δ} {r4 : R ε} {y : α × β × γ × δ × ε} (S : Sub G O H) (h : (rP5 K r0 r1 r2 r3 r4).rel G v y) (q : ∀ w, r2.rel G w y.2.2.1 → Q w H) : rIxT K v (.int 2) H Q := by
  obtain ⟨p, v0, v1, v2, v3, v4, rfl, hs, h0, h1, h2, h3, h4⟩ := h
  exact ⟨p, _, 2, v2, rfl, rfl, sqT_up S.ext hs, rfl, q v2 h2⟩
theorem q_p5_3 {r0 : R α} {r1 : R β} {r2 : R γ} {r3 : R δ} {r4 : R ε} {y : α × β × γ × δ × ε} (S : Sub G O H) (h : (rP5 K r0 r1 r2 r3 r4).rel G v y) (q : ∀ w, r3.rel G w y.2.2.2.1 → Q w H) : rIxT K v (.int 3) H Q := by
  obtain ⟨p, v0, v1, v2, v3, v4, rfl, hs, h0, h1, h2, h3, h4⟩ := h
  exact ⟨p, _, 3, v3, rfl, rfl, sqT_up S.ext hs, rfl, q v3 h3⟩
theorem q_p5_4 {r0 : R α} {r1 : R β} {r2 : R γ} {r3 : R δ} {r4 : R ε} {y : α × β × γ × δ × ε} (S : Sub G O H) (h : (rP5 K r0 r1 r2 r3 r4).rel G v y) (q : ∀ w, r4.rel G w y.2.2.2.2 → Q w H) : rIxT K v (.int 4) H Q := by
  obtain ⟨p, v0, v1, v2, v3, v4, rfl, hs, h0, h1, h2, h3, h4⟩ := h
  exact ⟨p, _, 4, v4, rfl, rfl, sqT_up S.ext hs, rfl, q v4 h4⟩
theorem q_len5 {r0 : R α} {r1 : R β} {r2 : R γ} {r3 : R δ} {r4 : R ε} {y : α × β × γ × δ × ε} (S : Sub G O H) (h : (rP5 K r0 r1 r2 r3 r4).rel G v y) (q : Q (.int 5) H) : rLenM K [v] H Q := by
  obtain ⟨p, v0, v1, v2, v3, v4, rfl, hs, _⟩ := h
  exact ⟨p, _, rfl, .inr (sqT_up S.ext hs), q⟩
theorem ty_P5 {r0 : R α} {r1 : R β} {r2 : R γ} {r3 : R δ} {r4 : R ε} {y : α × β × γ × δ × ε} (h : (rP5 K r0 r1 r2 r3 r4).rel H v y) : TyX K H v (.type "tuple") := by
  obtain ⟨p, v0, v1, v2, v3, v4, rfl, hs, _⟩ := h
  exact ty_sqT hs
theorem q_gt5 {r0 : R α} {r1 : R β} {r2 : R γ} {r3 : R δ} {r4 : R ε} {y : α × β × γ × δ × ε} {σ : L2.St} {i0 i1 i2 i3 i4 : Nat} {QS : L2.St → Hp → Prop} (S : Sub G O H) (h : (rP5 K r0 r1 r2 r3 r4).rel G v y) (q : ∀ v0 v1 v2 v3 v4, r0.rel G v0 y.1 → r1.rel G v1 y.2.1 → r2.rel G v2 y.2.2.1 → r3.rel G v3 y.2.2.2.1 → r4.rel G v4 y.2.2.2.2 → QS (((((σ.set i0 (some v0)).set i1 (some v1)).set i2 (some v2)).set i3 (some v3)).set i4 (some v4)) H) : gTup K 5 (gCons (gName i0) (gCons (gName i1) (gCons (gName i2) (gCons (gName i3) (gCons (gName i4) gNil))))) v σ H QS := by
  obtain ⟨p, v0, v1, v2, v3, v4, rfl, hs, h0, h1, h2, h3, h4⟩ := h
  exact ⟨p, _, rfl, sqT_up S.ext hs, rfl, _, _, rfl, _, _, rfl, _, _, rfl, _, _, rfl, _, _, rfl, rfl, q v0 v1 v2 v3 v4 h0 h1 h2 h3 h4⟩
variable [DecidableEq α] [DecidableEq β] [DecidableEq γ] [DecidableEq δ] [DecidableEq ε]
def dP5 (d0 : RD K α) (d1 : RD K β) (d2 : RD K γ) (d3 : RD K δ) (d4 : RD K ε) : RD K (α × β × γ × δ × ε) := ⟨rP5 K d0.r d1.r d2.r d3.r d4.r, fun x => .tuple [d0.enc x.1, d1.enc x.2.1, d2.enc x.2.2.1, d3.enc x.2.2.2.1, d4.enc x.2.2.2.2], d0.dep + d1.dep + d2.dep + d3.dep + d4.dep + 1, fun x => d0.ok x.1 && (d1.ok x.2.1 && (d2.ok x.2.2.1 && (d3.ok x.2.2.2.1 && (d4.ok x.2.2.2.2)))),
  fun x h => by
    simp only [Bool.and_eq_true] at h
    show (PyData.canLay0 _ && (PyData.canLay0 _ && (PyData.canLay0 _ && (PyData.canLay0 _ && (PyData.canLay0 _ && (true)))))) = true
    rw [d0.lay _ h.1, d1.lay _ h.2.1, d2.lay _ h.2.2.1, d3.lay _ h.2.2.2.1, d4.lay _ h.2.2.2.2]; rfl,
  fun x => by
    have := d0.dpt x.1
    have := d1.dpt x.2.1
    have := d2.dpt x.2.2.1
    have := d3.dpt x.2.2.2.1
    have := d4.dpt x.2.2.2.2
    simp only [PyData.depth, PyData.depthAll]; omega,
  fun {H v x} h => by
    obtain ⟨p, v0, v1, v2, v3, v4, rfl, hs, h0, h1, h2, h3, h4⟩ := h
    exact .tup hs (.cons (d0.dp h0) (.cons (d1.dp h1) (.cons (d2.dp h2) (.cons (d3.dp h3) (.cons (d4.dp h4) (.nil)))))),
  fun x y => by
    obtain ⟨a0, a1, a2, a3, a4⟩ := x
    obtain ⟨b0, b1, b2, b3, b4⟩ := y
    show (PyData.eqv _ _ && (PyData.eqv _ _ && (PyData.eqv _ _ && (PyData.eqv _ _ && (PyData.eqv _ _ && (true)))))) = _
    rw [d0.eqv, d1.eqv, d2.eqv, d3.eqv, d4.eqv]
    simp only [Prod.mk.injEq, Bool.and_true, Bool.decide_and]⟩
theorem okP5 {d0 : RD K α} {d1 : RD K β} {d2 : RD K γ} {d3 : RD K δ} {d4 : RD K ε} (h0 : ∀ x, d0.ok x = true) (h1 : ∀ x, d1.ok x = true) (h2 : ∀ x, d2.ok x = true) (h3 : ∀ x, d3.ok x = true) (h4 : ∀ x, d4.ok x = true) : ∀ x, (dP5 d0 d1 d2 d3 d4).ok x = true := fun x => by
  show (d0.ok x.1 && (d1.ok x.2.1 && (d2.ok x.2.2.1 && (d3.ok x.2.2.2.1 && (d4.ok x.2.2.2.2))))) = true
  rw [h0, h1, h2, h3, h4]; rfl
end
section
variable {α : Type} {β : Type} {γ : Type} {δ : Type} {ε : Type} {ζ : Type} {K : PySem.W.Frag} {G H : Hp} {O : Own} {v : V} {Q : VK}
def rP6 (K : PySem.W.Frag) (r0 : R α) (r1 : R β) (r2 : R γ) (r3 : R δ) (r4 : R ε) (r5 : R ζ) : R (α × β × γ × δ × ε × ζ) := ⟨fun G v x => ∃ p v0 v1 v2 v3 v4 v5, v = .ref p ∧ SqT K G p [v0, v1, v2, v3, v4, v5] ∧ r0.rel G v0 x.1 ∧ r1.rel G v1 x.2.1 ∧ r2.rel G v2 x.2.2.1 ∧ r3.rel G v3 x.2.2.2.1 ∧ r4.rel G v4 x.2.2.2.2.1 ∧ r5.rel G v5 x.2.2.2.2.2, fun e ⟨p, v0, v1, v2, v3, v4, v5, hv, hs, h0, h1, h2, h3, h4, h5⟩ => ⟨p, v0, v1, v2, v3, v4, v5, hv, sqT_up e hs, r0.mono e h0, r1.mono e h1, r2.mono e h2, r3.mono e h3, r4.mono e h4, r5.mono e h5⟩⟩
theorem q_tup6 {r0 : R α} {r1 : R β} {r2 : R γ} {r3 : R δ} {r4 : R ε} {r5 : R ζ} {v0 v1 v2 v3 v4 v5 : V} {x0 : α} {x1 : β} {x2 : γ} {x3 : δ} {x4 : ε} {x5 : ζ} (S : Sub G O H) (h0 : r0.rel G v0 x0) (h1 : r1.rel G v1 x1) (h2 : r2.rel G v2 x2) (h3 : r3.rel G v3 x3) (h4 : r4.rel G v4 x4) (h5 : r5.rel G v5 x5) (q : ∀ u G' H', Ext G G' → Sub G' O H' → (rP6 K r0 r1 r2 r3 r4 r5).rel G' u (x0, x1, x2, x3, x4, x5) → Q u H') : mkTup [v0, v1, v2, v3, v4, v5] H Q :=
  ⟨sz (by show 6 ≤ 100000; decide), fun p hp => q _ _ _ (S.extNew hp _) (S.new hp) ⟨p, v0, v1, v2, v3, v4, v5, rfl, .inl (.inl upd_same), r0.mono (S.extNew hp _) h0, r1.mono (S.extNew hp _) h1, r2.mono (S.extNew hp _) h2, r3.mono (S.extNew hp _) h3, r4.mono (S.extNew hp _) h4, r5.mono (S.extNew hp _) h5⟩⟩
theorem q_p6_0 {r0 : R α} {r1 : R β} {r2 : R γ} {r3 : R δ} {r4 : R ε} {r5 : R ζ} {y : α × β × γ × δ × ε × ζ} (S : Sub G O H) (h : (rP6 K r0 r1 r2 r3 r4 r5).rel G v y) (q : ∀ w, r0.rel G w y.1 → Q w H) : rIxT K v (.int 0) H Q := by
  obtain ⟨p, v0, v1, v2, v3, v4, v5, rfl, hs, h0, h1, h2, h3, h4, h5⟩ := h
  exact ⟨p, _, 0, v0, rfl, rfl, sqT_up S.ext hs, rfl, q v0 h0⟩
theorem q_p6_1 {r0 : R α} {r1 : R β} {r2 : R γ} {r3 : R δ} {r4 : R ε} {r5 : R ζ} {y : α × β × γ × δ × ε × ζ} (S : Sub G O H) (h : (rP6 K r0 r1 r2 r3 r4 r5).rel G v y) (q : ∀ w, r1.rel G w y.2.1 → Q w H) : rIxT K v (.int 1) H Q := by
  obtain ⟨p, v0, v1, v2, v3, v4, v5, rfl, hs, h0, h1, h2, h3, h4, h5⟩ := h
  exact ⟨p, _, 1, v1, rfl, rfl, sqT_up S.ext hs, rfl, q v1 h1⟩
theorem q_p6_2 {r0 : R α} {r1 : R β} {r2 : R γ} {r3 : R δ} {r4 : R ε} {r5 : R ζ} {y : α × β × γ × δ × ε × ζ} (S : Sub G O H) (h : (rP6 K r0 r1 r2 r3 r4 r5).rel G v y) (q : ∀ w, r2.rel G w y.2.2.1 → Q w H) : rIxT K v (.int 2) H Q := by
  obtain ⟨p, v0, v1, v2, v3, v4, v5, rfl, hs, h0, h1, h2, h3, h4, h5⟩ := h
  exact ⟨p, _, 2, v2, rfl, rfl, sqT_up S.ext hs, rfl, q v2 h2⟩
theorem q_p6_3 {r0 : R α} {r1 : R β} {r2 : R γ} {r3 : R δ} {r4 : R ε} {r5 : R ζ} {y : α × β × γ × δ × ε × ζ} (S : Sub G O H) (h : (rP6 K r0 r1 r2 r3 r4 r5).rel G v y) (q : ∀ w, r3.rel G w y.2.2.2.1 → Q w H) : rIxT K v (.int 3) H Q := by
  obtain ⟨p, v0, v1, v2, v3, v4, v5, rfl, hs, h0, h1, h2, h3, h4, h5⟩ := h
  exact ⟨p, _, 3, v3, rfl, rfl, sqT_up S.ext hs, rfl, q v3 h3⟩
theorem q_p6_4 {r0 : R α} {r1 : R β} {r2 : R γ} {r3 : R δ} {r4 : R ε} {r5 : R ζ} {y : α × β × γ × δ × ε × ζ} (S : Sub G O H) (h : (rP6 K r0 r1 r2 r3 r4 r5).rel G v y) (q : ∀ w, r4.rel G w y.2.2.2.2.1 → Q w H) : rIxT K v (.int 4) H Q := by
  obtain ⟨p, v0, v1, v2, v3, v4, v5, rfl, hs, h0, h1, h2, h3, h4, h5⟩ := h
  exact ⟨p, _, 4, v4, rfl, rfl, sqT_up S.ext hs, rfl, q v4 h4⟩
theorem q_p6_5 {r0 : R α} {r1 : R β} {r2 : R γ} {r3 : R δ} {r4 : R ε} {r5 : R ζ} {y : α × β × γ × δ × ε × ζ} (S : Sub G O H) (h : (rP6 K r0 r1 r2 r3 r4 r5).rel G v y) (q : ∀ w, r5.rel G w y.2.2.2.2.2 → Q w H) : rIxT K v (.int 5) H Q := by
  obtain ⟨p, v0, v1, v2, v3, v4, v5, rfl, hs, h0, h1, h2, h3, h4, h5⟩ := h
  exact ⟨p, _, 5, v5, rfl, rfl, sqT_up S.ext hs, rfl, q v5 h5⟩
theorem q_len6 {r0 : R α} {r1 : R β} {r2 : R γ} {r3 : R δ} {r4 : R ε} {r5 : R ζ} {y : α × β × γ × δ × ε × ζ} (S : Sub G O H) (h : (rP6 K r0 r1 r2 r3 r4 r5).rel G v y) (q : Q (.int 6) H) : rLenM K [v] H Q := by
  obtain ⟨p, v0, v1, v2, v3, v4, v5, rfl, hs, _⟩ := h
  exact ⟨p, _, rfl, .inr (sqT_up S.ext hs), q⟩
theorem ty_P6 {r0 : R α} {r1 : R β} {r2 : R γ} {r3 : R δ} {r4 : R ε} {r5 : R ζ} {y : α × β × γ × δ × ε × ζ} (h : (rP6 K r0 r1 r2 r3 r4 r5).rel H v y) : TyX K H v (.type "tuple") := by
  obtain ⟨p, v0, v1, v2, v3, v4, v5, rfl, hs, _⟩ := h
  exact ty_sqT hs
theorem q_gt6 {r0 : R α} {r1 : R β} {r2 : R γ} {r3 : R δ} {r4 : R ε} {r5 : R ζ} {y : α × β × γ × δ × ε × ζ} {σ : L2.St} {i0 i1 i2 i3 i4 i5 : Nat} {QS : L2.St → Hp → Prop} (S : Sub G O H) (h : (rP6 K r0 r1 r2 r3 r4 r5).rel G v y) (q : ∀ v0 v1 v2 v3 v4 v5, r0.rel G v0 y.1 → r1.rel G v1 y.2.1 → r2.rel G v2 y.2.2.1 → r3.rel G v3 y.2.2.2.1 → r4.rel G v4 y.2.2.2.2.1 → r5.rel G v5 y.2.2.2.2.2 → QS ((((((σ.set i0 (some v0)).set i1 (some v1)).set i2 (some v2)).set i3 (some v3)).set i4 (some v4)).set i5 (some v5)) H) : gTup K 6 (gCons (gName i0) (gCons (gName i1) (gCons (gName i2) (gCons (gName i3) (gCons (gName i4) (gCons (gName i5) gNil)))))) v σ H QS := by
  obtain ⟨p, v0, v1, v2, v3, v4, v5, rfl, hs, h0, h1, h2, h3, h4, h5⟩ := h
  exact ⟨p, _, rfl, sqT_up S.ext hs, rfl, _, _, rfl, _, _, rfl, _, _, rfl, _, _, rfl, _, _, rfl, _, _, rfl, rfl, q v0 v1 v2 v3 v4 v5 h0 h1 h2 h3 h4 h5⟩
variable [DecidableEq α] [DecidableEq β] [DecidableEq γ] [DecidableEq δ] [DecidableEq ε] [DecidableEq ζ]
def dP6 (d0 : RD K α) (d1 : RD K β) (d2 : RD K γ) (d3 : RD K δ) (d4 : RD K ε) (d5 : RD K ζ) : RD K (α × β × γ × δ × ε × ζ) := ⟨rP6 K d0.r d1.r d2.r d3.r d4.r d5.r, fun x => .tuple [d0.enc x.1, d1.enc x.2.1, d2.enc x.2.2.1, d3.enc x.2.2.2.1, d4.enc x.2.2.2.2.1, d5.enc x.2.2.2.2.2], d0.dep + d1.dep + d2.dep + d3.dep + d4.dep + d5.dep + 1, fun x => d0.ok x.1 && (d1.ok x.2.1 && (d2.ok x.2.2.1 && (d3.ok x.2.2.2.1 && (d4.ok x.2.2.2.2.1 && (d5.ok x.2.2.2.2.2))))),
  fun x h => by
    simp only [Bool.and_eq_true] at h
    show (PyData.canLay0 _ && (PyData.canLay0 _ && (PyData.canLay0 _ && (PyData.canLay0 _ && (PyData.canLay0 _ && (PyData.canLay0 _ && (true))))))) = true
    rw [d0.lay _ h.1, d1.lay _ h.2.1, d2.lay _ h.2.2.1, d3.lay _ h.2.2.2.1, d4.lay _ h.2.2.2.2.1, d5.lay _ h.2.2.2.2.2]; rfl,
  fun x => by
    have := d0.dpt x.1
    have := d1.dpt x.2.1
    have := d2.dpt x.2.2.1
    have := d3.dpt x.2.2.2.1
    have := d4.dpt x.2.2.2.2.1
    have := d5.dpt x.2.2.2.2.2
    simp only [PyData.depth, PyData.depthAll]; omega,
  fun {H v x} h => by
    obtain ⟨p, v0, v1, v2, v3, v4, v5, rfl, hs, h0, h1, h2, h3, h4, h5⟩ := h
    exact .tup hs (.cons (d0.dp h0) (.cons (d1.dp h1) (.cons (d2.dp h2) (.cons (d3.dp h3) (.cons (d4.dp h4) (.cons (d5.dp h5) (.nil))))))),
  fun x y => by
    obtain ⟨a0, a1, a2, a3, a4, a5⟩ := x
    obtain ⟨b0, b1, b2, b3, b4, b5⟩ := y
    show (PyData.eqv _ _ && (PyData.eqv _ _ && (PyData.eqv _ _ && (PyData.eqv _ _ && (PyData.eqv _ _ && (PyData.eqv _ _ && (true))))))) = _
    rw [d0.eqv, d1.eqv, d2.eqv, d3.eqv, d4.eqv, d5.eqv]
    simp only [Prod.mk.injEq, Bool.and_true, Bool.decide_and]⟩
theorem okP6 {d0 : RD K α} {d1 : RD K β} {d2 : RD K γ} {d3 : RD K δ} {d4 : RD K ε} {d5 : RD K ζ} (h0 : ∀ x, d0.ok x = true) (h1 : ∀ x, d1.ok x = true) (h2 : ∀ x, d2.ok x = true) (h3 : ∀ x, d3.ok x = true) (h4 : ∀ x, d4.ok x = true) (h5 : ∀ x, d5.ok x = true) : ∀ x, (dP6 d0 d1 d2 d3 d4 d5).ok x = true := fun x => by
  show (d0.ok x.1 && (d1.ok x.2.1 && (d2.ok x.2.2.1 && (d3.ok x.2.2.2.1 && (d4.ok x.2.2.2.2.1 && (d5.ok x.2.2.2.2.2)))))) = true
  rw [h0, h1, h2, h3, h4, h5]; rfl
end
end Mr

set_option Elab.async false
set_option linter.all false
set_option maxRecDepth 100000
set_option maxHeartbeats 2000000
/-! Mir2: lists that stand by themselves, None, one text or data, truth, +, comprehensions, stars. -/
namespace Mr
open PySem PySem.Spec PyProof.Rows L2
section
variable {α β : Type} {r : R α} {G G' H : Hp} {O : Own} {K : PySem.W.Frag} {v w : V} {vs ws : List V} {x : α} {xs ys zs : List α} {a : Addr} {Q : VK}
/-- a list that the program made -/
def rM (r : R α) : R (List α) := ⟨fun G v xs => ∃ p vs, v = .ref p ∧ G p = some (.lst vs) ∧ Al r G vs xs, fun e ⟨p, vs, h1, h2, h3⟩ => ⟨p, vs, h1, e _ _ h2, h3.up e⟩⟩
theorem rM_L (h : (rM r).rel G v xs) : (rL K r).rel G v xs := let ⟨p, vs, e, h, ha⟩ := h; ⟨p, vs, e, .inl (.inl h), ha⟩
theorem rM_Q (h : (rM r).rel G v xs) : (rQ K r).rel G v xs := rL_Q (rM_L h)
theorem frz_M (S : Sub G ((a, .lst vs) :: O) H) (h : Al r G vs xs) : ∃ G', Ext G G' ∧ Sub G' O H ∧ (rM r).rel G' (.ref a) xs :=
  ⟨_, S.extFrz, S.frz, a, vs, rfl, upd_same, h.up S.extFrz⟩
theorem rM_own (S : Sub G ((a, .lst vs) :: O) H) (h : Al r G vs xs) : (rM r).rel H (.ref a) xs := ⟨a, vs, rfl, S.head, h.up S.ext⟩
theorem q_slM {lo hi : Option Int} (S : Sub G O H) (h : (rL K r).rel G v xs) (q : ∀ w G' H', Ext G G' → Sub G' O H' → (rM r).rel G' w (cutM xs lo hi) → Q w H') : rSlL K v lo hi H Q := by
  obtain ⟨p, vs, rfl, hs, ha⟩ := h
  refine ⟨p, vs, rfl, sqL_up S.ext hs, fun t ht => q _ _ _ (S.extNew ht (.lst (cutV vs lo hi))) (S.new ht) ⟨t, _, rfl, upd_same, ?_⟩⟩
  exact (ha.up (S.extNew ht _)).cut
theorem q_listM (S : Sub G O H) (h : (rQ K r).rel G v xs) (q : ∀ u G' H', Ext G G' → Sub G' O H' → (rM r).rel G' u xs → Q u H') : rListOf K [v] H Q := by
  obtain ⟨p, vs, rfl, hs, ha⟩ := h
  exact ⟨p, vs, rfl, hs.imp (sqL_up S.ext) (sqT_up S.ext), fun l hl => q _ _ _ (S.extNew hl _) (S.new hl) ⟨l, vs, rfl, upd_same, ha.up (S.extNew hl _)⟩⟩
theorem q_listO {vs : List V} {a : Addr} (S : Sub G ((a, .lst vs) :: O) H) (h : Al r G vs xs) (q : ∀ u G' H', Ext G G' → Sub G' ((a, .lst vs) :: O) H' → (rM r).rel G' u xs → Q u H') : rListOf K [V.ref a] H Q :=
  ⟨a, vs, rfl, .inl (.inl (.inl S.head)), fun l hl => q _ _ _ (S.extNew hl _) (S.new hl) ⟨l, vs, rfl, upd_same, h.up (S.extNew hl _)⟩⟩
/-- a list as it stands now: its items by the frozen part -/
def LsAt (r : R α) (G H : Hp) (v : V) (xs : List α) : Prop := ∃ p vs, v = .ref p ∧ H p = some (.lst vs) ∧ Al r G vs xs
theorem ls_M (S : Sub G O H) (h : (rM r).rel G v xs) : LsAt r G H v xs := let ⟨p, vs, e, h, ha⟩ := h; ⟨p, vs, e, S.ext _ _ h, ha⟩
theorem ls_O (S : Sub G ((a, .lst vs) :: O) H) (h : Al r G vs xs) : LsAt r G H (.ref a) xs := ⟨a, vs, rfl, S.head, h⟩
theorem q_cat (S : Sub G O H) (h1 : LsAt r G H v xs) (h2 : LsAt r G H w ys) (e : catM xs ys = some zs) (q : ∀ u G' H', Ext G G' → Sub G' O H' → (rM r).rel G' u zs → Q u H') : rCat v w H Q := by
  obtain ⟨p, vs, rfl, h3, ha⟩ := h1
  obtain ⟨p2, ws, rfl, h4, hb⟩ := h2
  obtain ⟨c, rfl⟩ := catM_some e
  refine ⟨p, p2, vs, ws, rfl, rfl, h3, h4, sz (by rw [ha.len, hb.len]; exact c), fun t ht => q _ _ _ (S.extNew ht _) (S.new ht) ⟨t, _, rfl, upd_same, ?_⟩⟩
  exact (ha.app hb).up (S.extNew ht _)
/-- a tuple display, all places alike -/
theorem q_tupH (S : Sub G O H) (h : Al r G vs xs) (e : szM xs = some ys) (q : ∀ u G' H', Ext G G' → Sub G' O H' → (rT K r).rel G' u ys → Q u H') : mkTup vs H Q := by
  obtain ⟨c, rfl⟩ := szM_some e
  exact ⟨sz (by rw [h.len]; exact c), fun p hp => q _ _ _ (S.extNew hp _) (S.new hp) ⟨p, vs, rfl, .inl (.inl upd_same), h.up (S.extNew hp _)⟩⟩
theorem Al.snoc (h : Al r G vs xs) (hv : r.rel G v x) : Al r G (vs ++ [v]) (xs ++ [x]) := h.app ⟨hv, True.intro⟩
def mkStar (K : PySem.W.Frag) (t : TA) (σ : L2.St) (QA : List V → Hp → Prop) (x : V) (H : Hp) : Prop := ∃ p xs, x = V.ref p ∧ (SqT K H p xs ∨ SqL K H p xs) ∧ t σ H fun ys H2 => QA (xs ++ ys) H2
theorem gStar {te : TE} {t : TA} {σ : L2.St} {QA : List V → Hp → Prop} (h : te σ H (mkStar K t σ QA)) : StX.tStar K te t σ H QA := h
theorem q_starT {t : TA} {σ : L2.St} {QA : List V → Hp → Prop} (S : Sub G O H) (h : (rT K r).rel G v xs) (q : ∀ vs, Al r G vs xs → t σ H fun ys H2 => QA (vs ++ ys) H2) : mkStar K t σ QA v H := by
  obtain ⟨p, vs, rfl, hs, ha⟩ := h
  exact ⟨p, vs, rfl, .inl (sqT_up S.ext hs), q vs ha⟩

/-! ### None or data; one text or data -/
def rO (r : R α) : R (Option α) := ⟨fun G v x => match x with
  | none => v = .non
  | some y => v ≠ .non ∧ r.rel G v y, fun {G G' v x} e h => by
    cases x with
    | none => exact h
    | some y => exact ⟨h.1, r.mono e h.2⟩⟩
theorem rO_none : (rO r).rel G .non none := rfl
theorem rO_some (hn : v ≠ .non) (h : r.rel G v x) : (rO r).rel G v (some x) := ⟨hn, h⟩
theorem rO_get {o : Option α} (h : (rO r).rel G v o) (e : o = some x) : r.rel G v x := by subst e; exact h.2
theorem nn_T (h : (rT K r).rel G v xs) : v ≠ .non := by obtain ⟨p, vs, rfl, _⟩ := h; intro z; cases z
theorem nn_M (h : (rM r).rel G v xs) : v ≠ .non := by obtain ⟨p, vs, rfl, _⟩ := h; intro z; cases z
def rIsNon : R2 := fun x y H Q => y = .non ∧ Q (.bl (decide (x = .non))) H
def rIsNotNon : R2 := fun x y H Q => y = .non ∧ Q (.bl (!decide (x = .non))) H
theorem op_isNon {X : Cx} : OpR X (compareOp .Is) rIsNon := op_isN
theorem op_isNotNon {X : Cx} : OpR X (compareOp .IsNot) rIsNotNon := op_notN
theorem rO_dec {o : Option α} (h : (rO r).rel G v o) : decide (v = .non) = o.isNone := by
  cases o with
  | none => rw [show v = .non from h]; rfl
  | some y => rw [decide_eq_false h.1]; rfl
theorem q_isNon {o : Option α} (h : (rO r).rel G v o) (q : Q (.bl o.isNone) H) : rIsNon v .non H Q := ⟨rfl, by rw [rO_dec h]; exact q⟩
theorem q_isNotNon {o : Option α} (h : (rO r).rel G v o) (q : Q (.bl (!o.isNone)) H) : rIsNotNon v .non H Q := ⟨rfl, by rw [rO_dec h]; exact q⟩
/-- the text c, or data -/
def rA (c : Str) (r : R α) : R (Option α) := ⟨fun G v x => match x with
  | none => v = .str c
  | some y => r.rel G v y, fun {G G' v x} e h => by
    cases x with
    | none => exact h
    | some y => exact r.mono e h⟩
theorem rA_none {c : Str} : (rA c r).rel G (.str c) none := rfl
theorem rA_some {c : Str} (h : r.rel G v x) : (rA c r).rel G v (some x) := h
theorem rA_get {c : Str} {o : Option α} (h : (rA c r).rel G v o) (e : o = some x) : r.rel G v x := by subst e; exact h
end
section
variable {K : PySem.W.Frag} {α : Type} [DecidableEq α]
def dM (d : RD K α) : RD K (List α) := ⟨rM d.r, fun xs => .list (xs.map d.enc), d.dep + 1, fun xs => xs.all d.ok, fun xs h => lays d.lay xs h, fun xs => by have := deps d.dpt xs; simp only [PyData.depth]; omega,
  fun {H v x} h => by obtain ⟨p, vs, rfl, hs, ha⟩ := h; exact .lst (.inl (.inl hs)) (ha.dps d.dp), fun x y => eqvs d.eqv x y⟩
theorem okM {d : RD K α} (h : ∀ x, d.ok x = true) : ∀ xs, (dM d).ok xs = true := fun xs => List.all_eq_true.mpr fun x _ => h x
def isTupD : PyData → Bool
  | .tuple _ => true
  | _ => false
def dA (c : Str) (hc : PyData.strOk c = true) (d : RD K α) (ht : ∀ x, isTupD (d.enc x) = true) : RD K (Option α) := ⟨rA c d.r, fun x => match x with
    | none => .str c
    | some y => d.enc y, d.dep + 1, fun x => match x with
    | none => true
    | some y => d.ok y,
  fun x h => by
    cases x with
    | none => exact hc
    | some y => exact d.lay y h,
  fun x => by
    cases x with
    | none => simp [PyData.depth]
    | some y => exact Nat.le_succ_of_le (d.dpt y),
  fun {H v x} h => by
    cases x with
    | none => cases (show v = .str c from h); exact .str c
    | some y => exact d.dp h,
  fun x y => by
    cases x with
    | none =>
      cases y with
      | none =>
        show (c == c) = decide (none = none)
        simp
      | some y =>
        have h := ht y
        show PyData.eqv (.str c) (d.enc y) = _
        cases e : d.enc y with
        | tuple zs => rfl
        | _ => rw [e] at h; cases h
    | some x =>
      cases y with
      | none =>
        have h := ht x
        show PyData.eqv (d.enc x) (.str c) = _
        cases e : d.enc x with
        | tuple zs => rfl
        | _ => rw [e] at h; cases h
      | some y =>
        show PyData.eqv (d.enc x) (d.enc y) = _
        rw [d.eqv]
        by_cases e : x = y
        · subst e; simp
        · simp [e]⟩
theorem okA {c : Str} {hc : PyData.strOk c = true} {d : RD K α} {ht : ∀ x, isTupD (d.enc x) = true} (h : ∀ x, d.ok x = true) : ∀ x, (dA c hc d ht).ok x = true := fun x => by
  cases x with
  | none => rfl
  | some y => exact h y
def dO (d : RD K α) (ht : ∀ x, isTupD (d.enc x) = true) : RD K (Option α) := ⟨rO d.r, fun x => match x with
    | none => .none
    | some y => d.enc y, d.dep + 1, fun x => match x with
    | none => true
    | some y => d.ok y,
  fun x h => by
    cases x with
    | none => rfl
    | some y => exact d.lay y h,
  fun x => by
    cases x with
    | none => simp [PyData.depth]
    | some y => exact Nat.le_succ_of_le (d.dpt y),
  fun {H v x} h => by
    cases x with
    | none => cases (show v = .non from h); exact .non
    | some y => exact d.dp h.2,
  fun x y => by
    cases x with
    | none =>
      cases y with
      | none => rfl
      | some y =>
        have h := ht y
        show PyData.eqv .none (d.enc y) = _
        cases e : d.enc y with
        | tuple zs => rfl
        | _ => rw [e] at h; cases h
    | some x =>
      cases y with
      | none =>
        have h := ht x
        show PyData.eqv (d.enc x) .none = _
        cases e : d.enc x with
        | tuple zs => rfl
        | _ => rw [e] at h; cases h
      | some y =>
        show PyData.eqv (d.enc x) (d.enc y) = _
        rw [d.eqv]
        by_cases e : x = y
        · subst e; simp
        · simp [e]⟩
theorem okO {d : RD K α} {ht : ∀ x, isTupD (d.enc x) = true} (h : ∀ x, d.ok x = true) : ∀ x, (dO d ht).ok x = true := fun x => by
  cases x with
  | none => rfl
  | some y => exact h y
/-- a text out of a few: e: its encoding (one to one) -/
def rEn {α : Type} (e : α → Str) : R α := rSc fun x => V.str (e x)
def dEn (e : α → Str) (hi : ∀ x y, e x = e y → x = y) (ho : ∀ x, PyData.strOk (e x) = true) : RD K α := ⟨rEn e, fun x => .str (e x), 1, fun _ => true, fun x _ => ho x, fun _ => by simp [PyData.depth], fun {H v x} h => by cases (show v = .str (e x) from h); exact .str _, fun x y => by
  show (e x == e y) = decide (x = y)
  by_cases h : x = y
  · subst h; simp
  · rw [decide_eq_false h]
    exact beq_eq_false_iff_ne.mpr fun z => h (hi x y z)⟩
theorem okEn {e : α → Str} {hi : ∀ x y, e x = e y → x = y} {ho : ∀ x, PyData.strOk (e x) = true} : ∀ x, (dEn (K := K) e hi ho).ok x = true := fun _ => rfl
theorem en_dec {e : α → Str} (hi : ∀ x y, e x = e y → x = y) (x y : α) : decide (e x = e y) = decide (x = y) := by
  by_cases h : x = y
  · subst h; simp
  · rw [decide_eq_false h, decide_eq_false fun z => h (hi x y z)]
end

def rE0 {α : Type} (e : α → Str) (g : α → α → V) : R2 := fun x y H Q => ∃ i j, x = .str (e i) ∧ y = .str (e j) ∧ Q (g i j) H
theorem op_eqE {α : Type} [DecidableEq α] {X : Cx} {e : α → Str} (hi : ∀ x y, e x = e y → x = y) : OpR X (compareOp .Eq) (rE0 e fun i j => .bl (decide (i = j))) := fun pins s σ H x y v u Q I rx ry h => by
  obtain ⟨i, j, rfl, rfl, q⟩ := h
  exact op_eqS pins s σ H _ _ v u Q I rx ry ⟨_, _, rfl, rfl, by show Q (.bl (decide (e i = e j))) H; rw [en_dec hi]; exact q⟩
theorem op_neE {α : Type} [DecidableEq α] {X : Cx} {e : α → Str} (hi : ∀ x y, e x = e y → x = y) : OpR X (compareOp .NotEq) (rE0 e fun i j => .bl (!decide (i = j))) := fun pins s σ H x y v u Q I rx ry h => by
  obtain ⟨i, j, rfl, rfl, q⟩ := h
  exact op_neS pins s σ H _ _ v u Q I rx ry ⟨_, _, rfl, rfl, by show Q (.bl (!decide (e i = e j))) H; rw [en_dec hi]; exact q⟩

/-! ### truth -/
def tTruM (K : PySem.W.Frag) (ta : TE) : TT := fun σ H Q => ta σ H fun x H' => ∃ k, TruV K x H' k ∧ Q k H'
theorem pt_truM {X : Cx} {a : Expr} {ta : TE} (ha : PE X a ta) (he : ∀ whole, isTrue a X.env whole = (do let v ← whole; standAt a.pos; holding [v] (truthy v)) := by intro _; rfl) : PT X a (tTruM X.K ta) := pt_truth ha he
def truM (K : PySem.W.Frag) (x : V) (H : Hp) (Q : Bool → Hp → Prop) : Prop := ∃ k, TruV K x H k ∧ Q k H
section
variable {α : Type} {r : R α} {G H : Hp} {O : Own} {K : PySem.W.Frag} {v : V} {vs : List V} {xs : List α} {a : Addr} {QB : Bool → Hp → Prop}
theorem gTru {ta : TE} {σ : L2.St} (h : ta σ H fun x H' => truM K x H' QB) : tTruM K ta σ H QB := h
theorem emp_eq (h : Al r G vs xs) : (!vs.isEmpty) = !xs.isEmpty := by
  cases vs with
  | nil =>
    cases xs with
    | nil => rfl
    | cons y ys => exact h.elim
  | cons u us =>
    cases xs with
    | nil => exact h.elim
    | cons y ys => rfl
theorem q_truT (S : Sub G O H) (h : (rT K r).rel G v xs) (q : QB (!xs.isEmpty) H) : truM K v H QB := by
  obtain ⟨p, vs, rfl, hs, ha⟩ := h
  exact ⟨_, .inr (.inl ⟨vs, sqT_up S.ext hs, rfl⟩), by rw [emp_eq ha]; exact q⟩
theorem q_truL (S : Sub G O H) (h : (rL K r).rel G v xs) (q : QB (!xs.isEmpty) H) : truM K v H QB := by
  obtain ⟨p, vs, rfl, hs, ha⟩ := h
  exact ⟨_, .inl ⟨vs, sqL_up S.ext hs, rfl⟩, by rw [emp_eq ha]; exact q⟩
theorem q_truO (S : Sub G ((a, .lst vs) :: O) H) (h : Al r G vs xs) (q : QB (!xs.isEmpty) H) : truM K (.ref a) H QB :=
  ⟨_, .inl ⟨vs, .inl (.inl S.head), rfl⟩, by rw [emp_eq h]; exact q⟩
end

/-! ### list comprehensions: a fold whose last state part is the list so far -/
def PvF {α τ : Type} (f : τ → α → Option τ) (xs : List α) (s1 : τ) (I : τ → Hp → Prop) (i : Nat) : Hp → Prop := fun H => ∃ s, I s H ∧ folM f (xs.drop i) s = some s1
def LcW (g : TG) (tt : TT) (te : TE) (vs : List Nat) (σ : L2.St) (Q : VK) (J : It) (H1 : Hp) : Prop := ∀ D, H1 D = none → ∃ W : Nat → Nat → Hp → Prop, (∃ m, W 0 m (upd H1 D (.lst []))) ∧ ∀ i m H, W i m H →
  (J.stop i H ∧ Q (.ref D) H) ∨ (J.go i H ∧ ∃ Nx : Hp → Prop, (∀ H', Nx H' → ∃ m', m' < m ∧ W (i + 1) m' H') ∧ ∀ x H', J.yld i H x H' → g x (wipe σ vs) H' fun σ2 H2 => wipe σ2 vs = wipe σ vs ∧ tt σ2 H2 fun b H3 =>
    if b = true then te σ2 H3 fun y H4 => ∃ acc, H4 D = some (.lst acc) ∧ acc.length < sizeLine ∧ Nx (upd H4 D (.lst (acc ++ [y]))) else Nx H3)
theorem gLc {wi : TI} {g : TG} {tt : TT} {te : TE} {vs : List Nat} {σ : L2.St} {H : Hp} {Q : VK} (h : wi σ H (LcW g tt te vs σ Q)) : tLc wi g tt te vs σ H Q := h
/-- a turn's end: the element is kept -/
def lcEl (D : Addr) (Nx : Hp → Prop) (y : V) (H : Hp) : Prop := ∃ acc, H D = some (.lst acc) ∧ acc.length < sizeLine ∧ Nx (upd H D (.lst (acc ++ [y])))
def lcTurn (tt : TT) (te : TE) (vs : List Nat) (σ : L2.St) (D : Addr) (Nx : Hp → Prop) (σ2 : L2.St) (H2 : Hp) : Prop := wipe σ2 vs = wipe σ vs ∧ tt σ2 H2 fun b H3 => if b = true then te σ2 H3 (lcEl D Nx) else Nx H3
theorem gYes {σ : L2.St} {H : Hp} {QB : Bool → Hp → Prop} (h : QB true H) : tYes σ H QB := h
section
variable {α β τ : Type} {J : It} {n : Nat} {GW : Hp → Prop} {Y : Nat → Hp → V → Hp → Prop} {f : τ → α → Option τ} {xs : List α} {s0 s1 : τ} {g : TG} {tt : TT} {te : TE} {ws : List Nat} {σ : L2.St} {H : Hp} {Q : VK}
theorem lc_fol (w : Walk J n GW Y) (hn : xs.length = n) (hm : folM f xs s0 = some s1) (I : Addr → τ → Hp → Prop) (h0 : ∀ D, H D = none → I D s0 (upd H D (.lst []))) (hG : ∀ D s H, I D s H → GW H)
    (hs : ∀ (D : Addr) (i : Nat) (x : α) (s s' : τ), xs[i]? = some x → f s x = some s' → folM f (xs.drop (i + 1)) s' = some s1 → ∀ v H H', I D s H → Y i H v H' → g v (wipe σ ws) H' (lcTurn tt te ws σ D (PvF f xs s1 (I D) (i + 1))))
    (hd : ∀ D H, I D s1 H → Q (.ref D) H) : LcW g tt te ws σ Q J H := by
  intro D hD
  refine lc_it w (PvF f xs s1 (I D)) ⟨s0, h0 D hD, hm⟩ (fun i H _ ⟨s, hI, _⟩ => hG D s H hI) (fun i v H H' hi ⟨s, hI, hf⟩ hy => ?_) fun H ⟨s, hI, hf⟩ => ?_
  · have hx : xs[i]? = some xs[i] := List.getElem?_eq_getElem (by omega)
    obtain ⟨s', hb, hr⟩ := folM_drop hx hf
    exact hs D i _ s s' hx hb hr v H H' hI hy
  · rw [← hn, List.drop_length] at hf
    cases hf
    exact hd D H hI
variable {K : PySem.W.Frag} {G : Hp} {O : Own} {r : R α} {v : V} {vs : List V} {a : Addr}
theorem lc_L (S : Sub G O H) (h : (rL K r).rel G v xs) (hm : folM f xs s0 = some s1) (I : Addr → τ → Hp → Prop) (h0 : ∀ D, H D = none → I D s0 (upd H D (.lst []))) (hG : ∀ D s H, I D s H → Ext G H)
    (hs : ∀ (D : Addr) (i : Nat) (x : α) (s s' : τ), f s x = some s' → folM f (xs.drop (i + 1)) s' = some s1 → ∀ w H, I D s H → r.rel G w x → g w (wipe σ ws) H (lcTurn tt te ws σ D (PvF f xs s1 (I D) (i + 1))))
    (hd : ∀ D H, I D s1 H → Q (.ref D) H) : itL K v H (LcW g tt te ws σ Q) := by
  obtain ⟨p, vs, rfl, hq, ha⟩ := h
  refine ⟨p, rfl, ⟨vs, sqL_up S.ext hq⟩, lc_fol (walk_list (xs := vs)) ha.len.symm hm I h0 (fun D s H hI => sqL_up (hG D s H hI) hq) (fun D i x s s' hx hb hr w H H' hI hY => ?_) hd⟩
  obtain ⟨rfl, hw⟩ := hY
  exact hs D i x s s' hb hr w _ hI (ha.at hx hw)
theorem lc_T (S : Sub G O H) (h : (rT K r).rel G v xs) (hm : folM f xs s0 = some s1) (I : Addr → τ → Hp → Prop) (h0 : ∀ D, H D = none → I D s0 (upd H D (.lst []))) (hG : ∀ D s H, I D s H → Ext G H)
    (hs : ∀ (D : Addr) (i : Nat) (x : α) (s s' : τ), f s x = some s' → folM f (xs.drop (i + 1)) s' = some s1 → ∀ w H, I D s H → r.rel G w x → g w (wipe σ ws) H (lcTurn tt te ws σ D (PvF f xs s1 (I D) (i + 1))))
    (hd : ∀ D H, I D s1 H → Q (.ref D) H) : itT K v H (LcW g tt te ws σ Q) := by
  obtain ⟨p, vs, rfl, hq, ha⟩ := h
  refine ⟨p, rfl, ⟨vs, sqT_up S.ext hq⟩, lc_fol (walk_tup (xs := vs)) ha.len.symm hm I h0 (fun D s H hI => sqT_up (hG D s H hI) hq) (fun D i x s s' hx hb hr w H H' hI hY => ?_) hd⟩
  obtain ⟨rfl, hw⟩ := hY
  exact hs D i x s s' hb hr w _ hI (ha.at hx hw)
theorem lc_R {f : τ → Int → Option τ} {xs : List Int} {n : Int} (hx : rngM n = some xs) (hm : folM f xs s0 = some s1) (I : Addr → τ → Hp → Prop) (h0 : ∀ D, H D = none → I D s0 (upd H D (.lst [])))
    (hs : ∀ (D : Addr) (i : Nat) (x : Int) (s s' : τ), f s x = some s' → folM f (xs.drop (i + 1)) s' = some s1 → ∀ H, I D s H → g (.int x) (wipe σ ws) H (lcTurn tt te ws σ D (PvF f xs s1 (I D) (i + 1))))
    (hd : ∀ D H, I D s1 H → Q (.ref D) H) : itR [V.int n] H (LcW g tt te ws σ Q) := by
  obtain ⟨c, rfl⟩ := rngM_some hx
  refine ⟨n, rfl, c.1, c.2, lc_fol walk_range (by simp) hm I h0 (fun _ _ _ _ => True.intro) (fun D i x s s' hx hb hr w H H' hI hY => ?_) hd⟩
  obtain ⟨rfl, hw⟩ := hY
  have e : (0 : Int) + (i : Nat) = x := by
    rw [List.getElem?_map] at hx
    obtain ⟨k, h1, h2⟩ := Option.map_eq_some_iff.mp hx
    have := rng_at h1
    omega
  have e2 : w = .int x := by rw [hw, ← e]
  rw [e2]
  exact hs D i x s s' hb hr _ hI
theorem lc_R2 {f : τ → Int → Option τ} {xs : List Int} {lo n : Int} (hx : rng2M lo n = some xs) (hm : folM f xs s0 = some s1) (I : Addr → τ → Hp → Prop) (h0 : ∀ D, H D = none → I D s0 (upd H D (.lst [])))
    (hs : ∀ (D : Addr) (i : Nat) (x : Int) (s s' : τ), f s x = some s' → folM f (xs.drop (i + 1)) s' = some s1 → ∀ H, I D s H → g (.int x) (wipe σ ws) H (lcTurn tt te ws σ D (PvF f xs s1 (I D) (i + 1))))
    (hd : ∀ D H, I D s1 H → Q (.ref D) H) : itR2 [V.int lo, V.int n] H (LcW g tt te ws σ Q) := by
  obtain ⟨c, rfl⟩ := rng2M_some hx
  refine ⟨lo, n, rfl, c, lc_fol walk_range (by simp) hm I h0 (fun _ _ _ _ => True.intro) (fun D i x s s' hx hb hr w H H' hI hY => ?_) hd⟩
  obtain ⟨rfl, hw⟩ := hY
  have e : lo + (i : Nat) = x := by
    rw [List.getElem?_map] at hx
    obtain ⟨k, h1, h2⟩ := Option.map_eq_some_iff.mp hx
    have := rng_at h1
    omega
  have e2 : w = .int x := by rw [hw, ← e]
  rw [e2]
  exact hs D i x s s' hb hr _ hI
theorem lc_Eit {f : τ → Int × α → Option τ} {i1 i2 : Nat} {J : It} {vs : List V} (w : Walk J vs.length GW (YPair (fun i => some (.int (i : Nat))) (fun i => vs[i]?))) (ha : Al r G vs xs) (hm : folM f (enumM xs) s0 = some s1) (I : Addr → τ → Hp → Prop) (h0 : ∀ D, H D = none → I D s0 (upd H D (.lst []))) (hG : ∀ D s H, I D s H → GW H)
    (hs : ∀ (D : Addr) (i : Nat) (x : α) (s s' : τ), f s ((i : Int), x) = some s' → folM f ((enumM xs).drop (i + 1)) s' = some s1 → ∀ w H H', I D s H → (∀ G O, Sub G O H → Sub G O H') → r.rel G w x →
      lcTurn tt te ws σ D (PvF f (enumM xs) s1 (I D) (i + 1)) (((wipe σ ws).set i1 (some (.int (i : Int)))).set i2 (some w)) H')
    (hd : ∀ D H, I D s1 H → Q (.ref D) H) : LcW (gTup K 2 (gCons (gName i1) (gCons (gName i2) gNil))) tt te ws σ Q J H := by
  refine lc_fol w (by rw [enumM_length, ha.len]) hm I h0 hG (fun D i y s s' hx hb hr v H H' hI hY => ?_) hd
  rw [enumM_get] at hx
  obtain ⟨x, hx2, rfl⟩ := Option.map_eq_some_iff.mp hx
  obtain ⟨T, k, w, rfl, hT, rfl, hk, hw⟩ := hY
  cases hk
  exact ⟨T, _, rfl, .inl (.inl upd_same), rfl, _, _, rfl, _, _, rfl, rfl, hs D i x s s' hb hr w H _ hI (fun G O S => S.junk hT) (ha.at hx2 hw)⟩
theorem lc_EQ {f : τ → Int × α → Option τ} {i1 i2 : Nat} (S : Sub G O H) (h : (rQ K r).rel G v xs) (hm : folM f (enumM xs) s0 = some s1) (I : Addr → τ → Hp → Prop) (h0 : ∀ D, H D = none → I D s0 (upd H D (.lst []))) (hG : ∀ D s H, I D s H → Ext G H)
    (hs : ∀ (D : Addr) (i : Nat) (x : α) (s s' : τ), f s ((i : Int), x) = some s' → folM f ((enumM xs).drop (i + 1)) s' = some s1 → ∀ w H H', I D s H → (∀ G O, Sub G O H → Sub G O H') → r.rel G w x →
      lcTurn tt te ws σ D (PvF f (enumM xs) s1 (I D) (i + 1)) (((wipe σ ws).set i1 (some (.int (i : Int)))).set i2 (some w)) H')
    (hd : ∀ D H, I D s1 H → Q (.ref D) H) : itE K [v] H (LcW (gTup K 2 (gCons (gName i1) (gCons (gName i2) gNil))) tt te ws σ Q) := by
  obtain ⟨p, vs, rfl, hq, ha⟩ := h
  refine ⟨p, vs, rfl, ?_⟩
  rcases hq with hq | hq
  · exact .inl ⟨sqL_up S.ext hq, lc_Eit walk_enum ha hm I h0 (fun D s H hI => sqL_up (hG D s H hI) hq) hs hd⟩
  · exact .inr ⟨sqT_up S.ext hq, lc_Eit walk_enumT ha hm I h0 (fun D s H hI => sqT_up (hG D s H hI) hq) hs hd⟩
end
section
variable {α β τ : Type} {r : R β} {G H : Hp} {O : Own} {vs : List V} {D : Addr} {y : V} {b : β} {acc acc' : List β} {Nx : Hp → Prop}
theorem q_lcEl (S : Sub G ((D, .lst vs) :: O) H) (h : Al r G vs acc) (hy : r.rel G y b) (e : appM acc b = some acc') (q : ∀ H' w, Sub G ((D, .lst w) :: O) H' → Al r G w acc' → Nx H') : lcEl D Nx y H := by
  obtain ⟨c, rfl⟩ := appM_some e
  exact ⟨vs, S.head, szl (by rw [h.len]; exact c), q _ _ S.wr (h.snoc hy)⟩
end
end Mr

set_option Elab.async false
set_option linter.all false
set_option maxRecDepth 100000
/-! Mir3: chained comparisons, in. -/
namespace Mr
open PySem PySem.Spec PyProof.Rows L2
theorem ix_listK {X : Cx} {K : PySem.W.Frag} (h : X.K = K) : IxR X (rIxL K) := h ▸ ix_list
theorem ix_tupK {X : Cx} {K : PySem.W.Frag} (h : X.K = K) : IxR X (rIxT K) := h ▸ ix_tup
theorem call_lenK {X : Cx} {K : PySem.W.Frag} (h : X.K = K) : CallR X (.builtin "len") (rLenM K) := h ▸ call_lenM
theorem un65 {k : Nat} {A : Around} (r : Room k A) : A.units + 65 < cLine := by have := r.un; omega
section
variable {ta tb tc te : TE} {σ : L2.St} {H : Hp} {Q : VK} {QB : Bool → Hp → Prop}
theorem gChain {r r' : R2} (h : ta σ H fun x H1 => tb σ H1 fun y H2 => r x y H2 fun z H3 => ∃ k, z = .bl k ∧ (if k = true then tc σ H3 fun w' H4 => r' y w' H4 Q else Q (.bl false) H3)) : tChain r r' ta tb tc σ H Q := h
end
section
variable {K : PySem.W.Frag} {α : Type} [DecidableEq α] {H : Hp} {v w : V} {x : α} {xs : List α} {Q : VK}
theorem any_mem (d : RD K α) (x : α) : ∀ xs : List α, ((xs.map d.enc).any fun z => PyData.eqv z (d.enc x)) = decide (x ∈ xs)
  | [] => by simp
  | y :: ys => by
    rw [List.map_cons, List.any_cons, any_mem d x ys, d.eqv]
    by_cases h : y = x
    · subst h; simp
    · have h' : ¬ x = y := fun e => h e.symm
      simp [h, h']
theorem q_inD (d : RD K α) (hd : d.dep + 1 ≤ 64) (h1 : d.r.rel H v x) (h2 : (rM d.r).rel H w xs) (o1 : d.ok x = true) (o2 : xs.all d.ok = true) (q : Q (.bl (decide (x ∈ xs))) H) : rInD K v w H Q :=
  ⟨d.enc x, xs.map d.enc, d.dp h1, (dM d).dp h2, d.shaped (by omega) o1, (dM d).shaped hd o2, by rw [any_mem]; exact q⟩
theorem q_niD (d : RD K α) (hd : d.dep + 1 ≤ 64) (h1 : d.r.rel H v x) (h2 : (rM d.r).rel H w xs) (o1 : d.ok x = true) (o2 : xs.all d.ok = true) (q : Q (.bl (!decide (x ∈ xs))) H) : rNotInD K v w H Q :=
  ⟨d.enc x, xs.map d.enc, d.dp h1, (dM d).dp h2, d.shaped (by omega) o1, (dM d).shaped hd o2, by rw [any_mem]; exact q⟩
end
/-! ### while -/
def PvW {σ ρ : Type} (f : σ → Option (Bf σ ρ)) (res : Fl σ ρ) (I : σ → L2.St → Hp → Prop) (n : Nat) : L2.St → Hp → Prop := fun σ' H => ∃ s, I s σ' H ∧ whL f n s = some res
theorem lp_W {τ ρ : Type} {f : τ → Option (Bf τ ρ)} {N : Nat} {s0 : τ} {res : Fl τ ρ} {c : TT} {tb : TS} {D : Ends} {σ : L2.St} {H : Hp} (hm : whL f N s0 = some res) (I : τ → L2.St → Hp → Prop) (h0 : I s0 σ H)
    (hs : ∀ (n : Nat) (s : τ) (b : Bf τ ρ), f s = some b → conW f n b = some res → ∀ σ H, I s σ H →
      c σ H fun t H1 => if t = true then ∃ N : L2.St → Hp → Prop, (∀ σ' H', N σ' H' → ∃ m', m' < n + 1 ∧ PvW f res I m' σ' H') ∧ tb { D with nx := N, ct := N, bk := D.nx } σ H1 else D.nx σ H1) : tWhile c tb D σ H := by
  refine ⟨fun m => PvW f res I m, ⟨N, s0, h0, hm⟩, fun m σ H hW => ?_⟩
  obtain ⟨s, hI, hf⟩ := hW
  cases m with
  | zero => cases hf
  | succ n =>
    rw [whL_succ] at hf
    obtain ⟨b, hb, hc⟩ := bindS hf
    exact hs n s b hb hc σ H hI
theorem whGo {τ ρ : Type} {f : τ → Option (Bf τ ρ)} {res : Fl τ ρ} {I : τ → L2.St → Hp → Prop} {n : Nat} {tb : TS} {D : Ends} {σ : L2.St} {H1 : Hp} (h : tb { D with nx := PvW f res I n, ct := PvW f res I n, bk := D.nx } σ H1) :
    ∃ N : L2.St → Hp → Prop, (∀ σ' H', N σ' H' → ∃ m', m' < n + 1 ∧ PvW f res I m' σ' H') ∧ tb { D with nx := N, ct := N, bk := D.nx } σ H1 := ⟨_, fun _ _ h => ⟨n, Nat.lt_succ_self n, h⟩, h⟩
/-! ### in a tuple of ints -/
theorem inV_ints (x : Int) : ∀ (as : List Int), inV (.int x) (as.map V.int) = decide (x ∈ as)
  | [] => by simp [inV]
  | a :: as => by
    have ih := inV_ints x as
    unfold inV at ih ⊢
    rw [List.map_cons, List.any_cons, ih]
    have e : eqV (V.int a) (V.int x) = decide (a = x) := rfl
    rw [e]
    by_cases h : a = x
    · subst h; simp
    · have h' : ¬ x = a := fun q => h q.symm
      simp [h, h']
theorem flat_ints : ∀ (as : List Int), (as.map V.int).all flatV = true
  | [] => rfl
  | a :: as => by rw [List.map_cons, List.all_cons, flat_ints as]; rfl
theorem q_inT {K : PySem.W.Frag} {H : Hp} {x : Int} {p : Addr} {Q : VK} (as : List Int) (q : Q (.bl (decide (x ∈ as))) (upd H p (.tup (as.map V.int)))) : rIn K false (.int x) (.ref p) (upd H p (.tup (as.map V.int))) Q :=
  ⟨p, as.map V.int, rfl, .inr (.inl (.inl upd_same)), rfl, flat_ints as, by show Q (.bl (inV (.int x) (as.map V.int))) _; rw [inV_ints]; exact q⟩
/-! ### for over a list or a tuple -/
def iQ (K : PySem.W.Frag) (tl : TE) : TI := fun σ H R => tl σ H fun x H1 => ∃ a, x = .ref a ∧ (((∃ xs, SqL K H1 a xs) ∧ R (Itl K a) H1) ∨ ((∃ xs, SqT K H1 a xs) ∧ R (Itt K a) H1))
theorem pi_Q {X : Cx} {tg l : Expr} {tl : TE} (hl : PE X l tl) : PI X tg l (iQ X.K tl) := by
  refine ⟨fun pins s σ H R I h => ?_⟩
  refine thn (hl.run pins s σ H _ I h) fun v s1 ⟨x, H1, I1, r1, a, e, q1⟩ => ?_
  subst e
  cases r1
  have fr : ∀ b ∈ [s1.heap.objs.size], b = s1.heap.objs.size := fun b hb => by simpa using hb
  rcases q1 with ⟨⟨xs, hq⟩, q⟩ | ⟨⟨xs, hq⟩, q⟩
  · obtain ⟨its, rv, p, hz⟩ := I1.list hq
    exact wpAny_pyIter_list p.isList ⟨s1.heap.objs.size, [s1.heap.objs.size], _, _, H1, rfl, I1.kept (t' := s1.toks) fun b o e => Heap.get?_push_of_some _ e, turn_list a _, ⟨_, Heap.get?_push_size _ rfl, rfl, rfl⟩, fun b hb => by rw [fr b hb]; exact I1.fpOk (Nat.le_refl _) (I1.hok.fresh (Nat.le_refl _)), q⟩
  · obtain ⟨its, rv, p, hz⟩ := I1.tuple hq
    exact wpAny_pyIter_tuple (show s1.heap.IsTuple a its.toArray from p) ⟨s1.heap.objs.size, [s1.heap.objs.size], _, _, H1, rfl, I1.kept (t' := s1.toks) fun b o e => Heap.get?_push_of_some _ e, turn_tuple a _, ⟨_, Heap.get?_push_size _ rfl, rfl, rfl⟩, fun b hb => by rw [fr b hb]; exact I1.fpOk (Nat.le_refl _) (I1.hok.fresh (Nat.le_refl _)), q⟩
def itQ (K : PySem.W.Frag) (x : V) (H : Hp) (RI : It → Hp → Prop) : Prop := ∃ a, x = .ref a ∧ (((∃ xs, SqL K H a xs) ∧ RI (Itl K a) H) ∨ ((∃ xs, SqT K H a xs) ∧ RI (Itt K a) H))
theorem gIQ {K : PySem.W.Frag} {te : TE} {σ : L2.St} {H : Hp} {RI : It → Hp → Prop} (h : te σ H fun x H1 => itQ K x H1 RI) : iQ K te σ H RI := h
theorem lp_Q {α τ ρ : Type} {f : τ → α → Option (Bf τ ρ)} {xs : List α} {s0 : τ} {res : Fl τ ρ} {g : TG} {tb : TS} {D : Ends} {σ : L2.St} {H G : Hp} {K : PySem.W.Frag} {O : Own} {r : R α} {v : V} (S : Sub G O H) (h : (rQ K r).rel G v xs) (hm : forL f xs s0 = some res) (I : τ → L2.St → Hp → Prop) (h0 : I s0 σ H) (hG : ∀ s σ H, I s σ H → Ext G H)
    (hs : ∀ (i : Nat) (x : α) (s : τ) (b : Bf τ ρ), f s x = some b → conL f (xs.drop (i + 1)) b = some res → ∀ w σ H, I s σ H → r.rel G w x →
      g w σ H fun σ2 H2 => tb { D with nx := PvL f xs res I (i + 1), ct := PvL f xs res I (i + 1), bk := D.nx } σ2 H2)
    (hd : ∀ s σ H, res = .nx s → I s σ H → D.nx σ H) :
    itQ K v H (LpW g tb D σ) := by
  obtain ⟨p, vs, rfl, hq, ha⟩ := h
  rcases hq with hq | hq
  · obtain ⟨a, e, h1, h2⟩ := lp_L S ⟨p, vs, rfl, hq, ha⟩ hm I h0 hG hs hd
    exact ⟨a, e, .inl ⟨h1, h2⟩⟩
  · obtain ⟨a, e, h1, h2⟩ := lp_T S ⟨p, vs, rfl, hq, ha⟩ hm I h0 hG hs hd
    exact ⟨a, e, .inr ⟨h1, h2⟩⟩
/-! ### all, any of a list of bools -/
theorem q_all {K : PySem.W.Frag} {G H : Hp} {O : Own} {v : V} {xs : List Bool} {Q : VK} (S : Sub G O H) (h : (rM rBool).rel G v xs) (q : Q (.bl (xs.all id)) H) : rAll K [v] H Q := by
  obtain ⟨p, vs, rfl, hs, ha⟩ := h
  exact ⟨p, xs, rfl, by rw [← ha.sc]; exact .inl (.inl (S.ext _ _ hs)), q⟩
theorem q_any {K : PySem.W.Frag} {G H : Hp} {O : Own} {v : V} {xs : List Bool} {Q : VK} (S : Sub G O H) (h : (rM rBool).rel G v xs) (q : Q (.bl (xs.any id)) H) : rAny K [v] H Q := by
  obtain ⟨p, vs, rfl, hs, ha⟩ := h
  exact ⟨p, xs, rfl, by rw [← ha.sc]; exact .inl (.inl (S.ext _ _ hs)), q⟩
end Mr

set_option Elab.async false
set_option linter.all false
set_option maxRecDepth 100000
set_option maxHeartbeats 2000000
/-! Mir4: slices of owned lists, xs[::-1], max(xs), is None, is of bools, properties. -/
namespace Mr
open PySem PySem.Spec PyProof.Rows L2
section
variable {α β γ δ : Type} {r : R α} {G G' H : Hp} {O : Own} {K : PySem.W.Frag} {v w : V} {vs : List V} {x : α} {xs ys : List α} {a : Addr} {Q : VK} {σ : L2.St}
theorem Al.rev : ∀ {vs : List V} {xs : List α}, Al r G vs xs → Al r G vs.reverse xs.reverse
  | [], [], _ => True.intro
  | v :: vs, x :: xs, h => by
    rw [List.reverse_cons, List.reverse_cons]
    exact (Al.rev h.2).app ⟨h.1, True.intro⟩
  | [], _ :: _, h => h.elim
  | _ :: _, [], h => h.elim
theorem q_slO {lo hi : Option Int} (S : Sub G ((a, .lst vs) :: O) H) (h : Al r G vs xs) (q : ∀ w G' H', Ext G G' → Sub G' ((a, .lst vs) :: O) H' → (rM r).rel G' w (cutM xs lo hi) → Q w H') : rSlL K (.ref a) lo hi H Q := by
  refine ⟨a, vs, rfl, .inl (.inl S.head), fun t ht => q _ _ _ (S.extNew ht (.lst (cutV vs lo hi))) (S.new ht) ⟨t, _, rfl, upd_same, ?_⟩⟩
  exact (h.up (S.extNew ht _)).cut
/-- an owned list is lent -/
theorem Sub.thaw {G2 H2 : Hp} {o : HO} (S : Sub G ((a, o) :: O) H) (e : Ext (upd G a o) G2) (S2 : Sub G2 O H2) : Sub G ((a, o) :: O) H2 := by
  have h0 : Ext G G2 := S.extFrz.trans e
  refine ⟨h0.trans S2.ext, fun q hq => ?_, S.nd⟩
  rcases List.mem_cons.mp hq with rfl | hq
  · exact ⟨S2.ext _ _ (e _ _ upd_same), S.ghead⟩
  · obtain ⟨h1, h2⟩ := S2.own q hq
    refine ⟨h1, ?_⟩
    cases hg : G q.1 with
    | none => rfl
    | some u => rw [h0 _ _ hg] at h2; cases h2
theorem rM_lent (S : Sub G ((a, .lst vs) :: O) H) (h : Al r G vs xs) : (rM r).rel (upd G a (.lst vs)) (.ref a) xs := ⟨a, vs, rfl, upd_same, h.up S.extFrz⟩
def mkRev (K : PySem.W.Frag) (x : V) (H1 : Hp) (Q : VK) : Prop := ∃ a xs, x = .ref a ∧ SqL K H1 a xs ∧ ∀ p, H1 p = none → Q (.ref p) (upd H1 p (.lst xs.reverse))
theorem gRevL {te : TE} (h : te σ H fun x H1 => mkRev K x H1 Q) : tRevL K te σ H Q := h
theorem q_rev (S : Sub G O H) (h : (rL K r).rel G v xs) (q : ∀ w G' H', Ext G G' → Sub G' O H' → (rM r).rel G' w xs.reverse → Q w H') : mkRev K v H Q := by
  obtain ⟨p, vs, rfl, hs, ha⟩ := h
  exact ⟨p, vs, rfl, sqL_up S.ext hs, fun t ht => q _ _ _ (S.extNew ht _) (S.new ht) ⟨t, _, rfl, upd_same, (ha.up (S.extNew ht _)).rev⟩⟩
theorem q_revO (S : Sub G ((a, .lst vs) :: O) H) (h : Al r G vs xs) (q : ∀ w G' H', Ext G G' → Sub G' ((a, .lst vs) :: O) H' → (rM r).rel G' w xs.reverse → Q w H') : mkRev K (.ref a) H Q :=
  ⟨a, vs, rfl, .inl (.inl S.head), fun t ht => q _ _ _ (S.extNew ht _) (S.new ht) ⟨t, _, rfl, upd_same, (h.up (S.extNew ht _)).rev⟩⟩
theorem q_max {ns : List Int} {m : Int} (S : Sub G O H) (h : (rL K rInt).rel G v ns) (hm : maxM ns = some m) (q : Q (.int m) H) : rMax K [v] H Q := by
  obtain ⟨p, vs, rfl, hs, ha⟩ := h
  have hv := Al.sc ha
  subst hv
  obtain ⟨h1, h2, h3⟩ := maxM_some hm
  refine ⟨p, ns, rfl, sqL_up S.ext hs, h3, fun m' h1' h2' => ?_⟩
  rw [max_uniq ⟨h1', h2'⟩ ⟨h1, h2⟩]; exact q
theorem gProp {C : Addr} {sp : Sp} {dvs : List V} {E : XK} {ta : TE} (h : ta σ H fun x H1 => ∃ a dx fs, x = .ref a ∧ H1 a = some (.ins C dx fs) ∧ sp (.ref a :: dvs) H1 Q E) : tProp C sp dvs E ta σ H Q := h
end
end Mr

set_option linter.all false
set_option maxRecDepth 100000
/-! PagP: the plain state of the program's Page and what its methods do to it. -/
namespace Mr
structure Pg where
  len : Int
  es : List (Bool × Int)
  nl : Nat
  high : Int
  bar : Bool
/-! ### what the methods do -/
def Pg.new (len : Int) : Pg := ⟨len, [], 0, 0, false⟩
def Pg.stay (p : Pg) : Pg := { p with nl := 0 }
/-- the places k .. k + i - 1 are shifted -/
def shI (k i : Nat) (es : List (Bool × Int)) (shift : Int) : List (Bool × Int) := es.mapIdx fun j e => if k ≤ j ∧ j < k + i then (e.1, e.2 - shift) else e
/-- the loose lines go over to a new page -/
def Pg.over (p : Pg) : Option Pg :=
  (p.es[p.es.length - p.nl]?).bind fun f => if p.nl = 0 then none else
    some { p with es := (shI (p.es.length - p.nl) p.nl p.es f.2).set (p.es.length - p.nl) (true, 0), nl := 0, high := p.high - f.2 }
def Pg.put (p : Pg) (sp : Int) (b : Bool) : Option Pg :=
  if p.es.length < 100000 then
    (if p.high = 0 ∨ p.high + sp ≥ p.len then some { p with es := p.es ++ [(true, 0)], nl := 0, high := 1 }
     else if b = false then some { p with es := p.es ++ [(false, p.high + sp)], nl := 1, high := p.high + sp + 1 }
     else if p.nl = 0 then some { p with es := p.es ++ [(false, p.high + sp)], high := p.high + sp + 1 }
     else some { p with es := p.es ++ [(false, p.high + sp)], nl := p.nl + 1, high := p.high + sp + 1 })
  else none
def Pg.line (p : Pg) (sp : Int) (b : Bool) : Option Pg :=
  if 0 < p.high ∧ p.high + sp ≥ p.len ∧ b = true ∧ p.nl ≠ 0 then (p.over).bind fun q => q.put sp b else p.put sp b
def Pg.begin (p : Pg) : Pg := { p with nl := 0, high := 0, bar := false }
def Pg.turn (count sp : Int) (p : Pg) (k : Int) : Option Pg := if k = 0 then p.line sp p.bar else p.line 0 (decide (k ∈ ([1, count - 1] : List Int)))
def Pg.lines (count sp : Int) (ks : List Int) (p : Pg) : Option Pg := folM (Pg.turn count sp) ks p
def Pg.block (p : Pg) (count sp : Int) (kept page : Bool) : Option Pg :=
  (rngM count).bind fun ks => (Pg.lines count sp ks (if page = true then p.begin else p)).bind fun q => some (if count > 0 then (if kept = true then { q with bar := true } else { q with bar := false, nl := 0 }) else q)
def cpE (acc : List (Bool × Int)) (e : Bool × Int) : Option (List (Bool × Int)) := (appM acc e).bind some
/-- the rows the pending lines go back -/
def Pg.back (p : Pg) : Option Int := if p.nl = 0 then some 0 else (p.es[p.es.length - p.nl]?).bind fun f => some (p.high - f.2)
def Pg.pend (p : Pg) : Option Int := some (p.nl : Int)
def Pg.went (p : Pg) : Option Bool := some false
def Pg.cnt (p : Pg) : Option Int := if p.es.length < 100000 then some (p.es.length : Int) else none
def Pg.lng (p : Pg) : Option Int := some p.len
def Pg.settled (p : Pg) : Option (List (Bool × Int)) := (folM cpE p.es []).bind fun r => some (cutM r none (some ((p.es.length : Int) - (p.nl : Int))))
end Mr

set_option Elab.async false
set_option linter.all false
set_option maxRecDepth 100000
set_option maxHeartbeats 2000000
/-! Pag: the program's Page: a bundle of owned objects and its plain state. -/
namespace Mr
open PySem PySem.Spec PyProof.Rows L2
abbrev cPg (K : PySem.W.Frag) : Addr := He.ga K "Page"
def cel (e : Bool × Int) : HO := .lst [.bl e.1, .int e.2]
def rg (ad : List Addr) (es : List (Bool × Int)) : Own := List.zipWith (fun a e => (a, cel e)) ad es
def pgF (len : Int) (pl lo : Addr) (high : Int) (bar : Bool) : List (Str × V) := [("length", .int len), ("put_lines", .ref pl), ("loose", .ref lo), ("high", .int high), ("is_barred", .bl bar), ("unknown", .bl false)]
theorem pg_length {len : Int} {pl lo : Addr} {high : Int} {bar : Bool} : (pgF len pl lo high bar).lookup ("length" : Str) = some (.int len) := rfl
theorem pg_put {len : Int} {pl lo : Addr} {high : Int} {bar : Bool} : (pgF len pl lo high bar).lookup ("put_lines" : Str) = some (.ref pl) := rfl
theorem pg_loose {len : Int} {pl lo : Addr} {high : Int} {bar : Bool} : (pgF len pl lo high bar).lookup ("loose" : Str) = some (.ref lo) := rfl
theorem pg_high {len : Int} {pl lo : Addr} {high : Int} {bar : Bool} : (pgF len pl lo high bar).lookup ("high" : Str) = some (.int high) := rfl
theorem pg_bar {len : Int} {pl lo : Addr} {high : Int} {bar : Bool} : (pgF len pl lo high bar).lookup ("is_barred" : Str) = some (.bl bar) := rfl
theorem pg_unk {len : Int} {pl lo : Addr} {high : Int} {bar : Bool} : (pgF len pl lo high bar).lookup ("unknown" : Str) = some (.bl false) := rfl
theorem pgp_loose {len : Int} {pl lo lo' : Addr} {high : Int} {bar : Bool} : putF "loose" (.ref lo') (pgF len pl lo high bar) = pgF len pl lo' high bar := rfl
theorem pgp_high {len : Int} {pl lo : Addr} {high h' : Int} {bar : Bool} : putF "high" (.int h') (pgF len pl lo high bar) = pgF len pl lo h' bar := rfl
theorem pgp_bar {len : Int} {pl lo : Addr} {high : Int} {bar b' : Bool} : putF "is_barred" (.bl b') (pgF len pl lo high bar) = pgF len pl lo high b' := rfl
theorem pgp_new {len : Int} {pl lo : Addr} : putF "unknown" (.bl false) (putF "is_barred" (.bl false) (putF "high" (.int 0) (putF "loose" (.ref lo) (putF "put_lines" (.ref pl) (putF "length" (.int len) []))))) = pgF len pl lo 0 false := rfl
def los (ad : List Addr) (nl : Nat) : List V := (ad.drop (ad.length - nl)).map V.ref
def pgB (C a dx pl lo : Addr) (ad : List Addr) (st : Pg) : Own := (a, .ins C dx (pgF st.len pl lo st.high st.bar)) :: (pl, .lst (ad.map V.ref)) :: (lo, .lst (los ad st.nl)) :: rg ad st.es
def PgR (C : Addr) (B : Own) (v : V) (st : Pg) : Prop := ∃ a dx pl lo ad, v = .ref a ∧ B = pgB C a dx pl lo ad st ∧ ad.length = st.es.length ∧ st.nl ≤ ad.length
theorem pg_cntQ {st : Pg} {r : Int} {H : Hp} {Q : VK} (h : Pg.cnt st = some r) (q : Q (.int r) H) : lenQ Q (.int r) H := by
  unfold Pg.cnt at h
  split at h
  · cases h
    exact ⟨st.es.length, rfl, by omega, q⟩
  · cases h
/-! ### the entries -/
section
variable {G H : Hp} {O X : Own} {ad : List Addr} {es : List (Bool × Int)} {k : Nat} {a0 : Addr} {e e' : Bool × Int}
theorem rg_get (ha : ad[k]? = some a0) (he : es[k]? = some e) : (rg ad es)[k]? = some (a0, cel e) := by
  unfold rg
  rw [List.getElem?_zipWith, ha, he]
theorem rg_mem (ha : ad[k]? = some a0) (he : es[k]? = some e) : (a0, cel e) ∈ rg ad es := List.mem_of_getElem? (rg_get ha he)
theorem rg_read (S : Sub G (X ++ (rg ad es ++ O)) H) (ha : ad[k]? = some a0) (he : es[k]? = some e) : H a0 = some (cel e) :=
  (S.own (a0, cel e) (List.mem_append_right _ (List.mem_append_left _ (rg_mem ha he)))).1
theorem rg_set (ha : ad[k]? = some a0) : (rg ad es).set k (a0, cel e') = rg ad (es.set k e') := by
  unfold rg
  apply List.ext_getElem?
  intro i
  rw [List.getElem?_set, List.getElem?_zipWith, List.getElem?_zipWith, List.getElem?_set, List.length_zipWith]
  by_cases h : k = i
  · subst h
    by_cases h2 : k < es.length
    · have h3 : k < ad.length := (List.getElem?_eq_some_iff.mp ha).1
      have h4 : ad[k] = a0 := (List.getElem?_eq_some_iff.mp ha).2
      simp [ha, h2, h3, h4]
      omega
    · have : es[k]? = none := List.getElem?_eq_none (by omega)
      simp [ha, h2]
      omega
  · simp [h]
theorem rg_length (h : ad.length = es.length) : (rg ad es).length = ad.length := by unfold rg; rw [List.length_zipWith]; omega
/-- one owned object is written -/
theorem Sub.wrAt {L : Own} {i : Nat} {o o' : HO} (S : Sub G L H) (h : L[i]? = some (a0, o)) : Sub G (L.set i (a0, o')) (upd H a0 o') := by
  have hi : i < L.length := (List.getElem?_eq_some_iff.mp h).1
  have hv : L[i] = (a0, o) := (List.getElem?_eq_some_iff.mp h).2
  have hm : (a0, o) ∈ L := List.mem_of_getElem? h
  have hg : G a0 = none := (S.own _ hm).2
  have hmap : (L.set i (a0, o')).map (·.1) = L.map (·.1) := by
    apply List.ext_getElem?
    intro j
    rw [List.getElem?_map, List.getElem?_map, List.getElem?_set]
    by_cases hj : i = j
    · subst hj; simp [hi, hv]
    · simp [hj]
  refine ⟨fun x u hx => ?_, fun q hq => ?_, by rw [hmap]; exact S.nd⟩
  · have : x ≠ a0 := ne_of_none hx hg
    rw [upd_ne this]; exact S.ext x u hx
  · obtain ⟨j, hj⟩ := List.getElem?_of_mem hq
    rw [List.getElem?_set] at hj
    by_cases hij : i = j
    · subst hij
      simp [hi] at hj
      rw [← hj]
      exact ⟨upd_same, hg⟩
    · simp [hij] at hj
      have hjl : j < L.length := (List.getElem?_eq_some_iff.mp hj).1
      have hqm : q ∈ L := List.mem_of_getElem? hj
      have hne : q.1 ≠ a0 := by
        intro e
        have n1 : (L.map (·.1))[i]? = some a0 := by rw [List.getElem?_map, h]; rfl
        have n2 : (L.map (·.1))[j]? = some a0 := by rw [List.getElem?_map, hj]; simp [e]
        exact hij ((List.getElem?_inj (by simpa using hi) S.nd).mp (n1.trans n2.symm))
      rw [upd_ne hne]
      exact S.own q hqm
theorem rg_wr (S : Sub G (X ++ (rg ad es ++ O)) H) (ha : ad[k]? = some a0) (he : es[k]? = some e) : Sub G (X ++ (rg ad (es.set k e') ++ O)) (upd H a0 (cel e')) := by
  have hk : k < (rg ad es).length := (List.getElem?_eq_some_iff.mp (rg_get ha he)).1
  have h : (X ++ (rg ad es ++ O))[X.length + k]? = some (a0, cel e) := by
    rw [List.getElem?_append_right (by omega), List.getElem?_append_left (by omega)]
    have : X.length + k - X.length = k := by omega
    rw [this]; exact rg_get ha he
  have S2 := S.wrAt (o' := cel e') h
  rw [List.set_append_right _ _ (by omega)] at S2
  have e1 : X.length + k - X.length = k := by omega
  rw [e1, List.set_append_left _ _ hk, rg_set ha] at S2
  exact S2
theorem rg_add (h : ad.length = es.length) : rg (ad ++ [a0]) (es ++ [e]) = rg ad es ++ [(a0, cel e)] := by
  unfold rg
  rw [List.zipWith_append h]; rfl
end
theorem shI_zero (k : Nat) (es : List (Bool × Int)) (sh : Int) : shI k 0 es sh = es := by
  unfold shI
  apply List.ext_getElem?
  intro j
  rw [List.getElem?_mapIdx]
  cases es[j]? with
  | none => rfl
  | some e =>
    show some (if k ≤ j ∧ j < k + 0 then (e.1, e.2 - sh) else e) = some e
    rw [if_neg (by omega)]
theorem shI_length (k i : Nat) (es : List (Bool × Int)) (sh : Int) : (shI k i es sh).length = es.length := by simp [shI]
theorem shI_at {k i : Nat} {es : List (Bool × Int)} {sh : Int} {e : Bool × Int} (h : es[k + i]? = some e) : (shI k i es sh)[k + i]? = some e := by
  unfold shI
  rw [List.getElem?_mapIdx, h]
  have : ¬ (k ≤ k + i ∧ k + i < k + i) := by omega
  simp [this]
theorem shI_succ {k i : Nat} {es : List (Bool × Int)} {sh : Int} {e : Bool × Int} (h : es[k + i]? = some e) : (shI k i es sh).set (k + i) (e.1, e.2 - sh) = shI k (i + 1) es sh := by
  apply List.ext_getElem?
  intro j
  rw [List.getElem?_set, shI_length]
  unfold shI
  rw [List.getElem?_mapIdx, List.getElem?_mapIdx]
  have hlt : k + i < es.length := (List.getElem?_eq_some_iff.mp h).1
  by_cases hj : k + i = j
  · subst hj
    rw [h]
    have : k ≤ k + i ∧ k + i < k + (i + 1) := by omega
    simp [hlt, this]
  · rw [if_neg hj]
    cases es[j]? with
    | none => rfl
    | some e' =>
      have : (k ≤ j ∧ j < k + i) ↔ (k ≤ j ∧ j < k + (i + 1)) := by omega
      simp [this]
/-! ### self.loose != [] -/
def encE (e : Bool × Int) : PyData := .list [.bool e.1, .int e.2]
theorem dp_cells {K : PySem.W.Frag} {H : Hp} : ∀ (as : List Addr) (es : List (Bool × Int)), as.length = es.length → (∀ (i : Nat) (a : Addr) (e : Bool × Int), as[i]? = some a → es[i]? = some e → H a = some (cel e)) → DpAll K H (as.map V.ref) (es.map encE)
  | [], [], _, _ => .nil
  | a :: as, e :: es, hl, h => .cons (.lst (.inl (.inl (h 0 a e rfl rfl))) (.cons (.bl _) (.cons (.int _) .nil))) (dp_cells as es (by simpa using hl) fun i a' e' h1 h2 => h (i + 1) a' e' (by simpa using h1) (by simpa using h2))
  | [], _ :: _, hl, _ => by cases hl
  | _ :: _, [], hl, _ => by cases hl
theorem shaped_cells (es : List (Bool × Int)) : SeqAt.shaped (.list (es.map encE)) = true := by
  have h1 : PyData.canLayAll0 (es.map encE) = true := lays (ok := fun _ => true) (fun e _ => rfl) es (by simp)
  have h2 : PyData.depthAll (es.map encE) ≤ 3 := deps (fun e => by simp [encE, PyData.depth, PyData.depthAll]) es
  unfold SeqAt.shaped
  have h3 : (PyData.list (es.map encE)).canLay0 = true := h1
  have h4 : (PyData.list (es.map encE)).depth ≤ 64 := by simp only [PyData.depth]; omega
  rw [h3, decide_eq_true h4]; rfl
theorem loose_ne {K : PySem.W.Frag} {G H : Hp} {O X : Own} {ad : List Addr} {es : List (Bool × Int)} {k : Nat} {lo p : Addr} {Q : VK} (S : Sub G (X ++ (rg ad es ++ O)) H) (hlo : H lo = some (.lst ((ad.drop k).map V.ref))) (hp : H p = some (.lst [])) (hl : ad.length = es.length)
    (q : Q (.bl (decide (k < ad.length))) H) : rNeD K (.ref lo) (.ref p) H Q := by
  refine ⟨.list ((es.drop k).map encE), .list [], .lst (.inl (.inl hlo)) (dp_cells _ _ (by simp; omega) fun i a e h1 h2 => ?_), .lst (.inl (.inl hp)) .nil, shaped_cells _, rfl, ?_⟩
  · rw [List.getElem?_drop] at h1 h2
    exact rg_read S h1 h2
  · have e : (!PyData.eqv (.list ((es.drop k).map encE)) (.list [])) = decide (k < ad.length) := by
      cases h : es.drop k with
      | nil =>
        have : es.length ≤ k := List.drop_eq_nil_iff.mp h
        rw [decide_eq_false (by omega)]; rfl
      | cons x xs =>
        have : k < es.length := by
          by_cases hk : k < es.length
          · exact hk
          · rw [List.drop_eq_nil_iff.mpr (by omega)] at h; cases h
        rw [decide_eq_true (by omega)]; rfl
    rw [e]; exact q
theorem los_snoc {ad : List Addr} {e0 : Addr} {nl : Nat} (h : nl ≤ ad.length) : los (ad ++ [e0]) (nl + 1) = los ad nl ++ [V.ref e0] := by
  unfold los
  have e : (ad ++ [e0]).length - (nl + 1) = ad.length - nl := by simp
  rw [e, List.drop_append_of_le_length (by omega)]
  simp
theorem los_zero (ad : List Addr) : los ad 0 = [] := by simp [los]
theorem los_one (ad : List Addr) (e0 : Addr) : los (ad ++ [e0]) 1 = [V.ref e0] := by rw [los_snoc (Nat.zero_le _), los_zero]; rfl
/-! ### a bundle among the owned objects -/
section
variable {G H : Hp} {E B O : Own}
theorem Sub.bFront (S : Sub G (E ++ (B ++ O)) H) : Sub G (B ++ (E ++ O)) H := S.perm (by
  rw [← List.append_assoc, ← List.append_assoc]
  exact List.Perm.append_right O List.perm_append_comm)
theorem Sub.bBack (S : Sub G (B ++ (E ++ O)) H) : Sub G (E ++ (B ++ O)) H := S.perm (by
  rw [← List.append_assoc, ← List.append_assoc]
  exact List.Perm.append_right O List.perm_append_comm)
theorem Sub.bSwap {x : Addr × HO} {Y : Own} (S : Sub G (x :: (B ++ Y)) H) : Sub G (B ++ (x :: Y)) H := S.perm List.perm_middle.symm
theorem Sub.bDrop (S : Sub G (E ++ (B ++ O)) H) : Sub G (E ++ O) H := by
  have S2 := S.bFront
  refine ⟨S2.ext, fun q hq => S2.own q (List.mem_append_right _ hq), ?_⟩
  have := S2.nd
  rw [List.map_append] at this
  exact (List.nodup_append.mp this).2.1
end
end Mr

set_option linter.all false
set_option maxRecDepth 100000
set_option synthInstance.maxSize 4000
set_option synthInstance.maxHeartbeats 400000
namespace Mr
inductive Wd where
  | top | opn | kept
  deriving DecidableEq
def m_behind (length1 : Int) (high1 : Int) (back1 : Int) (kept1 : Bool) : Option (Wd × Int × Int) :=
  if ((decide (high1 = length1)) && (!(kept1 && (decide (back1 > (0 : Int)))))) then (some (Wd.top, (0 : Int), (0 : Int)))
  else (Option.bind (if kept1 then (some (Wd.kept, high1, back1)) else (some (Wd.opn, high1, (0 : Int)))) fun x1 =>
  some x1)
def Pg.now (p : Pg) : Option (Wd × Int × Int) := if p.high = 0 then some (Wd.top, 0, 0) else (Pg.back p).bind fun b => m_behind p.len p.high b p.bar

def m_law_bag_b1 : (Int) → (Int × Int) → Option (Int) := fun s x => match s, x with
  | mixed2, (k3, x4) => some ((((mixed2 * (16807 : Int)) + (x4 % (2147483629 : Int))) + ((13 : Int) * k3)) % (2147483647 : Int))
def m_law_bag (script1 : (List Int)) (at1 : Int) : Option (List Int) :=
  Option.bind (if (decide (at1 < (script1.length : Int))) then (Option.bind (getM script1 at1) fun x1 =>
  some (if x1 < 0 then -x1 else x1)) else (some (0 : Int))) fun x2 =>
  Option.bind (folM (m_law_bag_b1) (enumM (cutM script1 none (some (63 : Int)))) ((1009 : Int) + ((77 : Int) * at1))) fun mixed1 =>
  some ([(if (decide (x2 ≥ ((10 : Int) ^ (18 : Int).toNat))) then x2 else (0 : Int)), mixed1, (0 : Int)] : List Int)

def m_law_draw (bag_here1 : (List Int)) (many1 : Int) : Option (Int × (List Int)) :=
  Option.bind (getM bag_here1 (0 : Int)) fun x1 =>
  if (decide (x1 > (0 : Int))) then (Option.bind (getM bag_here1 (0 : Int)) fun x2 =>
  Option.bind (modM x2 many1) fun x3 =>
  Option.bind (getM bag_here1 (0 : Int)) fun x4 =>
  Option.bind (fdivM x4 many1) fun x5 =>
  Option.bind (setM bag_here1 (0 : Int) x5) fun bag_here2 =>
  some (x3, bag_here2))
  else (Option.bind (getM bag_here1 (2 : Int)) fun x6 =>
  Option.bind (setM bag_here1 (2 : Int) (x6 + (1 : Int))) fun bag_here3 =>
  Option.bind (getM bag_here3 (1 : Int)) fun x7 =>
  Option.bind (getM bag_here3 (2 : Int)) fun x8 =>
  Option.bind (setM bag_here3 (1 : Int) ((((x7 * (48271 : Int)) + ((11 : Int) * x8)) + (7 : Int)) % (2147483647 : Int))) fun bag_here4 =>
  Option.bind (getM bag_here4 (1 : Int)) fun x9 =>
  Option.bind (getM bag_here4 (2 : Int)) fun x10 =>
  Option.bind (modM ((((x9 * (69621 : Int)) + ((4099 : Int) * x10)) % (2147483629 : Int)) / (128 : Int)) many1) fun x11 =>
  some (x11, bag_here4))

def m_law_number (thing1 : Int) : Option Bool :=
  some (true && (!false))

def m_law_lines_b2 (barred2 : Bool) (due2 : Bool) (x1 : (Int × Int × Bool × Bool)) : ((List (Int × Bool × Bool))) → Int → Option ((List (Int × Bool × Bool))) := fun lines_here4 x2 => Option.bind (if (decide (x2 = (0 : Int))) then (some (x1.2.1, barred2, (due2 || x1.2.2.2))) else (some ((0 : Int), (decide (x2 ∈ ([(1 : Int), (x1.1 - (1 : Int))] : List Int))), false))) fun x3 =>
  Option.bind (appM lines_here4 x3) fun lines_here5 =>
  some lines_here5
def m_law_lines_b1 : ((List (Int × Bool × Bool)) × Bool × Bool) → (Int × Int × Bool × Bool) → Option ((List (Int × Bool × Bool)) × Bool × Bool) := fun s x1 => match s with
  | (lines_here2, barred2, due2) => Option.bind (rngM x1.1) fun xs1 =>
  Option.bind (folM (m_law_lines_b2 barred2 due2 x1) xs1 lines_here2) fun lines_here3 =>
  some (lines_here3, (if (decide (x1.1 > (0 : Int))) then x1.2.2.1 else barred2), ((due2 || x1.2.2.2) && (decide (x1.1 = (0 : Int)))))
def m_law_lines (blocks1 : (List (Int × Int × Bool × Bool))) : Option ((List (Int × Bool × Bool)) × Bool × Bool) :=
  Option.bind (folM (m_law_lines_b1) blocks1 (([] : List (Int × Bool × Bool)), false, true)) fun (lines_here1, barred1, due1) =>
  some (lines_here1, barred1, due1)

def m_law_cut_c2 (lines_here1 : (List (Int × Bool × Bool))) : ((List Int)) → Int → Option ((List Int)) := fun acc2 x7 => Option.bind (getM lines_here1 x7) fun x9 =>
  if (!x9.2.1) then (Option.bind (appM acc2 x7) fun acc3 =>
  some acc3)
  else (some acc2)
def m_law_cut_b1 (length_here1 : Int) (lines_here1 : (List (Int × Bool × Bool))) (start1 : Int) : (Int) → Int → Option (Bf (Int) Int) := fun row2 x1 => Option.bind (getM lines_here1 x1) fun x2 =>
  Option.bind (getM lines_here1 x1) fun x4 =>
  if x4.2.2 then (some (Bf.rt x1))
  else (if (decide (((row2 + x2.1) + (1 : Int)) ≥ length_here1)) then (Option.bind (rng2M (start1 + (1 : Int)) (x1 + (1 : Int))) fun xs2 =>
  Option.bind (folM (m_law_cut_c2 lines_here1) xs2 ([] : (List Int))) fun acc1 =>
  Option.bind (if (!decide (acc1 = ([] : (List Int)))) then (Option.bind (getM acc1 (-(1 : Int))) fun x10 =>
  some x10) else (some x1)) fun x11 =>
  some (Bf.rt x11))
  else (some (Bf.go ((row2 + x2.1) + (1 : Int)))))
def m_law_cut (length_here1 : Int) (lines_here1 : (List (Int × Bool × Bool))) (start1 : Int) : Option Int :=
  Option.bind (rng2M (start1 + (1 : Int)) (lines_here1.length : Int)) fun xs1 =>
  Option.bind (forL (m_law_cut_b1 length_here1 lines_here1 start1) xs1 (0 : Int)) fun res => match res with
  | Fl.rt r => some r
  | Fl.nx row1 => some (lines_here1.length : Int)

def m_law_pages_b1 (length_here1 : Int) (lines_here1 : (List (Int × Bool × Bool))) : ((List (Bool × Int)) × Int) → Int → Option ((List (Bool × Int)) × Int) := fun s x1 => match s with
  | (rows2, start2) => Option.bind (if (decide (x1 = start2)) then (Option.bind (appM rows2 (true, (0 : Int))) fun rows6 =>
  Option.bind (m_law_cut length_here1 lines_here1 x1) fun r2 =>
  some (rows6, r2))
  else (Option.bind (getM rows2 (-(1 : Int))) fun x4 =>
  Option.bind (getM lines_here1 x1) fun x5 =>
  Option.bind (appM rows2 (false, ((x4.2 + x5.1) + (1 : Int)))) fun rows7 =>
  some (rows7, start2))) fun (rows5, start3) =>
  some (rows5, start3)
def m_law_pages (length_here1 : Int) (lines_here1 : (List (Int × Bool × Bool))) : Option (List (Bool × Int)) :=
  Option.bind (rngM (lines_here1.length : Int)) fun xs1 =>
  Option.bind (folM (m_law_pages_b1 length_here1 lines_here1) xs1 (([] : List (Bool × Int)), (0 : Int))) fun (rows1, start1) =>
  some rows1

def m_law_standing_c1 (r2 : (List (Bool × Int))) : ((List Int)) → Int → Option ((List Int)) := fun acc2 x3 => Option.bind (getM r2 x3) fun x5 =>
  if x5.1 then (Option.bind (appM acc2 x3) fun acc3 =>
  some acc3)
  else (some acc2)
def m_law_standing_c2 (r1 : ((List (Int × Bool × Bool)) × Bool × Bool)) : ((List Int)) → Int → Option ((List Int)) := fun acc5 x10 => Option.bind (getM r1.1 x10) fun x12 =>
  if (!x12.2.1) then (Option.bind (appM acc5 x10) fun acc6 =>
  some acc6)
  else (some acc5)
def m_law_standing (length_here1 : Int) (blocks1 : (List (Int × Int × Bool × Bool))) : Option (Wd × Int × Int) :=
  Option.bind (m_law_lines blocks1) fun r1 =>
  if r1.2.2 then (some (Wd.top, (0 : Int), (0 : Int)))
  else (Option.bind (m_law_pages length_here1 r1.1) fun r2 =>
  Option.bind (rngM (r2.length : Int)) fun xs1 =>
  Option.bind (folM (m_law_standing_c1 r2) xs1 ([] : (List Int))) fun acc1 =>
  Option.bind (maxM acc1) fun x6 =>
  Option.bind (getM r2 (-(1 : Int))) fun x7 =>
  Option.bind (rng2M (x6 + (1 : Int)) (r2.length : Int)) fun xs2 =>
  Option.bind (folM (m_law_standing_c2 r1) xs2 ([] : (List Int))) fun acc4 =>
  if ((decide ((x7.2 + (1 : Int)) = length_here1)) && ((!r1.2.1) || (decide (acc4 = ([] : (List Int)))))) then (some (Wd.top, (0 : Int), (0 : Int)))
  else (if (!r1.2.1) then (some (Wd.opn, (x7.2 + (1 : Int)), (0 : Int)))
  else (Option.bind (if (!decide (acc4 = ([] : (List Int)))) then (Option.bind (getM acc4 (-(1 : Int))) fun x13 =>
  Option.bind (getM r2 x13) fun x14 =>
  some ((x7.2 + (1 : Int)) - x14.2)) else (some (0 : Int))) fun x15 =>
  some (Wd.kept, (x7.2 + (1 : Int)), x15))))

def m_law_block (bag_here1 : (List Int)) (most1 : Int) : Option ((Int × Int × Bool × Bool) × (List Int)) :=
  Option.bind (Option.bind (m_law_draw bag_here1 (4 : Int)) fun (r1, bag_here2) =>
  if (decide (r1 = (3 : Int))) then (Option.bind (m_law_draw bag_here2 (most1 + (1 : Int))) fun (r2, bag_here3) =>
  some (r2, bag_here3)) else (Option.bind (m_law_draw bag_here2 (5 : Int)) fun (r3, bag_here4) =>
  some (r3, bag_here4))) fun (x1, bag_here5) =>
  Option.bind (m_law_draw bag_here5 (3 : Int)) fun (r7, bag_here9) =>
  Option.bind (m_law_draw bag_here9 (2 : Int)) fun (r8, bag_here10) =>
  Option.bind (m_law_draw bag_here10 (8 : Int)) fun (r9, bag_here11) =>
  some ((x1, r7, (decide (r8 = (1 : Int))), (decide (r9 = (7 : Int)))), bag_here11)

def m_law_length (bag_here1 : (List Int)) : Option (Int × (List Int)) :=
  Option.bind (Option.bind (m_law_draw bag_here1 (4 : Int)) fun (r1, bag_here2) =>
  if (decide (r1 = (3 : Int))) then (Option.bind (m_law_draw bag_here2 (8 : Int)) fun (r2, bag_here3) =>
  some (r2, bag_here3)) else (Option.bind (m_law_draw bag_here2 (3 : Int)) fun (r3, bag_here4) =>
  some (r3, bag_here4))) fun (x1, bag_here5) =>
  some (((2 : Int) + x1), bag_here5)

def m_law_pending_b1 (r1 : (Wd × Int × Int)) : (Int) → (Bool × Int) → Option (Bf (Int) Int) := fun count2 x1 => if (decide (x1.2 < (r1.2.1 - r1.2.2))) then (some (Bf.rt count2))
  else (some (Bf.go (count2 + (1 : Int))))
def m_law_pending (length_here1 : Int) (blocks1 : (List (Int × Int × Bool × Bool))) : Option Int :=
  Option.bind (m_law_standing length_here1 blocks1) fun r1 =>
  if (decide (r1.2.2 = (0 : Int))) then (some (0 : Int))
  else (Option.bind (m_law_lines blocks1) fun r2 =>
  Option.bind (m_law_pages length_here1 r2.1) fun r3 =>
  Option.bind (forL (m_law_pending_b1 r1) (r3.reverse) (0 : Int)) fun res => match res with
  | Fl.rt r => some r
  | Fl.nx count1 => some count1)

def m_law_rows_right_c1 : ((List Bool)) → (Bool × Int) → Option ((List Bool)) := fun acc2 x2 => Option.bind (if true then (if true then (Option.bind (m_law_number x2.2) fun r5 =>
  some r5) else some false) else some false) fun x3 =>
  Option.bind (appM acc2 x3) fun acc3 =>
  some acc3
def m_law_rows_right (told1 : (List (Bool × Int))) (due1 : (List (Bool × Int))) : Option Bool :=
  if ((!true) || (!decide (told1 = due1))) then (some false)
  else (Option.bind (folM (m_law_rows_right_c1) told1 ([] : (List Bool))) fun acc1 =>
  some (acc1.all id))

def m_law_shown (page1 : Pg) (length_here1 : Int) (blocks1 : (List (Int × Int × Bool × Bool))) : Option (Bool × Pg) :=
  Option.bind (m_law_lines blocks1) fun r1 =>
  Option.bind (m_law_pages length_here1 r1.1) fun r2 =>
  Option.bind (m_law_pending length_here1 blocks1) fun r3 =>
  Option.bind (Option.bind (Pg.now page1) fun r4 =>
  Option.bind (m_law_standing length_here1 blocks1) fun r5 =>
  if (!decide (r4 = r5)) then some true else (Option.bind (Pg.pend page1) fun r6 =>
  if (!decide (r6 = r3)) then some true else (Option.bind (Pg.pend page1) fun r9 =>
  Option.bind (m_law_number r9) fun r10 =>
  some (!r10)))) fun x1 =>
  if x1 then (some (false, page1))
  else (Option.bind ((fun st => folM cpE (Pg.es st) []) page1) fun r18 =>
  Option.bind (Option.bind (m_law_rows_right r18 r2) fun r20 =>
  if (!r20) then some true else (Option.bind (Pg.settled page1) fun r23 =>
  Option.bind (m_law_rows_right r23 (cutM r2 none (some ((r2.length : Int) - r3)))) fun r24 =>
  some (!r24))) fun x2 =>
  if x2 then (some (false, page1))
  else (Option.bind (appM r18 (true, (0 : Int))) fun told1 =>
  Option.bind (Option.bind (Pg.cnt page1) fun r31 =>
  if (decide (r31 = (r2.length : Int))) then (Option.bind ((fun st => folM cpE (Pg.es st) []) page1) fun r32 =>
  if (decide (r32 = r2)) then (Option.bind (Pg.went page1) fun r33 =>
  some (decide (r33 = false))) else some false) else some false) fun x3 =>
  some (x3, page1)))

def m_law_set (page1 : Pg) (block_here1 : (Int × Int × Bool × Bool)) (apart1 : Bool) : Option (Bool × Pg) :=
  if (block_here1.2.2.2 && apart1) then (if false then (some (false, (Pg.begin page1)))
  else (if ((decide (block_here1.2.1 = (0 : Int))) && ((!block_here1.2.2.1) && (!false))) then (Option.bind (Pg.block (Pg.begin page1) block_here1.1 (0 : Int) false false) fun pg1 =>
  some (true, pg1))
  else (Option.bind (Pg.block (Pg.begin page1) block_here1.1 block_here1.2.1 block_here1.2.2.1 false) fun pg2 =>
  some (true, pg2))))
  else (if ((decide (block_here1.2.1 = (0 : Int))) && ((!block_here1.2.2.1) && (!block_here1.2.2.2))) then (Option.bind (Pg.block page1 block_here1.1 (0 : Int) false false) fun pg3 =>
  some (true, pg3))
  else (Option.bind (Pg.block page1 block_here1.1 block_here1.2.1 block_here1.2.2.1 block_here1.2.2.2) fun pg4 =>
  some (true, pg4)))

def m_law_right_b1 (length_here1 : Int) (blocks1 : (List (Int × Int × Bool × Bool))) : ((List Int) × Pg × Pg × (List (Bool × Int))) → (Int × (Int × Int × Bool × Bool)) → Option (Bf ((List Int) × Pg × Pg × (List (Bool × Int))) (Bool × (List Int))) := fun s x => match s, x with
  | (bag_here3, page3, other3, settled2), (k8, x2) => Option.bind (Option.bind (m_law_draw bag_here3 (2 : Int)) fun (r11, bag_here5) =>
  Option.bind (m_law_set page3 x2 (decide (r11 = (1 : Int)))) fun (r12, pg10) =>
  if (!r12) then some (true, pg10, bag_here5) else (Option.bind (m_law_shown pg10 length_here1 (cutM blocks1 none (some (k8 + (1 : Int))))) fun (r14, pg12) =>
  some ((!r14), pg12, bag_here5))) fun (x3, page4, bag_here6) =>
  if x3 then (some (Bf.rt (false, bag_here6)))
  else (Option.bind (if (decide (k8 = (0 : Int))) then (Option.bind (m_law_set other3 x2 false) fun (r22, pg18) =>
  some ((!r22), pg18)) else some (false, other3)) fun (x4, other4) =>
  if x4 then (some (Bf.rt (false, bag_here6)))
  else (Option.bind (Pg.settled page4) fun r25 =>
  if (!decide ((cutM r25 none (some (settled2.length : Int))) = settled2)) then (some (Bf.rt (false, bag_here6)))
  else (Option.bind (appM r25 (false, (1 : Int))) fun told1 =>
  some (Bf.go (bag_here6, page4, other4, r25)))))
def m_law_right (bag_here1 : (List Int)) (length_here1 : Int) (blocks1 : (List (Int × Int × Bool × Bool))) : Option (Bool × (List Int)) :=
  Option.bind (Option.bind (m_law_shown (Pg.new length_here1) length_here1 ([] : List (Int × Int × Bool × Bool))) fun (r2, pg2) =>
  if (!r2) then some (true, pg2, (Pg.new length_here1)) else (Option.bind (m_law_shown (Pg.new length_here1) length_here1 ([] : List (Int × Int × Bool × Bool))) fun (r4, pg4) =>
  some ((!r4), pg2, pg4))) fun (x1, page1, other1) =>
  if x1 then (some (false, bag_here1))
  else (Option.bind (forL (m_law_right_b1 length_here1 blocks1) (enumM blocks1) (bag_here1, page1, other1, ([] : List (Bool × Int)))) fun res => match res with
  | Fl.rt r => some r
  | Fl.nx (bag_here2, page2, other2, settled1) => Option.bind (if (decide ((Pg.len page2) = length_here1)) then (Option.bind (m_law_shown other2 length_here1 (cutM blocks1 none (some (1 : Int)))) fun (r27, pg22) =>
  some (r27, pg22)) else some (false, other2)) fun (x5, other5) =>
  some (x5, bag_here2))

def m_law_c2 : ((List Int) × (List (Int × Int × Bool × Bool))) → Int → Option ((List Int) × (List (Int × Int × Bool × Bool))) := fun s x2 => match s with
  | (bag_here2, acc2) => Option.bind (m_law_block bag_here2 (30 : Int)) fun (r8, bag_here3) =>
  Option.bind (appM acc2 r8) fun acc3 =>
  some (bag_here3, acc3)
def m_law_b1 (script1 : (List Int)) : (Unit) → Int → Option (Bf (Unit) Bool) := fun _ x1 => Option.bind (m_law_bag script1 x1) fun r1 =>
  Option.bind (m_law_length r1) fun (r2, r3) =>
  Option.bind (m_law_draw r3 (10 : Int)) fun (r4, r5) =>
  Option.bind (rngM r4) fun xs2 =>
  Option.bind (folM (m_law_c2) xs2 (r5, ([] : (List (Int × Int × Bool × Bool))))) fun (bag_here1, acc1) =>
  Option.bind (m_law_right bag_here1 r2 acc1) fun (r10, bag_here5) =>
  if (!r10) then (some (Bf.rt false))
  else (some (Bf.go ()))
def m_law (script1 : (List Int)) : Option Bool :=
  Option.bind (rngM (if (if (6 : Int) < (script1.length : Int) then (6 : Int) else (script1.length : Int)) > (1 : Int) then (if (6 : Int) < (script1.length : Int) then (6 : Int) else (script1.length : Int)) else (1 : Int))) fun xs1 =>
  Option.bind (forL (m_law_b1 script1) xs1 ()) fun res => match res with
  | Fl.rt r => some r
  | Fl.nx _ => some true
end Mr

set_option Elab.async false
set_option linter.all false
set_option maxRecDepth 100000
set_option maxHeartbeats 4000000
set_option synthInstance.maxSize 4000
set_option synthInstance.maxHeartbeats 400000
namespace Mr
open PySem PySem.Spec PyProof.Rows L2
def top (i : Nat) : Stmt := PySem.Challenge.pw_pressalike_k27_blocks_on_pages.main.body.getD i (.Pass ⟨0, 0, 0, 0⟩)
abbrev s_behind : Stmt := top 3
abbrev s_law_bag : Stmt := top 7
abbrev s_law_draw : Stmt := top 8
abbrev s_law_number : Stmt := top 9
abbrev s_law_lines : Stmt := top 10
abbrev s_law_cut : Stmt := top 11
abbrev s_law_pages : Stmt := top 12
abbrev s_law_standing : Stmt := top 13
abbrev s_law_block : Stmt := top 14
abbrev s_law_length : Stmt := top 15
abbrev s_law_pending : Stmt := top 16
abbrev s_law_rows_right : Stmt := top 17
abbrev s_law_shown : Stmt := top 18
abbrev s_law_set : Stmt := top 19
abbrev s_law_right : Stmt := top 20
abbrev s_law : Stmt := top 21
def e_Wd : Wd → Str
  | .top => Str.ofString "top"
  | .opn => Str.ofString "open"
  | .kept => Str.ofString "kept"
theorem e_Wd_inj : ∀ x y, e_Wd x = e_Wd y → x = y := by
  intro x y h
  cases x <;> cases y <;> first | rfl | (exfalso; revert h; decide +kernel)
theorem e_Wd_ok : ∀ x, PyData.strOk (e_Wd x) = true := by
  intro x
  cases x <;> decide +kernel
structure Tx (K : PySem.W.Frag) (mg : Str → Option Value) where
  fd_behind : FuncData
  F_behind : FunD K "behind" "behind" (defArgs s_behind) (defBody s_behind) (defScope s_behind) [] [] (He.fAd K ("behind", none)) fd_behind
  g_behind : mg "behind" = some (.ref (He.fAd K ("behind", none)))
  b_behind : Binds K fd_behind ["length", "high", "back", "kept"] []
  fd_law_bag : FuncData
  F_law_bag : FunD K "_law_bag" "_law_bag" (defArgs s_law_bag) (defBody s_law_bag) (defScope s_law_bag) [] [] (He.fAd K ("_law_bag", none)) fd_law_bag
  g_law_bag : mg "_law_bag" = some (.ref (He.fAd K ("_law_bag", none)))
  b_law_bag : Binds K fd_law_bag ["_law_script", "_law_at"] []
  fd_law_draw : FuncData
  F_law_draw : FunD K "_law_draw" "_law_draw" (defArgs s_law_draw) (defBody s_law_draw) (defScope s_law_draw) [] [] (He.fAd K ("_law_draw", none)) fd_law_draw
  g_law_draw : mg "_law_draw" = some (.ref (He.fAd K ("_law_draw", none)))
  b_law_draw : Binds K fd_law_draw ["_law_bag_here", "_law_many"] []
  fd_law_number : FuncData
  F_law_number : FunD K "_law_number" "_law_number" (defArgs s_law_number) (defBody s_law_number) (defScope s_law_number) [] [] (He.fAd K ("_law_number", none)) fd_law_number
  g_law_number : mg "_law_number" = some (.ref (He.fAd K ("_law_number", none)))
  b_law_number : Binds K fd_law_number ["_law_thing"] []
  fd_law_lines : FuncData
  F_law_lines : FunD K "_law_lines" "_law_lines" (defArgs s_law_lines) (defBody s_law_lines) (defScope s_law_lines) [] [] (He.fAd K ("_law_lines", none)) fd_law_lines
  g_law_lines : mg "_law_lines" = some (.ref (He.fAd K ("_law_lines", none)))
  b_law_lines : Binds K fd_law_lines ["_law_blocks"] []
  fd_law_cut : FuncData
  F_law_cut : FunD K "_law_cut" "_law_cut" (defArgs s_law_cut) (defBody s_law_cut) (defScope s_law_cut) [] [] (He.fAd K ("_law_cut", none)) fd_law_cut
  g_law_cut : mg "_law_cut" = some (.ref (He.fAd K ("_law_cut", none)))
  b_law_cut : Binds K fd_law_cut ["_law_length_here", "_law_lines_here", "_law_start"] []
  fd_law_pages : FuncData
  F_law_pages : FunD K "_law_pages" "_law_pages" (defArgs s_law_pages) (defBody s_law_pages) (defScope s_law_pages) [] [] (He.fAd K ("_law_pages", none)) fd_law_pages
  g_law_pages : mg "_law_pages" = some (.ref (He.fAd K ("_law_pages", none)))
  b_law_pages : Binds K fd_law_pages ["_law_length_here", "_law_lines_here"] []
  fd_law_standing : FuncData
  F_law_standing : FunD K "_law_standing" "_law_standing" (defArgs s_law_standing) (defBody s_law_standing) (defScope s_law_standing) [] [] (He.fAd K ("_law_standing", none)) fd_law_standing
  g_law_standing : mg "_law_standing" = some (.ref (He.fAd K ("_law_standing", none)))
  b_law_standing : Binds K fd_law_standing ["_law_length_here", "_law_blocks"] []
  fd_law_block : FuncData
  F_law_block : FunD K "_law_block" "_law_block" (defArgs s_law_block) (defBody s_law_block) (defScope s_law_block) [] [] (He.fAd K ("_law_block", none)) fd_law_block
  g_law_block : mg "_law_block" = some (.ref (He.fAd K ("_law_block", none)))
  b_law_block : Binds K fd_law_block ["_law_bag_here", "_law_most"] []
  fd_law_length : FuncData
  F_law_length : FunD K "_law_length" "_law_length" (defArgs s_law_length) (defBody s_law_length) (defScope s_law_length) [] [] (He.fAd K ("_law_length", none)) fd_law_length
  g_law_length : mg "_law_length" = some (.ref (He.fAd K ("_law_length", none)))
  b_law_length : Binds K fd_law_length ["_law_bag_here"] []
  fd_law_pending : FuncData
  F_law_pending : FunD K "_law_pending" "_law_pending" (defArgs s_law_pending) (defBody s_law_pending) (defScope s_law_pending) [] [] (He.fAd K ("_law_pending", none)) fd_law_pending
  g_law_pending : mg "_law_pending" = some (.ref (He.fAd K ("_law_pending", none)))
  b_law_pending : Binds K fd_law_pending ["_law_length_here", "_law_blocks"] []
  fd_law_rows_right : FuncData
  F_law_rows_right : FunD K "_law_rows_right" "_law_rows_right" (defArgs s_law_rows_right) (defBody s_law_rows_right) (defScope s_law_rows_right) [] [] (He.fAd K ("_law_rows_right", none)) fd_law_rows_right
  g_law_rows_right : mg "_law_rows_right" = some (.ref (He.fAd K ("_law_rows_right", none)))
  b_law_rows_right : Binds K fd_law_rows_right ["_law_told", "_law_due"] []
  fd_law_shown : FuncData
  F_law_shown : FunD K "_law_shown" "_law_shown" (defArgs s_law_shown) (defBody s_law_shown) (defScope s_law_shown) [] [] (He.fAd K ("_law_shown", none)) fd_law_shown
  g_law_shown : mg "_law_shown" = some (.ref (He.fAd K ("_law_shown", none)))
  b_law_shown : Binds K fd_law_shown ["_law_page", "_law_length_here", "_law_blocks"] []
  fd_law_set : FuncData
  F_law_set : FunD K "_law_set" "_law_set" (defArgs s_law_set) (defBody s_law_set) (defScope s_law_set) [] [] (He.fAd K ("_law_set", none)) fd_law_set
  g_law_set : mg "_law_set" = some (.ref (He.fAd K ("_law_set", none)))
  b_law_set : Binds K fd_law_set ["_law_page", "_law_block_here", "_law_apart"] []
  fd_law_right : FuncData
  F_law_right : FunD K "_law_right" "_law_right" (defArgs s_law_right) (defBody s_law_right) (defScope s_law_right) [] [] (He.fAd K ("_law_right", none)) fd_law_right
  g_law_right : mg "_law_right" = some (.ref (He.fAd K ("_law_right", none)))
  b_law_right : Binds K fd_law_right ["_law_bag_here", "_law_length_here", "_law_blocks"] []
  fd_law : FuncData
  F_law : FunD K "law" "law" (defArgs s_law) (defBody s_law) (defScope s_law) [] [] (He.fAd K ("law", none)) fd_law
  g_law : mg "law" = some (.ref (He.fAd K ("law", none)))
  b_law : Binds K fd_law ["_law_script"] []
  z_abs : mg "abs" = none
  z_all : mg "all" = none
  z_bool : mg "bool" = none
  z_enumerate : mg "enumerate" = none
  z_int : mg "int" = none
  z_isinstance : mg "isinstance" = none
  z_len : mg "len" = none
  z_list : mg "list" = none
  z_max : mg "max" = none
  z_min : mg "min" = none
  z_range : mg "range" = none
  z_tuple : mg "tuple" = none
  c_TOP : mg "TOP" = some (.ref (He.ga K "TOP"))
  v_TOP : ∀ G : Hp, R.rel (rP3 K (rEn e_Wd) rInt rInt) G (V.ref (He.ga K "TOP")) (Wd.top, (0 : Int), (0 : Int))
def sp_behind (K : PySem.W.Frag) : Sp := fun vs H Q _ => ∃ (G : Hp) (O : Own) (length1 : Int) (high1 : Int) (back1 : Int) (kept1 : Bool), vs = [(V.int length1), (V.int high1), (V.int back1), (V.bl kept1)] ∧ Sub G (O) H ∧ ∃ res, m_behind length1 high1 back1 kept1 = some res ∧
  ∀ (v : V) (G' H' : Hp), Ext G G' → Sub G' (O) H' → R.rel (rP3 K (rEn e_Wd) rInt rInt) G' v res → Q v H'
def sp_law_bag (K : PySem.W.Frag) : Sp := fun vs H Q _ => ∃ (G : Hp) (O : Own) (v1 : V) (script1 : (List Int)) (at1 : Int), vs = [v1, (V.int at1)] ∧ Sub G (O) H ∧ R.rel (rL K rInt) G v1 script1 ∧ ∃ res, m_law_bag script1 at1 = some res ∧
  ∀ (p : Addr) (w : List V) (G' H' : Hp), Ext G G' → Sub G' ((p, HO.lst w) :: O) H' → Al rInt G' w res → Q (V.ref p) H'
def sp_law_draw (K : PySem.W.Frag) : Sp := fun vs H Q _ => ∃ (G : Hp) (O : Own) (a1 : Addr) (w1 : List V) (bag_here1 : List Int) (many1 : Int), vs = [V.ref a1, (V.int many1)] ∧ Sub G ((a1, HO.lst w1) :: O) H ∧ Al rInt G w1 bag_here1 ∧ ∃ res, m_law_draw bag_here1 many1 = some res ∧
  ∀ (G' H' : Hp) (w'0 : List V), Ext G G' → Sub G' ((a1, HO.lst w'0) :: O) H' → Al rInt G' w'0 res.2 → Q (V.int res.1) H'
def sp_law_number (K : PySem.W.Frag) : Sp := fun vs H Q _ => ∃ (G : Hp) (O : Own) (thing1 : Int), vs = [(V.int thing1)] ∧ Sub G (O) H ∧ ∃ res, m_law_number thing1 = some res ∧
  ∀ (G' H' : Hp), Ext G G' → Sub G' (O) H' → Q (V.bl res) H'
def sp_law_lines (K : PySem.W.Frag) : Sp := fun vs H Q _ => ∃ (G : Hp) (O : Own) (v1 : V) (blocks1 : (List (Int × Int × Bool × Bool))), vs = [v1] ∧ Sub G (O) H ∧ R.rel (rM (rP4 K rInt rInt rBool rBool)) G v1 blocks1 ∧ ∃ res, m_law_lines blocks1 = some res ∧
  ∀ (v : V) (G' H' : Hp), Ext G G' → Sub G' (O) H' → R.rel (rP3 K (rM (rP3 K rInt rBool rBool)) rBool rBool) G' v res → Q v H'
def sp_law_cut (K : PySem.W.Frag) : Sp := fun vs H Q _ => ∃ (G : Hp) (O : Own) (length_here1 : Int) (v1 : V) (lines_here1 : (List (Int × Bool × Bool))) (start1 : Int), vs = [(V.int length_here1), v1, (V.int start1)] ∧ Sub G (O) H ∧ R.rel (rM (rP3 K rInt rBool rBool)) G v1 lines_here1 ∧ ∃ res, m_law_cut length_here1 lines_here1 start1 = some res ∧
  ∀ (G' H' : Hp), Ext G G' → Sub G' (O) H' → Q (V.int res) H'
def sp_law_pages (K : PySem.W.Frag) : Sp := fun vs H Q _ => ∃ (G : Hp) (O : Own) (length_here1 : Int) (v1 : V) (lines_here1 : (List (Int × Bool × Bool))), vs = [(V.int length_here1), v1] ∧ Sub G (O) H ∧ R.rel (rM (rP3 K rInt rBool rBool)) G v1 lines_here1 ∧ ∃ res, m_law_pages length_here1 lines_here1 = some res ∧
  ∀ (v : V) (G' H' : Hp), Ext G G' → Sub G' (O) H' → R.rel (rM (rP2 K rBool rInt)) G' v res → Q v H'
def sp_law_standing (K : PySem.W.Frag) : Sp := fun vs H Q _ => ∃ (G : Hp) (O : Own) (length_here1 : Int) (v1 : V) (blocks1 : (List (Int × Int × Bool × Bool))), vs = [(V.int length_here1), v1] ∧ Sub G (O) H ∧ R.rel (rM (rP4 K rInt rInt rBool rBool)) G v1 blocks1 ∧ ∃ res, m_law_standing length_here1 blocks1 = some res ∧
  ∀ (v : V) (G' H' : Hp), Ext G G' → Sub G' (O) H' → R.rel (rP3 K (rEn e_Wd) rInt rInt) G' v res → Q v H'
def sp_law_block (K : PySem.W.Frag) : Sp := fun vs H Q _ => ∃ (G : Hp) (O : Own) (a1 : Addr) (w1 : List V) (bag_here1 : List Int) (most1 : Int), vs = [V.ref a1, (V.int most1)] ∧ Sub G ((a1, HO.lst w1) :: O) H ∧ Al rInt G w1 bag_here1 ∧ ∃ res, m_law_block bag_here1 most1 = some res ∧
  ∀ (v : V) (G' H' : Hp) (w'0 : List V), Ext G G' → Sub G' ((a1, HO.lst w'0) :: O) H' → R.rel (rP4 K rInt rInt rBool rBool) G' v res.1 → Al rInt G' w'0 res.2 → Q v H'
def sp_law_length (K : PySem.W.Frag) : Sp := fun vs H Q _ => ∃ (G : Hp) (O : Own) (a1 : Addr) (w1 : List V) (bag_here1 : List Int), vs = [V.ref a1] ∧ Sub G ((a1, HO.lst w1) :: O) H ∧ Al rInt G w1 bag_here1 ∧ ∃ res, m_law_length bag_here1 = some res ∧
  ∀ (G' H' : Hp) (w'0 : List V), Ext G G' → Sub G' ((a1, HO.lst w'0) :: O) H' → Al rInt G' w'0 res.2 → Q (V.int res.1) H'
def sp_law_pending (K : PySem.W.Frag) : Sp := fun vs H Q _ => ∃ (G : Hp) (O : Own) (length_here1 : Int) (v1 : V) (blocks1 : (List (Int × Int × Bool × Bool))), vs = [(V.int length_here1), v1] ∧ Sub G (O) H ∧ R.rel (rM (rP4 K rInt rInt rBool rBool)) G v1 blocks1 ∧ ∃ res, m_law_pending length_here1 blocks1 = some res ∧
  ∀ (G' H' : Hp), Ext G G' → Sub G' (O) H' → Q (V.int res) H'
def sp_law_rows_right (K : PySem.W.Frag) : Sp := fun vs H Q _ => ∃ (G : Hp) (O : Own) (v1 : V) (told1 : (List (Bool × Int))) (v2 : V) (due1 : (List (Bool × Int))), vs = [v1, v2] ∧ Sub G (O) H ∧ R.rel (rM (rP2 K rBool rInt)) G v1 told1 ∧ R.rel (rM (rP2 K rBool rInt)) G v2 due1 ∧ ∃ res, m_law_rows_right told1 due1 = some res ∧
  ∀ (G' H' : Hp), Ext G G' → Sub G' (O) H' → Q (V.bl res) H'
def sp_law_shown (K : PySem.W.Frag) : Sp := fun vs H Q _ => ∃ (G : Hp) (O : Own) (B1 : Own) (p1 : Addr) (page1 : Pg) (length_here1 : Int) (v1 : V) (blocks1 : (List (Int × Int × Bool × Bool))), vs = [V.ref p1, (V.int length_here1), v1] ∧ Sub G ((B1 ++ O)) H ∧ PgR (cPg K) B1 (V.ref p1) page1 ∧ R.rel (rM (rP4 K rInt rInt rBool rBool)) G v1 blocks1 ∧ ∃ res, m_law_shown page1 length_here1 blocks1 = some res ∧
  ∀ (G' H' : Hp) (w'0 : Own), Ext G G' → Sub G' (w'0 ++ O) H' → PgR (cPg K) w'0 (V.ref p1) res.2 → Q (V.bl res.1) H'
def sp_law_set (K : PySem.W.Frag) : Sp := fun vs H Q _ => ∃ (G : Hp) (O : Own) (B1 : Own) (p1 : Addr) (page1 : Pg) (v1 : V) (block_here1 : (Int × Int × Bool × Bool)) (apart1 : Bool), vs = [V.ref p1, v1, (V.bl apart1)] ∧ Sub G ((B1 ++ O)) H ∧ PgR (cPg K) B1 (V.ref p1) page1 ∧ R.rel (rP4 K rInt rInt rBool rBool) G v1 block_here1 ∧ ∃ res, m_law_set page1 block_here1 apart1 = some res ∧
  ∀ (G' H' : Hp) (w'0 : Own), Ext G G' → Sub G' (w'0 ++ O) H' → PgR (cPg K) w'0 (V.ref p1) res.2 → Q (V.bl res.1) H'
def sp_law_right (K : PySem.W.Frag) : Sp := fun vs H Q _ => ∃ (G : Hp) (O : Own) (a1 : Addr) (w1 : List V) (bag_here1 : List Int) (length_here1 : Int) (v1 : V) (blocks1 : (List (Int × Int × Bool × Bool))), vs = [V.ref a1, (V.int length_here1), v1] ∧ Sub G ((a1, HO.lst w1) :: O) H ∧ Al rInt G w1 bag_here1 ∧ R.rel (rM (rP4 K rInt rInt rBool rBool)) G v1 blocks1 ∧ ∃ res, m_law_right bag_here1 length_here1 blocks1 = some res ∧
  ∀ (G' H' : Hp) (w'0 : List V), Ext G G' → Sub G' ((a1, HO.lst w'0) :: O) H' → Al rInt G' w'0 res.2 → Q (V.bl res.1) H'
def sp_law (K : PySem.W.Frag) : Sp := fun vs H Q _ => ∃ (G : Hp) (O : Own) (v1 : V) (script1 : (List Int)), vs = [v1] ∧ Sub G (O) H ∧ R.rel (rL K rInt) G v1 script1 ∧ ∃ res, m_law script1 = some res ∧
  ∀ (G' H' : Hp), Ext G G' → Sub G' (O) H' → Q (V.bl res) H'
end Mr

set_option Elab.async false
set_option linter.all false
set_option maxRecDepth 100000
set_option maxHeartbeats 4000000
set_option synthInstance.maxSize 4000
set_option synthInstance.maxHeartbeats 400000
namespace Mr
open PySem PySem.Spec PyProof.Rows L2
section
variable {P : Program} {w : World} {K : PySem.W.Frag} {mg : Str → Option Value} {base : Heap}
theorem sc_behind : FnScope ["length", "high", "back", "kept"] ["length", "high", "back", "kept"] (defScope s_behind) := ⟨rfl, rfl, rfl, by decide +kernel, rfl, by decide +kernel, by decide +kernel⟩
theorem ok_behind (T : Tx K mg) : FnOk P w K mg base CX0 1 (He.fAd K ("behind", none)) T.fd_behind ["length", "high", "back", "kept"] (sp_behind K) := by
  refine T.F_behind.ok sc_behind (fun vs H Q E h => ?_) (fun cdv A outer s H0 vs Q E hr h => ?_)
  · obtain ⟨G, O, length1, high1, back1, kept1, rfl, _⟩ := h
    rfl
  · obtain ⟨G0, O, length1, high1, back1, kept1, rfl, S0, res, hm, q⟩ := h
    refine ⟨_, PSs.nox (pss_cons (ps_if (pt_cut (PW.pt (pw_and (pt_cmpR op_eqI (pv 1) (pv 0) (nomark _)) (pw_and1 (pt_not (pt_cut (PW.pt (pw_and (pt_val (pv 3)) (pw_and1 (pt_cmpR op_gt (pv 2) pe_int (nomark _))))))))))) (pss_one (ps_ret (pe_glob (v := V.ref (He.ga K "TOP")) (by rfl) T.c_TOP rfl))) pss_nil)
      (pss_one (ps_ret (pe_cut (pe_ifExp (pt_val (pv 3)) (pe_tup (pa_cons pe_str (pa_cons (pv 1) (pa_cons (pv 2) pa_nil)))) (pe_tup (pa_cons pe_str (pa_cons (pv 1) (pa_cons pe_int pa_nil))))))))), ?_⟩
    have E0 := Ext.refl G0
    have hm0 : (if ((decide (high1 = length1)) && (!(kept1 && (decide (back1 > (0 : Int)))))) then (some (Wd.top, (0 : Int), (0 : Int)))
  else (Option.bind (if kept1 then (some (Wd.kept, high1, back1)) else (some (Wd.opn, high1, (0 : Int)))) fun x1 =>
  some x1)) = some res := hm
    refine gS_IfS ?_
    refine gCT (fun (b : Bool) (H : Hp) => ∃ (G : Hp), Ext G0 G ∧ Sub G (O) H ∧ b = ((decide (high1 = length1)) && (!(kept1 && (decide (back1 > (0 : Int))))))) ?_ ?_
    · skip
      refine gAnd ?_
      refine gTest ?_
      refine gOp ?_
      refine gV rfl ?_
      refine gV rfl ?_
      refine ⟨_, _, rfl, rfl, ?_⟩
      refine ⟨(decide (high1 = length1)), rfl, ?_⟩
      refine ite2 (fun c2 => ?_) (fun c2 => ?_)
      · skip
        refine gNot ?_
        refine gCT (fun (b : Bool) (H : Hp) => ∃ (G : Hp), Ext G0 G ∧ Sub G (O) H ∧ b = (kept1 && (decide (back1 > (0 : Int))))) ?_ ?_
        · skip
          refine gAnd ?_
          refine gB ?_
          refine gV rfl ?_
          refine ⟨kept1, rfl, ?_⟩
          refine ite2 (fun c3 => ?_) (fun c3 => ?_)
          · skip
            refine gTest ?_
            refine gOp ?_
            refine gV rfl ?_
            refine gC ?_
            refine ⟨_, _, rfl, rfl, ?_⟩
            refine ⟨(decide (back1 > (0 : Int))), rfl, ?_⟩
            exact ⟨G0, (Ext.refl _), S0, (by rw [c3, Bool.true_and])⟩
          · skip
            exact ⟨G0, (Ext.refl _), S0, (by rw [ne_false c3, Bool.false_and])⟩
        · intro b2 H2 hJ
          obtain ⟨G2, e2, S2, rfl⟩ := hJ
          have E2 := E0.trans e2
          exact ⟨G2, e2, S2, (by rw [c2, Bool.true_and])⟩
      · skip
        exact ⟨G0, (Ext.refl _), S0, (by rw [ne_false c2, Bool.false_and])⟩
    · intro b3 H3 hJ
      obtain ⟨G3, e3, S3, rfl⟩ := hJ
      have E3 := E0.trans e3
      refine ite2 (fun c4 => ?_) (fun c4 => ?_)
      · skip
        have hm1 := (if_pos c4).symm.trans hm0
        refine gRet ?_
        refine gC ?_
        cases hm1
        exact q (V.ref (He.ga K "TOP")) G3 H3 E3 S3 (T.v_TOP G3)
      · skip
        have hm2 := (if_neg c4).symm.trans hm0
        refine gNext ?_
        refine gE ?_
        refine gRet ?_
        obtain ⟨x1, hq1, hm3⟩ := bindS hm2
        refine gCE (fun (v : V) (H : Hp) => ∃ (G : Hp), Ext G3 G ∧ Sub G (O) H ∧ R.rel (rP3 K (rEn e_Wd) rInt rInt) G v x1) ?_ ?_
        · skip
          refine gIf ?_
          refine gB ?_
          refine gV rfl ?_
          refine ⟨kept1, rfl, ?_⟩
          refine ite2 (fun c5 => ?_) (fun c5 => ?_)
          · skip
            have hm4 := (if_pos c5).symm.trans hq1
            refine gTup' ?_
            refine gCons' ?_
            refine gC ?_
            refine gCons' ?_
            refine gV rfl ?_
            refine gCons' ?_
            refine gV rfl ?_
            refine gNil' ?_
            refine q_tup3 (K := K) S3 (show R.rel (rEn e_Wd) G3 (V.str (e_Wd Wd.kept)) Wd.kept from rfl) (show R.rel rInt G3 (V.int high1) high1 from rfl) (show R.rel rInt G3 (V.int back1) back1 from rfl) (fun v3 G6 H6 e6 S6 h3 => ?_)
            have E6 := E3.trans e6
            cases hm4
            exact ⟨G6, e6, S6, h3⟩
          · skip
            have hm5 := (if_neg c5).symm.trans hq1
            refine gTup' ?_
            refine gCons' ?_
            refine gC ?_
            refine gCons' ?_
            refine gV rfl ?_
            refine gCons' ?_
            refine gC ?_
            refine gNil' ?_
            refine q_tup3 (K := K) S3 (show R.rel (rEn e_Wd) G3 (V.str (e_Wd Wd.opn)) Wd.opn from rfl) (show R.rel rInt G3 (V.int high1) high1 from rfl) (show R.rel rInt G3 (V.int (0 : Int)) (0 : Int) from rfl) (fun v4 G7 H7 e7 S7 h4 => ?_)
            have E7 := E3.trans e7
            cases hm5
            exact ⟨G7, e7, S7, h4⟩
        · intro v5 H8 hJ
          obtain ⟨G8, e8, S8, h5⟩ := hJ
          have E8 := E3.trans e8
          cases hm3
          exact q v5 G8 H8 E8 S8 h5
end
end Mr

set_option Elab.async false
set_option linter.all false
set_option maxRecDepth 100000
set_option maxHeartbeats 4000000
set_option synthInstance.maxSize 4000
set_option synthInstance.maxHeartbeats 400000
namespace Mr
open PySem PySem.Spec PyProof.Rows L2
section
variable {P : Program} {w : World} {K : PySem.W.Frag} {mg : Str → Option Value} {base : Heap}
theorem sc_law_bag : FnScope ["_law_script", "_law_at", "_law_great", "_law_mixed", "_law_place", "_law_cell"] ["_law_script", "_law_at"] (defScope s_law_bag) := ⟨rfl, rfl, rfl, by decide +kernel, rfl, by decide +kernel, by decide +kernel⟩
theorem ok_law_bag (T : Tx K mg) : FnOk P w K mg base CX0 1 (He.fAd K ("_law_bag", none)) T.fd_law_bag ["_law_script", "_law_at"] (sp_law_bag K) := by
  refine T.F_law_bag.ok sc_law_bag (fun vs H Q E h => ?_) (fun cdv A outer s H0 vs Q E hr h => ?_)
  · obtain ⟨G, O, v1, script1, at1, rfl, _⟩ := h
    rfl
  · obtain ⟨G0, O, v1, script1, at1, rfl, S0, h1, res, hm, q⟩ := h
    refine ⟨_, PSs.nox (pss_cons (ps_set (i := 2) sc_law_bag.nd rfl (.inl rfl) (pe_cut (pe_ifExp (pt_cmpR op_lt (pv 1) (pe_callB (r := rLenM K) call_lenM (by rfl) T.z_len boot_len (pa_cons (pv 0) pa_nil)) (nomark _)) (pe_callB call_abs (by rfl) T.z_abs boot_abs (pa_cons (pe_callTy call_int1 (by rfl) T.z_int boot_int (pa_cons (pe_ix ix_list (pv 0) (pv 1) (fun _ _ => rfl)) pa_nil)) pa_nil)) pe_int)))
      (pss_cons (ps_set (i := 3) sc_law_bag.nd rfl (.inl rfl) (pe_op op_add pe_int (pe_op op_mul pe_int (pv 1))))
      (pss_cons (ps_cut (ps_for PassesOwn.never rfl (pi_enumQ (by rfl) T.z_enumerate (pa_cons (pe_slice sl_list (pv 0) po_none (po_some pe_int)) pa_nil)) (pg_tup rfl (pgs_cons (pg_name (i := 4) sc_law_bag.nd rfl (.inl rfl)) (pgs_cons (pg_name (i := 5) sc_law_bag.nd rfl (.inl rfl)) pgs_nil)))
      (pss_one (ps_set (i := 3) sc_law_bag.nd rfl (.inl rfl) (pe_op op_mod (pe_callTy call_int1 (by rfl) T.z_int boot_int (pa_cons (pe_op op_add (pe_op op_add (pe_op op_mul (pv 3) pe_int) (pe_op op_mod (pe_callTy call_int1 (by rfl) T.z_int boot_int (pa_cons (pv 5) pa_nil)) pe_int)) (pe_op op_mul pe_int (pv 4))) pa_nil)) pe_int)))))
      (pss_one (ps_ret (pe_lst (pa_cons (pe_cut (pe_ifExp (pt_cmpR op_ge (pv 2) (pe_op op_pow pe_int pe_int) (nomark _)) (pv 2) pe_int)) (pa_cons (pv 3) (pa_cons pe_int pa_nil))))))))), ?_⟩
    have E0 := Ext.refl G0
    have hm0 : (Option.bind (if (decide (at1 < (script1.length : Int))) then (Option.bind (getM script1 at1) fun x1 =>
  some (if x1 < 0 then -x1 else x1)) else (some (0 : Int))) fun x2 =>
  Option.bind (folM (m_law_bag_b1) (enumM (cutM script1 none (some (63 : Int)))) ((1009 : Int) + ((77 : Int) * at1))) fun mixed1 =>
  some ([(if (decide (x2 ≥ ((10 : Int) ^ (18 : Int).toNat))) then x2 else (0 : Int)), mixed1, (0 : Int)] : List Int)) = some res := hm
    refine gS_AsgN ?_
    obtain ⟨x2, hq2, hm2⟩ := bindS hm0
    refine gCE (fun (v : V) (H : Hp) => ∃ (G : Hp), Ext G0 G ∧ Sub G (O) H ∧ v = (V.int x2)) ?_ ?_
    · skip
      refine gIf ?_
      refine gTest ?_
      refine gOp ?_
      refine gV rfl ?_
      refine gCB ?_
      refine gCons' ?_
      refine gV rfl ?_
      refine gNil' ?_
      refine q_lenL (y := V.non) S0 h1 ?_
      refine ⟨_, _, rfl, rfl, ?_⟩
      refine ⟨(decide (at1 < (script1.length : Int))), rfl, ?_⟩
      refine ite2 (fun c1 => ?_) (fun c1 => ?_)
      · skip
        have hm3 := (if_pos c1).symm.trans hq2
        refine gCB ?_
        refine gCons' ?_
        refine gCB ?_
        refine gCons' ?_
        refine gOp ?_
        refine gV rfl ?_
        refine gV rfl ?_
        obtain ⟨x3, hq3, hm4⟩ := bindS hm3
        refine q_ixL S0 h1 hq3 (fun v3 h3 => ?_)
        obtain rfl := (show v3 = (V.int x3) from h3)
        refine gNil' ?_
        refine .inl ⟨_, rfl, ?_⟩
        refine gNil' ?_
        refine ⟨_, rfl, ?_⟩
        cases hm4
        exact ⟨G0, (Ext.refl _), S0, rfl⟩
      · skip
        have hm5 := (if_neg c1).symm.trans hq2
        refine gC ?_
        cases hm5
        exact ⟨G0, (Ext.refl _), S0, rfl⟩
    · intro v4 H1 hJ
      obtain ⟨G1, e1, S1, rfl⟩ := hJ
      have h5 := R.up e1 h1
      have E1 := E0.trans e1
      refine gS_AsgN ?_
      refine gOp ?_
      refine gC ?_
      refine gOp ?_
      refine gC ?_
      refine gV rfl ?_
      refine ⟨_, _, rfl, rfl, .inl ⟨by decide, by decide⟩, ?_⟩
      refine ⟨_, _, rfl, rfl, ?_⟩
      obtain ⟨mixed1, hl1, hm6⟩ := bindS hm2
      refine gS_CS (fun (σ : L2.St) (H : Hp) => ∃ (G : Hp) (y1 : Option V) (y2 : Option V), Ext G1 G ∧ Sub G (O) H ∧ σ = [some v1, some (V.int at1), some (V.int x2), some (V.int mixed1), y1, y2]) ?_ ?_
      · skip
        refine gFor ?_
        refine gIE ?_
        refine gCons' ?_
        refine gSl ?_
        refine gV rfl ?_
        refine gNoPart ?_
        refine gPart ?_
        refine gC ?_
        refine ⟨_, rfl, ?_⟩
        refine q_slM S1 h5 (fun v5 G2 H2 e2 S2 h6 => ?_)
        have h7 := R.up e2 h5
        have E2 := E1.trans e2
        refine gNil' ?_
        refine lp_EQ (r := rInt) S2 (rM_Q (K := K) h6) (fol_for Empty hl1) (fun (s : Int) (σ : L2.St) (H : Hp) => ∃ (G : Hp) (y1 : Option V) (y2 : Option V), Ext G2 G ∧ Sub G (O) H ∧ σ = [some v1, some (V.int at1), some (V.int x2), some (V.int s), y1, y2]) ⟨G2, _, _, (Ext.refl _), S2, rfl⟩ ?_ ?_ ?_
        · intro s σ H hI
          obtain ⟨G, k1, k2, ie, iS, _⟩ := hI
          exact ie.trans iS.ext
        · intro i1 x4 mixed2 b1 hb1 hr1 v6 σ1 H3 H4 hI1 hS1 h8
          obtain ⟨s2, hb2, hb3⟩ := goF_some hb1
          subst hb3
          obtain ⟨G3, y3, y4, e3, S3, rfl⟩ := hI1
          have h9 := R.up e3 h7
          have h10 := R.up e3 h6
          have E3 := E2.trans e3
          have S4 := hS1 _ _ S3
          generalize ((i1 : Nat) : Int) = k3 at hb2 ⊢
          obtain rfl := (show v6 = (V.int x4) from h8)
          have hm7 : (some ((((mixed2 * (16807 : Int)) + (x4 % (2147483629 : Int))) + ((13 : Int) * k3)) % (2147483647 : Int))) = some s2 := hb2
          refine gAsgN ?_
          refine gOp ?_
          refine gCB ?_
          refine gCons' ?_
          refine gOp ?_
          refine gOp ?_
          refine gOp ?_
          refine gV rfl ?_
          refine gC ?_
          refine ⟨_, _, rfl, rfl, .inr ⟨by decide, by decide⟩, ?_⟩
          refine gOp ?_
          refine gCB ?_
          refine gCons' ?_
          refine gV rfl ?_
          refine gNil' ?_
          refine .inl ⟨_, rfl, ?_⟩
          refine gC ?_
          refine ⟨_, _, rfl, rfl, (by show (0 : Int) < 2147483629; decide), ?_⟩
          refine ⟨_, _, rfl, rfl, ?_⟩
          refine gOp ?_
          refine gC ?_
          refine gV rfl ?_
          refine ⟨_, _, rfl, rfl, .inl ⟨by decide, by decide⟩, ?_⟩
          refine ⟨_, _, rfl, rfl, ?_⟩
          refine gNil' ?_
          refine .inl ⟨_, rfl, ?_⟩
          refine gC ?_
          refine ⟨_, _, rfl, rfl, (by show (0 : Int) < 2147483647; decide), ?_⟩
          cases hm7
          exact ⟨_, ⟨G3, _, _, e3, S4, rfl⟩, hr1⟩
        · intro s σ H h1 h2
          cases h1
          obtain ⟨G, k1, k2, ie, irest⟩ := h2
          exact ⟨G, k1, k2, (e2.trans ie), irest⟩
      · intro σ2 H5 hJ1
        obtain ⟨G4, y5, y6, e4, S5, rfl⟩ := hJ1
        have h11 := R.up e4 h5
        have E4 := E1.trans e4
        refine gRet ?_
        refine gLst ?_
        refine gCons' ?_
        refine gCE (fun (v : V) (H : Hp) => ∃ (G : Hp), Ext G4 G ∧ Sub G (O) H ∧ v = (V.int (if (decide (x2 ≥ ((10 : Int) ^ (18 : Int).toNat))) then x2 else (0 : Int)))) ?_ ?_
        · skip
          refine gIf ?_
          refine gTest ?_
          refine gOp ?_
          refine gV rfl ?_
          refine gOp ?_
          refine gC ?_
          refine gC ?_
          refine ⟨_, _, rfl, rfl, ⟨by decide, by decide, by decide⟩, ?_⟩
          refine ⟨_, _, rfl, rfl, ?_⟩
          refine ⟨(decide (x2 ≥ ((10 : Int) ^ (18 : Int).toNat))), rfl, ?_⟩
          refine ite2 (fun c2 => ?_) (fun c2 => ?_)
          · skip
            refine gV rfl ?_
            exact ⟨G4, (Ext.refl _), S5, congrArg V.int (if_pos c2).symm⟩
          · skip
            refine gC ?_
            exact ⟨G4, (Ext.refl _), S5, congrArg V.int (if_neg c2).symm⟩
        · intro v7 H6 hJ
          obtain ⟨G5, e5, S6, rfl⟩ := hJ
          have h13 := R.up e5 h11
          have E5 := E4.trans e5
          refine gCons' ?_
          refine gV rfl ?_
          refine gCons' ?_
          refine gC ?_
          refine gNil' ?_
          have h14 : Al rInt G5 [(V.int (if (decide (x2 ≥ ((10 : Int) ^ (18 : Int).toNat))) then x2 else (0 : Int))), (V.int mixed1), (V.int (0 : Int))] [(if (decide (x2 ≥ ((10 : Int) ^ (18 : Int).toNat))) then x2 else (0 : Int)), mixed1, (0 : Int)] := ⟨rfl, rfl, rfl, True.intro⟩
          refine q_lst S6 h14 (by show 3 ≤ 100000; decide) (fun a1 H7 w1 S7 h15 => ?_)
          cases hm6
          exact q a1 w1 G5 H7 E5 S7 h15
end
end Mr

set_option Elab.async false
set_option linter.all false
set_option maxRecDepth 100000
set_option maxHeartbeats 4000000
set_option synthInstance.maxSize 4000
set_option synthInstance.maxHeartbeats 400000
namespace Mr
open PySem PySem.Spec PyProof.Rows L2
section
variable {P : Program} {w : World} {K : PySem.W.Frag} {mg : Str → Option Value} {base : Heap}
theorem sc_law_draw : FnScope ["_law_bag_here", "_law_many", "_law_digit"] ["_law_bag_here", "_law_many"] (defScope s_law_draw) := ⟨rfl, rfl, rfl, by decide +kernel, rfl, by decide +kernel, by decide +kernel⟩
theorem ok_law_draw (T : Tx K mg) : FnOk P w K mg base CX0 1 (He.fAd K ("_law_draw", none)) T.fd_law_draw ["_law_bag_here", "_law_many"] (sp_law_draw K) := by
  refine T.F_law_draw.ok sc_law_draw (fun vs H Q E h => ?_) (fun cdv A outer s H0 vs Q E hr h => ?_)
  · obtain ⟨G, O, a1, w1, bag_here1, many1, rfl, _⟩ := h
    rfl
  · obtain ⟨G0, O, a1, w1, bag_here1, many1, rfl, S0, h1, res, hm, q⟩ := h
    refine ⟨_, PSs.nox (pss_cons (ps_if (pt_cmpR op_gt (pe_ix ix_list (pv 0) pe_int (fun _ _ => rfl)) pe_int (nomark _)) (pss_cons (ps_set (i := 2) sc_law_draw.nd rfl (.inl rfl) (pe_op op_mod (pe_callTy call_int1 (by rfl) T.z_int boot_int (pa_cons (pe_ix ix_list (pv 0) pe_int (fun _ _ => rfl)) pa_nil)) (pv 1)))
      (pss_cons (ps_asg (pe_op op_fdivW (pe_ix ix_list (pv 0) pe_int (fun _ _ => rfl)) (pv 1)) (pg_sub (pv 0) pe_int set_list))
      (pss_one (ps_ret (pv 2))))) pss_nil)
      (pss_cons (ps_asg (pe_op op_add (pe_ix ix_list (pv 0) pe_int (fun _ _ => rfl)) pe_int) (pg_sub (pv 0) pe_int set_list))
      (pss_cons (ps_asg (pe_op op_mod (pe_callTy call_int1 (by rfl) T.z_int boot_int (pa_cons (pe_op op_add (pe_op op_add (pe_op op_mul (pe_ix ix_list (pv 0) pe_int (fun _ _ => rfl)) pe_int) (pe_op op_mul pe_int (pe_ix ix_list (pv 0) pe_int (fun _ _ => rfl)))) pe_int) pa_nil)) pe_int) (pg_sub (pv 0) pe_int set_list))
      (pss_one (ps_ret (pe_op op_mod (pe_op op_fdivW (pe_callTy call_int1 (by rfl) T.z_int boot_int (pa_cons (pe_op op_mod (pe_callTy call_int1 (by rfl) T.z_int boot_int (pa_cons (pe_op op_add (pe_op op_mul (pe_ix ix_list (pv 0) pe_int (fun _ _ => rfl)) pe_int) (pe_op op_mul pe_int (pe_ix ix_list (pv 0) pe_int (fun _ _ => rfl)))) pa_nil)) pe_int) pa_nil)) pe_int) (pv 1))))))), ?_⟩
    have E0 := Ext.refl G0
    have hm0 : (Option.bind (getM bag_here1 (0 : Int)) fun x1 =>
  if (decide (x1 > (0 : Int))) then (Option.bind (getM bag_here1 (0 : Int)) fun x2 =>
  Option.bind (modM x2 many1) fun x3 =>
  Option.bind (getM bag_here1 (0 : Int)) fun x4 =>
  Option.bind (fdivM x4 many1) fun x5 =>
  Option.bind (setM bag_here1 (0 : Int) x5) fun bag_here2 =>
  some (x3, bag_here2))
  else (Option.bind (getM bag_here1 (2 : Int)) fun x6 =>
  Option.bind (setM bag_here1 (2 : Int) (x6 + (1 : Int))) fun bag_here3 =>
  Option.bind (getM bag_here3 (1 : Int)) fun x7 =>
  Option.bind (getM bag_here3 (2 : Int)) fun x8 =>
  Option.bind (setM bag_here3 (1 : Int) ((((x7 * (48271 : Int)) + ((11 : Int) * x8)) + (7 : Int)) % (2147483647 : Int))) fun bag_here4 =>
  Option.bind (getM bag_here4 (1 : Int)) fun x9 =>
  Option.bind (getM bag_here4 (2 : Int)) fun x10 =>
  Option.bind (modM ((((x9 * (69621 : Int)) + ((4099 : Int) * x10)) % (2147483629 : Int)) / (128 : Int)) many1) fun x11 =>
  some (x11, bag_here4))) = some res := hm
    refine gS_IfS ?_
    refine gTest ?_
    refine gOp ?_
    refine gOp ?_
    refine gV rfl ?_
    refine gC ?_
    obtain ⟨x1, hq1, hm1⟩ := bindS hm0
    refine q_ixO S0 h1 hq1 (fun v1 h2 => ?_)
    obtain rfl := (show v1 = (V.int x1) from h2)
    refine gC ?_
    refine ⟨_, _, rfl, rfl, ?_⟩
    refine ⟨(decide (x1 > (0 : Int))), rfl, ?_⟩
    refine ite2 (fun c1 => ?_) (fun c1 => ?_)
    · skip
      have hm2 := (if_pos c1).symm.trans hm1
      refine gS_AsgN ?_
      refine gOp ?_
      refine gCB ?_
      refine gCons' ?_
      refine gOp ?_
      refine gV rfl ?_
      refine gC ?_
      obtain ⟨x2, hq2, hm3⟩ := bindS hm2
      refine q_ixO S0 h1 hq2 (fun v2 h3 => ?_)
      obtain rfl := (show v2 = (V.int x2) from h3)
      refine gNil' ?_
      refine .inl ⟨_, rfl, ?_⟩
      refine gV rfl ?_
      obtain ⟨x3, hq3, hm4⟩ := bindS hm3
      refine q_mod hq3 ?_
      refine gS_Asg ?_
      refine gOp ?_
      refine gOp ?_
      refine gV rfl ?_
      refine gC ?_
      obtain ⟨x4, hq4, hm5⟩ := bindS hm4
      refine q_ixO S0 h1 hq4 (fun v3 h4 => ?_)
      obtain rfl := (show v3 = (V.int x4) from h4)
      refine gV rfl ?_
      obtain ⟨x5, hq5, hm6⟩ := bindS hm5
      refine q_fdiv hq5 ?_
      refine gSub' ?_
      refine gV rfl ?_
      refine gC ?_
      obtain ⟨bag_here2, hq6, hm7⟩ := bindS hm6
      refine q_setL S0 h1 (show R.rel rInt G0 (V.int x5) x5 from rfl) hq6 (fun H1 w2 S1 h5 => ?_)
      refine gRet ?_
      refine gV rfl ?_
      cases hm7
      exact q G0 H1 w2 E0 S1 h5
    · skip
      have hm8 := (if_neg c1).symm.trans hm1
      refine gNext ?_
      refine gE ?_
      refine gS_Asg ?_
      refine gOp ?_
      refine gOp ?_
      refine gV rfl ?_
      refine gC ?_
      obtain ⟨x6, hq7, hm9⟩ := bindS hm8
      refine q_ixO S0 h1 hq7 (fun v4 h6 => ?_)
      obtain rfl := (show v4 = (V.int x6) from h6)
      refine gC ?_
      refine ⟨_, _, rfl, rfl, ?_⟩
      refine gSub' ?_
      refine gV rfl ?_
      refine gC ?_
      obtain ⟨bag_here3, hq8, hm10⟩ := bindS hm9
      refine q_setL S0 h1 (show R.rel rInt G0 (V.int (x6 + (1 : Int))) (x6 + (1 : Int)) from rfl) hq8 (fun H2 w3 S2 h7 => ?_)
      refine gS_Asg ?_
      refine gOp ?_
      refine gCB ?_
      refine gCons' ?_
      refine gOp ?_
      refine gOp ?_
      refine gOp ?_
      refine gOp ?_
      refine gV rfl ?_
      refine gC ?_
      obtain ⟨x7, hq9, hm11⟩ := bindS hm10
      refine q_ixO S2 h7 hq9 (fun v5 h8 => ?_)
      obtain rfl := (show v5 = (V.int x7) from h8)
      refine gC ?_
      refine ⟨_, _, rfl, rfl, .inr ⟨by decide, by decide⟩, ?_⟩
      refine gOp ?_
      refine gC ?_
      refine gOp ?_
      refine gV rfl ?_
      refine gC ?_
      obtain ⟨x8, hq10, hm12⟩ := bindS hm11
      refine q_ixO S2 h7 hq10 (fun v6 h9 => ?_)
      obtain rfl := (show v6 = (V.int x8) from h9)
      refine ⟨_, _, rfl, rfl, .inl ⟨by decide, by decide⟩, ?_⟩
      refine ⟨_, _, rfl, rfl, ?_⟩
      refine gC ?_
      refine ⟨_, _, rfl, rfl, ?_⟩
      refine gNil' ?_
      refine .inl ⟨_, rfl, ?_⟩
      refine gC ?_
      refine ⟨_, _, rfl, rfl, (by show (0 : Int) < 2147483647; decide), ?_⟩
      refine gSub' ?_
      refine gV rfl ?_
      refine gC ?_
      obtain ⟨bag_here4, hq11, hm13⟩ := bindS hm12
      refine q_setL S2 h7 (show R.rel rInt G0 (V.int ((((x7 * (48271 : Int)) + ((11 : Int) * x8)) + (7 : Int)) % (2147483647 : Int))) ((((x7 * (48271 : Int)) + ((11 : Int) * x8)) + (7 : Int)) % (2147483647 : Int)) from rfl) hq11 (fun H3 w4 S3 h10 => ?_)
      refine gRet ?_
      refine gOp ?_
      refine gOp ?_
      refine gCB ?_
      refine gCons' ?_
      refine gOp ?_
      refine gCB ?_
      refine gCons' ?_
      refine gOp ?_
      refine gOp ?_
      refine gOp ?_
      refine gV rfl ?_
      refine gC ?_
      obtain ⟨x9, hq12, hm14⟩ := bindS hm13
      refine q_ixO S3 h10 hq12 (fun v7 h11 => ?_)
      obtain rfl := (show v7 = (V.int x9) from h11)
      refine gC ?_
      refine ⟨_, _, rfl, rfl, .inr ⟨by decide, by decide⟩, ?_⟩
      refine gOp ?_
      refine gC ?_
      refine gOp ?_
      refine gV rfl ?_
      refine gC ?_
      obtain ⟨x10, hq13, hm15⟩ := bindS hm14
      refine q_ixO S3 h10 hq13 (fun v8 h12 => ?_)
      obtain rfl := (show v8 = (V.int x10) from h12)
      refine ⟨_, _, rfl, rfl, .inl ⟨by decide, by decide⟩, ?_⟩
      refine ⟨_, _, rfl, rfl, ?_⟩
      refine gNil' ?_
      refine .inl ⟨_, rfl, ?_⟩
      refine gC ?_
      refine ⟨_, _, rfl, rfl, (by show (0 : Int) < 2147483629; decide), ?_⟩
      refine gNil' ?_
      refine .inl ⟨_, rfl, ?_⟩
      refine gC ?_
      refine ⟨_, _, rfl, rfl, ⟨by decide, by decide⟩, ?_⟩
      refine gV rfl ?_
      obtain ⟨x11, hq14, hm16⟩ := bindS hm15
      refine q_mod hq14 ?_
      cases hm16
      exact q G0 H3 w4 E0 S3 h10
end
end Mr

set_option Elab.async false
set_option linter.all false
set_option maxRecDepth 100000
set_option maxHeartbeats 4000000
set_option synthInstance.maxSize 4000
set_option synthInstance.maxHeartbeats 400000
namespace Mr
open PySem PySem.Spec PyProof.Rows L2
section
variable {P : Program} {w : World} {K : PySem.W.Frag} {mg : Str → Option Value} {base : Heap}
theorem sc_law_number : FnScope ["_law_thing"] ["_law_thing"] (defScope s_law_number) := ⟨rfl, rfl, rfl, by decide +kernel, rfl, by decide +kernel, by decide +kernel⟩
theorem ok_law_number (T : Tx K mg) : FnOk P w K mg base CX0 1 (He.fAd K ("_law_number", none)) T.fd_law_number ["_law_thing"] (sp_law_number K) := by
  refine T.F_law_number.ok sc_law_number (fun vs H Q E h => ?_) (fun cdv A outer s H0 vs Q E hr h => ?_)
  · obtain ⟨G, O, thing1, rfl, _⟩ := h
    rfl
  · obtain ⟨G0, O, thing1, rfl, S0, res, hm, q⟩ := h
    refine ⟨_, PSs.nox (pss_one (ps_ret (pe_cut (pe_and (pe_callB (r := rIsi K) call_isi (by rfl) T.z_isinstance boot_isinstance (pa_cons (pv 0) (pa_cons (pe_bltn (v := .ty "int") (by rfl) T.z_int boot_int rfl) pa_nil))) (pe_one (pe_not (pe_callB (r := rIsi K) call_isi (by rfl) T.z_isinstance boot_isinstance (pa_cons (pv 0) (pa_cons (pe_bltn (v := .ty "bool") (by rfl) T.z_bool boot_bool rfl) pa_nil))))))))), ?_⟩
    have E0 := Ext.refl G0
    have hm0 : (some (true && (!false))) = some res := hm
    refine gRet ?_
    refine gCE (fun (b : V) (H : Hp) => ∃ (G : Hp), Ext G0 G ∧ Sub G (O) H ∧ b = V.bl (true && (!false))) ?_ ?_
    · skip
      refine gAndV ?_
      refine gCB ?_
      refine gCons' ?_
      refine gV rfl ?_
      refine gCons' ?_
      refine gC ?_
      refine gNil' ?_
      refine q_isi (ty_I _) (by decide +kernel : kitB "int" "int" = some true) ?_
      refine ⟨true, rfl, ?_⟩
      refine ite2 (fun c1 => ?_) (fun c1 => ?_)
      · skip
        refine gNotV ?_
        refine gCB ?_
        refine gCons' ?_
        refine gV rfl ?_
        refine gCons' ?_
        refine gC ?_
        refine gNil' ?_
        refine q_isi (ty_I _) (by decide +kernel : kitB "int" "bool" = some false) ?_
        refine ⟨_, rfl, ?_⟩
        exact ⟨G0, (Ext.refl _), S0, congrArg V.bl (by rw [c1, Bool.true_and])⟩
      · skip
        exact ⟨G0, (Ext.refl _), S0, congrArg V.bl (by rw [ne_false c1, Bool.false_and])⟩
    · intro b1 H1 hJ
      obtain ⟨G1, e1, S1, rfl⟩ := hJ
      have E1 := E0.trans e1
      cases hm0
      exact q G1 H1 E1 S1
end
end Mr

set_option Elab.async false
set_option linter.all false
set_option maxRecDepth 100000
set_option maxHeartbeats 4000000
set_option synthInstance.maxSize 4000
set_option synthInstance.maxHeartbeats 400000
namespace Mr
open PySem PySem.Spec PyProof.Rows L2
section
variable {P : Program} {w : World} {K : PySem.W.Frag} {mg : Str → Option Value} {base : Heap}
theorem sc_law_lines : FnScope ["_law_blocks", "_law_lines_here", "_law_barred", "_law_due", "_law_count", "_law_space", "_law_kept", "_law_page", "_law_k"] ["_law_blocks"] (defScope s_law_lines) := ⟨rfl, rfl, rfl, by decide +kernel, rfl, by decide +kernel, by decide +kernel⟩
theorem ok_law_lines (T : Tx K mg) : FnOk P w K mg base CX0 1 (He.fAd K ("_law_lines", none)) T.fd_law_lines ["_law_blocks"] (sp_law_lines K) := by
  refine T.F_law_lines.ok sc_law_lines (fun vs H Q E h => ?_) (fun cdv A outer s H0 vs Q E hr h => ?_)
  · obtain ⟨G, O, v1, blocks1, rfl, _⟩ := h
    rfl
  · obtain ⟨G0, O, v1, blocks1, rfl, S0, h1, res, hm, q⟩ := h
    refine ⟨_, PSs.nox (pss_cons (ps_par3 (i := 1) (j := 2) (l := 3) (by rfl) sc_law_lines.nd rfl rfl rfl (by decide) (by decide) (by decide) rfl rfl rfl (pa_cons (pe_lst pa_nil) (pa_cons pe_bl (pa_cons pe_bl pa_nil))) (by rfl))
      (pss_cons (ps_cut (ps_for PassesOwn.never rfl (pi_list (pv 0)) (pg_tup rfl (pgs_cons (pg_name (i := 4) sc_law_lines.nd rfl (.inl rfl)) (pgs_cons (pg_name (i := 5) sc_law_lines.nd rfl (.inl rfl)) (pgs_cons (pg_name (i := 6) sc_law_lines.nd rfl (.inl rfl)) (pgs_cons (pg_name (i := 7) sc_law_lines.nd rfl (.inl rfl)) pgs_nil)))))
      (pss_cons (ps_set (i := 3) sc_law_lines.nd rfl (.inl rfl) (pe_cut (pe_or (pv 3) (pe_one (pv 7)))))
      (pss_cons (ps_cut (ps_for PassesOwn.never rfl (pi_range1 (by rfl) T.z_range (pa_cons (pv 4) pa_nil)) (pg_name (i := 8) sc_law_lines.nd rfl (.inl rfl))
      (pss_one (ps_expr (pe_bm PySem.F.plainAttrs_list PySem.F.slot_list_append PySem.F.type_list_append mt_append (pv 1) (pa_cons (pe_cut (pe_ifExp (pt_cmpR op_eqI (pv 8) pe_int (nomark _)) (pe_tup (pa_cons (pv 5) (pa_cons (pv 2) (pa_cons (pv 3) pa_nil)))) (pe_tup (pa_cons pe_int (pa_cons (pe_cmpR op_in_seq (pv 8) (pe_tup (pa_cons pe_int (pa_cons (pe_op op_sub (pv 4) pe_int) pa_nil))) (by with_unfolding_all rfl)) (pa_cons pe_bl pa_nil)))))) pa_nil))))))
      (pss_cons (ps_set (i := 3) sc_law_lines.nd rfl (.inl rfl) (pe_cut (pe_and (pv 3) (pe_one (pe_cmpR op_eqI (pv 4) pe_int (nomark _))))))
      (pss_one (ps_set (i := 2) sc_law_lines.nd rfl (.inl rfl) (pe_cut (pe_ifExp (pt_cmpR op_gt (pv 4) pe_int (nomark _)) (pv 6) (pv 2))))))))))
      (pss_one (ps_ret (pe_tup (pa_cons (pv 1) (pa_cons (pv 2) (pa_cons (pv 3) pa_nil)))))))), ?_⟩
    have E0 := Ext.refl G0
    have hm0 : (Option.bind (folM (m_law_lines_b1) blocks1 (([] : List (Int × Bool × Bool)), false, true)) fun (lines_here1, barred1, due1) =>
  some (lines_here1, barred1, due1)) = some res := hm
    refine gS_Par3 ?_
    refine gCons' ?_
    refine gLst ?_
    refine gNil' ?_
    have h2 : Al (rP3 K rInt rBool rBool) G0 [] [] := True.intro
    refine q_lst S0 h2 (by show 0 ≤ 100000; decide) (fun a1 H1 w1 S1 h3 => ?_)
    refine gCons' ?_
    refine gC ?_
    refine gCons' ?_
    refine gC ?_
    refine gNil' ?_
    refine ⟨_, _, _, rfl, ?_⟩
    obtain ⟨⟨lines_here1, barred1, due1⟩, hl1, hm1⟩ := bindS hm0
    dsimp only at hm1
    refine gS_CS (fun (σ : L2.St) (H : Hp) => ∃ (G : Hp) (w2 : List V) (y1 : Option V) (y2 : Option V) (y3 : Option V) (y4 : Option V) (y5 : Option V), Ext G0 G ∧ Sub G ((a1, HO.lst w2) :: O) H ∧ σ = [some v1, some (V.ref a1), some (V.bl barred1), some (V.bl due1), y1, y2, y3, y4, y5] ∧ Al (rP3 K rInt rBool rBool) G w2 lines_here1) ?_ ?_
    · skip
      refine gFor ?_
      refine gIL ?_
      refine gV rfl ?_
      refine lp_L (r := (rP4 K rInt rInt rBool rBool)) S1 (rM_L (K := K) h1) (fol_for Empty hl1) (fun (s : (List (Int × Bool × Bool)) × Bool × Bool) (σ : L2.St) (H : Hp) => ∃ (G : Hp) (w2 : List V) (y1 : Option V) (y2 : Option V) (y3 : Option V) (y4 : Option V) (y5 : Option V), Ext G0 G ∧ Sub G ((a1, HO.lst w2) :: O) H ∧ σ = [some v1, some (V.ref a1), some (V.bl s.2.1), some (V.bl s.2.2), y1, y2, y3, y4, y5] ∧ Al (rP3 K rInt rBool rBool) G w2 s.1) ⟨G0, w1, _, _, _, _, _, (Ext.refl _), S1, rfl, h3⟩ ?_ ?_ ?_
      · intro s σ H hI
        obtain ⟨G, k1, k2, k3, k4, k5, k6, ie, iS, _⟩ := hI
        exact ie.trans iS.ext
      · intro i1 x1 s1 b1 hb1 hr1 v2 σ1 H2 hI1 h4
        obtain ⟨s2, hb2, hb3⟩ := goF_some hb1
        subst hb3
        obtain ⟨lines_here2, barred2, due2⟩ := s1
        obtain ⟨G1, w3, y6, y7, y8, y9, y10, e1, S2, rfl, h5⟩ := hI1
        have h6 := R.up e1 h1
        have h7 := R.up e1 (rM_L (K := K) h1)
        have E1 := E0.trans e1
        have h8 := R.up e1 h4
        refine q_gt4 S2 h8 (fun v3 v4 v5 v6 h9 h10 h11 h12 => ?_)
        obtain rfl := (show v3 = (V.int x1.1) from h9)
        obtain rfl := (show v4 = (V.int x1.2.1) from h10)
        obtain rfl := (show v5 = (V.bl x1.2.2.1) from h11)
        obtain rfl := (show v6 = (V.bl x1.2.2.2) from h12)
        have hm2 : (Option.bind (rngM x1.1) fun xs1 =>   Option.bind (folM (m_law_lines_b2 barred2 due2 x1) xs1 lines_here2) fun lines_here3 =>   some (lines_here3, (if (decide (x1.1 > (0 : Int))) then x1.2.2.1 else barred2), ((due2 || x1.2.2.2) && (decide (x1.1 = (0 : Int)))))) = some s2 := hb2
        refine gS_AsgN ?_
        refine gCE (fun (b : V) (H : Hp) => ∃ (G : Hp), Ext G1 G ∧ Sub G ((a1, HO.lst w3) :: O) H ∧ b = V.bl (due2 || x1.2.2.2)) ?_ ?_
        · skip
          refine gOrV ?_
          refine gV rfl ?_
          refine ⟨due2, rfl, ?_⟩
          refine ite2 (fun c1 => ?_) (fun c1 => ?_)
          · skip
            exact ⟨G1, (Ext.refl _), S2, congrArg V.bl (by rw [c1, Bool.true_or])⟩
          · skip
            refine gV rfl ?_
            exact ⟨G1, (Ext.refl _), S2, congrArg V.bl (by rw [ne_false c1, Bool.false_or])⟩
        · intro b2 H3 hJ
          obtain ⟨G2, e2, S3, rfl⟩ := hJ
          have h13 := R.up e2 h6
          have h14 := Al.up e2 h5
          have h15 := R.up e2 h7
          have E2 := E1.trans e2
          obtain ⟨xs1, hq1, hm3⟩ := bindS hm2
          obtain ⟨lines_here3, hl2, hm4⟩ := bindS hm3
          refine gS_CS (fun (σ : L2.St) (H : Hp) => ∃ (G : Hp) (w4 : List V) (y11 : Option V), Ext G2 G ∧ Sub G ((a1, HO.lst w4) :: O) H ∧ σ = [some v1, some (V.ref a1), some (V.bl barred2), some (V.bl (due2 || x1.2.2.2)), some (V.int x1.1), some (V.int x1.2.1), some (V.bl x1.2.2.1), some (V.bl x1.2.2.2), y11] ∧ Al (rP3 K rInt rBool rBool) G w4 lines_here3) ?_ ?_
          · skip
            refine gFor ?_
            refine gIR ?_
            refine gCons' ?_
            refine gV rfl ?_
            refine gNil' ?_
            refine lp_R hq1 (fol_for Empty hl2) (fun (s : (List (Int × Bool × Bool))) (σ : L2.St) (H : Hp) => ∃ (G : Hp) (w4 : List V) (y11 : Option V), Ext G2 G ∧ Sub G ((a1, HO.lst w4) :: O) H ∧ σ = [some v1, some (V.ref a1), some (V.bl barred2), some (V.bl (due2 || x1.2.2.2)), some (V.int x1.1), some (V.int x1.2.1), some (V.bl x1.2.2.1), some (V.bl x1.2.2.2), y11] ∧ Al (rP3 K rInt rBool rBool) G w4 s) ⟨G2, w3, _, (Ext.refl _), S3, rfl, h14⟩ ?_ ?_
            · intro i2 x2 lines_here4 b3 hb4 hr2 σ2 H4 hI2
              obtain ⟨s4, hb5, hb6⟩ := goF_some hb4
              subst hb6
              obtain ⟨G3, w5, y12, e3, S4, rfl, h17⟩ := hI2
              have h18 := R.up e3 h13
              have h19 := R.up e3 h15
              have E3 := E2.trans e3
              have hm5 : (Option.bind (if (decide (x2 = (0 : Int))) then (some (x1.2.1, barred2, (due2 || x1.2.2.2))) else (some ((0 : Int), (decide (x2 ∈ ([(1 : Int), (x1.1 - (1 : Int))] : List Int))), false))) fun x3 =>   Option.bind (appM lines_here4 x3) fun lines_here5 =>   some lines_here5) = some s4 := hb5
              refine gDrop ?_
              refine gBM ?_
              refine gV rfl ?_
              refine ⟨.inl ⟨rfl, _, .inl (.inl S4.head)⟩, ?_⟩
              refine gCons' ?_
              obtain ⟨x3, hq2, hm6⟩ := bindS hm5
              refine gCE (fun (v : V) (H : Hp) => ∃ (G : Hp), Ext G3 G ∧ Sub G ((a1, HO.lst w5) :: O) H ∧ R.rel (rP3 K rInt rBool rBool) G v x3) ?_ ?_
              · skip
                refine gIf ?_
                refine gTest ?_
                refine gOp ?_
                refine gV rfl ?_
                refine gC ?_
                refine ⟨_, _, rfl, rfl, ?_⟩
                refine ⟨(decide (x2 = (0 : Int))), rfl, ?_⟩
                refine ite2 (fun c2 => ?_) (fun c2 => ?_)
                · skip
                  have hm7 := (if_pos c2).symm.trans hq2
                  refine gTup' ?_
                  refine gCons' ?_
                  refine gV rfl ?_
                  refine gCons' ?_
                  refine gV rfl ?_
                  refine gCons' ?_
                  refine gV rfl ?_
                  refine gNil' ?_
                  refine q_tup3 (K := K) S4 (show R.rel rInt G3 (V.int x1.2.1) x1.2.1 from rfl) (show R.rel rBool G3 (V.bl barred2) barred2 from rfl) (show R.rel rBool G3 (V.bl (due2 || x1.2.2.2)) (due2 || x1.2.2.2) from rfl) (fun v10 G6 H7 e6 S8 h28 => ?_)
                  have h29 := R.up e6 h18
                  have h30 := Al.up e6 h17
                  have h31 := R.up e6 h19
                  have E6 := E3.trans e6
                  cases hm7
                  exact ⟨G6, e6, S8, h28⟩
                · skip
                  have hm8 := (if_neg c2).symm.trans hq2
                  refine gTup' ?_
                  refine gCons' ?_
                  refine gC ?_
                  refine gCons' ?_
                  refine gOp ?_
                  refine gV rfl ?_
                  refine gTup' ?_
                  refine gCons' ?_
                  refine gC ?_
                  refine gCons' ?_
                  refine gOp ?_
                  refine gV rfl ?_
                  refine gC ?_
                  refine ⟨_, _, rfl, rfl, ?_⟩
                  refine gNil' ?_
                  refine ⟨sz (by show 2 ≤ 100000; decide), fun p2 np2 => ?_⟩
                  have S9 : Sub G3 ((a1, HO.lst w5) :: O) (upd H4 p2 (HO.tup (List.map V.int ([(1 : Int), (x1.1 - (1 : Int))] : List Int)))) := S4.junk np2
                  refine q_inT ([(1 : Int), (x1.1 - (1 : Int))] : List Int) ?_
                  refine gCons' ?_
                  refine gC ?_
                  refine gNil' ?_
                  refine q_tup3 (K := K) S9 (show R.rel rInt G3 (V.int (0 : Int)) (0 : Int) from rfl) (show R.rel rBool G3 (V.bl (decide (x2 ∈ ([(1 : Int), (x1.1 - (1 : Int))] : List Int)))) (decide (x2 ∈ ([(1 : Int), (x1.1 - (1 : Int))] : List Int))) from rfl) (show R.rel rBool G3 (V.bl false) false from rfl) (fun v11 G7 H8 e7 S10 h32 => ?_)
                  have h33 := R.up e7 h18
                  have h34 := Al.up e7 h17
                  have h35 := R.up e7 h19
                  have E7 := E3.trans e7
                  cases hm8
                  exact ⟨G7, e7, S10, h32⟩
              · intro v12 H9 hJ
                obtain ⟨G8, e8, S11, h36⟩ := hJ
                have h37 := R.up e8 h18
                have h38 := Al.up e8 h17
                have h39 := R.up e8 h19
                have E8 := E3.trans e8
                refine gNil' ?_
                obtain ⟨lines_here5, hq3, hm9⟩ := bindS hm6
                refine q_app S11 h38 (show R.rel (rP3 K rInt rBool rBool) G8 v12 x3 from h36) hq3 (fun H10 w6 S12 h40 => ?_)
                cases hm9
                exact ⟨_, ⟨G8, w6, _, (e3.trans e8), S12, rfl, h40⟩, hr2⟩
            · intro s σ H h1 h2
              cases h1
              obtain ⟨G, k7, k8, ie, irest⟩ := h2
              exact ⟨G, k7, k8, (ie), irest⟩
          · intro σ3 H11 hJ1
            obtain ⟨G9, w7, y13, e9, S13, rfl, h41⟩ := hJ1
            have h42 := R.up e9 h13
            have h43 := R.up e9 h15
            have E9 := E2.trans e9
            refine gS_AsgN ?_
            refine gCE (fun (b : V) (H : Hp) => ∃ (G : Hp), Ext G9 G ∧ Sub G ((a1, HO.lst w7) :: O) H ∧ b = V.bl ((due2 || x1.2.2.2) && (decide (x1.1 = (0 : Int))))) ?_ ?_
            · skip
              refine gAndV ?_
              refine gV rfl ?_
              refine ⟨(due2 || x1.2.2.2), rfl, ?_⟩
              refine ite2 (fun c3 => ?_) (fun c3 => ?_)
              · skip
                refine gOp ?_
                refine gV rfl ?_
                refine gC ?_
                refine ⟨_, _, rfl, rfl, ?_⟩
                exact ⟨G9, (Ext.refl _), S13, congrArg V.bl (by rw [c3, Bool.true_and])⟩
              · skip
                exact ⟨G9, (Ext.refl _), S13, congrArg V.bl (by rw [ne_false c3, Bool.false_and])⟩
            · intro b4 H12 hJ
              obtain ⟨G10, e10, S14, rfl⟩ := hJ
              have h44 := R.up e10 h42
              have h45 := Al.up e10 h41
              have h46 := R.up e10 h43
              have E10 := E9.trans e10
              refine gAsgN ?_
              refine gCE (fun (v : V) (H : Hp) => ∃ (G : Hp), Ext G10 G ∧ Sub G ((a1, HO.lst w7) :: O) H ∧ v = (V.bl (if (decide (x1.1 > (0 : Int))) then x1.2.2.1 else barred2))) ?_ ?_
              · skip
                refine gIf ?_
                refine gTest ?_
                refine gOp ?_
                refine gV rfl ?_
                refine gC ?_
                refine ⟨_, _, rfl, rfl, ?_⟩
                refine ⟨(decide (x1.1 > (0 : Int))), rfl, ?_⟩
                refine ite2 (fun c4 => ?_) (fun c4 => ?_)
                · skip
                  refine gV rfl ?_
                  exact ⟨G10, (Ext.refl _), S14, congrArg V.bl (if_pos c4).symm⟩
                · skip
                  refine gV rfl ?_
                  exact ⟨G10, (Ext.refl _), S14, congrArg V.bl (if_neg c4).symm⟩
              · intro v13 H13 hJ
                obtain ⟨G11, e11, S15, rfl⟩ := hJ
                have h48 := R.up e11 h44
                have h49 := Al.up e11 h45
                have h50 := R.up e11 h46
                have E11 := E10.trans e11
                cases hm4
                exact ⟨(lines_here3, (if (decide (x1.1 > (0 : Int))) then x1.2.2.1 else barred2), ((due2 || x1.2.2.2) && (decide (x1.1 = (0 : Int))))), ⟨G11, w7, _, _, _, _, _, ((((e1.trans e2).trans e9).trans e10).trans e11), S15, rfl, h49⟩, hr1⟩
      · intro s σ H h1 h2
        cases h1
        obtain ⟨G, k1, k2, k3, k4, k5, k6, ie, irest⟩ := h2
        exact ⟨G, k1, k2, k3, k4, k5, k6, (ie), irest⟩
    · intro σ4 H14 hJ2
      obtain ⟨G12, w8, y14, y15, y16, y17, y18, e12, S16, rfl, h51⟩ := hJ2
      have h52 := R.up e12 h1
      have E12 := E0.trans e12
      refine gRet ?_
      refine gTup' ?_
      refine gCons' ?_
      refine gV rfl ?_
      refine gCons' ?_
      refine gV rfl ?_
      refine gCons' ?_
      refine gV rfl ?_
      refine gNil' ?_
      obtain ⟨G13, e13, S17, h53⟩ := frz_M S16 h51
      have h54 := R.up e13 h52
      have E13 := E12.trans e13
      refine q_tup3 (K := K) S17 (show R.rel (rM (rP3 K rInt rBool rBool)) G13 (V.ref a1) lines_here1 from h53) (show R.rel rBool G13 (V.bl barred1) barred1 from rfl) (show R.rel rBool G13 (V.bl due1) due1 from rfl) (fun v14 G14 H15 e14 S18 h55 => ?_)
      have h56 := R.up e14 h54
      have h57 := R.up e14 h53
      have E14 := E13.trans e14
      cases hm1
      exact q v14 G14 H15 E14 S18 h55
end
end Mr

set_option Elab.async false
set_option linter.all false
set_option maxRecDepth 100000
set_option maxHeartbeats 4000000
set_option synthInstance.maxSize 4000
set_option synthInstance.maxHeartbeats 400000
namespace Mr
open PySem PySem.Spec PyProof.Rows L2
section
variable {P : Program} {w : World} {K : PySem.W.Frag} {mg : Str → Option Value} {base : Heap}
theorem sc_law_cut : FnScope ["_law_length_here", "_law_lines_here", "_law_start", "_law_row", "_law_at", "_law_free", "_law_k"] ["_law_length_here", "_law_lines_here", "_law_start"] (defScope s_law_cut) := ⟨rfl, rfl, rfl, by decide +kernel, rfl, by decide +kernel, by decide +kernel⟩
theorem ok_law_cut (T : Tx K mg) : FnOk P w K mg base CX0 1 (He.fAd K ("_law_cut", none)) T.fd_law_cut ["_law_length_here", "_law_lines_here", "_law_start"] (sp_law_cut K) := by
  refine T.F_law_cut.ok sc_law_cut (fun vs H Q E h => ?_) (fun cdv A outer s H0 vs Q E hr h => ?_)
  · obtain ⟨G, O, length_here1, v1, lines_here1, start1, rfl, _⟩ := h
    rfl
  · obtain ⟨G0, O, length_here1, v1, lines_here1, start1, rfl, S0, h1, res, hm, q⟩ := h
    refine ⟨_, PSs.nox (pss_cons (ps_set (i := 3) sc_law_cut.nd rfl (.inl rfl) pe_int)
      (pss_cons (ps_cut (ps_for PassesOwn.never rfl (pi_range2 (by rfl) T.z_range (pa_cons (pe_op op_add (pv 2) pe_int) (pa_cons (pe_callB (r := rLenM K) call_lenM (by rfl) T.z_len boot_len (pa_cons (pv 1) pa_nil)) pa_nil))) (pg_name (i := 4) sc_law_cut.nd rfl (.inl rfl))
      (pss_cons (ps_set (i := 3) sc_law_cut.nd rfl (.inl rfl) (pe_op op_add (pe_op op_add (pv 3) (pe_ix ix_tup (pe_ix ix_list (pv 1) (pv 4) (fun _ _ => rfl)) pe_int (fun _ _ => rfl))) pe_int))
      (pss_cons (ps_if (pt_val (pe_ix ix_tup (pe_ix ix_list (pv 1) (pv 4) (fun _ _ => rfl)) pe_int (fun _ _ => rfl))) (pss_one (ps_ret (pv 4))) pss_nil)
      (pss_one (ps_if (pt_cmpR op_ge (pv 3) (pv 0) (nomark _)) (pss_cons (ps_setLc (i := 5) (own := [("_law_k", 6)]) (g := gName 6) (by rfl) sc_law_cut.nd rfl rfl (sw_true rfl rfl rfl (by decide +kernel)) (pi_range2 (by rfl) T.z_range (pa_cons (pe_op op_add (pv 2) pe_int) (pa_cons (pe_op op_add (pv 4) pe_int) pa_nil))) (blkOk_by (own := [("_law_k", 6)]) (N := ["_law_length_here", "_law_lines_here", "_law_start", "_law_row", "_law_at", "_law_free", "_law_k"]) (sc := defScope s_law_cut) (by decide +kernel)) (fun _ _ _ _ _ => (pg_name (i := 6) sc_law_cut.nd rfl (.inl rfl))) (fun _ _ _ _ _ => (pts_one (pt_not (pt_val (pe_ix (ix_tupK (K := K) rfl) (pe_ix (ix_listK (K := K) rfl) (pv 1) (pv 6) (fun _ _ => rfl)) pe_int (fun _ _ => rfl)))))) (fun _ _ _ _ _ => (pv 6)))
      (pss_one (ps_ret (pe_cut (pe_ifExp (pt_cmpR (op_neD hr.units) (pv 5) (pe_lst pa_nil) (nomark _)) (pe_ix ix_list (pv 5) (pe_un un_neg pe_int) (fun _ _ => rfl)) (pv 4)))))) pss_nil))))))
      (pss_one (ps_ret (pe_callB (r := rLenM K) call_lenM (by rfl) T.z_len boot_len (pa_cons (pv 1) pa_nil)))))), ?_⟩
    have E0 := Ext.refl G0
    have hm0 : (Option.bind (rng2M (start1 + (1 : Int)) (lines_here1.length : Int)) fun xs1 =>
  Option.bind (forL (m_law_cut_b1 length_here1 lines_here1 start1) xs1 (0 : Int)) fun res => match res with
  | Fl.rt r => some r
  | Fl.nx row1 => some (lines_here1.length : Int)) = some res := hm
    refine gS_AsgN ?_
    refine gC ?_
    obtain ⟨xs1, hq1, hm1⟩ := bindS hm0
    obtain ⟨res1, hl1, hm2⟩ := bindS hm1
    refine gS_CS (fun (σ : L2.St) (H : Hp) => ∃ s : Int, res1 = Fl.nx s ∧ ∃ (G : Hp) (y1 : Option V) (y2 : Option V) (y3 : Option V), Ext G0 G ∧ Sub G (O) H ∧ σ = [some (V.int length_here1), some v1, some (V.int start1), some (V.int s), y1, y2, y3]) ?_ ?_
    · skip
      refine gFor ?_
      refine gIR2 ?_
      refine gCons' ?_
      refine gOp ?_
      refine gV rfl ?_
      refine gC ?_
      refine ⟨_, _, rfl, rfl, ?_⟩
      refine gCons' ?_
      refine gCB ?_
      refine gCons' ?_
      refine gV rfl ?_
      refine gNil' ?_
      refine q_lenL (y := V.non) S0 (rM_L (K := K) h1) ?_
      refine gNil' ?_
      refine lp_R2 hq1 hl1 (fun (s : Int) (σ : L2.St) (H : Hp) => ∃ (G : Hp) (y1 : Option V) (y2 : Option V) (y3 : Option V), Ext G0 G ∧ Sub G (O) H ∧ σ = [some (V.int length_here1), some v1, some (V.int start1), some (V.int s), y1, y2, y3]) ⟨G0, _, _, _, (Ext.refl _), S0, rfl⟩ ?_ ?_
      · intro i1 x1 row2 b1 hb1 hr1 σ1 H1 hI1
        obtain ⟨G1, y4, y5, y6, e1, S1, rfl⟩ := hI1
        have h3 := R.up e1 h1
        have E1 := E0.trans e1
        have hm3 : (Option.bind (getM lines_here1 x1) fun x2 =>   Option.bind (getM lines_here1 x1) fun x4 =>   if x4.2.2 then (some (Bf.rt x1))   else (if (decide (((row2 + x2.1) + (1 : Int)) ≥ length_here1)) then (Option.bind (rng2M (start1 + (1 : Int)) (x1 + (1 : Int))) fun xs2 =>   Option.bind (folM (m_law_cut_c2 lines_here1) xs2 ([] : (List Int))) fun acc1 =>   Option.bind (if (!decide (acc1 = ([] : (List Int)))) then (Option.bind (getM acc1 (-(1 : Int))) fun x10 =>   some x10) else (some x1)) fun x11 =>   some (Bf.rt x11))   else (some (Bf.go ((row2 + x2.1) + (1 : Int)))))) = some b1 := hb1
        refine gS_AsgN ?_
        refine gOp ?_
        refine gOp ?_
        refine gV rfl ?_
        refine gOp ?_
        refine gOp ?_
        refine gV rfl ?_
        refine gV rfl ?_
        obtain ⟨x2, hq2, hm4⟩ := bindS hm3
        refine q_ixL S1 (rM_L (K := K) h3) hq2 (fun v3 h4 => ?_)
        refine gC ?_
        refine q_p3_0 S1 h4 (fun v4 h5 => ?_)
        obtain rfl := (show v4 = (V.int x2.1) from h5)
        refine ⟨_, _, rfl, rfl, ?_⟩
        refine gC ?_
        refine ⟨_, _, rfl, rfl, ?_⟩
        refine gS_IfS ?_
        refine gB ?_
        refine gOp ?_
        refine gOp ?_
        refine gV rfl ?_
        refine gV rfl ?_
        obtain ⟨x4, hq4, hm6⟩ := bindS hm4
        refine q_ixL S1 (rM_L (K := K) h3) hq4 (fun v7 h8 => ?_)
        refine gC ?_
        refine q_p3_2 S1 h8 (fun v8 h9 => ?_)
        obtain rfl := (show v8 = (V.bl x4.2.2) from h9)
        refine ⟨x4.2.2, rfl, ?_⟩
        refine ite2 (fun c1 => ?_) (fun c1 => ?_)
        · skip
          have hm7 := (if_pos c1).symm.trans hm6
          refine gRet ?_
          refine gV rfl ?_
          cases hm7
          have hr2 := Option.some.inj (show some (Fl.rt _) = some res1 from hr1)
          subst hr2
          dsimp only at hm2
          cases hm2
          exact q G1 H1 E1 S1
        · skip
          have hm8 := (if_neg c1).symm.trans hm6
          refine gNext ?_
          refine gE ?_
          refine gIfS ?_
          refine gTest ?_
          refine gOp ?_
          refine gV rfl ?_
          refine gV rfl ?_
          refine ⟨_, _, rfl, rfl, ?_⟩
          refine ⟨(decide (((row2 + x2.1) + (1 : Int)) ≥ length_here1)), rfl, ?_⟩
          refine ite2 (fun c2 => ?_) (fun c2 => ?_)
          · skip
            have hm9 := (if_pos c2).symm.trans hm8
            refine gS_AsgN ?_
            refine gLc ?_
            refine gIR2 ?_
            refine gCons' ?_
            refine gOp ?_
            refine gV rfl ?_
            refine gC ?_
            refine ⟨_, _, rfl, rfl, ?_⟩
            refine gCons' ?_
            refine gOp ?_
            refine gV rfl ?_
            refine gC ?_
            refine ⟨_, _, rfl, rfl, ?_⟩
            refine gNil' ?_
            obtain ⟨xs2, hq5, hm10⟩ := bindS hm9
            obtain ⟨acc1, hq8, hm13⟩ := bindS hm10
            refine lc_R2 hq5 hq8 (fun (D : Addr) (s : (List Int)) (H : Hp) => ∃ (G : Hp) (w1 : List V), Ext G1 G ∧ Sub G ((D, HO.lst w1) :: O) H ∧ Al rInt G w1 s) ?_ ?_ ?_
            · intro D1 nD1
              exact ⟨G1, [], Ext.refl _, S1.newOwn nD1, True.intro⟩
            · intro D2 i2 x7 acc2 s3 hb2 hr3 H2 hI2
              obtain ⟨G2, w2, e2, S2, h15⟩ := hI2
              have h16 := R.up e2 h3
              have E2 := E1.trans e2
              refine ⟨rfl, ?_⟩
              have hm14 : (Option.bind (getM lines_here1 x7) fun x9 =>   if (!x9.2.1) then (Option.bind (appM acc2 x7) fun acc3 =>   some acc3)   else (some acc2)) = some s3 := hb2
              refine gNot ?_
              refine gB ?_
              refine gOp ?_
              refine gOp ?_
              refine gV rfl ?_
              refine gV rfl ?_
              obtain ⟨x9, hq10, hm16⟩ := bindS hm14
              refine q_ixL S2 (rM_L (K := K) h16) hq10 (fun v16 h19 => ?_)
              refine gC ?_
              refine q_p3_1 S2 h19 (fun v17 h20 => ?_)
              obtain rfl := (show v17 = (V.bl x9.2.1) from h20)
              refine ⟨x9.2.1, rfl, ?_⟩
              refine ite2 (fun c3 => ?_) (fun c3 => ?_)
              · skip
                have hm17 := (if_pos c3).symm.trans hm16
                refine gV rfl ?_
                obtain ⟨acc3, hq11, hm18⟩ := bindS hm17
                refine q_lcEl S2 h15 (show R.rel rInt G2 (V.int x7) x7 from rfl) hq11 (fun H3 w3 S3 h21 => ?_)
                cases hm18
                exact ⟨_, ⟨G2, w3, e2, S3, h21⟩, hr3⟩
              · skip
                have hm19 := (if_neg c3).symm.trans hm16
                cases hm19
                exact ⟨_, ⟨G2, w2, e2, S2, h15⟩, hr3⟩
            · intro D3 H4 hI3
              obtain ⟨G3, w4, e3, S4, h22⟩ := hI3
              have h23 := R.up e3 h3
              have E3 := E1.trans e3
              refine gRet ?_
              obtain ⟨x11, hq13, hm21⟩ := bindS hm13
              refine gCE (fun (v : V) (H : Hp) => ∃ (G : Hp), Ext G3 G ∧ Sub G ((D3, HO.lst w4) :: O) H ∧ v = (V.int x11)) ?_ ?_
              · skip
                refine gIf ?_
                refine gTest ?_
                refine gOp ?_
                refine gV rfl ?_
                refine gLst ?_
                refine gNil' ?_
                refine ⟨sz0, fun p2 np2 => ?_⟩
                have S6 : Sub G3 ((D3, HO.lst w4) :: O) (upd H4 p2 (.lst [])) := S4.junk np2
                have h26 := rM_own S6 h22
                refine q_neD (dM (dInt (K := K))) (by show 2 ≤ 64; decide) h26 (⟨p2, [], rfl, upd_same, True.intro⟩ : R.rel (rM rInt) (upd H4 p2 (.lst [])) (V.ref p2) []) ((okM okI) _) ((okM okI) _) ?_
                refine ⟨(!decide (acc1 = ([] : (List Int)))), rfl, ?_⟩
                refine ite2 (fun c4 => ?_) (fun c4 => ?_)
                · skip
                  have hm22 := (if_pos c4).symm.trans hq13
                  refine gOp ?_
                  refine gV rfl ?_
                  refine gUn ?_
                  refine gC ?_
                  refine ⟨_, rfl, ?_⟩
                  obtain ⟨x12, hq14, hm23⟩ := bindS hm22
                  refine q_ixO S6 h22 hq14 (fun v19 h27 => ?_)
                  obtain rfl := (show v19 = (V.int x12) from h27)
                  cases hm23
                  exact ⟨G3, (Ext.refl _), S6, rfl⟩
                · skip
                  have hm24 := (if_neg c4).symm.trans hq13
                  refine gV rfl ?_
                  cases hm24
                  exact ⟨G3, (Ext.refl _), S6, rfl⟩
              · intro v20 H5 hJ
                obtain ⟨G4, e4, S7, rfl⟩ := hJ
                have h29 := R.up e4 h23
                have h30 := Al.up e4 h22
                have E4 := E3.trans e4
                have S8 := S7.tail
                cases hm21
                have hr4 := Option.some.inj (show some (Fl.rt _) = some res1 from hr1)
                subst hr4
                dsimp only at hm2
                cases hm2
                exact q G4 H5 E4 S8
          · skip
            have hm25 := (if_neg c2).symm.trans hm8
            refine gNext ?_
            cases hm25
            exact ⟨_, ⟨G1, _, _, _, e1, S1, rfl⟩, hr1⟩
      · intro s σ H h1 h2
        obtain ⟨G, k1, k2, k3, ie, irest⟩ := h2
        exact ⟨s, h1, G, k1, k2, k3, (ie), irest⟩
    · intro σ2 H6 hJ1
      obtain ⟨row1, hres1, hJ2⟩ := hJ1
      subst hres1
      dsimp only at hm2
      obtain ⟨G5, y7, y8, y9, e5, S9, rfl⟩ := hJ2
      have h31 := R.up e5 h1
      have E5 := E0.trans e5
      refine gRet ?_
      refine gCB ?_
      refine gCons' ?_
      refine gV rfl ?_
      refine gNil' ?_
      refine q_lenL (y := V.non) S9 (rM_L (K := K) h31) ?_
      cases hm2
      exact q G5 H6 E5 S9
end
end Mr

set_option Elab.async false
set_option linter.all false
set_option maxRecDepth 100000
set_option maxHeartbeats 4000000
set_option synthInstance.maxSize 4000
set_option synthInstance.maxHeartbeats 400000
namespace Mr
open PySem PySem.Spec PyProof.Rows L2
section
variable {P : Program} {w : World} {K : PySem.W.Frag} {mg : Str → Option Value} {base : Heap}
theorem sc_law_pages : FnScope ["_law_length_here", "_law_lines_here", "_law_rows", "_law_start", "_law_at"] ["_law_length_here", "_law_lines_here"] (defScope s_law_pages) := ⟨rfl, rfl, rfl, by decide +kernel, rfl, by decide +kernel, by decide +kernel⟩
theorem ok_law_pages (T : Tx K mg) : FnOk P w K mg base CX0 2 (He.fAd K ("_law_pages", none)) T.fd_law_pages ["_law_length_here", "_law_lines_here"] (sp_law_pages K) := by
  have G_law_cut := ok_law_cut (P := P) (w := w) (base := base) T
  refine T.F_law_pages.ok sc_law_pages (fun vs H Q E h => ?_) (fun cdv A outer s H0 vs Q E hr h => ?_)
  · obtain ⟨G, O, length_here1, v1, lines_here1, rfl, _⟩ := h
    rfl
  · obtain ⟨G0, O, length_here1, v1, lines_here1, rfl, S0, h1, res, hm, q⟩ := h
    refine ⟨_, PSs.nox (pss_cons (ps_par (i := 2) (j := 3) (by rfl) sc_law_pages.nd rfl rfl (by decide) rfl rfl (pa_cons (pe_lst pa_nil) (pa_cons pe_int pa_nil)) (by rfl))
      (pss_cons (ps_cut (ps_for PassesOwn.never rfl (pi_range1 (by rfl) T.z_range (pa_cons (pe_callB (r := rLenM K) call_lenM (by rfl) T.z_len boot_len (pa_cons (pv 1) pa_nil)) pa_nil)) (pg_name (i := 4) sc_law_pages.nd rfl (.inl rfl))
      (pss_one (ps_cut (ps_if (pt_cmpR op_eqI (pv 4) (pv 3) (nomark _)) (pss_cons (ps_expr (pe_bm PySem.F.plainAttrs_list PySem.F.slot_list_append PySem.F.type_list_append mt_append (pv 2) (pa_cons (pe_tup (pa_cons pe_bl (pa_cons pe_int pa_nil))) pa_nil)))
      (pss_one (ps_set (i := 3) sc_law_pages.nd rfl (.inl rfl) (pe_call G_law_cut (hr.mono (by decide)) (by rfl) T.g_law_cut T.F_law_cut.kp T.b_law_cut .nil pass0 (pa_cons (pv 0) (pa_cons (pv 1) (pa_cons (pv 4) pa_nil))))))) (pss_one (ps_expr (pe_bm PySem.F.plainAttrs_list PySem.F.slot_list_append PySem.F.type_list_append mt_append (pv 2) (pa_cons (pe_tup (pa_cons pe_bl (pa_cons (pe_op op_add (pe_op op_add (pe_ix ix_tup (pe_ix ix_list (pv 2) (pe_un un_neg pe_int) (fun _ _ => rfl)) pe_int (fun _ _ => rfl)) (pe_ix ix_tup (pe_ix ix_list (pv 1) (pv 4) (fun _ _ => rfl)) pe_int (fun _ _ => rfl))) pe_int) pa_nil))) pa_nil)))))))))
      (pss_one (ps_ret (pv 2))))), ?_⟩
    have E0 := Ext.refl G0
    have hm0 : (Option.bind (rngM (lines_here1.length : Int)) fun xs1 =>
  Option.bind (folM (m_law_pages_b1 length_here1 lines_here1) xs1 (([] : List (Bool × Int)), (0 : Int))) fun (rows1, start1) =>
  some rows1) = some res := hm
    refine gS_Par ?_
    refine gCons' ?_
    refine gLst ?_
    refine gNil' ?_
    have h2 : Al (rP2 K rBool rInt) G0 [] [] := True.intro
    refine q_lst S0 h2 (by show 0 ≤ 100000; decide) (fun a1 H1 w1 S1 h3 => ?_)
    refine gCons' ?_
    refine gC ?_
    refine gNil' ?_
    refine ⟨_, _, rfl, ?_⟩
    obtain ⟨xs1, hq1, hm1⟩ := bindS hm0
    obtain ⟨⟨rows1, start1⟩, hl1, hm2⟩ := bindS hm1
    dsimp only at hm2
    refine gS_CS (fun (σ : L2.St) (H : Hp) => ∃ (G : Hp) (w2 : List V) (y1 : Option V), Ext G0 G ∧ Sub G ((a1, HO.lst w2) :: O) H ∧ σ = [some (V.int length_here1), some v1, some (V.ref a1), some (V.int start1), y1] ∧ Al (rP2 K rBool rInt) G w2 rows1) ?_ ?_
    · skip
      refine gFor ?_
      refine gIR ?_
      refine gCons' ?_
      refine gCB ?_
      refine gCons' ?_
      refine gV rfl ?_
      refine gNil' ?_
      refine q_lenL (y := V.non) S1 (rM_L (K := K) h1) ?_
      refine gNil' ?_
      refine lp_R hq1 (fol_for Empty hl1) (fun (s : (List (Bool × Int)) × Int) (σ : L2.St) (H : Hp) => ∃ (G : Hp) (w2 : List V) (y1 : Option V), Ext G0 G ∧ Sub G ((a1, HO.lst w2) :: O) H ∧ σ = [some (V.int length_here1), some v1, some (V.ref a1), some (V.int s.2), y1] ∧ Al (rP2 K rBool rInt) G w2 s.1) ⟨G0, w1, _, (Ext.refl _), S1, rfl, h3⟩ ?_ ?_
      · intro i1 x1 s1 b1 hb1 hr1 σ1 H2 hI1
        obtain ⟨s2, hb2, hb3⟩ := goF_some hb1
        subst hb3
        obtain ⟨rows2, start2⟩ := s1
        obtain ⟨G1, w3, y2, e1, S2, rfl, h5⟩ := hI1
        have h6 := R.up e1 h1
        have E1 := E0.trans e1
        have hm3 : (Option.bind (if (decide (x1 = start2)) then (Option.bind (appM rows2 (true, (0 : Int))) fun rows6 =>   Option.bind (m_law_cut length_here1 lines_here1 x1) fun r2 =>   some (rows6, r2))   else (Option.bind (getM rows2 (-(1 : Int))) fun x4 =>   Option.bind (getM lines_here1 x1) fun x5 =>   Option.bind (appM rows2 (false, ((x4.2 + x5.1) + (1 : Int)))) fun rows7 =>   some (rows7, start2))) fun (rows5, start3) =>   some (rows5, start3)) = some s2 := hb2
        obtain ⟨⟨rows5, start3⟩, hq7, hm9⟩ := bindS hm3
        dsimp only at hm9
        refine gCS (fun (σ : L2.St) (H : Hp) => ∃ (G : Hp) (w6 : List V), Ext G1 G ∧ Sub G ((a1, HO.lst w6) :: O) H ∧ σ = [some (V.int length_here1), some v1, some (V.ref a1), some (V.int start3), some (V.int x1)] ∧ Al (rP2 K rBool rInt) G w6 rows5) ?_ ?_
        · skip
          refine gIfS ?_
          refine gTest ?_
          refine gOp ?_
          refine gV rfl ?_
          refine gV rfl ?_
          refine ⟨_, _, rfl, rfl, ?_⟩
          refine ⟨(decide (x1 = start2)), rfl, ?_⟩
          refine ite2 (fun c1 => ?_) (fun c1 => ?_)
          · skip
            have hm10 := (if_pos c1).symm.trans hq7
            refine gS_Drop ?_
            refine gBM ?_
            refine gV rfl ?_
            refine ⟨.inl ⟨rfl, _, .inl (.inl S2.head)⟩, ?_⟩
            refine gCons' ?_
            refine gTup' ?_
            refine gCons' ?_
            refine gC ?_
            refine gCons' ?_
            refine gC ?_
            refine gNil' ?_
            refine q_tup2 (K := K) S2 (show R.rel rBool G1 (V.bl true) true from rfl) (show R.rel rInt G1 (V.int (0 : Int)) (0 : Int) from rfl) (fun v9 G5 H8 e5 S8 h21 => ?_)
            have h22 := R.up e5 h6
            have h23 := Al.up e5 h5
            have E5 := E1.trans e5
            refine gNil' ?_
            obtain ⟨rows6, hq8, hm11⟩ := bindS hm10
            refine q_app S8 h23 (show R.rel (rP2 K rBool rInt) G5 v9 (true, (0 : Int)) from h21) hq8 (fun H9 w7 S9 h24 => ?_)
            refine gAsgN ?_
            refine gCall ?_
            refine gCons' ?_
            refine gV rfl ?_
            refine gCons' ?_
            refine gV rfl ?_
            refine gCons' ?_
            refine gV rfl ?_
            refine gNil' ?_
            obtain ⟨r2, hq9, hm12⟩ := bindS hm11
            refine ⟨G5, ((a1, HO.lst w7) :: O), length_here1, v1, lines_here1, x1, rfl, S9, h22, r2, hq9, fun G6 H10 e6 S10 => ?_⟩
            have h25 := R.up e6 h22
            have h26 := Al.up e6 h24
            have E6 := E5.trans e6
            cases hm12
            exact ⟨G6, w7, (e5.trans e6), S10, rfl, h26⟩
          · skip
            have hm13 := (if_neg c1).symm.trans hq7
            refine gDrop ?_
            refine gBM ?_
            refine gV rfl ?_
            refine ⟨.inl ⟨rfl, _, .inl (.inl S2.head)⟩, ?_⟩
            refine gCons' ?_
            refine gTup' ?_
            refine gCons' ?_
            refine gC ?_
            refine gCons' ?_
            refine gOp ?_
            refine gOp ?_
            refine gOp ?_
            refine gOp ?_
            refine gV rfl ?_
            refine gUn ?_
            refine gC ?_
            refine ⟨_, rfl, ?_⟩
            obtain ⟨x4, hq10, hm14⟩ := bindS hm13
            refine q_ixO S2 h5 hq10 (fun v10 h27 => ?_)
            refine gC ?_
            refine q_p2_1 S2 h27 (fun v11 h28 => ?_)
            obtain rfl := (show v11 = (V.int x4.2) from h28)
            refine gOp ?_
            refine gOp ?_
            refine gV rfl ?_
            refine gV rfl ?_
            obtain ⟨x5, hq11, hm15⟩ := bindS hm14
            refine q_ixL S2 (rM_L (K := K) h6) hq11 (fun v12 h29 => ?_)
            refine gC ?_
            refine q_p3_0 S2 h29 (fun v13 h30 => ?_)
            obtain rfl := (show v13 = (V.int x5.1) from h30)
            refine ⟨_, _, rfl, rfl, ?_⟩
            refine gC ?_
            refine ⟨_, _, rfl, rfl, ?_⟩
            refine gNil' ?_
            refine q_tup2 (K := K) S2 (show R.rel rBool G1 (V.bl false) false from rfl) (show R.rel rInt G1 (V.int ((x4.2 + x5.1) + (1 : Int))) ((x4.2 + x5.1) + (1 : Int)) from rfl) (fun v14 G7 H11 e7 S11 h31 => ?_)
            have h32 := R.up e7 h6
            have h33 := Al.up e7 h5
            have E7 := E1.trans e7
            refine gNil' ?_
            obtain ⟨rows7, hq12, hm16⟩ := bindS hm15
            refine q_app S11 h33 (show R.rel (rP2 K rBool rInt) G7 v14 (false, ((x4.2 + x5.1) + (1 : Int))) from h31) hq12 (fun H12 w8 S12 h34 => ?_)
            cases hm16
            exact ⟨G7, w8, e7, S12, rfl, h34⟩
        · intro σ2 H13 hJ1
          obtain ⟨G8, w9, e8, S13, rfl, h35⟩ := hJ1
          have h36 := R.up e8 h6
          have E8 := E1.trans e8
          cases hm9
          exact ⟨(rows5, start3), ⟨G8, w9, _, (e1.trans e8), S13, rfl, h35⟩, hr1⟩
      · intro s σ H h1 h2
        cases h1
        obtain ⟨G, k1, k2, ie, irest⟩ := h2
        exact ⟨G, k1, k2, (ie), irest⟩
    · intro σ3 H14 hJ2
      obtain ⟨G9, w10, y3, e9, S14, rfl, h37⟩ := hJ2
      have h38 := R.up e9 h1
      have E9 := E0.trans e9
      refine gRet ?_
      refine gV rfl ?_
      obtain ⟨G10, e10, S15, h39⟩ := frz_M S14 h37
      have h40 := R.up e10 h38
      have E10 := E9.trans e10
      cases hm2
      exact q (V.ref a1) G10 H14 E10 S15 h39
end
end Mr

set_option Elab.async false
set_option linter.all false
set_option maxRecDepth 100000
set_option maxHeartbeats 4000000
set_option synthInstance.maxSize 4000
set_option synthInstance.maxHeartbeats 400000
namespace Mr
open PySem PySem.Spec PyProof.Rows L2
section
variable {P : Program} {w : World} {K : PySem.W.Frag} {mg : Str → Option Value} {base : Heap}
theorem sc_law_standing : FnScope ["_law_length_here", "_law_blocks", "_law_lines_here", "_law_barred", "_law_due", "_law_rows", "_law_first", "_law_k", "_law_high", "_law_free"] ["_law_length_here", "_law_blocks"] (defScope s_law_standing) := ⟨rfl, rfl, rfl, by decide +kernel, rfl, by decide +kernel, by decide +kernel⟩
theorem ok_law_standing (T : Tx K mg) : FnOk P w K mg base CX0 3 (He.fAd K ("_law_standing", none)) T.fd_law_standing ["_law_length_here", "_law_blocks"] (sp_law_standing K) := by
  have G_law_lines := ok_law_lines (P := P) (w := w) (base := base) T
  have G_law_pages := ok_law_pages (P := P) (w := w) (base := base) T
  refine T.F_law_standing.ok sc_law_standing (fun vs H Q E h => ?_) (fun cdv A outer s H0 vs Q E hr h => ?_)
  · obtain ⟨G, O, length_here1, v1, blocks1, rfl, _⟩ := h
    rfl
  · obtain ⟨G0, O, length_here1, v1, blocks1, rfl, S0, h1, res, hm, q⟩ := h
    refine ⟨_, PSs.nox (pss_cons (ps_asg (pe_call G_law_lines (hr.mono (by decide)) (by rfl) T.g_law_lines T.F_law_lines.kp T.b_law_lines .nil pass0 (pa_cons (pv 1) pa_nil)) (pg_tup rfl (pgs_cons (pg_name (i := 2) sc_law_standing.nd rfl (.inr rfl)) (pgs_cons (pg_name (i := 3) sc_law_standing.nd rfl (.inl rfl)) (pgs_cons (pg_name (i := 4) sc_law_standing.nd rfl (.inl rfl)) pgs_nil)))))
      (pss_cons (ps_if (pt_val (pv 4)) (pss_one (ps_ret (pe_tup (pa_cons pe_str (pa_cons pe_int (pa_cons pe_int pa_nil)))))) pss_nil)
      (pss_cons (ps_set (i := 5) sc_law_standing.nd rfl (.inr rfl) (pe_call G_law_pages (hr.mono (by decide)) (by rfl) T.g_law_pages T.F_law_pages.kp T.b_law_pages .nil pass0 (pa_cons (pv 0) (pa_cons (pv 2) pa_nil))))
      (pss_cons (ps_set (i := 6) sc_law_standing.nd rfl (.inl rfl) (pe_callB (r := rMax K) (cr_max rfl) (by rfl) T.z_max boot_max (pa_cons (pe_lc (own := [("_law_k", 7)]) (g := gName 7) (by rfl) sc_law_standing.nd (pi_range1 (by rfl) T.z_range (pa_cons (pe_callB (r := rLenM K) call_lenM (by rfl) T.z_len boot_len (pa_cons (pv 5) pa_nil)) pa_nil)) (blkOk_by (own := [("_law_k", 7)]) (N := ["_law_length_here", "_law_blocks", "_law_lines_here", "_law_barred", "_law_due", "_law_rows", "_law_first", "_law_k", "_law_high", "_law_free"]) (sc := defScope s_law_standing) (by decide +kernel)) (fun _ _ _ _ _ => (pg_name (i := 7) sc_law_standing.nd rfl (.inl rfl))) (fun _ _ _ _ _ => (pts_one (pt_val (pe_ix (ix_tupK (K := K) rfl) (pe_ix (ix_listK (K := K) rfl) (pv 5) (pv 7) (fun _ _ => rfl)) pe_int (fun _ _ => rfl))))) (fun _ _ _ _ _ => (pv 7))) pa_nil)))
      (pss_cons (ps_set (i := 8) sc_law_standing.nd rfl (.inl rfl) (pe_op op_add (pe_ix ix_tup (pe_ix ix_list (pv 5) (pe_un un_neg pe_int) (fun _ _ => rfl)) pe_int (fun _ _ => rfl)) pe_int))
      (pss_cons (ps_setLc (i := 9) (own := [("_law_k", 7)]) (g := gName 7) (by rfl) sc_law_standing.nd rfl rfl (sw_true rfl rfl rfl (by decide +kernel)) (pi_range2 (by rfl) T.z_range (pa_cons (pe_op op_add (pv 6) pe_int) (pa_cons (pe_callB (r := rLenM K) call_lenM (by rfl) T.z_len boot_len (pa_cons (pv 5) pa_nil)) pa_nil))) (blkOk_by (own := [("_law_k", 7)]) (N := ["_law_length_here", "_law_blocks", "_law_lines_here", "_law_barred", "_law_due", "_law_rows", "_law_first", "_law_k", "_law_high", "_law_free"]) (sc := defScope s_law_standing) (by decide +kernel)) (fun _ _ _ _ _ => (pg_name (i := 7) sc_law_standing.nd rfl (.inl rfl))) (fun _ _ _ _ _ => (pts_one (pt_not (pt_val (pe_ix (ix_tupK (K := K) rfl) (pe_ix (ix_listK (K := K) rfl) (pv 2) (pv 7) (fun _ _ => rfl)) pe_int (fun _ _ => rfl)))))) (fun _ _ _ _ _ => (pv 7)))
      (pss_cons (ps_if (pt_cut (PW.pt (pw_and (pt_cmpR op_eqI (pv 8) (pv 0) (nomark _)) (pw_and1 (pt_cut (PW.pt (pw_or (pt_not (pt_val (pv 3))) (pw_or1 (pt_cmpR (op_eqD hr.units) (pv 9) (pe_lst pa_nil) (nomark _)))))))))) (pss_one (ps_ret (pe_tup (pa_cons pe_str (pa_cons pe_int (pa_cons pe_int pa_nil)))))) pss_nil)
      (pss_cons (ps_if (pt_not (pt_val (pv 3))) (pss_one (ps_ret (pe_tup (pa_cons pe_str (pa_cons (pv 8) (pa_cons pe_int pa_nil)))))) pss_nil)
      (pss_one (ps_ret (pe_tup (pa_cons pe_str (pa_cons (pv 8) (pa_cons (pe_cut (pe_ifExp (pt_cmpR (op_neD hr.units) (pv 9) (pe_lst pa_nil) (nomark _)) (pe_op op_sub (pv 8) (pe_ix ix_tup (pe_ix ix_list (pv 5) (pe_ix ix_list (pv 9) (pe_un un_neg pe_int) (fun _ _ => rfl)) (fun _ _ => rfl)) pe_int (fun _ _ => rfl))) pe_int)) pa_nil)))))))))))))), ?_⟩
    have E0 := Ext.refl G0
    have hm0 : (Option.bind (m_law_lines blocks1) fun r1 =>
  if r1.2.2 then (some (Wd.top, (0 : Int), (0 : Int)))
  else (Option.bind (m_law_pages length_here1 r1.1) fun r2 =>
  Option.bind (rngM (r2.length : Int)) fun xs1 =>
  Option.bind (folM (m_law_standing_c1 r2) xs1 ([] : (List Int))) fun acc1 =>
  Option.bind (maxM acc1) fun x6 =>
  Option.bind (getM r2 (-(1 : Int))) fun x7 =>
  Option.bind (rng2M (x6 + (1 : Int)) (r2.length : Int)) fun xs2 =>
  Option.bind (folM (m_law_standing_c2 r1) xs2 ([] : (List Int))) fun acc4 =>
  if ((decide ((x7.2 + (1 : Int)) = length_here1)) && ((!r1.2.1) || (decide (acc4 = ([] : (List Int)))))) then (some (Wd.top, (0 : Int), (0 : Int)))
  else (if (!r1.2.1) then (some (Wd.opn, (x7.2 + (1 : Int)), (0 : Int)))
  else (Option.bind (if (!decide (acc4 = ([] : (List Int)))) then (Option.bind (getM acc4 (-(1 : Int))) fun x13 =>
  Option.bind (getM r2 x13) fun x14 =>
  some ((x7.2 + (1 : Int)) - x14.2)) else (some (0 : Int))) fun x15 =>
  some (Wd.kept, (x7.2 + (1 : Int)), x15))))) = some res := hm
    refine gS_Asg ?_
    refine gCall ?_
    refine gCons' ?_
    refine gV rfl ?_
    refine gNil' ?_
    obtain ⟨r1, hq1, hm1⟩ := bindS hm0
    refine ⟨G0, (O), v1, blocks1, rfl, S0, h1, r1, hq1, fun v2 G1 H1 e1 S1 h2 => ?_⟩
    have h3 := R.up e1 h1
    have E1 := E0.trans e1
    refine q_gt3 S1 h2 (fun v3 v4 v5 h4 h5 h6 => ?_)
    obtain rfl := (show v4 = (V.bl r1.2.1) from h5)
    obtain rfl := (show v5 = (V.bl r1.2.2) from h6)
    refine gS_IfS ?_
    refine gB ?_
    refine gV rfl ?_
    refine ⟨r1.2.2, rfl, ?_⟩
    refine ite2 (fun c1 => ?_) (fun c1 => ?_)
    · skip
      have hm2 := (if_pos c1).symm.trans hm1
      refine gRet ?_
      refine gTup' ?_
      refine gCons' ?_
      refine gC ?_
      refine gCons' ?_
      refine gC ?_
      refine gCons' ?_
      refine gC ?_
      refine gNil' ?_
      refine q_tup3 (K := K) S1 (show R.rel (rEn e_Wd) G1 (V.str (e_Wd Wd.top)) Wd.top from rfl) (show R.rel rInt G1 (V.int (0 : Int)) (0 : Int) from rfl) (show R.rel rInt G1 (V.int (0 : Int)) (0 : Int) from rfl) (fun v6 G2 H2 e2 S2 h7 => ?_)
      have h8 := R.up e2 h3
      have h9 := R.up e2 h4
      have E2 := E1.trans e2
      cases hm2
      exact q v6 G2 H2 E2 S2 h7
    · skip
      have hm3 := (if_neg c1).symm.trans hm1
      refine gNext ?_
      refine gE ?_
      refine gS_AsgN ?_
      refine gCall ?_
      refine gCons' ?_
      refine gV rfl ?_
      refine gCons' ?_
      refine gV rfl ?_
      refine gNil' ?_
      obtain ⟨r2, hq2, hm4⟩ := bindS hm3
      refine ⟨G1, (O), length_here1, v3, r1.1, rfl, S1, h4, r2, hq2, fun v7 G3 H3 e3 S3 h10 => ?_⟩
      have h11 := R.up e3 h3
      have h12 := R.up e3 h4
      have E3 := E1.trans e3
      refine gS_AsgN ?_
      refine gCB ?_
      refine gCons' ?_
      refine gLc ?_
      refine gIR ?_
      refine gCons' ?_
      refine gCB ?_
      refine gCons' ?_
      refine gV rfl ?_
      refine gNil' ?_
      refine q_lenL (y := V.non) S3 (rM_L (K := K) h10) ?_
      refine gNil' ?_
      obtain ⟨xs1, hq3, hm5⟩ := bindS hm4
      obtain ⟨acc1, hq6, hm8⟩ := bindS hm5
      refine lc_R hq3 hq6 (fun (D : Addr) (s : (List Int)) (H : Hp) => ∃ (G : Hp) (w1 : List V), Ext G3 G ∧ Sub G ((D, HO.lst w1) :: O) H ∧ Al rInt G w1 s) ?_ ?_ ?_
      · intro D1 nD1
        exact ⟨G3, [], Ext.refl _, S3.newOwn nD1, True.intro⟩
      · intro D2 i1 x3 acc2 s2 hb1 hr1 H4 hI1
        obtain ⟨G4, w2, e4, S4, h18⟩ := hI1
        have h19 := R.up e4 h11
        have h20 := R.up e4 h12
        have h21 := R.up e4 h10
        have E4 := E3.trans e4
        refine ⟨rfl, ?_⟩
        have hm9 : (Option.bind (getM r2 x3) fun x5 =>   if x5.1 then (Option.bind (appM acc2 x3) fun acc3 =>   some acc3)   else (some acc2)) = some s2 := hb1
        refine gB ?_
        refine gOp ?_
        refine gOp ?_
        refine gV rfl ?_
        refine gV rfl ?_
        obtain ⟨x5, hq8, hm11⟩ := bindS hm9
        refine q_ixL S4 (rM_L (K := K) h21) hq8 (fun v15 h24 => ?_)
        refine gC ?_
        refine q_p2_0 S4 h24 (fun v16 h25 => ?_)
        obtain rfl := (show v16 = (V.bl x5.1) from h25)
        refine ⟨x5.1, rfl, ?_⟩
        refine ite2 (fun c2 => ?_) (fun c2 => ?_)
        · skip
          have hm12 := (if_pos c2).symm.trans hm11
          refine gV rfl ?_
          obtain ⟨acc3, hq9, hm13⟩ := bindS hm12
          refine q_lcEl S4 h18 (show R.rel rInt G4 (V.int x3) x3 from rfl) hq9 (fun H5 w3 S5 h26 => ?_)
          cases hm13
          exact ⟨_, ⟨G4, w3, e4, S5, h26⟩, hr1⟩
        · skip
          have hm14 := (if_neg c2).symm.trans hm11
          cases hm14
          exact ⟨_, ⟨G4, w2, e4, S4, h18⟩, hr1⟩
      · intro D3 H6 hI2
        obtain ⟨G5, w4, e5, S6, h27⟩ := hI2
        have h28 := R.up e5 h11
        have h29 := R.up e5 h12
        have h30 := R.up e5 h10
        have E5 := E3.trans e5
        refine gNil' ?_
        obtain ⟨G6, e6, S7, h31⟩ := frz_M S6 h27
        have h32 := R.up e6 h28
        have h33 := R.up e6 h29
        have h34 := R.up e6 h30
        have E6 := E5.trans e6
        obtain ⟨x6, hq10, hm15⟩ := bindS hm8
        refine q_max S7 (rM_L (K := K) h31) hq10 ?_
        refine gS_AsgN ?_
        refine gOp ?_
        refine gOp ?_
        refine gOp ?_
        refine gV rfl ?_
        refine gUn ?_
        refine gC ?_
        refine ⟨_, rfl, ?_⟩
        obtain ⟨x7, hq11, hm16⟩ := bindS hm15
        refine q_ixL S7 (rM_L (K := K) h34) hq11 (fun v17 h35 => ?_)
        refine gC ?_
        refine q_p2_1 S7 h35 (fun v18 h36 => ?_)
        obtain rfl := (show v18 = (V.int x7.2) from h36)
        refine gC ?_
        refine ⟨_, _, rfl, rfl, ?_⟩
        refine gS_AsgN ?_
        refine gLc ?_
        refine gIR2 ?_
        refine gCons' ?_
        refine gOp ?_
        refine gV rfl ?_
        refine gC ?_
        refine ⟨_, _, rfl, rfl, ?_⟩
        refine gCons' ?_
        refine gCB ?_
        refine gCons' ?_
        refine gV rfl ?_
        refine gNil' ?_
        refine q_lenL (y := V.non) S7 (rM_L (K := K) h34) ?_
        refine gNil' ?_
        obtain ⟨xs2, hq12, hm17⟩ := bindS hm16
        obtain ⟨acc4, hq15, hm20⟩ := bindS hm17
        refine lc_R2 hq12 hq15 (fun (D : Addr) (s : (List Int)) (H : Hp) => ∃ (G : Hp) (w5 : List V), Ext G6 G ∧ Sub G ((D, HO.lst w5) :: O) H ∧ Al rInt G w5 s) ?_ ?_ ?_
        · intro D4 nD2
          exact ⟨G6, [], Ext.refl _, S7.newOwn nD2, True.intro⟩
        · intro D5 i2 x10 acc5 s4 hb2 hr2 H7 hI3
          obtain ⟨G7, w6, e7, S8, h42⟩ := hI3
          have h43 := R.up e7 h32
          have h44 := R.up e7 h33
          have h45 := R.up e7 h34
          have E7 := E6.trans e7
          refine ⟨rfl, ?_⟩
          have hm21 : (Option.bind (getM r1.1 x10) fun x12 =>   if (!x12.2.1) then (Option.bind (appM acc5 x10) fun acc6 =>   some acc6)   else (some acc5)) = some s4 := hb2
          refine gNot ?_
          refine gB ?_
          refine gOp ?_
          refine gOp ?_
          refine gV rfl ?_
          refine gV rfl ?_
          obtain ⟨x12, hq17, hm23⟩ := bindS hm21
          refine q_ixL S8 (rM_L (K := K) h44) hq17 (fun v26 h48 => ?_)
          refine gC ?_
          refine q_p3_1 S8 h48 (fun v27 h49 => ?_)
          obtain rfl := (show v27 = (V.bl x12.2.1) from h49)
          refine ⟨x12.2.1, rfl, ?_⟩
          refine ite2 (fun c3 => ?_) (fun c3 => ?_)
          · skip
            have hm24 := (if_pos c3).symm.trans hm23
            refine gV rfl ?_
            obtain ⟨acc6, hq18, hm25⟩ := bindS hm24
            refine q_lcEl S8 h42 (show R.rel rInt G7 (V.int x10) x10 from rfl) hq18 (fun H8 w7 S9 h50 => ?_)
            cases hm25
            exact ⟨_, ⟨G7, w7, e7, S9, h50⟩, hr2⟩
          · skip
            have hm26 := (if_neg c3).symm.trans hm23
            cases hm26
            exact ⟨_, ⟨G7, w6, e7, S8, h42⟩, hr2⟩
        · intro D6 H9 hI4
          obtain ⟨G8, w8, e8, S10, h51⟩ := hI4
          have h52 := R.up e8 h32
          have h53 := R.up e8 h33
          have h54 := R.up e8 h34
          have E8 := E6.trans e8
          refine gS_IfS ?_
          refine gCT (fun (b : Bool) (H : Hp) => ∃ (G : Hp), Ext G8 G ∧ Sub G ((D6, HO.lst w8) :: O) H ∧ b = ((decide ((x7.2 + (1 : Int)) = length_here1)) && ((!r1.2.1) || (decide (acc4 = ([] : (List Int))))))) ?_ ?_
          · skip
            refine gAnd ?_
            refine gTest ?_
            refine gOp ?_
            refine gV rfl ?_
            refine gV rfl ?_
            refine ⟨_, _, rfl, rfl, ?_⟩
            refine ⟨(decide ((x7.2 + (1 : Int)) = length_here1)), rfl, ?_⟩
            refine ite2 (fun c5 => ?_) (fun c5 => ?_)
            · skip
              refine gCT (fun (b : Bool) (H : Hp) => ∃ (G : Hp), Ext G8 G ∧ Sub G ((D6, HO.lst w8) :: O) H ∧ b = ((!r1.2.1) || (decide (acc4 = ([] : (List Int)))))) ?_ ?_
              · skip
                refine gOr ?_
                refine gNot ?_
                refine gB ?_
                refine gV rfl ?_
                refine ⟨r1.2.1, rfl, ?_⟩
                refine ite2 (fun c6 => ?_) (fun c6 => ?_)
                · skip
                  exact ⟨G8, (Ext.refl _), S10, (by rw [c6, Bool.true_or])⟩
                · skip
                  refine gTest ?_
                  refine gOp ?_
                  refine gV rfl ?_
                  refine gLst ?_
                  refine gNil' ?_
                  refine ⟨sz0, fun p4 np4 => ?_⟩
                  have S15 : Sub G8 ((D6, HO.lst w8) :: O) (upd H9 p4 (.lst [])) := S10.junk np4
                  have h62 := rM_own S15 h51
                  refine q_eqD (dM (dInt (K := K))) (by show 2 ≤ 64; decide) h62 (⟨p4, [], rfl, upd_same, True.intro⟩ : R.rel (rM rInt) (upd H9 p4 (.lst [])) (V.ref p4) []) ((okM okI) _) ((okM okI) _) ?_
                  refine ⟨(decide (acc4 = ([] : (List Int)))), rfl, ?_⟩
                  exact ⟨G8, (Ext.refl _), S15, (by rw [ne_false c6, Bool.false_or])⟩
              · intro b2 H11 hJ
                obtain ⟨G10, e10, S16, rfl⟩ := hJ
                have h63 := R.up e10 h52
                have h64 := R.up e10 h53
                have h65 := R.up e10 h54
                have h66 := Al.up e10 h51
                have E10 := E8.trans e10
                exact ⟨G10, e10, S16, (by rw [c5, Bool.true_and])⟩
            · skip
              exact ⟨G8, (Ext.refl _), S10, (by rw [ne_false c5, Bool.false_and])⟩
          · intro b3 H12 hJ
            obtain ⟨G11, e11, S17, rfl⟩ := hJ
            have h67 := R.up e11 h52
            have h68 := R.up e11 h53
            have h69 := R.up e11 h54
            have h70 := Al.up e11 h51
            have E11 := E8.trans e11
            refine ite2 (fun c7 => ?_) (fun c7 => ?_)
            · skip
              have hm27 := (if_pos c7).symm.trans hm20
              refine gRet ?_
              refine gTup' ?_
              refine gCons' ?_
              refine gC ?_
              refine gCons' ?_
              refine gC ?_
              refine gCons' ?_
              refine gC ?_
              refine gNil' ?_
              refine q_tup3 (K := K) S17 (show R.rel (rEn e_Wd) G11 (V.str (e_Wd Wd.top)) Wd.top from rfl) (show R.rel rInt G11 (V.int (0 : Int)) (0 : Int) from rfl) (show R.rel rInt G11 (V.int (0 : Int)) (0 : Int) from rfl) (fun v28 G12 H13 e12 S18 h71 => ?_)
              have h72 := R.up e12 h67
              have h73 := R.up e12 h68
              have h74 := R.up e12 h69
              have h75 := Al.up e12 h70
              have E12 := E11.trans e12
              have S19 := S18.tail
              cases hm27
              exact q v28 G12 H13 E12 S19 h71
            · skip
              have hm28 := (if_neg c7).symm.trans hm20
              refine gNext ?_
              refine gE ?_
              refine gS_IfS ?_
              refine gNot ?_
              refine gB ?_
              refine gV rfl ?_
              refine ⟨r1.2.1, rfl, ?_⟩
              refine ite2 (fun c8 => ?_) (fun c8 => ?_)
              · skip
                have hm29 := (if_pos c8).symm.trans hm28
                refine gRet ?_
                refine gTup' ?_
                refine gCons' ?_
                refine gC ?_
                refine gCons' ?_
                refine gV rfl ?_
                refine gCons' ?_
                refine gC ?_
                refine gNil' ?_
                refine q_tup3 (K := K) S17 (show R.rel (rEn e_Wd) G11 (V.str (e_Wd Wd.opn)) Wd.opn from rfl) (show R.rel rInt G11 (V.int (x7.2 + (1 : Int))) (x7.2 + (1 : Int)) from rfl) (show R.rel rInt G11 (V.int (0 : Int)) (0 : Int) from rfl) (fun v29 G13 H14 e13 S20 h76 => ?_)
                have h77 := R.up e13 h67
                have h78 := R.up e13 h68
                have h79 := R.up e13 h69
                have h80 := Al.up e13 h70
                have E13 := E11.trans e13
                have S21 := S20.tail
                cases hm29
                exact q v29 G13 H14 E13 S21 h76
              · skip
                have hm30 := (if_neg c8).symm.trans hm28
                refine gNext ?_
                refine gE ?_
                refine gRet ?_
                refine gTup' ?_
                refine gCons' ?_
                refine gC ?_
                refine gCons' ?_
                refine gV rfl ?_
                refine gCons' ?_
                obtain ⟨x15, hq21, hm33⟩ := bindS hm30
                refine gCE (fun (v : V) (H : Hp) => ∃ (G : Hp), Ext G11 G ∧ Sub G ((D6, HO.lst w8) :: O) H ∧ v = (V.int x15)) ?_ ?_
                · skip
                  refine gIf ?_
                  refine gTest ?_
                  refine gOp ?_
                  refine gV rfl ?_
                  refine gLst ?_
                  refine gNil' ?_
                  refine ⟨sz0, fun p6 np6 => ?_⟩
                  have S23 : Sub G11 ((D6, HO.lst w8) :: O) (upd H12 p6 (.lst [])) := S17.junk np6
                  have h85 := rM_own S23 h70
                  refine q_neD (dM (dInt (K := K))) (by show 2 ≤ 64; decide) h85 (⟨p6, [], rfl, upd_same, True.intro⟩ : R.rel (rM rInt) (upd H12 p6 (.lst [])) (V.ref p6) []) ((okM okI) _) ((okM okI) _) ?_
                  refine ⟨(!decide (acc4 = ([] : (List Int)))), rfl, ?_⟩
                  refine ite2 (fun c9 => ?_) (fun c9 => ?_)
                  · skip
                    have hm34 := (if_pos c9).symm.trans hq21
                    refine gOp ?_
                    refine gV rfl ?_
                    refine gOp ?_
                    refine gOp ?_
                    refine gV rfl ?_
                    refine gOp ?_
                    refine gV rfl ?_
                    refine gUn ?_
                    refine gC ?_
                    refine ⟨_, rfl, ?_⟩
                    obtain ⟨x16, hq22, hm35⟩ := bindS hm34
                    refine q_ixO S23 h70 hq22 (fun v33 h86 => ?_)
                    obtain rfl := (show v33 = (V.int x16) from h86)
                    obtain ⟨x17, hq23, hm36⟩ := bindS hm35
                    refine q_ixL S23 (rM_L (K := K) h69) hq23 (fun v34 h87 => ?_)
                    refine gC ?_
                    refine q_p2_1 S23 h87 (fun v35 h88 => ?_)
                    obtain rfl := (show v35 = (V.int x17.2) from h88)
                    refine ⟨_, _, rfl, rfl, ?_⟩
                    cases hm36
                    exact ⟨G11, (Ext.refl _), S23, rfl⟩
                  · skip
                    have hm37 := (if_neg c9).symm.trans hq21
                    refine gC ?_
                    cases hm37
                    exact ⟨G11, (Ext.refl _), S23, rfl⟩
                · intro v36 H15 hJ
                  obtain ⟨G14, e14, S24, rfl⟩ := hJ
                  have h90 := R.up e14 h67
                  have h91 := R.up e14 h68
                  have h92 := R.up e14 h69
                  have h93 := Al.up e14 h70
                  have E14 := E11.trans e14
                  refine gNil' ?_
                  refine q_tup3 (K := K) S24 (show R.rel (rEn e_Wd) G14 (V.str (e_Wd Wd.kept)) Wd.kept from rfl) (show R.rel rInt G14 (V.int (x7.2 + (1 : Int))) (x7.2 + (1 : Int)) from rfl) (show R.rel rInt G14 (V.int x15) x15 from rfl) (fun v37 G15 H16 e15 S25 h94 => ?_)
                  have h95 := R.up e15 h90
                  have h96 := R.up e15 h91
                  have h97 := R.up e15 h92
                  have h98 := Al.up e15 h93
                  have E15 := E14.trans e15
                  have S26 := S25.tail
                  cases hm33
                  exact q v37 G15 H16 E15 S26 h94
end
end Mr

set_option Elab.async false
set_option linter.all false
set_option maxRecDepth 100000
set_option maxHeartbeats 4000000
set_option synthInstance.maxSize 4000
set_option synthInstance.maxHeartbeats 400000
namespace Mr
open PySem PySem.Spec PyProof.Rows L2
section
variable {P : Program} {w : World} {K : PySem.W.Frag} {mg : Str → Option Value} {base : Heap}
theorem sc_law_block : FnScope ["_law_bag_here", "_law_most", "_law_count"] ["_law_bag_here", "_law_most"] (defScope s_law_block) := ⟨rfl, rfl, rfl, by decide +kernel, rfl, by decide +kernel, by decide +kernel⟩
theorem ok_law_block (T : Tx K mg) : FnOk P w K mg base CX0 2 (He.fAd K ("_law_block", none)) T.fd_law_block ["_law_bag_here", "_law_most"] (sp_law_block K) := by
  have G_law_draw := ok_law_draw (P := P) (w := w) (base := base) T
  refine T.F_law_block.ok sc_law_block (fun vs H Q E h => ?_) (fun cdv A outer s H0 vs Q E hr h => ?_)
  · obtain ⟨G, O, a1, w1, bag_here1, most1, rfl, _⟩ := h
    rfl
  · obtain ⟨G0, O, a1, w1, bag_here1, most1, rfl, S0, h1, res, hm, q⟩ := h
    refine ⟨_, PSs.nox (pss_cons (ps_set (i := 2) sc_law_block.nd rfl (.inl rfl) (pe_cut (pe_ifExp (pt_cmpR op_eqI (pe_call G_law_draw (hr.mono (by decide)) (by rfl) T.g_law_draw T.F_law_draw.kp T.b_law_draw .nil pass0 (pa_cons (pv 0) (pa_cons pe_int pa_nil))) pe_int (nomark _)) (pe_call G_law_draw (hr.mono (by decide)) (by rfl) T.g_law_draw T.F_law_draw.kp T.b_law_draw .nil pass0 (pa_cons (pv 0) (pa_cons (pe_op op_add (pv 1) pe_int) pa_nil))) (pe_call G_law_draw (hr.mono (by decide)) (by rfl) T.g_law_draw T.F_law_draw.kp T.b_law_draw .nil pass0 (pa_cons (pv 0) (pa_cons pe_int pa_nil))))))
      (pss_one (ps_ret (pe_tup (pa_cons (pv 2) (pa_cons (pe_call G_law_draw (hr.mono (by decide)) (by rfl) T.g_law_draw T.F_law_draw.kp T.b_law_draw .nil pass0 (pa_cons (pv 0) (pa_cons pe_int pa_nil))) (pa_cons (pe_cmpR op_eqI (pe_call G_law_draw (hr.mono (by decide)) (by rfl) T.g_law_draw T.F_law_draw.kp T.b_law_draw .nil pass0 (pa_cons (pv 0) (pa_cons pe_int pa_nil))) pe_int (nomark _)) (pa_cons (pe_cmpR op_eqI (pe_call G_law_draw (hr.mono (by decide)) (by rfl) T.g_law_draw T.F_law_draw.kp T.b_law_draw .nil pass0 (pa_cons (pv 0) (pa_cons pe_int pa_nil))) pe_int (nomark _)) pa_nil)))))))), ?_⟩
    have E0 := Ext.refl G0
    have hm0 : (Option.bind (Option.bind (m_law_draw bag_here1 (4 : Int)) fun (r1, bag_here2) =>
  if (decide (r1 = (3 : Int))) then (Option.bind (m_law_draw bag_here2 (most1 + (1 : Int))) fun (r2, bag_here3) =>
  some (r2, bag_here3)) else (Option.bind (m_law_draw bag_here2 (5 : Int)) fun (r3, bag_here4) =>
  some (r3, bag_here4))) fun (x1, bag_here5) =>
  Option.bind (m_law_draw bag_here5 (3 : Int)) fun (r7, bag_here9) =>
  Option.bind (m_law_draw bag_here9 (2 : Int)) fun (r8, bag_here10) =>
  Option.bind (m_law_draw bag_here10 (8 : Int)) fun (r9, bag_here11) =>
  some ((x1, r7, (decide (r8 = (1 : Int))), (decide (r9 = (7 : Int)))), bag_here11)) = some res := hm
    refine gS_AsgN ?_
    obtain ⟨⟨x1, bag_here5⟩, hq4, hm4⟩ := bindS hm0
    dsimp only at hm4
    refine gCE (fun (v : V) (H : Hp) => ∃ (G : Hp) (w5 : List V), Ext G0 G ∧ Sub G ((a1, HO.lst w5) :: O) H ∧ v = (V.int x1) ∧ Al rInt G w5 bag_here5) ?_ ?_
    · skip
      refine gIf ?_
      refine gTest ?_
      refine gOp ?_
      refine gCall ?_
      refine gCons' ?_
      refine gV rfl ?_
      refine gCons' ?_
      refine gC ?_
      refine gNil' ?_
      obtain ⟨⟨r4, bag_here6⟩, hq5, hm5⟩ := bindS hq4
      dsimp only at hm5
      refine ⟨G0, (O), a1, w1, bag_here1, (4 : Int), rfl, S0, h1, (r4, bag_here6), hq5, fun G4 H4 w6 e4 S4 h5 => ?_⟩
      have E4 := E0.trans e4
      refine gC ?_
      refine ⟨_, _, rfl, rfl, ?_⟩
      refine ⟨(decide (r4 = (3 : Int))), rfl, ?_⟩
      refine ite2 (fun c1 => ?_) (fun c1 => ?_)
      · skip
        have hm6 := (if_pos c1).symm.trans hm5
        refine gCall ?_
        refine gCons' ?_
        refine gV rfl ?_
        refine gCons' ?_
        refine gOp ?_
        refine gV rfl ?_
        refine gC ?_
        refine ⟨_, _, rfl, rfl, ?_⟩
        refine gNil' ?_
        obtain ⟨⟨r5, bag_here7⟩, hq6, hm7⟩ := bindS hm6
        dsimp only at hm7
        refine ⟨G4, (O), a1, w6, bag_here6, (most1 + (1 : Int)), rfl, S4, h5, (r5, bag_here7), hq6, fun G5 H5 w7 e5 S5 h6 => ?_⟩
        have E5 := E4.trans e5
        cases hm7
        exact ⟨G5, w7, (e4.trans e5), S5, rfl, h6⟩
      · skip
        have hm8 := (if_neg c1).symm.trans hm5
        refine gCall ?_
        refine gCons' ?_
        refine gV rfl ?_
        refine gCons' ?_
        refine gC ?_
        refine gNil' ?_
        obtain ⟨⟨r6, bag_here8⟩, hq7, hm9⟩ := bindS hm8
        dsimp only at hm9
        refine ⟨G4, (O), a1, w6, bag_here6, (5 : Int), rfl, S4, h5, (r6, bag_here8), hq7, fun G6 H6 w8 e6 S6 h7 => ?_⟩
        have E6 := E4.trans e6
        cases hm9
        exact ⟨G6, w8, (e4.trans e6), S6, rfl, h7⟩
    · intro v1 H7 hJ
      obtain ⟨G7, w9, e7, S7, rfl, h9⟩ := hJ
      have E7 := E0.trans e7
      refine gRet ?_
      refine gTup' ?_
      refine gCons' ?_
      refine gV rfl ?_
      refine gCons' ?_
      refine gCall ?_
      refine gCons' ?_
      refine gV rfl ?_
      refine gCons' ?_
      refine gC ?_
      refine gNil' ?_
      obtain ⟨⟨r7, bag_here9⟩, hq8, hm10⟩ := bindS hm4
      dsimp only at hm10
      refine ⟨G7, (O), a1, w9, bag_here5, (3 : Int), rfl, S7, h9, (r7, bag_here9), hq8, fun G8 H8 w10 e8 S8 h10 => ?_⟩
      have E8 := E7.trans e8
      refine gCons' ?_
      refine gOp ?_
      refine gCall ?_
      refine gCons' ?_
      refine gV rfl ?_
      refine gCons' ?_
      refine gC ?_
      refine gNil' ?_
      obtain ⟨⟨r8, bag_here10⟩, hq9, hm11⟩ := bindS hm10
      dsimp only at hm11
      refine ⟨G8, (O), a1, w10, bag_here9, (2 : Int), rfl, S8, h10, (r8, bag_here10), hq9, fun G9 H9 w11 e9 S9 h11 => ?_⟩
      have E9 := E8.trans e9
      refine gC ?_
      refine ⟨_, _, rfl, rfl, ?_⟩
      refine gCons' ?_
      refine gOp ?_
      refine gCall ?_
      refine gCons' ?_
      refine gV rfl ?_
      refine gCons' ?_
      refine gC ?_
      refine gNil' ?_
      obtain ⟨⟨r9, bag_here11⟩, hq10, hm12⟩ := bindS hm11
      dsimp only at hm12
      refine ⟨G9, (O), a1, w11, bag_here10, (8 : Int), rfl, S9, h11, (r9, bag_here11), hq10, fun G10 H10 w12 e10 S10 h12 => ?_⟩
      have E10 := E9.trans e10
      refine gC ?_
      refine ⟨_, _, rfl, rfl, ?_⟩
      refine gNil' ?_
      refine q_tup4 (K := K) S10 (show R.rel rInt G10 (V.int x1) x1 from rfl) (show R.rel rInt G10 (V.int r7) r7 from rfl) (show R.rel rBool G10 (V.bl (decide (r8 = (1 : Int)))) (decide (r8 = (1 : Int))) from rfl) (show R.rel rBool G10 (V.bl (decide (r9 = (7 : Int)))) (decide (r9 = (7 : Int))) from rfl) (fun v2 G11 H11 e11 S11 h13 => ?_)
      have h14 := Al.up e11 h12
      have E11 := E10.trans e11
      cases hm12
      exact q v2 G11 H11 w12 E11 S11 h13 h14
end
end Mr

set_option Elab.async false
set_option linter.all false
set_option maxRecDepth 100000
set_option maxHeartbeats 4000000
set_option synthInstance.maxSize 4000
set_option synthInstance.maxHeartbeats 400000
namespace Mr
open PySem PySem.Spec PyProof.Rows L2
section
variable {P : Program} {w : World} {K : PySem.W.Frag} {mg : Str → Option Value} {base : Heap}
theorem sc_law_length : FnScope ["_law_bag_here"] ["_law_bag_here"] (defScope s_law_length) := ⟨rfl, rfl, rfl, by decide +kernel, rfl, by decide +kernel, by decide +kernel⟩
theorem ok_law_length (T : Tx K mg) : FnOk P w K mg base CX0 2 (He.fAd K ("_law_length", none)) T.fd_law_length ["_law_bag_here"] (sp_law_length K) := by
  have G_law_draw := ok_law_draw (P := P) (w := w) (base := base) T
  refine T.F_law_length.ok sc_law_length (fun vs H Q E h => ?_) (fun cdv A outer s H0 vs Q E hr h => ?_)
  · obtain ⟨G, O, a1, w1, bag_here1, rfl, _⟩ := h
    rfl
  · obtain ⟨G0, O, a1, w1, bag_here1, rfl, S0, h1, res, hm, q⟩ := h
    refine ⟨_, PSs.nox (pss_one (ps_ret (pe_op op_add pe_int (pe_cut (pe_ifExp (pt_cmpR op_eqI (pe_call G_law_draw (hr.mono (by decide)) (by rfl) T.g_law_draw T.F_law_draw.kp T.b_law_draw .nil pass0 (pa_cons (pv 0) (pa_cons pe_int pa_nil))) pe_int (nomark _)) (pe_call G_law_draw (hr.mono (by decide)) (by rfl) T.g_law_draw T.F_law_draw.kp T.b_law_draw .nil pass0 (pa_cons (pv 0) (pa_cons pe_int pa_nil))) (pe_call G_law_draw (hr.mono (by decide)) (by rfl) T.g_law_draw T.F_law_draw.kp T.b_law_draw .nil pass0 (pa_cons (pv 0) (pa_cons pe_int pa_nil)))))))), ?_⟩
    have E0 := Ext.refl G0
    have hm0 : (Option.bind (Option.bind (m_law_draw bag_here1 (4 : Int)) fun (r1, bag_here2) =>
  if (decide (r1 = (3 : Int))) then (Option.bind (m_law_draw bag_here2 (8 : Int)) fun (r2, bag_here3) =>
  some (r2, bag_here3)) else (Option.bind (m_law_draw bag_here2 (3 : Int)) fun (r3, bag_here4) =>
  some (r3, bag_here4))) fun (x1, bag_here5) =>
  some (((2 : Int) + x1), bag_here5)) = some res := hm
    refine gRet ?_
    refine gOp ?_
    refine gC ?_
    obtain ⟨⟨x1, bag_here5⟩, hq4, hm4⟩ := bindS hm0
    dsimp only at hm4
    refine gCE (fun (v : V) (H : Hp) => ∃ (G : Hp) (w5 : List V), Ext G0 G ∧ Sub G ((a1, HO.lst w5) :: O) H ∧ v = (V.int x1) ∧ Al rInt G w5 bag_here5) ?_ ?_
    · skip
      refine gIf ?_
      refine gTest ?_
      refine gOp ?_
      refine gCall ?_
      refine gCons' ?_
      refine gV rfl ?_
      refine gCons' ?_
      refine gC ?_
      refine gNil' ?_
      obtain ⟨⟨r4, bag_here6⟩, hq5, hm5⟩ := bindS hq4
      dsimp only at hm5
      refine ⟨G0, (O), a1, w1, bag_here1, (4 : Int), rfl, S0, h1, (r4, bag_here6), hq5, fun G4 H4 w6 e4 S4 h5 => ?_⟩
      have E4 := E0.trans e4
      refine gC ?_
      refine ⟨_, _, rfl, rfl, ?_⟩
      refine ⟨(decide (r4 = (3 : Int))), rfl, ?_⟩
      refine ite2 (fun c1 => ?_) (fun c1 => ?_)
      · skip
        have hm6 := (if_pos c1).symm.trans hm5
        refine gCall ?_
        refine gCons' ?_
        refine gV rfl ?_
        refine gCons' ?_
        refine gC ?_
        refine gNil' ?_
        obtain ⟨⟨r5, bag_here7⟩, hq6, hm7⟩ := bindS hm6
        dsimp only at hm7
        refine ⟨G4, (O), a1, w6, bag_here6, (8 : Int), rfl, S4, h5, (r5, bag_here7), hq6, fun G5 H5 w7 e5 S5 h6 => ?_⟩
        have E5 := E4.trans e5
        cases hm7
        exact ⟨G5, w7, (e4.trans e5), S5, rfl, h6⟩
      · skip
        have hm8 := (if_neg c1).symm.trans hm5
        refine gCall ?_
        refine gCons' ?_
        refine gV rfl ?_
        refine gCons' ?_
        refine gC ?_
        refine gNil' ?_
        obtain ⟨⟨r6, bag_here8⟩, hq7, hm9⟩ := bindS hm8
        dsimp only at hm9
        refine ⟨G4, (O), a1, w6, bag_here6, (3 : Int), rfl, S4, h5, (r6, bag_here8), hq7, fun G6 H6 w8 e6 S6 h7 => ?_⟩
        have E6 := E4.trans e6
        cases hm9
        exact ⟨G6, w8, (e4.trans e6), S6, rfl, h7⟩
    · intro v1 H7 hJ
      obtain ⟨G7, w9, e7, S7, rfl, h9⟩ := hJ
      have E7 := E0.trans e7
      refine ⟨_, _, rfl, rfl, ?_⟩
      cases hm4
      exact q G7 H7 w9 E7 S7 h9
end
end Mr

set_option Elab.async false
set_option linter.all false
set_option maxRecDepth 100000
set_option maxHeartbeats 4000000
set_option synthInstance.maxSize 4000
set_option synthInstance.maxHeartbeats 400000
namespace Mr
open PySem PySem.Spec PyProof.Rows L2
section
variable {P : Program} {w : World} {K : PySem.W.Frag} {mg : Str → Option Value} {base : Heap}
theorem sc_law_pending : FnScope ["_law_length_here", "_law_blocks", "_law_standing_here", "_law_rows", "_law_count", "_law_starts", "_law_row"] ["_law_length_here", "_law_blocks"] (defScope s_law_pending) := ⟨rfl, rfl, rfl, by decide +kernel, rfl, by decide +kernel, by decide +kernel⟩
theorem ok_law_pending (T : Tx K mg) : FnOk P w K mg base CX0 4 (He.fAd K ("_law_pending", none)) T.fd_law_pending ["_law_length_here", "_law_blocks"] (sp_law_pending K) := by
  have G_law_lines := ok_law_lines (P := P) (w := w) (base := base) T
  have G_law_pages := ok_law_pages (P := P) (w := w) (base := base) T
  have G_law_standing := ok_law_standing (P := P) (w := w) (base := base) T
  refine T.F_law_pending.ok sc_law_pending (fun vs H Q E h => ?_) (fun cdv A outer s H0 vs Q E hr h => ?_)
  · obtain ⟨G, O, length_here1, v1, blocks1, rfl, _⟩ := h
    rfl
  · obtain ⟨G0, O, length_here1, v1, blocks1, rfl, S0, h1, res, hm, q⟩ := h
    refine ⟨_, PSs.nox (pss_cons (ps_set (i := 2) sc_law_pending.nd rfl (.inl rfl) (pe_call G_law_standing (hr.mono (by decide)) (by rfl) T.g_law_standing T.F_law_standing.kp T.b_law_standing .nil pass0 (pa_cons (pv 0) (pa_cons (pv 1) pa_nil))))
      (pss_cons (ps_if (pt_cmpR op_eqI (pe_ix ix_tup (pv 2) pe_int (fun _ _ => rfl)) pe_int (nomark _)) (pss_one (ps_ret pe_int)) pss_nil)
      (pss_cons (ps_par (i := 3) (j := 4) (by rfl) sc_law_pending.nd rfl rfl (by decide) rfl rfl (pa_cons (pe_call G_law_pages (hr.mono (by decide)) (by rfl) T.g_law_pages T.F_law_pages.kp T.b_law_pages .nil pass0 (pa_cons (pv 0) (pa_cons (pe_ix ix_tup (pe_call G_law_lines (hr.mono (by decide)) (by rfl) T.g_law_lines T.F_law_lines.kp T.b_law_lines .nil pass0 (pa_cons (pv 1) pa_nil)) pe_int (fun _ _ => rfl)) pa_nil))) (pa_cons pe_int pa_nil)) (by rfl))
      (pss_cons (ps_cut (ps_for PassesOwn.never rfl (pi_list (pe_revL (pv 3))) (pg_tup rfl (pgs_cons (pg_name (i := 5) sc_law_pending.nd rfl (.inl rfl)) (pgs_cons (pg_name (i := 6) sc_law_pending.nd rfl (.inl rfl)) pgs_nil)))
      (pss_cons (ps_if (pt_cmpR op_lt (pv 6) (pe_op op_sub (pe_ix ix_tup (pv 2) pe_int (fun _ _ => rfl)) (pe_ix ix_tup (pv 2) pe_int (fun _ _ => rfl))) (nomark _)) (pss_one (ps_ret (pv 4))) pss_nil)
      (pss_one (ps_set (i := 4) sc_law_pending.nd rfl (.inl rfl) (pe_op op_add (pv 4) pe_int))))))
      (pss_one (ps_ret (pv 4))))))), ?_⟩
    have E0 := Ext.refl G0
    have hm0 : (Option.bind (m_law_standing length_here1 blocks1) fun r1 =>
  if (decide (r1.2.2 = (0 : Int))) then (some (0 : Int))
  else (Option.bind (m_law_lines blocks1) fun r2 =>
  Option.bind (m_law_pages length_here1 r2.1) fun r3 =>
  Option.bind (forL (m_law_pending_b1 r1) (r3.reverse) (0 : Int)) fun res => match res with
  | Fl.rt r => some r
  | Fl.nx count1 => some count1)) = some res := hm
    refine gS_AsgN ?_
    refine gCall ?_
    refine gCons' ?_
    refine gV rfl ?_
    refine gCons' ?_
    refine gV rfl ?_
    refine gNil' ?_
    obtain ⟨r1, hq1, hm1⟩ := bindS hm0
    refine ⟨G0, (O), length_here1, v1, blocks1, rfl, S0, h1, r1, hq1, fun v2 G1 H1 e1 S1 h2 => ?_⟩
    have h3 := R.up e1 h1
    have E1 := E0.trans e1
    refine gS_IfS ?_
    refine gTest ?_
    refine gOp ?_
    refine gOp ?_
    refine gV rfl ?_
    refine gC ?_
    refine q_p3_2 S1 h2 (fun v3 h4 => ?_)
    obtain rfl := (show v3 = (V.int r1.2.2) from h4)
    refine gC ?_
    refine ⟨_, _, rfl, rfl, ?_⟩
    refine ⟨(decide (r1.2.2 = (0 : Int))), rfl, ?_⟩
    refine ite2 (fun c1 => ?_) (fun c1 => ?_)
    · skip
      have hm2 := (if_pos c1).symm.trans hm1
      refine gRet ?_
      refine gC ?_
      cases hm2
      exact q G1 H1 E1 S1
    · skip
      have hm3 := (if_neg c1).symm.trans hm1
      refine gNext ?_
      refine gE ?_
      refine gS_Par ?_
      refine gCons' ?_
      refine gCall ?_
      refine gCons' ?_
      refine gV rfl ?_
      refine gCons' ?_
      refine gOp ?_
      refine gCall ?_
      refine gCons' ?_
      refine gV rfl ?_
      refine gNil' ?_
      obtain ⟨r2, hq2, hm4⟩ := bindS hm3
      refine ⟨G1, (O), v1, blocks1, rfl, S1, h3, r2, hq2, fun v4 G2 H2 e2 S2 h5 => ?_⟩
      have h6 := R.up e2 h3
      have h7 := R.up e2 h2
      have E2 := E1.trans e2
      refine gC ?_
      refine q_p3_0 S2 h5 (fun v5 h8 => ?_)
      refine gNil' ?_
      obtain ⟨r3, hq3, hm5⟩ := bindS hm4
      refine ⟨G2, (O), length_here1, v5, r2.1, rfl, S2, h8, r3, hq3, fun v6 G3 H3 e3 S3 h9 => ?_⟩
      have h10 := R.up e3 h6
      have h11 := R.up e3 h7
      have E3 := E2.trans e3
      refine gCons' ?_
      refine gC ?_
      refine gNil' ?_
      refine ⟨_, _, rfl, ?_⟩
      obtain ⟨res1, hl1, hm6⟩ := bindS hm5
      refine gS_CS (fun (σ : L2.St) (H : Hp) => ∃ s : Int, res1 = Fl.nx s ∧ ∃ (G : Hp) (y1 : Option V) (y2 : Option V), Ext G3 G ∧ Sub G (O) H ∧ σ = [some (V.int length_here1), some v1, some v2, some v6, some (V.int s), y1, y2]) ?_ ?_
      · skip
        refine gFor ?_
        refine gIL ?_
        refine gRevL ?_
        refine gV rfl ?_
        refine q_rev S3 (rM_L (K := K) h9) (fun v7 G4 H4 e4 S4 h12 => ?_)
        have h13 := R.up e4 h10
        have h14 := R.up e4 h11
        have h15 := R.up e4 h9
        have E4 := E3.trans e4
        refine lp_L (r := (rP2 K rBool rInt)) S4 (rM_L (K := K) h12) hl1 (fun (s : Int) (σ : L2.St) (H : Hp) => ∃ (G : Hp) (y1 : Option V) (y2 : Option V), Ext G4 G ∧ Sub G (O) H ∧ σ = [some (V.int length_here1), some v1, some v2, some v6, some (V.int s), y1, y2]) ⟨G4, _, _, (Ext.refl _), S4, rfl⟩ ?_ ?_ ?_
        · intro s σ H hI
          obtain ⟨G, k1, k2, ie, iS, _⟩ := hI
          exact ie.trans iS.ext
        · intro i1 x1 count2 b1 hb1 hr1 v8 σ1 H5 hI1 h16
          obtain ⟨G5, y3, y4, e5, S5, rfl⟩ := hI1
          have h17 := R.up e5 h13
          have h18 := R.up e5 h14
          have h19 := R.up e5 h15
          have h20 := R.up e5 (rM_L (K := K) h12)
          have E5 := E4.trans e5
          have h21 := R.up e5 h16
          refine q_gt2 S5 h21 (fun v9 v10 h22 h23 => ?_)
          obtain rfl := (show v9 = (V.bl x1.1) from h22)
          obtain rfl := (show v10 = (V.int x1.2) from h23)
          have hm7 : (if (decide (x1.2 < (r1.2.1 - r1.2.2))) then (some (Bf.rt count2))   else (some (Bf.go (count2 + (1 : Int))))) = some b1 := hb1
          refine gS_IfS ?_
          refine gTest ?_
          refine gOp ?_
          refine gV rfl ?_
          refine gOp ?_
          refine gOp ?_
          refine gV rfl ?_
          refine gC ?_
          refine q_p3_1 S5 h18 (fun v11 h24 => ?_)
          obtain rfl := (show v11 = (V.int r1.2.1) from h24)
          refine gOp ?_
          refine gV rfl ?_
          refine gC ?_
          refine q_p3_2 S5 h18 (fun v12 h25 => ?_)
          obtain rfl := (show v12 = (V.int r1.2.2) from h25)
          refine ⟨_, _, rfl, rfl, ?_⟩
          refine ⟨_, _, rfl, rfl, ?_⟩
          refine ⟨(decide (x1.2 < (r1.2.1 - r1.2.2))), rfl, ?_⟩
          refine ite2 (fun c2 => ?_) (fun c2 => ?_)
          · skip
            have hm8 := (if_pos c2).symm.trans hm7
            refine gRet ?_
            refine gV rfl ?_
            cases hm8
            have hr2 := Option.some.inj (show some (Fl.rt _) = some res1 from hr1)
            subst hr2
            dsimp only at hm6
            cases hm6
            exact q G5 H5 E5 S5
          · skip
            have hm9 := (if_neg c2).symm.trans hm7
            refine gNext ?_
            refine gE ?_
            refine gAsgN ?_
            refine gOp ?_
            refine gV rfl ?_
            refine gC ?_
            refine ⟨_, _, rfl, rfl, ?_⟩
            cases hm9
            exact ⟨_, ⟨G5, _, _, e5, S5, rfl⟩, hr1⟩
        · intro s σ H h1 h2
          obtain ⟨G, k1, k2, ie, irest⟩ := h2
          exact ⟨s, h1, G, k1, k2, (e4.trans ie), irest⟩
      · intro σ2 H6 hJ1
        obtain ⟨count1, hres1, hJ2⟩ := hJ1
        subst hres1
        dsimp only at hm6
        obtain ⟨G6, y5, y6, e6, S6, rfl⟩ := hJ2
        have h26 := R.up e6 h10
        have h27 := R.up e6 h11
        have h28 := R.up e6 h9
        have E6 := E3.trans e6
        refine gRet ?_
        refine gV rfl ?_
        cases hm6
        exact q G6 H6 E6 S6
end
end Mr

set_option Elab.async false
set_option linter.all false
set_option maxRecDepth 100000
set_option maxHeartbeats 4000000
set_option synthInstance.maxSize 4000
set_option synthInstance.maxHeartbeats 400000
namespace Mr
open PySem PySem.Spec PyProof.Rows L2
section
variable {P : Program} {w : World} {K : PySem.W.Frag} {mg : Str → Option Value} {base : Heap}
theorem sc_law_rows_right : FnScope ["_law_told", "_law_due", "_law_row"] ["_law_told", "_law_due"] (defScope s_law_rows_right) := ⟨rfl, rfl, rfl, by decide +kernel, rfl, by decide +kernel, by decide +kernel⟩
theorem ok_law_rows_right (T : Tx K mg) : FnOk P w K mg base CX0 2 (He.fAd K ("_law_rows_right", none)) T.fd_law_rows_right ["_law_told", "_law_due"] (sp_law_rows_right K) := by
  have G_law_number := ok_law_number (P := P) (w := w) (base := base) T
  refine T.F_law_rows_right.ok sc_law_rows_right (fun vs H Q E h => ?_) (fun cdv A outer s H0 vs Q E hr h => ?_)
  · obtain ⟨G, O, v1, told1, v2, due1, rfl, _⟩ := h
    rfl
  · obtain ⟨G0, O, v1, told1, v2, due1, rfl, S0, h1, h2, res, hm, q⟩ := h
    refine ⟨_, PSs.nox (pss_cons (ps_if (pt_cut (PW.pt (pw_or (pt_not (pt_val (pe_callB (r := rIsi K) call_isi (by rfl) T.z_isinstance boot_isinstance (pa_cons (pv 0) (pa_cons (pe_bltn (v := .ty "list") (by rfl) T.z_list boot_list rfl) pa_nil))))) (pw_or1 (pt_cmpR (op_neD hr.units) (pv 0) (pv 1) (nomark _)))))) (pss_one (ps_ret pe_bl)) pss_nil)
      (pss_one (ps_ret (pe_callB (cr_all rfl) (by rfl) T.z_all boot_all (pa_cons (pe_lc (own := [("_law_row", 2)]) (g := gName 2) (by rfl) sc_law_rows_right.nd (pi_list (pv 0)) (blkOk_by (own := [("_law_row", 2)]) (N := ["_law_told", "_law_due", "_law_row"]) (sc := defScope s_law_rows_right) (by decide +kernel)) (fun _ _ _ _ _ => (pg_name (i := 2) sc_law_rows_right.nd rfl (.inl rfl))) (fun _ _ _ _ _ => pts_nil) (fun _ _ _ _ _ => (pe_cut (pe_and (pe_callB (r := rIsi K) call_isi (by rfl) T.z_isinstance boot_isinstance (pa_cons (pv 2) (pa_cons (pe_bltn (v := .ty "tuple") (by rfl) T.z_tuple boot_tuple rfl) pa_nil))) (pe_and (pe_callB (r := rIsi K) call_isi (by rfl) T.z_isinstance boot_isinstance (pa_cons (pe_ix (ix_tupK (K := K) rfl) (pv 2) pe_int (fun _ _ => rfl)) (pa_cons (pe_bltn (v := .ty "bool") (by rfl) T.z_bool boot_bool rfl) pa_nil))) (pe_one (pe_call G_law_number (hr.mono (by decide)) (by rfl) T.g_law_number T.F_law_number.kp T.b_law_number .nil pass0 (pa_cons (pe_ix (ix_tupK (K := K) rfl) (pv 2) pe_int (fun _ _ => rfl)) pa_nil)))))))) pa_nil))))), ?_⟩
    have E0 := Ext.refl G0
    have hm0 : (if ((!true) || (!decide (told1 = due1))) then (some false)
  else (Option.bind (folM (m_law_rows_right_c1) told1 ([] : (List Bool))) fun acc1 =>
  some (acc1.all id))) = some res := hm
    refine gS_IfS ?_
    refine gCT (fun (b : Bool) (H : Hp) => ∃ (G : Hp), Ext G0 G ∧ Sub G (O) H ∧ b = ((!true) || (!decide (told1 = due1)))) ?_ ?_
    · skip
      refine gOr ?_
      refine gNot ?_
      refine gB ?_
      refine gCB ?_
      refine gCons' ?_
      refine gV rfl ?_
      refine gCons' ?_
      refine gC ?_
      refine gNil' ?_
      refine q_isi (ty_L (rM_L (K := K) (R.up S0.ext h1))) (by decide +kernel : kitB "list" "list" = some true) ?_
      refine ⟨true, rfl, ?_⟩
      refine ite2 (fun c1 => ?_) (fun c1 => ?_)
      · skip
        exact ⟨G0, (Ext.refl _), S0, (by rw [c1, Bool.true_or])⟩
      · skip
        refine gTest ?_
        refine gOp ?_
        refine gV rfl ?_
        refine gV rfl ?_
        refine q_neD (dM (dP2 (dBool (K := K)) (dInt (K := K)))) (by show 4 ≤ 64; decide) (R.up S0.ext h1) (R.up S0.ext h2) ((okM (okP2 okB okI)) _) ((okM (okP2 okB okI)) _) ?_
        refine ⟨(!decide (told1 = due1)), rfl, ?_⟩
        exact ⟨G0, (Ext.refl _), S0, (by rw [ne_false c1, Bool.false_or])⟩
    · intro b1 H1 hJ
      obtain ⟨G1, e1, S1, rfl⟩ := hJ
      have h3 := R.up e1 h1
      have h4 := R.up e1 h2
      have E1 := E0.trans e1
      refine ite2 (fun c2 => ?_) (fun c2 => ?_)
      · skip
        have hm1 := (if_pos c2).symm.trans hm0
        refine gRet ?_
        refine gC ?_
        cases hm1
        exact q G1 H1 E1 S1
      · skip
        have hm2 := (if_neg c2).symm.trans hm0
        refine gNext ?_
        refine gE ?_
        refine gRet ?_
        refine gCB ?_
        refine gCons' ?_
        refine gLc ?_
        refine gIL ?_
        refine gV rfl ?_
        obtain ⟨acc1, hq5, hm11⟩ := bindS hm2
        refine lc_L (r := (rP2 K rBool rInt)) S1 (rM_L (K := K) h3) hq5 (fun (D : Addr) (s : (List Bool)) (H : Hp) => ∃ (G : Hp) (w1 : List V), Ext G1 G ∧ Sub G ((D, HO.lst w1) :: O) H ∧ Al rBool G w1 s) ?_ ?_ ?_ ?_
        · intro D1 nD1
          exact ⟨G1, [], Ext.refl _, S1.newOwn nD1, True.intro⟩
        · intro D s H hI
          obtain ⟨G, k1, ie, iS, _⟩ := hI
          exact ie.trans iS.ext
        · intro D2 i1 x2 acc2 s2 hb1 hr1 v9 H6 hI1 h27
          obtain ⟨G6, w2, e6, S6, h28⟩ := hI1
          have h29 := R.up e6 h3
          have h30 := R.up e6 h4
          have h31 := R.up e6 (rM_L (K := K) h3)
          have E6 := E1.trans e6
          have h32 := R.up e6 h27
          refine ⟨rfl, ?_⟩
          have hm12 : (Option.bind (if true then (if true then (Option.bind (m_law_number x2.2) fun r5 =>   some r5) else some false) else some false) fun x3 =>   Option.bind (appM acc2 x3) fun acc3 =>   some acc3) = some s2 := hb1
          refine gYes ?_
          refine iteT ?_
          obtain ⟨x3, hq8, hm15⟩ := bindS hm12
          refine gCE (fun (b : V) (H : Hp) => ∃ (G : Hp), Ext G6 G ∧ Sub G ((D2, HO.lst w2) :: O) H ∧ b = V.bl x3) ?_ ?_
          · skip
            refine gAndV ?_
            refine gCB ?_
            refine gCons' ?_
            refine gV rfl ?_
            refine gCons' ?_
            refine gC ?_
            refine gNil' ?_
            refine q_isi (ty_P2 (R.up S6.ext h32)) (by decide +kernel : kitB "tuple" "tuple" = some true) ?_
            refine ⟨true, rfl, ?_⟩
            refine ite2 (fun c5 => ?_) (fun c5 => ?_)
            · skip
              have hm16 := (if_pos c5).symm.trans hq8
              refine gAndV ?_
              refine gCB ?_
              refine gCons' ?_
              refine gOp ?_
              refine gV rfl ?_
              refine gC ?_
              refine q_p2_0 S6 h32 (fun v14 h47 => ?_)
              obtain rfl := (show v14 = (V.bl x2.1) from h47)
              refine gCons' ?_
              refine gC ?_
              refine gNil' ?_
              refine q_isi (ty_B _) (by decide +kernel : kitB "bool" "bool" = some true) ?_
              refine ⟨true, rfl, ?_⟩
              refine ite2 (fun c6 => ?_) (fun c6 => ?_)
              · skip
                have hm17 := (if_pos c6).symm.trans hm16
                refine gCall ?_
                refine gCons' ?_
                refine gOp ?_
                refine gV rfl ?_
                refine gC ?_
                refine q_p2_1 S6 h32 (fun v15 h48 => ?_)
                obtain rfl := (show v15 = (V.int x2.2) from h48)
                refine gNil' ?_
                obtain ⟨r6, hq9, hm18⟩ := bindS hm17
                refine ⟨G6, ((D2, HO.lst w2) :: O), x2.2, rfl, S6, r6, hq9, fun G9 H9 e9 S9 => ?_⟩
                have h49 := R.up e9 h29
                have h50 := R.up e9 h30
                have h51 := R.up e9 h32
                have h52 := R.up e9 h31
                have h53 := Al.up e9 h28
                have E9 := E6.trans e9
                cases hm18
                exact ⟨G9, e9, S9, rfl⟩
              · skip
                have hm19 := (if_neg c6).symm.trans hm16
                cases hm19
                exact ⟨G6, (Ext.refl _), S6, rfl⟩
            · skip
              have hm20 := (if_neg c5).symm.trans hq8
              cases hm20
              exact ⟨G6, (Ext.refl _), S6, rfl⟩
          · intro b3 H10 hJ
            obtain ⟨G10, e10, S10, rfl⟩ := hJ
            have h54 := R.up e10 h29
            have h55 := R.up e10 h30
            have h56 := R.up e10 h32
            have h57 := R.up e10 h31
            have h58 := Al.up e10 h28
            have E10 := E6.trans e10
            obtain ⟨acc3, hq10, hm21⟩ := bindS hm15
            refine q_lcEl S10 h58 (show R.rel rBool G10 (V.bl x3) x3 from rfl) hq10 (fun H11 w3 S11 h59 => ?_)
            cases hm21
            exact ⟨_, ⟨G10, w3, (e6.trans e10), S11, h59⟩, hr1⟩
        · intro D3 H12 hI2
          obtain ⟨G11, w4, e11, S12, h60⟩ := hI2
          have h61 := R.up e11 h3
          have h62 := R.up e11 h4
          have E11 := E1.trans e11
          refine gNil' ?_
          obtain ⟨G12, e12, S13, h63⟩ := frz_M S12 h60
          have h64 := R.up e12 h61
          have h65 := R.up e12 h62
          have E12 := E11.trans e12
          refine q_all S13 h63 ?_
          cases hm11
          exact q G12 H12 E12 S13
end
end Mr

set_option Elab.async false
set_option linter.all false
set_option maxRecDepth 100000
/-! the methods of Page, as they stand in this law's program: their texts, facts, promises -/
namespace Mr
open PySem PySem.Spec PyProof.Rows L2
def clsM (i : Nat) (s : Stmt) : Stmt := match s with
  | .ClassDef _ _ _ body _ _ _ _ _ _ _ => body.getD i (.Pass ⟨0, 0, 0, 0⟩)
  | s => s
def s_Page_stay : Stmt := clsM 2 (top 5)
def s_Page_begin : Stmt := clsM 5 (top 5)
def s_Page_go_over : Stmt := clsM 3 (top 5)
def s_Page_line : Stmt := clsM 4 (top 5)
def s_Page_block : Stmt := clsM 6 (top 5)
def s_Page_finish : Stmt := clsM 11 (top 5)
def s_Page_init : Stmt := clsM 0 (top 5)
abbrev mPg (K : PySem.W.Frag) (m : Str) : Addr := He.fAd K ("Page", some m)
structure PgT (K : PySem.W.Frag) (mg : Str → Option Value) where
  c : Cls K (cPg K)
  n_length : NoAttr K (cPg K) "length"
  n_put_lines : NoAttr K (cPg K) "put_lines"
  n_loose : NoAttr K (cPg K) "loose"
  n_high : NoAttr K (cPg K) "high"
  n_is_barred : NoAttr K (cPg K) "is_barred"
  n_unknown : NoAttr K (cPg K) "unknown"
  fd_stay : FuncData
  F_stay : FunD K "stay" "Page.stay" (defArgs s_Page_stay) (defBody s_Page_stay) (defScope s_Page_stay) [] [] (mPg K "stay") fd_stay
  m_stay : Meth K (cPg K) "stay" (mPg K "stay")
  b_stay : Binds K fd_stay ["self"] []
  fd_begin : FuncData
  F_begin : FunD K "begin" "Page.begin" (defArgs s_Page_begin) (defBody s_Page_begin) (defScope s_Page_begin) [] [] (mPg K "begin") fd_begin
  m_begin : Meth K (cPg K) "begin" (mPg K "begin")
  b_begin : Binds K fd_begin ["self"] []
  fd_go_over : FuncData
  F_go_over : FunD K "go_over" "Page.go_over" (defArgs s_Page_go_over) (defBody s_Page_go_over) (defScope s_Page_go_over) [] [] (mPg K "go_over") fd_go_over
  m_go_over : Meth K (cPg K) "go_over" (mPg K "go_over")
  b_go_over : Binds K fd_go_over ["self"] []
  fd_line : FuncData
  F_line : FunD K "line" "Page.line" (defArgs s_Page_line) (defBody s_Page_line) (defScope s_Page_line) [] [] (mPg K "line") fd_line
  m_line : Meth K (cPg K) "line" (mPg K "line")
  b_line : Binds K fd_line ["self", "space", "is_barred"] []
  fd_block : FuncData
  F_block : FunD K "block" "Page.block" (defArgs s_Page_block) (defBody s_Page_block) (defScope s_Page_block) [] [("space", .int 0), ("kept", .bl false), ("page", .bl false)] (mPg K "block") fd_block
  m_block : Meth K (cPg K) "block" (mPg K "block")
  z_range : mg "range" = none
  fd_finish : FuncData
  F_finish : FunD K "finish" "Page.finish" (defArgs s_Page_finish) (defBody s_Page_finish) (defScope s_Page_finish) [] [] (mPg K "finish") fd_finish
  m_finish : Meth K (cPg K) "finish" (mPg K "finish")
  b_finish : Binds K fd_finish ["self"] []
  fd_init : FuncData
  F_init : FunD K "__init__" "Page.__init__" (defArgs s_Page_init) (defBody s_Page_init) (defScope s_Page_init) [] [] (mPg K "__init__") fd_init
  b_init : Binds K fd_init ["self", "length"] []
  mkr : Mk K (cPg K) (mPg K "__init__")
  g_Page : mg "Page" = some (.ref (cPg K))
/-- a method that leaves None and the page as f says -/
def spPg0 (K : PySem.W.Frag) (f : Pg → Pg) : Sp := fun vs H Q _ => ∃ (G : Hp) (O B : Own) (v : V) (st : Pg), vs = [v] ∧ Sub G (B ++ O) H ∧ PgR (cPg K) B v st ∧
  ∀ (G' H' : Hp) (B' : Own), Ext G G' → Sub G' (B' ++ O) H' → PgR (cPg K) B' v (f st) → Q .non H'
def spPgX (K : PySem.W.Frag) (f : Pg → Option Pg) : Sp := fun vs H Q _ => ∃ (G : Hp) (O B : Own) (v : V) (st : Pg), vs = [v] ∧ Sub G (B ++ O) H ∧ PgR (cPg K) B v st ∧ ∃ st', f st = some st' ∧
  ∀ (G' H' : Hp) (B' : Own), Ext G G' → Sub G' (B' ++ O) H' → PgR (cPg K) B' v st' → Q .non H'
def spPgL (K : PySem.W.Frag) : Sp := fun vs H Q _ => ∃ (G : Hp) (O B : Own) (v : V) (sp : Int) (b : Bool) (st : Pg), vs = [v, .int sp, .bl b] ∧ Sub G (B ++ O) H ∧ PgR (cPg K) B v st ∧ ∃ st', st.line sp b = some st' ∧
  ∀ (G' H' : Hp) (B' : Own), Ext G G' → Sub G' (B' ++ O) H' → PgR (cPg K) B' v st' → Q .non H'
def spPgK (K : PySem.W.Frag) : Sp := fun vs H Q _ => ∃ (G : Hp) (O B : Own) (v : V) (count sp : Int) (kept page : Bool) (st : Pg), vs = [v, .int count, .int sp, .bl kept, .bl page] ∧ Sub G (B ++ O) H ∧ PgR (cPg K) B v st ∧ ∃ st', st.block count sp kept page = some st' ∧
  ∀ (G' H' : Hp) (B' : Own), Ext G G' → Sub G' (B' ++ O) H' → PgR (cPg K) B' v st' → Q .non H'
def spPgI (K : PySem.W.Frag) : Sp := fun vs H Q _ => ∃ (G : Hp) (O : Own) (a dx : Addr) (len : Int), vs = [.ref a, .int len] ∧ Sub G ((a, .ins (cPg K) dx []) :: O) H ∧
  ∀ (G' H' : Hp) (B' : Own), Ext G G' → Sub G' (B' ++ O) H' → PgR (cPg K) B' (.ref a) (Pg.new len) → Q .non H'
def spPgO (K : PySem.W.Frag) (f : Pg → Option (List (Bool × Int))) : Sp := fun vs H Q _ => ∃ (G : Hp) (O B : Own) (p : Addr) (st : Pg), vs = [.ref p] ∧ Sub G (B ++ O) H ∧ PgR (cPg K) B (.ref p) st ∧ ∃ res, f st = some res ∧
  ∀ (l : Addr) (w : List V) (G' H' : Hp), Ext G G' → Sub G' ((l, .lst w) :: (B ++ O)) H' → Al (rP2 K rBool rInt) G' w res → Q (.ref l) H'
/-- a method that tells a value -/
def spPgV (K : PySem.W.Frag) {α : Type} (r : R α) (f : Pg → Option α) : Sp := fun vs H Q _ => ∃ (G : Hp) (O B : Own) (p : Addr) (st : Pg), vs = [.ref p] ∧ Sub G (B ++ O) H ∧ PgR (cPg K) B (.ref p) st ∧ ∃ res, f st = some res ∧
  ∀ (u : V) (G' H' : Hp), Ext G G' → Sub G' (B ++ O) H' → r.rel G' u res → Q u H'
theorem gMeth {C : Addr} {m : Str} {sp : Sp} {dvs : List V} {E : XK} {ta : TE} {t : TA} {σ : L2.St} {H : Hp} {Q : VK} (h : ta σ H fun x H1 => ∃ a dx fs, x = .ref a ∧ H1 a = some (.ins C dx fs) ∧ fs.lookup m = none ∧ t σ H1 fun vs H2 => sp (x :: (vs ++ dvs)) H2 Q E) : tMeth C m sp dvs E ta t σ H Q := h
section
variable {ta tv : TE} {σ : L2.St} {H : Hp} {Q : VK} {D : Ends} {K : PySem.W.Frag} {f : Str} {tr : TS}
theorem gFld (h : ta σ H fun x H1 => ∃ a C dx fs v, x = .ref a ∧ H1 a = some (.ins C dx fs) ∧ Cls K C ∧ NoAttr K C f ∧ fs.lookup f = some v ∧ Q v H1) : tFld K ta f σ H Q := h
theorem gSFld (h : tv σ H fun y H1 => ta σ H1 fun x H2 => ∃ a C dx fs, x = .ref a ∧ H2 a = some (.ins C dx fs) ∧ Cls K C ∧ NoAttr K C f ∧ fs.length < 1000 ∧ D.nx σ (upd H2 a (.ins C dx (putF f y fs)))) : sFld K ta tv f D σ H := h
theorem gS_SFld (h : tv σ H fun y H1 => ta σ H1 fun x H2 => ∃ a C dx fs, x = .ref a ∧ H2 a = some (.ins C dx fs) ∧ Cls K C ∧ NoAttr K C f ∧ fs.length < 1000 ∧ tr D σ (upd H2 a (.ins C dx (putF f y fs)))) : tSeq (sFld K ta tv f) tr D σ H := h
end
theorem pgF_len {len : Int} {pl lo : Addr} {high : Int} {bar : Bool} : (pgF len pl lo high bar).length < 1000 := by show 6 < 1000; decide
theorem pg_recv {K : PySem.W.Frag} {m : Str} {G H : Hp} {O B : Own} {p : Addr} {st : Pg} (hm : (pgF 0 0 0 0 false).all (fun p => p.1 != m) = true) (S : Sub G (B ++ O) H) (hp : PgR (cPg K) B (.ref p) st) : ∃ dx fs, H p = some (.ins (cPg K) dx fs) ∧ fs.lookup m = none := by
  obtain ⟨a, dx, pl, lo, ad, h, rfl, _⟩ := hp
  cases h
  refine ⟨dx, _, S.head, ?_⟩
  simp only [pgF, List.all_cons, List.all_nil, Bool.and_true, Bool.and_eq_true, bne_iff_ne, ne_eq] at hm
  obtain ⟨h1, h2, h3, h4, h5, h6⟩ := hm
  have f : ∀ {x : Str}, ¬ x = m → (m == x) = false := fun h => beq_eq_false_iff_ne.mpr fun e => h e.symm
  simp only [pgF, List.lookup, f h1, f h2, f h3, f h4, f h5, f h6]
theorem pg_ins {K : PySem.W.Frag} {G H : Hp} {O B : Own} {p : Addr} {st : Pg} (S : Sub G (B ++ O) H) (hp : PgR (cPg K) B (.ref p) st) : ∃ dx fs, H p = some (.ins (cPg K) dx fs) ∧ fs.lookup ("length" : Str) = some (.int st.len) := by
  obtain ⟨a, dx, pl, lo, ad, h, rfl, _⟩ := hp
  cases h
  exact ⟨dx, _, S.head, pg_length⟩
def mkMk (C : Addr) (sp : Sp) (E : XK) (vs : List V) (H1 : Hp) (Q : VK) : Prop := ∀ x dx, H1 x = none → H1 dx = none → dx ≠ x → sp (.ref x :: vs) (upd (upd H1 dx (.own x)) x (.ins C dx [])) (fun v H2 => v = .non ∧ Q (.ref x) H2) E
theorem gMake {C : Addr} {sp : Sp} {dvs : List V} {E : XK} {t : TA} {σ : L2.St} {H : Hp} {Q : VK} (h : t σ H fun vs H1 => mkMk C sp E (vs ++ dvs) H1 Q) : tMake C sp dvs E t σ H Q := h
theorem q_newPg {K : PySem.W.Frag} {G H : Hp} {O : Own} {len : Int} {Q : VK} {E : XK} (S : Sub G O H) (q : ∀ (x : Addr) (G' H' : Hp) (B : Own), Ext G G' → Sub G' (B ++ O) H' → PgR (cPg K) B (.ref x) (Pg.new len) → Q (.ref x) H') :
    mkMk (cPg K) (spPgI K) E ([.int len] ++ []) H Q := by
  intro x dx hx hd hn
  have S1 : Sub G O (upd H dx (.own x)) := S.junk hd
  have hx1 : upd H dx (.own x) x = none := by rw [upd_ne (Ne.symm hn)]; exact hx
  exact ⟨G, O, x, dx, len, rfl, S1.newOwn hx1, fun G' H' B' e S' hp => ⟨rfl, q x G' H' B' e S' hp⟩⟩
end Mr

set_option Elab.async false
set_option linter.all false
set_option maxRecDepth 100000
/-! MethKw: o.m(e, .., k = v, ..). -/
namespace Mr
open PySem PySem.Spec PyProof.Rows L2
section
variable {X : Cx} {CX : CXT} {k n : Nat} {f C : Addr} {fd : FuncData} {ps ks : List Str} {sp : Sp} {E : XK} {m : Str} {apos pos : Pos} {o e : Expr} {es : List Expr} {kws : List Keyword} {ta : TE} {t tk : TA} {g : List Value → List Value → List Value} {gV : List V → List V → List V}
def tMethN (C : Addr) (m : Str) (n l : Nat) (sp : Sp) (gV : List V → List V → List V) (E : XK) (ta : TE) (t tk : TA) : TE := fun σ H Q => ta σ H fun x H1 => ∃ a dx fs, x = .ref a ∧ H1 a = some (.ins C dx fs) ∧ fs.lookup m = none ∧
  t σ H1 fun vs H2 => tk σ H2 fun zs H3 => (x :: vs).length = n ∧ zs.length = l ∧ sp (gV (x :: vs) zs) H3 Q E
theorem pe_methN {pl : Sem Bool} (he : PE X o ta) (c : Cls X.K C) (hm : Meth X.K C m f) (F : FnOk X.prog X.w X.K X.mg X.base CX k f fd ps sp) (hr : Room k X.A) (hb : KBn X.K fd ps n ks g gV) (hx : Passes CX X E) (ha : PA X (e :: es) t) (hkw : PK X kws tk)
    (hall : (backToKw pos (keywordEach kws X.env)).all (·.1.isSome) = true := by rfl) (hks : (backToKw pos (keywordEach kws X.env)).filterMap (·.1) = ks := by rfl) (hst : starEach (e :: es) X.env = (false, eval e X.env) :: starEach es X.env := by rfl)
    (hpl : ((backTo pos (starEach (e :: es) X.env)).any (·.1) || (backToKw pos (keywordEach kws X.env)).any (·.1.isNone)) = false := by rfl)
    (ht : eval (.Call (.Attribute o m apos) (e :: es) kws pos) X.env = (do
      let ov ← eval o X.env
      standAt apos.atName
      let (f, first) ← holding [ov] (getMethod ov m pl)
      callWith pos f first (backTo pos (starEach (e :: es) X.env)) (backToKw pos (keywordEach kws X.env))) := by rfl) :
    PE X (.Call (.Attribute o m apos) (e :: es) kws pos) (tMethN C m n ks.length sp gV E ta t tk) := by
  refine ⟨fun pins s σ H Q I h => ?_⟩
  refine PySem.W.methodCall_KW (pl := pl) (thn (he.run pins s σ H _ I h) fun u s1 ⟨x, H1, I1, rx, a, dx, fs, ex, ea, l, q⟩ => ?_) ht
  subst ex
  obtain rfl : u = Value.ref a := rx
  refine getmeth_ok I1 ea c hm l ?_
  refine PySem.W.callWith_KW (first := [.ref a]) (h₀ := X.base) I.ok.mod.kin hm.kp hall (thn (ha.run pos pins s1 σ H1 _ I1 q) fun us s2 ⟨vs, H2, I2, r, q2⟩ => ?_) hpl hst
  refine thn (hkw.run pos pins s2 σ H2 _ I2 q2) fun ws s3 ⟨zs, H3, I3, rz, l1, l2, q3⟩ => ⟨I3.kIn, ?_⟩
  rw [hks]
  exact run_fnN (us := .ref a :: us) (vs := .ref a :: vs) F hr hb hx I3 (.cons rfl r) rz l1 l2 q3
theorem gMethN {n l : Nat} {σ : L2.St} {H : Hp} {Q : VK} (h : ta σ H fun x H1 => ∃ a dx fs, x = .ref a ∧ H1 a = some (.ins C dx fs) ∧ fs.lookup m = none ∧ t σ H1 fun vs H2 => tk σ H2 fun zs H3 => (x :: vs).length = n ∧ zs.length = l ∧ sp (gV (x :: vs) zs) H3 Q E) : tMethN C m n l sp gV E ta t tk σ H Q := h
end
/-- all keywords are written -/
theorem kbn_all {K : PySem.W.Frag} {x qual : Str} {params : Arguments} {body : List Stmt} {scope : Scope} {kws : List (Str × V)} {f : Addr} {fd : FuncData} {ps : List Str} (F : FunD K x qual params body scope [] kws f fd) (n : Nat) (ks : List Str)
    (h : ∀ (kV doc pm : Value) (an : Option Addr) (cdv ct : Value) (us ws : List Value), us.length = n → ws.length = ks.length → bindArgs (PySem.W.fnOf x qual params body scope .none kV doc pm an cdv ct) ⟨us, ks.zip ws⟩ = pure (ps.zip (us ++ ws))) :
    KBn K fd ps n ks (fun us ws => us ++ ws) (fun vs zs => vs ++ zs) := by
  obtain ⟨oc, od, dV, kV, doc, pm, an, cdv, ct, osl, rfl, lk, hcd, hD, hK⟩ := F.ex
  rcases hD with ⟨_, rfl⟩ | ⟨e, _⟩
  · exact ⟨fun s us ws X l1 l2 => .of_eq (h kV doc pm an cdv ct us ws l1 l2), fun r1 r2 => r1.append r2⟩
  · exact absurd rfl e
end Mr

set_option Elab.async false
set_option linter.all false
set_option maxRecDepth 100000
namespace Mr
open PySem PySem.Spec PyProof.Rows L2
theorem kb_block {K : PySem.W.Frag} {mg : Str → Option Value} (T : PgT K mg) : KBn K T.fd_block ["self", "count", "space", "kept", "page"] 2 ["space", "kept", "page"] (fun us ws => us ++ ws) (fun vs zs => vs ++ zs) :=
  kbn_all T.F_block 2 _ fun _ _ _ _ _ _ us ws h1 h2 => match us, ws, h1, h2 with | [_, _], [_, _, _], _, _ => rfl
/-- block(count): the keywords' defaults -/
theorem bds_block {K : PySem.W.Frag} {mg : Str → Option Value} (T : PgT K mg) : ∃ ds, Vals [.int 0, .bl false, .bl false] ds ∧ Binds K T.fd_block ["self", "count", "space", "kept", "page"] ds :=
  T.F_block.binds0 2 (by simp) rfl fun D doc pm an cdv ct us ks h1 h2 => match us, ks, h1, h2 with
    | [_, _], [_, _, _], _, _ => ⟨_, _, _, _, _, _, rfl, rfl, _, _, _, _, _, _, rfl, rfl, _, _, _, _, _, _, rfl, rfl, rfl⟩
end Mr

set_option Elab.async false
set_option linter.all false
set_option maxRecDepth 100000
set_option maxHeartbeats 2000000
namespace Mr
open PySem PySem.Spec PyProof.Rows L2
section
variable {P : Program} {w : World} {K : PySem.W.Frag} {mg : Str → Option Value} {base : Heap}
theorem sc_Page_stay : FnScope ["self"] ["self"] (defScope s_Page_stay) := ⟨rfl, rfl, rfl, by decide +kernel, rfl, by decide +kernel, by decide +kernel⟩
theorem ok_Page_stay (T : PgT K mg) : FnOk P w K mg base CX0 1 (mPg K "stay") T.fd_stay ["self"] (spPg0 K Pg.stay) := by
  refine T.F_stay.ok sc_Page_stay (fun vs H Q E h => ?_) (fun cdv A outer s H0 vs Q E hr h => ?_)
  · obtain ⟨G, O, B, v, st, rfl, _⟩ := h
    rfl
  · obtain ⟨G0, O, B, v, st, rfl, S0, hp, q⟩ := h
    obtain ⟨a, dx, pl, lo, ad, rfl, rfl, hl, hn⟩ := hp
    refine ⟨_, PSs.nox (pss_cons (ps_fld (pv 0) (pe_lst pa_nil) rfl)
      (pss_one (ps_if (pt_cmpR op_isNon (pe_fld (pv 0) rfl) pe_non (nomark _)) (pss_one (ps_fld (pv 0) pe_bl rfl)) pss_nil))), ?_⟩
    refine gS_SFld ?_
    refine gLst ?_
    refine gNil' ?_
    refine ⟨sz0, fun p np => ?_⟩
    have S1 : Sub G0 ((p, .lst []) :: (a, .ins (cPg K) dx (pgF st.len pl lo st.high st.bar)) :: (pl, .lst (ad.map V.ref)) :: (lo, .lst (los ad st.nl)) :: (rg ad st.es ++ O)) (upd H0 p (.lst [])) := S0.newOwn np
    refine gV rfl ?_
    have S2 := S1.front 1 rfl rfl
    refine ⟨a, _, dx, _, rfl, S2.head, T.c, T.n_loose, pgF_len, ?_⟩
    rw [pgp_loose]
    have S3 := S2.wr (o' := .ins (cPg K) dx (pgF st.len pl p st.high st.bar))
    refine gIfS ?_
    refine gTest ?_
    refine gOp ?_
    refine gFld ?_
    refine gV rfl ?_
    refine ⟨a, _, dx, _, _, rfl, S3.head, T.c, T.n_unknown, pg_unk, ?_⟩
    refine gC ?_
    refine q_isNon (r := rBool) (G := G0) (o := some false) (rO_some (by intro z; cases z) rfl) ?_
    refine ⟨false, rfl, ?_⟩
    rw [if_neg (by simp)]
    refine gNext ?_
    -- a, p, pl, lo, rg: to a, pl, p, rg
    have S4 : Sub G0 ((pl, .lst (ad.map V.ref)) :: (a, .ins (cPg K) dx (pgF st.len pl p st.high st.bar)) :: (p, .lst []) :: (rg ad st.es ++ O)) _ := (S3.front 3 rfl rfl).tail.front 2 rfl rfl
    have S5 := S4.front 1 rfl rfl
    refine q G0 _ (pgB (cPg K) a dx pl p ad st.stay) (Ext.refl _) ?_ ⟨a, dx, pl, p, ad, rfl, rfl, hl, Nat.zero_le _⟩
    have e : los ad 0 = [] := by simp [los]
    show Sub G0 ((a, .ins (cPg K) dx (pgF st.len pl p st.high st.bar)) :: (pl, .lst (ad.map V.ref)) :: (p, .lst (los ad 0)) :: (rg ad st.es ++ O)) _
    rw [e]
    exact S5
end
end Mr

set_option Elab.async false
set_option linter.all false
set_option maxRecDepth 100000
set_option maxHeartbeats 2000000
namespace Mr
open PySem PySem.Spec PyProof.Rows L2
section
variable {P : Program} {w : World} {K : PySem.W.Frag} {mg : Str → Option Value} {base : Heap}
theorem sc_Page_begin : FnScope ["self"] ["self"] (defScope s_Page_begin) := ⟨rfl, rfl, rfl, by decide +kernel, rfl, by decide +kernel, by decide +kernel⟩
theorem ok_Page_begin (T : PgT K mg) : FnOk P w K mg base CX0 2 (mPg K "begin") T.fd_begin ["self"] (spPg0 K Pg.begin) := by
  refine T.F_begin.ok sc_Page_begin (fun vs H Q E h => ?_) (fun cdv A outer s H0 vs Q E hr h => ?_)
  · obtain ⟨G, O, B, v, st, rfl, _⟩ := h
    rfl
  · obtain ⟨G0, O, B, v, st, rfl, S0, hp, q⟩ := h
    have hp0 := hp
    obtain ⟨a, dx, pl, lo, ad, rfl, rfl, hl, hn⟩ := hp
    refine ⟨_, PSs.nox (pss_cons (ps_expr (pe_meth0 (pv 0) T.c T.m_stay (ok_Page_stay T) (hr.mono (by decide)) T.b_stay .nil pass0))
      (pss_cons (ps_fld (pv 0) pe_int rfl) (pss_one (ps_fld (pv 0) pe_bl rfl)))), ?_⟩
    refine gS_Drop ?_
    refine gMeth ?_
    refine gV rfl ?_
    refine ⟨a, dx, _, rfl, S0.head, rfl, ?_⟩
    refine gNil' ?_
    refine ⟨G0, O, _, .ref a, st, rfl, S0, hp0, fun G1 H1 B1 e1 S1 hp1 => ?_⟩
    obtain ⟨a', dx, pl, lo, ad, ha, rfl, hl, hn⟩ := hp1
    cases ha
    refine gS_SFld ?_
    refine gC ?_
    refine gV rfl ?_
    refine ⟨a, _, dx, _, rfl, S1.head, T.c, T.n_high, pgF_len, ?_⟩
    rw [pgp_high]
    have S2 := S1.wr (o' := .ins (cPg K) dx (pgF st.len pl lo 0 st.bar))
    refine gSFld ?_
    refine gC ?_
    refine gV rfl ?_
    refine ⟨a, _, dx, _, rfl, S2.head, T.c, T.n_is_barred, pgF_len, ?_⟩
    rw [pgp_bar]
    have S3 := S2.wr (o' := .ins (cPg K) dx (pgF st.len pl lo 0 false))
    exact q G1 _ (pgB (cPg K) a dx pl lo ad st.begin) e1 S3 ⟨a, dx, pl, lo, ad, rfl, rfl, hl, hn⟩
end
end Mr

set_option Elab.async false
set_option linter.all false
set_option maxRecDepth 100000
set_option maxHeartbeats 2000000
namespace Mr
open PySem PySem.Spec PyProof.Rows L2
section
variable {P : Program} {w : World} {K : PySem.W.Frag} {mg : Str → Option Value} {base : Heap}
theorem sc_Page_go_over : FnScope ["self", "shift", "line", "first"] ["self"] (defScope s_Page_go_over) := ⟨rfl, rfl, rfl, by decide +kernel, rfl, by decide +kernel, by decide +kernel⟩
theorem ok_Page_go_over (T : PgT K mg) : FnOk P w K mg base CX0 1 (mPg K "go_over") T.fd_go_over ["self"] (spPgX K Pg.over) := by
  refine T.F_go_over.ok sc_Page_go_over (fun vs H Q E h => ?_) (fun cdv A outer s H0 vs Q E hr h => ?_)
  · obtain ⟨G, O, B, v, st, rfl, _⟩ := h
    rfl
  · obtain ⟨G0, O, B, v, st, rfl, S0, hp, st', hm, q⟩ := h
    obtain ⟨a, dx, pl, lo, ad, rfl, rfl, hl, hn⟩ := hp
    unfold Pg.over at hm
    obtain ⟨f, hf, hm⟩ := bindS hm
    have hnl : ¬ st.nl = 0 := by
      intro e
      rw [if_pos e] at hm
      cases hm
    rw [if_neg hnl] at hm
    cases hm
    have hkn : ad.length - st.nl = st.es.length - st.nl := by rw [hl]
    generalize hk : st.es.length - st.nl = k at hf q
    rw [hk] at hkn
    have hkl : k < ad.length := by omega
    obtain ⟨a0, ha0⟩ : ∃ a0, ad[k]? = some a0 := ⟨ad[k], List.getElem?_eq_getElem hkl⟩
    have hlos : los ad st.nl = (ad.drop k).map V.ref := by unfold los; rw [hkn]
    have hd0 : getM (ad.drop k) 0 = some a0 := by
      unfold getM ixM
      have : 0 < (ad.drop k).length := by rw [List.length_drop]; omega
      rw [if_pos (by omega), if_pos (by omega)]
      simpa using ha0
    refine ⟨_, PSs.nox (pss_cons (ps_set (i := 1) sc_Page_go_over.nd rfl (.inl rfl) (pe_ix ix_list (pe_ix ix_list (pe_fld (pv 0) rfl) pe_int (fun _ _ => rfl)) pe_int (fun _ _ => rfl)))
      (pss_cons (ps_cut (ps_for PassesOwn.never rfl (pi_list (pe_fld (pv 0) rfl)) (pg_name (i := 2) sc_Page_go_over.nd rfl (.inl rfl)) (pss_one (ps_asg (pe_op op_sub (pe_ix ix_list (pv 2) pe_int (fun _ _ => rfl)) (pv 1)) (pg_sub (pv 2) pe_int set_list)))))
      (pss_cons (ps_set (i := 3) sc_Page_go_over.nd rfl (.inl rfl) (pe_ix ix_list (pe_fld (pv 0) rfl) pe_int (fun _ _ => rfl)))
      (pss_cons (ps_asg pe_bl (pg_sub (pv 3) pe_int set_list))
      (pss_cons (ps_fld (pv 0) (pe_op op_sub (pe_fld (pv 0) rfl) (pv 1)) rfl)
      (pss_cons (ps_fld (pv 0) (pe_lst pa_nil) rfl)
      (pss_one (ps_if (pt_cmpR op_isNon (pe_fld (pv 0) rfl) pe_non (nomark _)) (pss_one (ps_fld (pv 0) pe_bl rfl)) pss_nil)))))))), ?_⟩
    have S1 : Sub G0 ([(a, .ins (cPg K) dx (pgF st.len pl lo st.high st.bar)), (pl, .lst (ad.map V.ref)), (lo, .lst ((ad.drop k).map V.ref))] ++ (rg ad st.es ++ O)) H0 := by
      rw [← hlos]; exact S0
    have L1 := S1.front 2 rfl rfl
    refine gS_AsgN ?_
    refine gOp ?_
    refine gOp ?_
    refine gFld ?_
    refine gV rfl ?_
    refine ⟨a, _, dx, _, _, rfl, S1.head, T.c, T.n_loose, pg_loose, ?_⟩
    refine gC ?_
    refine q_ixO L1 (r := rSc V.ref) Al.ofSc hd0 (fun v1 hv1 => ?_)
    obtain rfl := (show v1 = V.ref a0 from hv1)
    refine gC ?_
    refine ⟨a0, _, 1, .int f.2, rfl, rfl, .inl (.inl (rg_read S1 ha0 hf)), rfl, ?_⟩
    refine gS_CS (fun (σ : L2.St) (H : Hp) => ∃ x, σ = [some (.ref a), some (.int f.2), x, none] ∧ Sub G0 ([(a, .ins (cPg K) dx (pgF st.len pl lo st.high st.bar)), (pl, .lst (ad.map V.ref)), (lo, .lst ((ad.drop k).map V.ref))] ++ (rg ad (shI k st.nl st.es f.2) ++ O)) H) ?_ ?_
    · refine gFor ?_
      refine gIL ?_
      refine gFld ?_
      refine gV rfl ?_
      refine ⟨a, _, dx, _, _, rfl, S1.head, T.c, T.n_loose, pg_loose, ?_⟩
      refine ⟨lo, rfl, ⟨_, .inl (.inl L1.head)⟩, ?_⟩
      have hln : ((ad.drop k).map V.ref).length = st.nl := by rw [List.length_map, List.length_drop]; omega
      refine for_it (walk_list (xs := (ad.drop k).map V.ref)) (fun i σ H => ∃ x, σ = [some (.ref a), some (.int f.2), x, none] ∧ Sub G0 ([(a, .ins (cPg K) dx (pgF st.len pl lo st.high st.bar)), (pl, .lst (ad.map V.ref)), (lo, .lst ((ad.drop k).map V.ref))] ++ (rg ad (shI k i st.es f.2) ++ O)) H)
        ⟨none, rfl, by rw [shI_zero]; exact S1⟩ (fun i σ H _ ⟨x, _, Si⟩ => .inl (.inl (Si.front 2 rfl rfl).head)) (fun i v σ H H' hi ⟨x, hσ, Si⟩ hY => ?_) (fun σ H ⟨x, hσ, Si⟩ => ?_)
      · obtain ⟨rfl, hw⟩ := hY
        subst hσ
        rw [hln] at hi
        have hki : k + i < ad.length := by omega
        obtain ⟨ai, hai⟩ : ∃ ai, ad[k + i]? = some ai := ⟨ad[k + i], List.getElem?_eq_getElem hki⟩
        obtain ⟨e, he⟩ : ∃ e, st.es[k + i]? = some e := ⟨st.es[k + i]'(by omega), List.getElem?_eq_getElem (by omega)⟩
        have hv : v = V.ref ai := by
          rw [List.getElem?_map, List.getElem?_drop, hai] at hw
          exact (Option.some.inj hw).symm
        subst hv
        have hsi := shI_at (sh := f.2) he
        refine gAsg ?_
        refine gOp ?_
        refine gOp ?_
        refine gV rfl ?_
        refine gC ?_
        refine ⟨ai, _, 1, .int e.2, rfl, rfl, .inl (.inl (rg_read Si hai hsi)), rfl, ?_⟩
        refine gV rfl ?_
        refine ⟨_, _, rfl, rfl, ?_⟩
        refine gSub' ?_
        refine gV rfl ?_
        refine gC ?_
        refine ⟨ai, _, 1, 1, rfl, rfl, rg_read Si hai hsi, rfl, ?_⟩
        refine ⟨some (V.ref ai), rfl, ?_⟩
        have Sj := rg_wr (e' := (e.1, e.2 - f.2)) Si hai hsi
        rw [shI_succ he] at Sj
        exact Sj
      · rw [hln] at Si
        exact ⟨x, hσ, Si⟩
    · rintro σ H ⟨x, rfl, S2⟩
      have hes : (shI k st.nl st.es f.2)[k]? = some (f.1, f.2 - f.2) := by
        unfold shI
        rw [List.getElem?_mapIdx, hf]
        have : k ≤ k ∧ k < k + st.nl := by omega
        simp [this]
      have L2 := S2.front 2 rfl rfl
      refine gS_AsgN ?_
      refine gOp ?_
      refine gFld ?_
      refine gV rfl ?_
      refine ⟨a, _, dx, _, _, rfl, S2.head, T.c, T.n_loose, pg_loose, ?_⟩
      refine gC ?_
      refine q_ixO L2 (r := rSc V.ref) Al.ofSc hd0 (fun v1 hv1 => ?_)
      obtain rfl := (show v1 = V.ref a0 from hv1)
      refine gS_Asg ?_
      refine gC ?_
      refine gSub' ?_
      refine gV rfl ?_
      refine gC ?_
      refine ⟨a0, _, 0, 0, rfl, rfl, rg_read S2 ha0 hes, rfl, ?_⟩
      have S3 := rg_wr (e' := (true, f.2 - f.2)) S2 ha0 hes
      have e0 : f.2 - f.2 = 0 := by omega
      refine gS_SFld ?_
      refine gOp ?_
      refine gFld ?_
      refine gV rfl ?_
      refine ⟨a, _, dx, _, _, rfl, S3.head, T.c, T.n_high, pg_high, ?_⟩
      refine gV rfl ?_
      refine ⟨_, _, rfl, rfl, ?_⟩
      refine gV rfl ?_
      refine ⟨a, _, dx, _, rfl, S3.head, T.c, T.n_high, pgF_len, ?_⟩
      rw [pgp_high]
      have S4 := Sub.wr (o' := .ins (cPg K) dx (pgF st.len pl lo (st.high - f.2) st.bar)) S3
      refine gS_SFld ?_
      refine gLst ?_
      refine gNil' ?_
      refine ⟨sz0, fun p np => ?_⟩
      have S5 := S4.newOwn (o := .lst []) np
      refine gV rfl ?_
      have S6 := S5.front 1 rfl rfl
      refine ⟨a, _, dx, _, rfl, S6.head, T.c, T.n_loose, pgF_len, ?_⟩
      rw [pgp_loose]
      have S7 := S6.wr (o' := .ins (cPg K) dx (pgF st.len pl p (st.high - f.2) st.bar))
      refine gIfS ?_
      refine gTest ?_
      refine gOp ?_
      refine gFld ?_
      refine gV rfl ?_
      refine ⟨a, _, dx, _, _, rfl, S7.head, T.c, T.n_unknown, pg_unk, ?_⟩
      refine gC ?_
      refine q_isNon (r := rBool) (G := G0) (o := some false) (rO_some (by intro z; cases z) rfl) ?_
      refine ⟨false, rfl, ?_⟩
      rw [if_neg (by simp)]
      refine gNext ?_
      have S8 := ((S7.front 3 rfl rfl).tail.front 2 rfl rfl).front 1 rfl rfl
      have e1 : los ad 0 = [] := by simp [los]
      refine q G0 _ (pgB (cPg K) a dx pl p ad { st with es := (shI k st.nl st.es f.2).set k (true, 0), nl := 0, high := st.high - f.2 }) (Ext.refl _) ?_ ⟨a, dx, pl, p, ad, rfl, rfl, ?_, Nat.zero_le _⟩
      · show Sub G0 ((a, .ins (cPg K) dx (pgF st.len pl p (st.high - f.2) st.bar)) :: (pl, .lst (ad.map V.ref)) :: (p, .lst (los ad 0)) :: (rg ad ((shI k st.nl st.es f.2).set k (true, 0)) ++ O)) _
        rw [e1, ← e0]
        exact S8
      · show ad.length = ((shI k st.nl st.es f.2).set k (true, 0)).length
        rw [List.length_set, shI_length]; exact hl
end
end Mr

set_option Elab.async false
set_option linter.all false
set_option maxRecDepth 100000
set_option maxHeartbeats 2000000
namespace Mr
open PySem PySem.Spec PyProof.Rows L2
section
variable {P : Program} {w : World} {K : PySem.W.Frag} {mg : Str → Option Value} {base : Heap}
theorem sc_Page_line : FnScope ["self", "space", "is_barred", "row", "entry"] ["self", "space", "is_barred"] (defScope s_Page_line) := ⟨rfl, rfl, rfl, by decide +kernel, rfl, by decide +kernel, by decide +kernel⟩
theorem ok_Page_line (T : PgT K mg) : FnOk P w K mg base CX0 2 (mPg K "line") T.fd_line ["self", "space", "is_barred"] (spPgL K) := by
  refine T.F_line.ok sc_Page_line (fun vs H Q E h => ?_) (fun cdv A outer s H0 vs Q E hr h => ?_)
  · obtain ⟨G, O, B, v, sp, b, st, rfl, _⟩ := h
    rfl
  · obtain ⟨G0, O, B, v, sp, b, st, rfl, S0, hp, st', hm, q⟩ := h
    have hp0 := hp
    obtain ⟨a, dx, pl, lo, ad, rfl, rfl, hl, hn⟩ := hp
    refine ⟨_, PSs.nox (pss_cons (ps_cut (ps_if (pt_cut (PW.pt (pw_and (pt_cmpR op_gt (pe_fld (pv 0) rfl) pe_int (nomark _)) (pw_and (pt_cmpR op_ge (pe_op op_add (pe_fld (pv 0) rfl) (pv 1)) (pe_fld (pv 0) rfl) (nomark _)) (pw_and (pt_val (pv 2)) (pw_and1 (pt_cmpR (op_neD hr.units) (pe_fld (pv 0) rfl) (pe_lst pa_nil) (nomark _))))))))
        (pss_one (ps_expr (pe_meth0 (pv 0) T.c T.m_go_over (ok_Page_go_over T) (hr.mono (by decide)) T.b_go_over .nil pass0))) pss_nil))
      (pss_cons (ps_set (i := 3) sc_Page_line.nd rfl (.inl rfl) (pe_op op_add (pe_fld (pv 0) rfl) (pv 1)))
      (pss_cons (ps_cut (ps_if (pt_cut (PW.pt (pw_or (pt_cmpR op_eqI (pe_fld (pv 0) rfl) pe_int (nomark _)) (pw_or1 (pt_cmpR op_ge (pv 3) (pe_fld (pv 0) rfl) (nomark _))))))
        (pss_cons (ps_expr (pe_meth0 (pv 0) T.c T.m_stay (ok_Page_stay T) (hr.mono (by decide)) T.b_stay .nil pass0)) (pss_one (ps_set (i := 4) sc_Page_line.nd rfl (.inl rfl) (pe_lst (pa_cons pe_bl (pa_cons pe_int pa_nil))))))
        (pss_cons (ps_set (i := 4) sc_Page_line.nd rfl (.inl rfl) (pe_lst (pa_cons pe_bl (pa_cons (pv 3) pa_nil))))
        (pss_one (ps_if (pt_not (pt_val (pv 2))) (pss_cons (ps_expr (pe_meth0 (pv 0) T.c T.m_stay (ok_Page_stay T) (hr.mono (by decide)) T.b_stay .nil pass0)) (pss_one (ps_fld (pv 0) (pe_lst (pa_cons (pv 4) pa_nil)) rfl)))
          (pss_one (ps_if (pt_cmpR (op_neD hr.units) (pe_fld (pv 0) rfl) (pe_lst pa_nil) (nomark _)) (pss_one (ps_fld (pv 0) (pe_op op_cat (pe_fld (pv 0) rfl) (pe_lst (pa_cons (pv 4) pa_nil))) rfl)) pss_nil)))))))
      (pss_cons (ps_fld (pv 0) (pe_op op_add (pe_ix ix_list (pv 4) pe_int (fun _ _ => rfl)) pe_int) rfl)
      (pss_one (ps_expr (pe_bm PySem.F.plainAttrs_list PySem.F.slot_list_append PySem.F.type_list_append mt_append (pe_fld (pv 0) rfl) (pa_cons (pv 4) pa_nil)))))))), ?_⟩
    have hlos : los ad st.nl = (ad.drop (ad.length - st.nl)).map V.ref := rfl
    refine gS_CS (fun σ H => σ = [some (.ref a), some (.int sp), some (.bl b), none, none] ∧ ∃ G1 B1 st1, Ext G0 G1 ∧ Sub G1 (B1 ++ O) H ∧ PgR (cPg K) B1 (.ref a) st1 ∧ st1.put sp b = some st') ?_ ?_
    · refine gIfS ?_
      refine gCT (fun c H => c = decide (0 < st.high ∧ st.high + sp ≥ st.len ∧ b = true ∧ st.nl ≠ 0) ∧ Sub G0 (pgB (cPg K) a dx pl lo ad st ++ O) H) ?_ ?_
      · refine gAnd ?_
        refine gTest ?_
        refine gOp ?_
        refine gFld ?_
        refine gV rfl ?_
        refine ⟨a, _, dx, _, _, rfl, S0.head, T.c, T.n_high, pg_high, ?_⟩
        refine gC ?_
        refine ⟨_, _, rfl, rfl, decide (st.high > 0), rfl, ?_⟩
        refine ite2 (fun c1 => ?_) (fun c1 => ?_)
        · have c1' := of_decide_eq_true c1
          refine gAnd ?_
          refine gTest ?_
          refine gOp ?_
          refine gOp ?_
          refine gFld ?_
          refine gV rfl ?_
          refine ⟨a, _, dx, _, _, rfl, S0.head, T.c, T.n_high, pg_high, ?_⟩
          refine gV rfl ?_
          refine ⟨_, _, rfl, rfl, ?_⟩
          refine gFld ?_
          refine gV rfl ?_
          refine ⟨a, _, dx, _, _, rfl, S0.head, T.c, T.n_length, pg_length, ?_⟩
          refine ⟨_, _, rfl, rfl, decide (st.high + sp ≥ st.len), rfl, ?_⟩
          refine ite2 (fun c2 => ?_) (fun c2 => ?_)
          · have c2' := of_decide_eq_true c2
            refine gAnd ?_
            refine gB ?_
            refine gV rfl ?_
            refine ⟨b, rfl, ?_⟩
            refine ite2 (fun c3 => ?_) (fun c3 => ?_)
            · refine gTest ?_
              refine gOp ?_
              refine gFld ?_
              refine gV rfl ?_
              refine ⟨a, _, dx, _, _, rfl, S0.head, T.c, T.n_loose, pg_loose, ?_⟩
              refine gLst ?_
              refine gNil' ?_
              refine ⟨sz0, fun p np => ?_⟩
              have S1 : Sub G0 (pgB (cPg K) a dx pl lo ad st ++ O) (upd H0 p (.lst [])) := S0.junk np
              refine loose_ne (k := ad.length - st.nl) (X := [(a, .ins (cPg K) dx (pgF st.len pl lo st.high st.bar)), (pl, .lst (ad.map V.ref)), (lo, .lst (los ad st.nl))]) S1 (Sub.head (Sub.front S1 2 rfl rfl)) upd_same hl ?_
              refine ⟨_, rfl, ?_, S1⟩
              by_cases h0 : st.nl = 0
              · rw [decide_eq_false (by omega), decide_eq_false (by simp [h0])]
              · rw [decide_eq_true (by omega), decide_eq_true ⟨c1', c2', c3, h0⟩]
            · refine ⟨?_, S0⟩
              rw [decide_eq_false (by simp [c3])]
          · refine ⟨?_, S0⟩
            have : ¬ st.high + sp ≥ st.len := fun e => c2 (decide_eq_true e)
            rw [decide_eq_false (fun e => this e.2.1)]
        · refine ⟨?_, S0⟩
          have : ¬ st.high > 0 := fun e => c1 (decide_eq_true e)
          rw [decide_eq_false (fun e => this e.1)]
      · rintro c H ⟨rfl, S1⟩
        unfold Pg.line at hm
        refine ite2 (fun c1 => ?_) (fun c1 => ?_)
        · rw [if_pos (of_decide_eq_true c1)] at hm
          obtain ⟨st1, ho, hm⟩ := bindS hm
          refine gDrop ?_
          refine gMeth ?_
          refine gV rfl ?_
          refine ⟨a, dx, _, rfl, S1.head, rfl, ?_⟩
          refine gNil' ?_
          exact ⟨G0, O, _, .ref a, st, rfl, S1, hp0, st1, ho, fun G1 H1 B1 e1 S2 hp1 => ⟨rfl, G1, B1, st1, e1, S2, hp1, hm⟩⟩
        · rw [if_neg (fun e => c1 (decide_eq_true e))] at hm
          refine gNext ?_
          exact ⟨rfl, G0, _, st, Ext.refl _, S1, hp0, hm⟩
    · rintro σ H ⟨rfl, G1, B1, st1, e1, S1, hp1, hm1⟩
      have hp1' := hp1
      obtain ⟨a', dx, pl, lo, ad, ha, rfl, hl, hn⟩ := hp1
      cases ha
      unfold Pg.put at hm1
      have hlt : st1.es.length < 100000 := by
        by_cases h : st1.es.length < 100000
        · exact h
        · rw [if_neg h] at hm1; cases hm1
      rw [if_pos hlt] at hm1
      refine gS_AsgN ?_
      refine gOp ?_
      refine gFld ?_
      refine gV rfl ?_
      refine ⟨a, _, dx, _, _, rfl, S1.head, T.c, T.n_high, pg_high, ?_⟩
      refine gV rfl ?_
      refine ⟨_, _, rfl, rfl, ?_⟩
      refine gS_CS (fun σ H => ∃ (G2 : Hp) (dx pl lo : Addr) (ad : List Addr) (e0 : Addr) (e : Bool × Int) (nl : Nat), Ext G0 G2 ∧ σ = [some (.ref a), some (.int sp), some (.bl b), some (.int (st1.high + sp)), some (.ref e0)] ∧
        Sub G2 ((e0, cel e) :: (a, .ins (cPg K) dx (pgF st1.len pl lo st1.high st1.bar)) :: (pl, .lst (ad.map V.ref)) :: (lo, .lst (los (ad ++ [e0]) nl)) :: (rg ad st1.es ++ O)) H ∧ ad.length = st1.es.length ∧ nl ≤ ad.length + 1 ∧ st' = { st1 with es := st1.es ++ [e], nl := nl, high := e.2 + 1 }) ?_ ?_
      · refine gIfS ?_
        refine gCT (fun c H => c = decide (st1.high = 0 ∨ st1.high + sp ≥ st1.len) ∧ Sub G1 (pgB (cPg K) a dx pl lo ad st1 ++ O) H) ?_ ?_
        · refine gOr ?_
          refine gTest ?_
          refine gOp ?_
          refine gFld ?_
          refine gV rfl ?_
          refine ⟨a, _, dx, _, _, rfl, S1.head, T.c, T.n_high, pg_high, ?_⟩
          refine gC ?_
          refine ⟨_, _, rfl, rfl, decide (st1.high = 0), rfl, ?_⟩
          refine ite2 (fun c1 => ?_) (fun c1 => ?_)
          · refine ⟨?_, S1⟩
            rw [decide_eq_true (.inl (of_decide_eq_true c1))]
          · refine gTest ?_
            refine gOp ?_
            refine gV rfl ?_
            refine gFld ?_
            refine gV rfl ?_
            refine ⟨a, _, dx, _, _, rfl, S1.head, T.c, T.n_length, pg_length, ?_⟩
            refine ⟨_, _, rfl, rfl, decide (st1.high + sp ≥ st1.len), rfl, ?_, S1⟩
            have h1 : ¬ st1.high = 0 := fun e => c1 (decide_eq_true e)
            simp [h1]
        · rintro c H ⟨rfl, S2⟩
          refine ite2 (fun c1 => ?_) (fun c1 => ?_)
          · rw [if_pos (of_decide_eq_true c1)] at hm1
            refine gS_Drop ?_
            refine gMeth ?_
            refine gV rfl ?_
            refine ⟨a, dx, _, rfl, S2.head, rfl, ?_⟩
            refine gNil' ?_
            refine ⟨G1, O, _, .ref a, st1, rfl, S2, hp1', fun G2 H2 B2 e2 S3 hp2 => ?_⟩
            obtain ⟨a', dx, pl, lo, ad, ha, rfl, hl, hn⟩ := hp2
            cases ha
            refine gAsgN ?_
            refine gLst ?_
            refine gCons' ?_
            refine gC ?_
            refine gCons' ?_
            refine gC ?_
            refine gNil' ?_
            refine ⟨sz (by show 2 ≤ 100000; decide), fun e0 ne => ?_⟩
            have S4 := S3.newOwn (o := cel (true, 0)) ne
            refine ⟨G2, dx, pl, lo, ad, e0, (true, 0), 0, e1.trans e2, rfl, ?_, hl, Nat.zero_le _, (Option.some.inj hm1).symm⟩
            have e9 : los (ad ++ [e0]) 0 = los ad 0 := by rw [los_zero, los_zero]
            rw [e9]
            exact S4
          · have c1' : ¬ (st1.high = 0 ∨ st1.high + sp ≥ st1.len) := fun e => c1 (decide_eq_true e)
            rw [if_neg c1'] at hm1
            refine gS_AsgN ?_
            refine gLst ?_
            refine gCons' ?_
            refine gC ?_
            refine gCons' ?_
            refine gV rfl ?_
            refine gNil' ?_
            refine ⟨sz (by show 2 ≤ 100000; decide), fun e0 ne => ?_⟩
            have S3 : Sub G1 ((e0, cel (false, st1.high + sp)) :: (pgB (cPg K) a dx pl lo ad st1 ++ O)) _ := S2.newOwn (o := cel (false, st1.high + sp)) ne
            refine gIfS ?_
            refine gNot ?_
            refine gB ?_
            refine gV rfl ?_
            refine ⟨b, rfl, ?_⟩
            refine ite2 (fun c2 => ?_) (fun c2 => ?_)
            · have hb : b = false := by simpa using c2
              rw [if_pos hb] at hm1
              have S4 : Sub G1 (pgB (cPg K) a dx pl lo ad st1 ++ (e0, cel (false, st1.high + sp)) :: O) _ := S3.perm List.perm_middle.symm
              refine gS_Drop ?_
              refine gMeth ?_
              refine gV rfl ?_
              refine ⟨a, dx, _, rfl, S4.head, rfl, ?_⟩
              refine gNil' ?_
              refine ⟨G1, (e0, cel (false, st1.high + sp)) :: O, _, .ref a, st1, rfl, S4, hp1', fun G2 H2 B2 e2 S5 hp2 => ?_⟩
              obtain ⟨a', dx, pl, lo, ad, ha, rfl, hl, hn⟩ := hp2
              cases ha
              have S6 : Sub G2 ((e0, cel (false, st1.high + sp)) :: (pgB (cPg K) a dx pl lo ad st1.stay ++ O)) _ := S5.perm List.perm_middle
              refine gSFld ?_
              refine gLst ?_
              refine gCons' ?_
              refine gV rfl ?_
              refine gNil' ?_
              refine ⟨sz (by show 1 ≤ 100000; decide), fun p np => ?_⟩
              have S7 := (S6.newOwn (o := .lst [.ref e0]) np).front 2 rfl rfl
              refine gV rfl ?_
              refine ⟨a, _, dx, _, rfl, S7.head, T.c, T.n_loose, pgF_len, ?_⟩
              have S8 := Sub.wr (o' := .ins (cPg K) dx (pgF st1.len pl p st1.high st1.bar)) S7
              refine ⟨G2, dx, pl, p, ad, e0, (false, st1.high + sp), 1, e1.trans e2, rfl, ?_, hl, by omega, (Option.some.inj hm1).symm⟩
              rw [los_one]
              -- a, p, e0, pl, lo, rg
              exact ((((S8.front 4 rfl rfl).tail.front 1 rfl rfl).front 3 rfl rfl).front 2 rfl rfl).front 3 rfl rfl
            · have hb : ¬ b = false := by simpa using c2
              rw [if_neg hb] at hm1
              refine gIfS ?_
              refine gTest ?_
              refine gOp ?_
              refine gFld ?_
              refine gV rfl ?_
              have S4 := S3.front 1 rfl rfl
              refine ⟨a, _, dx, _, _, rfl, S4.head, T.c, T.n_loose, pg_loose, ?_⟩
              refine gLst ?_
              refine gNil' ?_
              refine ⟨sz0, fun p np => ?_⟩
              have S5 : Sub G1 ([(e0, cel (false, st1.high + sp)), (a, .ins (cPg K) dx (pgF st1.len pl lo st1.high st1.bar)), (pl, .lst (ad.map V.ref)), (lo, .lst (los ad st1.nl))] ++ (rg ad st1.es ++ O)) (upd _ p (.lst [])) := S3.junk np
              refine loose_ne (k := ad.length - st1.nl) S5 (Sub.head (Sub.front S5 3 rfl rfl)) upd_same hl ?_
              refine ⟨_, rfl, ?_⟩
              refine ite2 (fun c3 => ?_) (fun c3 => ?_)
              · have h0 : ¬ st1.nl = 0 := by have := of_decide_eq_true c3; omega
                rw [if_neg h0] at hm1
                refine gSFld ?_
                refine gOp ?_
                refine gFld ?_
                refine gV rfl ?_
                refine ⟨a, _, dx, _, _, rfl, (S5.front 1 rfl rfl).head, T.c, T.n_loose, pg_loose, ?_⟩
                refine gLst ?_
                refine gCons' ?_
                refine gV rfl ?_
                refine gNil' ?_
                refine ⟨sz (by show 1 ≤ 100000; decide), fun p2 np2 => ?_⟩
                have S6 := S5.junk (o := .lst [.ref e0]) np2
                refine ⟨lo, p2, _, _, rfl, rfl, (Sub.front S6 3 rfl rfl).head, upd_same, sz (by simp [los]; omega), fun t ht => ?_⟩
                have S7 := (S6.newOwn (o := .lst (los ad st1.nl ++ [.ref e0])) ht).front 2 rfl rfl
                refine gV rfl ?_
                refine ⟨a, _, dx, _, rfl, S7.head, T.c, T.n_loose, pgF_len, ?_⟩
                have S8 := Sub.wr (o' := .ins (cPg K) dx (pgF st1.len pl t st1.high st1.bar)) S7
                refine ⟨G1, dx, pl, t, ad, e0, (false, st1.high + sp), st1.nl + 1, e1, rfl, ?_, hl, by omega, (Option.some.inj hm1).symm⟩
                rw [los_snoc hn]
                exact ((((S8.front 4 rfl rfl).tail.front 1 rfl rfl).front 3 rfl rfl).front 2 rfl rfl).front 3 rfl rfl
              · have h0 : st1.nl = 0 := by
                  by_cases h : st1.nl = 0
                  · exact h
                  · exact absurd (decide_eq_true (by omega)) c3
                rw [if_pos h0] at hm1
                refine gNext ?_
                refine ⟨G1, dx, pl, lo, ad, e0, (false, st1.high + sp), 0, e1, rfl, ?_, hl, Nat.zero_le _, ?_⟩
                · have e9 : los (ad ++ [e0]) 0 = los ad 0 := by rw [los_zero, los_zero]
                  rw [e9]
                  rw [h0] at S5
                  exact S5
                · rw [← h0]; exact (Option.some.inj hm1).symm
      · rintro σ H ⟨G2, dx, pl, lo, ad, e0, e, nl, e2, rfl, S2, hl, hn, rfl⟩
        refine gS_SFld ?_
        refine gOp ?_
        refine gOp ?_
        refine gV rfl ?_
        refine gC ?_
        refine ⟨e0, _, 1, .int e.2, rfl, rfl, .inl (.inl S2.head), rfl, ?_⟩
        refine gC ?_
        refine ⟨_, _, rfl, rfl, ?_⟩
        refine gV rfl ?_
        have S3 := S2.front 1 rfl rfl
        refine ⟨a, _, dx, _, rfl, S3.head, T.c, T.n_high, pgF_len, ?_⟩
        have S4 := Sub.wr (o' := .ins (cPg K) dx (pgF st1.len pl lo (e.2 + 1) st1.bar)) S3
        refine gDrop ?_
        refine gBM ?_
        refine gFld ?_
        refine gV rfl ?_
        refine ⟨a, _, dx, _, _, rfl, S4.head, T.c, T.n_put_lines, pg_put, ?_⟩
        have S5 := Sub.front S4 2 rfl rfl
        refine ⟨.inl ⟨rfl, _, .inl (.inl S5.head)⟩, ?_⟩
        refine gCons' ?_
        refine gV rfl ?_
        refine gNil' ?_
        refine ⟨pl, _, .ref e0, rfl, rfl, S5.head, by rw [List.length_map, hl]; exact Nat.lt_of_lt_of_le hlt (sz (Nat.le_refl _)), ?_⟩
        have S6 := Sub.wr (o' := .lst (ad.map V.ref ++ [.ref e0])) S5
        -- pl, a, e0, lo, rg
        have S7 : Sub G2 ((e0, cel e) :: (((a, .ins (cPg K) dx (pgF st1.len pl lo (e.2 + 1) st1.bar)) :: (pl, .lst (ad.map V.ref ++ [.ref e0])) :: (lo, .lst (los (ad ++ [e0]) nl)) :: rg ad st1.es) ++ O)) _ := (((S6.front 3 rfl rfl).front 1 rfl rfl).front 2 rfl rfl).front 3 rfl rfl
        have S8 : Sub G2 (((a, .ins (cPg K) dx (pgF st1.len pl lo (e.2 + 1) st1.bar)) :: (pl, .lst (ad.map V.ref ++ [.ref e0])) :: (lo, .lst (los (ad ++ [e0]) nl)) :: rg ad st1.es) ++ (e0, cel e) :: O) _ := Sub.perm S7 List.perm_middle.symm
        refine q G2 _ (pgB (cPg K) a dx pl lo (ad ++ [e0]) { st1 with es := st1.es ++ [e], nl := nl, high := e.2 + 1 }) e2 ?_ ⟨a, dx, pl, lo, ad ++ [e0], rfl, rfl, by simp [hl], by simpa using hn⟩
        unfold pgB
        dsimp only
        rw [rg_add hl, List.map_append]
        show Sub G2 ((a, .ins (cPg K) dx (pgF st1.len pl lo (e.2 + 1) st1.bar)) :: (pl, .lst (ad.map V.ref ++ [.ref e0])) :: (lo, .lst (los (ad ++ [e0]) nl)) :: ((rg ad st1.es ++ [(e0, cel e)]) ++ O)) _
        rw [List.append_assoc]
        exact S8
end
end Mr

set_option Elab.async false
set_option linter.all false
set_option maxRecDepth 100000
set_option maxHeartbeats 2000000
namespace Mr
open PySem PySem.Spec PyProof.Rows L2
section
variable {P : Program} {w : World} {K : PySem.W.Frag} {mg : Str → Option Value} {base : Heap}
theorem sc_Page_block : FnScope ["self", "count", "space", "kept", "page", "place"] ["self", "count", "space", "kept", "page"] (defScope s_Page_block) := ⟨rfl, rfl, rfl, by decide +kernel, rfl, by decide +kernel, by decide +kernel⟩
theorem ok_Page_block (T : PgT K mg) : FnOk P w K mg base CX0 3 (mPg K "block") T.fd_block ["self", "count", "space", "kept", "page"] (spPgK K) := by
  refine T.F_block.ok sc_Page_block (fun vs H Q E h => ?_) (fun cdv A outer s H0 vs Q E hr h => ?_)
  · obtain ⟨G, O, B, v, count, sp, kept, page, st, rfl, _⟩ := h
    rfl
  · obtain ⟨G0, O, B, v, count, sp, kept, page, st, rfl, S0, hp, st', hm, q⟩ := h
    unfold Pg.block at hm
    obtain ⟨ks, hks, hm⟩ := bindS hm
    obtain ⟨st2, hln, hm⟩ := bindS hm
    have hm := Option.some.inj hm
    have hva : ∃ a, v = .ref a := by obtain ⟨a, dx, pl, lo, ad, h, _⟩ := hp; exact ⟨a, h⟩
    obtain ⟨a, rfl⟩ := hva
    have hd : ∀ {B : Own} {st : Pg} {G H : Hp}, PgR (cPg K) B (.ref a) st → Sub G (B ++ O) H → ∃ dx pl lo, H a = some (.ins (cPg K) dx (pgF st.len pl lo st.high st.bar)) := by
      rintro B st G H ⟨a', dx, pl, lo, ad, ha, rfl, _⟩ S
      cases ha
      exact ⟨dx, pl, lo, S.head⟩
    refine ⟨_, PSs.nox (pss_cons (ps_cut (ps_if (pt_val (pv 4)) (pss_one (ps_expr (pe_meth0 (pv 0) T.c T.m_begin (ok_Page_begin T) (hr.mono (by decide)) T.b_begin .nil pass0))) pss_nil))
      (pss_cons (ps_cut (ps_for PassesOwn.never rfl (pi_range1 (by rfl) T.z_range (pa_cons (pv 1) pa_nil)) (pg_name (i := 5) sc_Page_block.nd rfl (.inl rfl)) (pss_one (ps_if (pt_cmpR op_eqI (pv 5) pe_int (nomark _))
        (pss_one (ps_expr (pe_meth (pv 0) T.c T.m_line (ok_Page_line T) (hr.mono (by decide)) T.b_line .nil pass0 (pa_cons (pv 2) (pa_cons (pe_fld (pv 0) rfl) pa_nil)))))
        (pss_one (ps_expr (pe_meth (pv 0) T.c T.m_line (ok_Page_line T) (hr.mono (by decide)) T.b_line .nil pass0 (pa_cons pe_int (pa_cons (pe_cmpR op_in_seq (pv 5) (pe_tup (pa_cons pe_int (pa_cons (pe_op op_sub (pv 1) pe_int) pa_nil))) (by with_unfolding_all rfl)) pa_nil)))))))))
      (pss_one (ps_if (pt_cmpR op_gt (pv 1) pe_int (nomark _)) (pss_cons (ps_fld (pv 0) (pv 3) rfl) (pss_one (ps_if (pt_not (pt_val (pv 3))) (pss_one (ps_expr (pe_meth0 (pv 0) T.c T.m_stay (ok_Page_stay T) (hr.mono (by decide)) T.b_stay .nil pass0))) pss_nil))) pss_nil)))), ?_⟩
    refine gS_CS (fun σ H => σ = [some (.ref a), some (.int count), some (.int sp), some (.bl kept), some (.bl page), none] ∧ ∃ G1 B1, Ext G0 G1 ∧ Sub G1 (B1 ++ O) H ∧ PgR (cPg K) B1 (.ref a) (if page = true then st.begin else st)) ?_ ?_
    · refine gIfS ?_
      refine gB ?_
      refine gV rfl ?_
      refine ⟨page, rfl, ?_⟩
      refine ite2 (fun c1 => ?_) (fun c1 => ?_)
      · refine gDrop ?_
        refine gMeth ?_
        refine gV rfl ?_
        obtain ⟨dx, pl, lo, hh⟩ := hd hp S0
        refine ⟨a, dx, _, rfl, hh, rfl, ?_⟩
        refine gNil' ?_
        refine ⟨G0, O, B, .ref a, st, rfl, S0, hp, fun G1 H1 B1 e1 S1 hp1 => ⟨rfl, G1, B1, e1, S1, ?_⟩⟩
        rw [if_pos c1]; exact hp1
      · refine gNext ?_
        refine ⟨rfl, G0, B, Ext.refl _, S0, ?_⟩
        rw [if_neg c1]; exact hp
    · rintro σ H ⟨rfl, G1, B1, e1, S1, hp1⟩
      refine gS_CS (fun σ H => (∃ x, σ = [some (.ref a), some (.int count), some (.int sp), some (.bl kept), some (.bl page), x]) ∧ ∃ G2 B2, Ext G0 G2 ∧ Sub G2 (B2 ++ O) H ∧ PgR (cPg K) B2 (.ref a) st2) ?_ ?_
      · refine gFor ?_
        refine gIR ?_
        refine gCons' ?_
        refine gV rfl ?_
        refine gNil' ?_
        refine lp_R hks (fol_for Empty hln) (fun p σ H => (∃ x, σ = [some (.ref a), some (.int count), some (.int sp), some (.bl kept), some (.bl page), x]) ∧ ∃ G2 B2, Ext G0 G2 ∧ Sub G2 (B2 ++ O) H ∧ PgR (cPg K) B2 (.ref a) p) ⟨⟨_, rfl⟩, G1, B1, e1, S1, hp1⟩ ?_ ?_
        · rintro i k p b hb hr2 σ H ⟨⟨x, rfl⟩, G2, B2, e2, S2, hp2⟩
          obtain ⟨p2, hb2, hb3⟩ := goF_some hb
          subst hb3
          unfold Pg.turn at hb2
          obtain ⟨dx, pl, lo, hh⟩ := hd hp2 S2
          refine gIfS ?_
          refine gTest ?_
          refine gOp ?_
          refine gV rfl ?_
          refine gC ?_
          refine ⟨_, _, rfl, rfl, decide (k = 0), rfl, ?_⟩
          refine ite2 (fun c1 => ?_) (fun c1 => ?_)
          · rw [if_pos (of_decide_eq_true c1)] at hb2
            refine gDrop ?_
            refine gMeth ?_
            refine gV rfl ?_
            refine ⟨a, dx, _, rfl, hh, rfl, ?_⟩
            refine gCons' ?_
            refine gV rfl ?_
            refine gCons' ?_
            refine gFld ?_
            refine gV rfl ?_
            refine ⟨a, _, dx, _, _, rfl, hh, T.c, T.n_is_barred, pg_bar, ?_⟩
            refine gNil' ?_
            exact ⟨G2, O, B2, .ref a, sp, p.bar, p, rfl, S2, hp2, p2, hb2, fun G3 H3 B3 e3 S3 hp3 => ⟨p2, ⟨⟨_, rfl⟩, G3, B3, e2.trans e3, S3, hp3⟩, hr2⟩⟩
          · rw [if_neg (fun e => c1 (decide_eq_true e))] at hb2
            refine gDrop ?_
            refine gMeth ?_
            refine gV rfl ?_
            refine ⟨a, dx, _, rfl, hh, rfl, ?_⟩
            refine gCons' ?_
            refine gC ?_
            refine gCons' ?_
            refine gOp ?_
            refine gV rfl ?_
            refine gTup' ?_
            refine gCons' ?_
            refine gC ?_
            refine gCons' ?_
            refine gOp ?_
            refine gV rfl ?_
            refine gC ?_
            refine ⟨_, _, rfl, rfl, ?_⟩
            refine gNil' ?_
            refine ⟨sz (by show 2 ≤ 100000; decide), fun t nt => ?_⟩
            have S3 := S2.junk (o := .tup (([1, count - 1] : List Int).map V.int)) nt
            refine q_inT ([1, count - 1] : List Int) ?_
            refine gNil' ?_
            exact ⟨G2, O, B2, .ref a, 0, _, p, rfl, S3, hp2, p2, hb2, fun G3 H3 B3 e3 S4 hp3 => ⟨p2, ⟨⟨_, rfl⟩, G3, B3, e2.trans e3, S4, hp3⟩, hr2⟩⟩
        · rintro p σ H hres ⟨hx, G2, B2, e2, S2, hp2⟩
          cases hres
          exact ⟨hx, G2, B2, e2, S2, hp2⟩
      · rintro σ H ⟨⟨x, rfl⟩, G2, B2, e2, S2, hp2⟩
        refine gIfS ?_
        refine gTest ?_
        refine gOp ?_
        refine gV rfl ?_
        refine gC ?_
        refine ⟨_, _, rfl, rfl, decide (count > 0), rfl, ?_⟩
        refine ite2 (fun c1 => ?_) (fun c1 => ?_)
        · rw [if_pos (of_decide_eq_true c1)] at hm
          obtain ⟨a', dx, pl, lo, ad, ha, rfl, hl, hn⟩ := hp2
          cases ha
          refine gS_SFld ?_
          refine gV rfl ?_
          refine gV rfl ?_
          refine ⟨a, _, dx, _, rfl, S2.head, T.c, T.n_is_barred, pgF_len, ?_⟩
          have S3 : Sub G2 (pgB (cPg K) a dx pl lo ad { st2 with bar := kept } ++ O) _ := Sub.wr (o' := .ins (cPg K) dx (pgF st2.len pl lo st2.high kept)) S2
          have hp3 : PgR (cPg K) (pgB (cPg K) a dx pl lo ad { st2 with bar := kept }) (.ref a) { st2 with bar := kept } := ⟨a, dx, pl, lo, ad, rfl, rfl, hl, hn⟩
          refine gIfS ?_
          refine gNot ?_
          refine gB ?_
          refine gV rfl ?_
          refine ⟨kept, rfl, ?_⟩
          refine ite2 (fun c2 => ?_) (fun c2 => ?_)
          · have hk : kept = false := by simpa using c2
            subst hk
            refine gDrop ?_
            refine gMeth ?_
            refine gV rfl ?_
            refine ⟨a, dx, _, rfl, S3.head, rfl, ?_⟩
            refine gNil' ?_
            refine ⟨G2, O, _, .ref a, _, rfl, S3, hp3, fun G3 H3 B3 e3 S4 hp4 => ?_⟩
            refine q G3 H3 B3 (e2.trans e3) S4 ?_
            rw [← hm]; exact hp4
          · have hk : kept = true := by simpa using c2
            subst hk
            refine gNext ?_
            refine q G2 _ _ e2 S3 ?_
            rw [← hm]; exact hp3
        · rw [if_neg (fun e => c1 (decide_eq_true e))] at hm
          subst hm
          refine gNext ?_
          exact q G2 _ _ e2 S2 hp2
end
end Mr

set_option Elab.async false
set_option linter.all false
set_option maxRecDepth 100000
set_option maxHeartbeats 2000000
namespace Mr
open PySem PySem.Spec PyProof.Rows L2
section
variable {P : Program} {w : World} {K : PySem.W.Frag} {mg : Str → Option Value} {base : Heap}
theorem sc_Page_finish : FnScope ["self", "starts", "row"] ["self"] (defScope s_Page_finish) := ⟨rfl, rfl, rfl, by decide +kernel, rfl, by decide +kernel, by decide +kernel⟩
theorem ok_Page_finish (T : PgT K mg) : FnOk P w K mg base CX0 1 (mPg K "finish") T.fd_finish ["self"] (spPgO K fun st => folM cpE st.es []) := by
  refine T.F_finish.ok sc_Page_finish (fun vs H Q E h => ?_) (fun cdv A outer s H0 vs Q E hr h => ?_)
  · obtain ⟨G, O, B, v, st, rfl, _⟩ := h
    rfl
  · obtain ⟨G0, O, B, v, st, rfl, S0, hp, res, hm, q⟩ := h
    obtain ⟨a, dx, pl, lo, ad, hva, rfl, hl, hn⟩ := hp
    have hva2 := (V.ref.inj hva).symm
    subst hva2
    refine ⟨_, PSs.nox (pss_one (ps_ret (pe_lc (own := [("starts", 1), ("row", 2)]) (g := L2.gLst K 2 (gCons (gName 1) (gCons (gName 2) gNil))) (by rfl) sc_Page_finish.nd (pi_list (pe_fld (pv 0) rfl))
      (blkOk_by (own := [("starts", 1), ("row", 2)]) (N := ["self", "starts", "row"]) (sc := defScope s_Page_finish) (by decide +kernel)) (fun _ _ _ _ _ => (pg_lst rfl (pgs_cons (pg_name (i := 1) sc_Page_finish.nd rfl (.inl rfl)) (pgs_cons (pg_name (i := 2) sc_Page_finish.nd rfl (.inl rfl)) pgs_nil)))) (fun _ _ _ _ _ => pts_nil) (fun _ _ _ _ _ => (pe_tup (pa_cons (pv 1) (pa_cons (pv 2) pa_nil))))))), ?_⟩
    refine gRet ?_
    refine gLc ?_
    refine gIL ?_
    refine gFld ?_
    refine gV rfl ?_
    refine ⟨a, _, dx, _, _, rfl, S0.head, T.c, T.n_put_lines, pg_put, ?_⟩
    have L0 := Sub.front S0 1 rfl rfl
    refine ⟨pl, rfl, ⟨_, .inl (.inl L0.head)⟩, ?_⟩
    refine lc_fol (walk_list (xs := ad.map V.ref)) (xs := st.es) (by rw [List.length_map]; exact hl.symm) hm (fun D acc H => ∃ (G : Hp) (w : List V), Ext G0 G ∧ Sub G ((D, .lst w) :: (pgB (cPg K) a dx pl lo ad st ++ O)) H ∧ Al (rP2 K rBool rInt) G w acc) ?_ ?_ ?_ ?_
    · intro D nD
      exact ⟨G0, [], Ext.refl _, S0.newOwn nD, True.intro⟩
    · rintro D acc H ⟨G, w, _, S, _⟩
      exact .inl (.inl (Sub.front S 2 rfl rfl).head)
    · rintro D i e acc acc' he hb hr2 v H H' ⟨G, w, e1, S, hA⟩ hY
      obtain ⟨rfl, hw⟩ := hY
      have hil : i < ad.length := by have := (List.getElem?_eq_some_iff.mp he).1; omega
      obtain ⟨ai, hai⟩ : ∃ ai, ad[i]? = some ai := ⟨ad[i], List.getElem?_eq_getElem hil⟩
      have hv : v = V.ref ai := by
        rw [List.getElem?_map, hai] at hw
        exact (Option.some.inj hw).symm
      subst hv
      have hc : H' ai = some (cel e) := rg_read (X := [(D, .lst w), (a, .ins (cPg K) dx (pgF st.len pl lo st.high st.bar)), (pl, .lst (ad.map V.ref)), (lo, .lst (los ad st.nl))]) S hai he
      refine ⟨ai, [.bl e.1, .int e.2], rfl, .inl (.inl hc), rfl, _, _, rfl, _, _, rfl, rfl, ?_⟩
      refine ⟨rfl, ?_⟩
      refine gYes ?_
      refine iteT ?_
      refine gTup' ?_
      refine gCons' ?_
      refine gV rfl ?_
      refine gCons' ?_
      refine gV rfl ?_
      refine gNil' ?_
      refine q_tup2 (K := K) S (show R.rel rBool G (V.bl e.1) e.1 from rfl) (show R.rel rInt G (V.int e.2) e.2 from rfl) (fun u G2 H2 e2 S2 h2 => ?_)
      obtain ⟨acc3, hq, hm3⟩ := bindS hb
      cases hm3
      refine q_lcEl S2 (hA.up e2) (show R.rel (rP2 K rBool rInt) G2 u (e.1, e.2) from h2) hq (fun H3 w3 S3 h3 => ?_)
      exact ⟨_, ⟨G2, w3, e1.trans e2, S3, h3⟩, hr2⟩
    · rintro D H ⟨G, w, e1, S, hA⟩
      exact q D w G _ e1 S hA
end
end Mr

set_option Elab.async false
set_option linter.all false
set_option maxRecDepth 100000
set_option maxHeartbeats 2000000
namespace Mr
open PySem PySem.Spec PyProof.Rows L2
section
variable {P : Program} {w : World} {K : PySem.W.Frag} {mg : Str → Option Value} {base : Heap}
theorem sc_Page_init : FnScope ["self", "length"] ["self", "length"] (defScope s_Page_init) := ⟨rfl, rfl, rfl, by decide +kernel, rfl, by decide +kernel, by decide +kernel⟩
theorem ok_Page_init (T : PgT K mg) : FnOk P w K mg base CX0 1 (mPg K "__init__") T.fd_init ["self", "length"] (spPgI K) := by
  refine T.F_init.ok sc_Page_init (fun vs H Q E h => ?_) (fun cdv A outer s H0 vs Q E hr h => ?_)
  · obtain ⟨G, O, a, dx, len, rfl, _⟩ := h
    rfl
  · obtain ⟨G0, O, a, dx, len, rfl, S0, q⟩ := h
    refine ⟨_, PSs.nox (pss_cons (ps_fld (pv 0) (pv 1) rfl) (pss_cons (ps_fld (pv 0) (pe_lst pa_nil) rfl) (pss_cons (ps_fld (pv 0) (pe_lst pa_nil) rfl)
      (pss_cons (ps_fld (pv 0) pe_int rfl) (pss_cons (ps_fld (pv 0) pe_bl rfl) (pss_one (ps_fld (pv 0) pe_bl rfl))))))), ?_⟩
    refine gS_SFld ?_
    refine gV rfl ?_
    refine gV rfl ?_
    refine ⟨a, _, dx, _, rfl, S0.head, T.c, T.n_length, by decide, ?_⟩
    have S1 := Sub.wr (o' := .ins (cPg K) dx (putF "length" (.int len) [])) S0
    refine gS_SFld ?_
    refine gLst ?_
    refine gNil' ?_
    refine ⟨sz0, fun pl np => ?_⟩
    have S2 := (S1.newOwn (o := .lst []) np).front 1 rfl rfl
    refine gV rfl ?_
    refine ⟨a, _, dx, _, rfl, S2.head, T.c, T.n_put_lines, by show 1 < 1000; decide, ?_⟩
    have S3 := Sub.wr (o' := .ins (cPg K) dx (putF "put_lines" (.ref pl) (putF "length" (.int len) []))) S2
    refine gS_SFld ?_
    refine gLst ?_
    refine gNil' ?_
    refine ⟨sz0, fun lo nlo => ?_⟩
    have S4 := (S3.newOwn (o := .lst []) nlo).front 1 rfl rfl
    refine gV rfl ?_
    refine ⟨a, _, dx, _, rfl, S4.head, T.c, T.n_loose, by show 2 < 1000; decide, ?_⟩
    have S5 := Sub.wr (o' := .ins (cPg K) dx (putF "loose" (.ref lo) (putF "put_lines" (.ref pl) (putF "length" (.int len) [])))) S4
    refine gS_SFld ?_
    refine gC ?_
    refine gV rfl ?_
    refine ⟨a, _, dx, _, rfl, S5.head, T.c, T.n_high, by show 3 < 1000; decide, ?_⟩
    have S6 := Sub.wr (o' := .ins (cPg K) dx (putF "high" (.int 0) (putF "loose" (.ref lo) (putF "put_lines" (.ref pl) (putF "length" (.int len) []))))) S5
    refine gS_SFld ?_
    refine gC ?_
    refine gV rfl ?_
    refine ⟨a, _, dx, _, rfl, S6.head, T.c, T.n_is_barred, by show 4 < 1000; decide, ?_⟩
    have S7 := Sub.wr (o' := .ins (cPg K) dx (putF "is_barred" (.bl false) (putF "high" (.int 0) (putF "loose" (.ref lo) (putF "put_lines" (.ref pl) (putF "length" (.int len) [])))))) S6
    refine gSFld ?_
    refine gC ?_
    refine gV rfl ?_
    refine ⟨a, _, dx, _, rfl, S7.head, T.c, T.n_unknown, by show 5 < 1000; decide, ?_⟩
    have S8 := Sub.wr (o' := .ins (cPg K) dx (pgF len pl lo 0 false)) S7
    rw [pgp_new]
    refine q G0 _ (pgB (cPg K) a dx pl lo [] (Pg.new len)) (Ext.refl _) ?_ ⟨a, dx, pl, lo, [], rfl, rfl, rfl, Nat.le_refl _⟩
    -- a, lo, pl
    exact (S8.front 2 rfl rfl).front 1 rfl rfl
end
end Mr

set_option Elab.async false
set_option linter.all false
set_option maxRecDepth 100000
set_option maxHeartbeats 2000000
/-! further methods of Page: their texts, facts, walks -/
namespace Mr
open PySem PySem.Spec PyProof.Rows L2
def s_Page_now : Stmt := clsM 7 (top 5)
def s_Page_pending : Stmt := clsM 8 (top 5)
def s_Page_went_over : Stmt := clsM 9 (top 5)
def s_Page_settled : Stmt := clsM 10 (top 5)
def s_Page_len : Stmt := clsM 12 (top 5)
structure PgT2 (K : PySem.W.Frag) (mg : Str → Option Value) where
  b : PgT K mg
  z_len : mg "len" = none
  z_int : mg "int" = none
  p_now : PropOf K (cPg K) "now" (pAd K "Page" "now") (gAd K "Page" "now")
  fd_now : FuncData
  F_now : FunD K "now" "Page.now" (defArgs s_Page_now) (defBody s_Page_now) (defScope s_Page_now) [] [] (gAd K "Page" "now") fd_now
  b_now : Binds K fd_now ["self"] []
  p_pending : PropOf K (cPg K) "pending" (pAd K "Page" "pending") (gAd K "Page" "pending")
  fd_pending : FuncData
  F_pending : FunD K "pending" "Page.pending" (defArgs s_Page_pending) (defBody s_Page_pending) (defScope s_Page_pending) [] [] (gAd K "Page" "pending") fd_pending
  b_pending : Binds K fd_pending ["self"] []
  p_went_over : PropOf K (cPg K) "went_over" (pAd K "Page" "went_over") (gAd K "Page" "went_over")
  fd_went_over : FuncData
  F_went_over : FunD K "went_over" "Page.went_over" (defArgs s_Page_went_over) (defBody s_Page_went_over) (defScope s_Page_went_over) [] [] (gAd K "Page" "went_over") fd_went_over
  b_went_over : Binds K fd_went_over ["self"] []
  fd_settled : FuncData
  F_settled : FunD K "settled" "Page.settled" (defArgs s_Page_settled) (defBody s_Page_settled) (defScope s_Page_settled) [] [] (mPg K "settled") fd_settled
  m_settled : Meth K (cPg K) "settled" (mPg K "settled")
  b_settled : Binds K fd_settled ["self"] []
  s_len : Spc K (cPg K) "__len__" (mPg K "__len__")
  fd_len : FuncData
  F_len : FunD K "__len__" "Page.__len__" (defArgs s_Page_len) (defBody s_Page_len) (defScope s_Page_len) [] [] (mPg K "__len__") fd_len
  b_len : Binds K fd_len ["self"] []
section
variable {P : Program} {w : World} {K : PySem.W.Frag} {mg : Str → Option Value} {base : Heap}
theorem sc_Page_pending : FnScope ["self"] ["self"] (defScope s_Page_pending) := ⟨rfl, rfl, rfl, by decide +kernel, rfl, by decide +kernel, by decide +kernel⟩
theorem ok_Page_pending (T : PgT2 K mg) : FnOk P w K mg base CX0 1 (gAd K "Page" "pending") T.fd_pending ["self"] (spPgV K rInt Pg.pend) := by
  refine T.F_pending.ok sc_Page_pending (fun vs H Q E h => ?_) (fun cdv A outer s H0 vs Q E hr h => ?_)
  · obtain ⟨G, O, B, v, st, rfl, _⟩ := h
    rfl
  · obtain ⟨G0, O, B, v, st, rfl, S0, hp, res, hm, q⟩ := h
    obtain ⟨a, dx, pl, lo, ad, hva, rfl, hl, hn⟩ := hp
    have hva2 := (V.ref.inj hva).symm
    subst hva2
    refine ⟨_, PSs.nox (pss_one (ps_ret (pe_op op_sub (pe_callB call_lenM (by rfl) T.z_len boot_len (pa_cons (pe_fld (pv 0) rfl) pa_nil)) (pe_callTy call_int1 (by rfl) T.z_int boot_int (pa_cons (pe_cmpR op_isNon (pe_fld (pv 0) rfl) pe_non (nomark _)) pa_nil))))), ?_⟩
    refine gRet ?_
    refine gOp ?_
    refine gCB ?_
    refine gCons' ?_
    refine gFld ?_
    refine gV rfl ?_
    refine ⟨a, _, dx, _, _, rfl, S0.head, T.b.c, T.b.n_loose, pg_loose, ?_⟩
    refine gNil' ?_
    have S1 := Sub.front S0 2 rfl rfl
    refine ⟨lo, _, rfl, .inl (.inl (.inl S1.head)), ?_⟩
    refine gCB ?_
    refine gCons' ?_
    refine gOp ?_
    refine gFld ?_
    refine gV rfl ?_
    refine ⟨a, _, dx, _, _, rfl, S0.head, T.b.c, T.b.n_unknown, pg_unk, ?_⟩
    refine gC ?_
    refine q_isNon (r := rBool) (G := G0) (o := some false) (rO_some (by intro z; cases z) rfl) ?_
    refine gNil' ?_
    refine .inr ⟨_, rfl, ?_⟩
    refine ⟨_, _, rfl, rfl, ?_⟩
    have e : (los ad st.nl).length = st.nl := by simp [los]; omega
    rw [e]
    cases hm
    refine q _ G0 _ (Ext.refl _) S0 ?_
    show V.int ((st.nl : Int) - (if (some false).isNone = true then (1 : Int) else 0)) = V.int (st.nl : Int)
    simp
theorem sc_Page_went_over : FnScope ["self"] ["self"] (defScope s_Page_went_over) := ⟨rfl, rfl, rfl, by decide +kernel, rfl, by decide +kernel, by decide +kernel⟩
theorem ok_Page_went_over (T : PgT2 K mg) : FnOk P w K mg base CX0 1 (gAd K "Page" "went_over") T.fd_went_over ["self"] (spPgV K rBool Pg.went) := by
  refine T.F_went_over.ok sc_Page_went_over (fun vs H Q E h => ?_) (fun cdv A outer s H0 vs Q E hr h => ?_)
  · obtain ⟨G, O, B, v, st, rfl, _⟩ := h
    rfl
  · obtain ⟨G0, O, B, v, st, rfl, S0, hp, res, hm, q⟩ := h
    obtain ⟨a, dx, pl, lo, ad, hva, rfl, hl, hn⟩ := hp
    have hva2 := (V.ref.inj hva).symm
    subst hva2
    refine ⟨_, PSs.nox (pss_one (ps_ret (pe_fld (pv 0) rfl))), ?_⟩
    refine gRet ?_
    refine gFld ?_
    refine gV rfl ?_
    refine ⟨a, _, dx, _, _, rfl, S0.head, T.b.c, T.b.n_unknown, pg_unk, ?_⟩
    cases hm
    exact q _ G0 _ (Ext.refl _) S0 rfl
theorem sc_Page_len : FnScope ["self"] ["self"] (defScope s_Page_len) := ⟨rfl, rfl, rfl, by decide +kernel, rfl, by decide +kernel, by decide +kernel⟩
theorem ok_Page_len (T : PgT2 K mg) : FnOk P w K mg base CX0 1 (mPg K "__len__") T.fd_len ["self"] (spPgV K rInt Pg.cnt) := by
  refine T.F_len.ok sc_Page_len (fun vs H Q E h => ?_) (fun cdv A outer s H0 vs Q E hr h => ?_)
  · obtain ⟨G, O, B, v, st, rfl, _⟩ := h
    rfl
  · obtain ⟨G0, O, B, v, st, rfl, S0, hp, res, hm, q⟩ := h
    obtain ⟨a, dx, pl, lo, ad, hva, rfl, hl, hn⟩ := hp
    have hva2 := (V.ref.inj hva).symm
    subst hva2
    refine ⟨_, PSs.nox (pss_one (ps_ret (pe_callB call_lenM (by rfl) T.z_len boot_len (pa_cons (pe_fld (pv 0) rfl) pa_nil)))), ?_⟩
    refine gRet ?_
    refine gCB ?_
    refine gCons' ?_
    refine gFld ?_
    refine gV rfl ?_
    refine ⟨a, _, dx, _, _, rfl, S0.head, T.b.c, T.b.n_put_lines, pg_put, ?_⟩
    refine gNil' ?_
    have S1 := Sub.front S0 1 rfl rfl
    refine ⟨pl, _, rfl, .inl (.inl (.inl S1.head)), ?_⟩
    unfold Pg.cnt at hm
    split at hm
    · cases hm
      rw [List.length_map, hl]
      exact q _ G0 _ (Ext.refl _) S0 rfl
    · cases hm
theorem sc_Page_settled : FnScope ["self"] ["self"] (defScope s_Page_settled) := ⟨rfl, rfl, rfl, by decide +kernel, rfl, by decide +kernel, by decide +kernel⟩
theorem ok_Page_settled (T : PgT2 K mg) : FnOk P w K mg base CX0 3 (mPg K "settled") T.fd_settled ["self"] (spPgO K Pg.settled) := by
  refine T.F_settled.ok sc_Page_settled (fun vs H Q E h => ?_) (fun cdv A outer s H0 vs Q E hr h => ?_)
  · obtain ⟨G, O, B, v, st, rfl, _⟩ := h
    rfl
  · obtain ⟨G0, O, B, v, st, rfl, S0, hp, res, hm, q⟩ := h
    obtain ⟨fr, hf, hm⟩ := bindS hm
    cases hm
    obtain ⟨dx, fs, hh, hlk⟩ := pg_recv (m := "finish") rfl S0 hp
    refine ⟨_, PSs.nox (pss_one (ps_ret (pe_slice sl_list (pe_meth0 (pv 0) T.b.c T.b.m_finish (ok_Page_finish T.b) (hr.mono (by decide)) T.b.b_finish .nil pass0) po_none
      (po_some (pe_op op_sub (pe_callB call_lenM (by rfl) T.z_len boot_len (pa_cons (pe_fld (pv 0) rfl) pa_nil)) (pe_prop (pv 0) T.b.c T.p_pending (ok_Page_pending T) (hr.mono (by decide)) T.b_pending .nil pass0 rfl)))))), ?_⟩
    refine gRet ?_
    refine gSl ?_
    refine gMeth ?_
    refine gV rfl ?_
    refine ⟨v, dx, fs, rfl, hh, hlk, ?_⟩
    refine gNil' ?_
    refine ⟨G0, O, B, v, st, rfl, S0, hp, fr, hf, fun l w1 G1 H1 e1 S1 h1 => ?_⟩
    refine gNoPart ?_
    refine gPart ?_
    refine gOp ?_
    refine gCB ?_
    refine gCons' ?_
    refine gFld ?_
    refine gV rfl ?_
    have hp0 := hp
    obtain ⟨a, dx2, pl, lo, ad, hva, hB, hl, hn⟩ := hp
    cases hva
    subst hB
    have S2 := Sub.front S1 1 rfl rfl
    refine ⟨v, _, dx2, _, _, rfl, S2.head, T.b.c, T.b.n_put_lines, pg_put, ?_⟩
    refine gNil' ?_
    have S3 := Sub.front S1 2 rfl rfl
    refine ⟨pl, _, rfl, .inl (.inl (.inl S3.head)), ?_⟩
    refine gProp ?_
    refine gV rfl ?_
    refine ⟨v, dx2, _, rfl, S2.head, ?_⟩
    have S4 : Sub G1 (pgB (cPg K) v dx2 pl lo ad st ++ ([(l, HO.lst w1)] ++ O)) H1 := Sub.bFront (E := [(l, HO.lst w1)]) S1
    refine ⟨G1, [(l, HO.lst w1)] ++ O, _, v, st, rfl, S4, hp0, (st.nl : Int), rfl, fun u G2 H2 e2 S5 hu => ?_⟩
    cases (show u = V.int (st.nl : Int) from hu)
    refine ⟨_, _, rfl, rfl, ?_⟩
    refine ⟨_, rfl, ?_⟩
    have S6 : Sub G2 ((l, HO.lst w1) :: (pgB (cPg K) v dx2 pl lo ad st ++ O)) H2 := Sub.bBack (E := [(l, HO.lst w1)]) S5
    refine ⟨l, w1, rfl, .inl (.inl S6.head), fun t ht => ?_⟩
    have S7 := S6.tail
    have hA : Al (rP2 K rBool rInt) G2 (cutV w1 none (some ((((ad.map V.ref).length : Nat) : Int) - (st.nl : Int)))) (cutM fr none (some ((st.es.length : Int) - (st.nl : Int)))) := by
      rw [List.length_map, hl]
      exact (h1.up e2).cut
    exact q t _ G2 _ (e1.trans e2) (S7.newOwn ht) hA
end
end Mr

set_option Elab.async false
set_option linter.all false
set_option maxRecDepth 100000
set_option maxHeartbeats 2000000
namespace Mr
open PySem PySem.Spec PyProof.Rows L2
section
variable {P : Program} {w : World} {K : PySem.W.Frag} {mg : Str → Option Value} {base : Heap}
theorem sc_Page_now : FnScope ["self", "back"] ["self"] (defScope s_Page_now) := ⟨rfl, rfl, rfl, by decide +kernel, rfl, by decide +kernel, by decide +kernel⟩
theorem ok_Page_now (T : Tx K mg) (PT2 : PgT2 K mg) : FnOk P w K mg base CX0 2 (gAd K "Page" "now") PT2.fd_now ["self"] (spPgV K (rP3 K (rEn e_Wd) rInt rInt) Pg.now) := by
  have G_behind := ok_behind (P := P) (w := w) (base := base) T
  refine PT2.F_now.ok sc_Page_now (fun vs H Q E h => ?_) (fun cdv A outer s H0 vs Q E hr h => ?_)
  · obtain ⟨G, O, B, v, st, rfl, _⟩ := h
    rfl
  · obtain ⟨G0, O, B, v, st, rfl, S0, hp, res, hm, q⟩ := h
    obtain ⟨a, dx, pl, lo, ad, hva, rfl, hl, hn⟩ := hp
    have hva2 := (V.ref.inj hva).symm
    subst hva2
    refine ⟨_, PSs.nox (pss_cons (ps_if (pt_cmpR op_eqI (pe_fld (pv 0) rfl) pe_int (nomark _)) (pss_one (ps_ret (pe_glob (v := V.ref (He.ga K "TOP")) (by rfl) T.c_TOP rfl))) pss_nil)
      (pss_cons (ps_set (i := 1) sc_Page_now.nd rfl (.inl rfl) (pe_cut (pe_ifExp (pt_cmpR (op_neD hr.units) (pe_fld (pv 0) rfl) (pe_lst pa_nil) (nomark _)) (pe_op op_sub (pe_fld (pv 0) rfl) (pe_ix ix_list (pe_ix ix_list (pe_fld (pv 0) rfl) pe_int (fun _ _ => rfl)) pe_int (fun _ _ => rfl))) pe_int)))
      (pss_one (ps_ret (pe_call G_behind (hr.mono (by decide)) (by rfl) T.g_behind T.F_behind.kp T.b_behind .nil pass0 (pa_cons (pe_fld (pv 0) rfl) (pa_cons (pe_fld (pv 0) rfl) (pa_cons (pv 1) (pa_cons (pe_fld (pv 0) rfl) pa_nil))))))))), ?_⟩
    refine gS_IfS ?_
    refine gTest ?_
    refine gOp ?_
    refine gFld ?_
    refine gV rfl ?_
    refine ⟨a, _, dx, _, _, rfl, S0.head, PT2.b.c, PT2.b.n_high, pg_high, ?_⟩
    refine gC ?_
    refine ⟨_, _, rfl, rfl, decide (st.high = 0), rfl, ?_⟩
    refine ite2 (fun c1 => ?_) (fun c1 => ?_)
    · have c := of_decide_eq_true c1
      unfold Pg.now at hm
      rw [if_pos c] at hm
      cases hm
      refine gRet ?_
      refine gC ?_
      exact q _ G0 _ (Ext.refl _) S0 (T.v_TOP G0)
    · have c : ¬ st.high = 0 := fun h => c1 (decide_eq_true h)
      unfold Pg.now at hm
      rw [if_neg c] at hm
      obtain ⟨bk, hb, hm⟩ := bindS hm
      refine gNext ?_
      refine gE ?_
      refine gS_AsgN ?_
      refine gCE (fun v H => v = .int bk ∧ Sub G0 (pgB (cPg K) a dx pl lo ad st ++ O) H) ?_ ?_
      · refine gIf ?_
        refine gTest ?_
        refine gOp ?_
        refine gFld ?_
        refine gV rfl ?_
        refine ⟨a, _, dx, _, _, rfl, S0.head, PT2.b.c, PT2.b.n_loose, pg_loose, ?_⟩
        refine gLst ?_
        refine gNil' ?_
        refine ⟨sz0, fun p np => ?_⟩
        have S1 : Sub G0 (pgB (cPg K) a dx pl lo ad st ++ O) (upd H0 p (.lst [])) := S0.junk np
        have S1f := Sub.front S1 2 rfl rfl
        have hlo : upd H0 p (.lst []) lo = some (.lst ((ad.drop (ad.length - st.nl)).map V.ref)) := S1f.head
        refine loose_ne (X := [(a, .ins (cPg K) dx (pgF st.len pl lo st.high st.bar)), (pl, .lst (ad.map V.ref)), (lo, .lst (los ad st.nl))]) S1 hlo upd_same hl ?_
        refine ⟨decide (ad.length - st.nl < ad.length), rfl, ?_⟩
        refine ite2 (fun c2 => ?_) (fun c2 => ?_)
        · have c2' := of_decide_eq_true c2
          have hn0 : st.nl ≠ 0 := by omega
          unfold Pg.back at hb
          rw [if_neg hn0] at hb
          obtain ⟨f, hf, hb⟩ := bindS hb
          cases hb
          have hk : st.es.length - st.nl = ad.length - st.nl := by omega
          rw [hk] at hf
          obtain ⟨a0, ha0⟩ : ∃ a0, ad[ad.length - st.nl]? = some a0 := ⟨ad[ad.length - st.nl], List.getElem?_eq_getElem c2'⟩
          refine gOp ?_
          refine gFld ?_
          refine gV rfl ?_
          refine ⟨a, _, dx, _, _, rfl, S1.head, PT2.b.c, PT2.b.n_high, pg_high, ?_⟩
          refine gOp ?_
          refine gOp ?_
          refine gFld ?_
          refine gV rfl ?_
          refine ⟨a, _, dx, _, _, rfl, S1.head, PT2.b.c, PT2.b.n_loose, pg_loose, ?_⟩
          refine gC ?_
          refine ⟨lo, _, 0, .ref a0, rfl, rfl, .inl (.inl hlo), ?_, ?_⟩
          · show atI ((ad.drop (ad.length - st.nl)).map V.ref) 0 = some (V.ref a0)
            have e : ((ad.drop (ad.length - st.nl)).map V.ref)[0]? = some (V.ref a0) := by
              rw [List.getElem?_map, List.getElem?_drop, Nat.add_zero, ha0]; rfl
            exact atI_nat e
          · refine gC ?_
            have hc : upd H0 p (.lst []) a0 = some (cel f) := rg_read (X := [(a, .ins (cPg K) dx (pgF st.len pl lo st.high st.bar)), (pl, .lst (ad.map V.ref)), (lo, .lst (los ad st.nl))]) S1 ha0 hf
            refine ⟨a0, [.bl f.1, .int f.2], 1, .int f.2, rfl, rfl, .inl (.inl hc), rfl, ?_⟩
            refine ⟨_, _, rfl, rfl, ?_⟩
            exact ⟨rfl, S1⟩
        · have hn0 : st.nl = 0 := by
            have : ¬ (ad.length - st.nl < ad.length) := fun h => c2 (decide_eq_true h)
            omega
          unfold Pg.back at hb
          rw [if_pos hn0] at hb
          cases hb
          refine gC ?_
          exact ⟨rfl, S1⟩
      · rintro v1 H1 ⟨rfl, S1⟩
        refine gRet ?_
        refine gCall ?_
        refine gCons' ?_
        refine gFld ?_
        refine gV rfl ?_
        refine ⟨a, _, dx, _, _, rfl, S1.head, PT2.b.c, PT2.b.n_length, pg_length, ?_⟩
        refine gCons' ?_
        refine gFld ?_
        refine gV rfl ?_
        refine ⟨a, _, dx, _, _, rfl, S1.head, PT2.b.c, PT2.b.n_high, pg_high, ?_⟩
        refine gCons' ?_
        refine gV rfl ?_
        refine gCons' ?_
        refine gFld ?_
        refine gV rfl ?_
        refine ⟨a, _, dx, _, _, rfl, S1.head, PT2.b.c, PT2.b.n_is_barred, pg_bar, ?_⟩
        refine gNil' ?_
        refine ⟨G0, pgB (cPg K) a dx pl lo ad st ++ O, st.len, st.high, bk, st.bar, rfl, S1, res, hm, fun u G2 H2 e2 S2 hu => ?_⟩
        exact q u G2 H2 e2 S2 hu
end
end Mr

set_option Elab.async false
set_option linter.all false
set_option maxRecDepth 100000
set_option maxHeartbeats 4000000
set_option synthInstance.maxSize 4000
set_option synthInstance.maxHeartbeats 400000
namespace Mr
open PySem PySem.Spec PyProof.Rows L2
section
variable {P : Program} {w : World} {K : PySem.W.Frag} {mg : Str → Option Value} {base : Heap}
theorem sc_law_shown : FnScope ["_law_page", "_law_length_here", "_law_blocks", "_law_due", "_law_count", "_law_told"] ["_law_page", "_law_length_here", "_law_blocks"] (defScope s_law_shown) := ⟨rfl, rfl, rfl, by decide +kernel, rfl, by decide +kernel, by decide +kernel⟩
theorem ok_law_shown (T : Tx K mg) (PT : PgT K mg) (PT2 : PgT2 K mg) : FnOk P w K mg base CX0 5 (He.fAd K ("_law_shown", none)) T.fd_law_shown ["_law_page", "_law_length_here", "_law_blocks"] (sp_law_shown K) := by
  have G_law_lines := ok_law_lines (P := P) (w := w) (base := base) T
  have G_law_number := ok_law_number (P := P) (w := w) (base := base) T
  have G_law_pages := ok_law_pages (P := P) (w := w) (base := base) T
  have G_law_pending := ok_law_pending (P := P) (w := w) (base := base) T
  have G_law_rows_right := ok_law_rows_right (P := P) (w := w) (base := base) T
  have G_law_standing := ok_law_standing (P := P) (w := w) (base := base) T
  refine T.F_law_shown.ok sc_law_shown (fun vs H Q E h => ?_) (fun cdv A outer s H0 vs Q E hr h => ?_)
  · obtain ⟨G, O, B1, p1, page1, length_here1, v1, blocks1, rfl, _⟩ := h
    rfl
  · obtain ⟨G0, O, B1, p1, page1, length_here1, v1, blocks1, rfl, S0, h1, h2, res, hm, q⟩ := h
    refine ⟨_, PSs.nox (pss_cons (ps_par (i := 3) (j := 4) (by rfl) sc_law_shown.nd rfl rfl (by decide) rfl rfl (pa_cons (pe_call G_law_pages (hr.mono (by decide)) (by rfl) T.g_law_pages T.F_law_pages.kp T.b_law_pages .nil pass0 (pa_cons (pv 1) (pa_cons (pe_ix ix_tup (pe_call G_law_lines (hr.mono (by decide)) (by rfl) T.g_law_lines T.F_law_lines.kp T.b_law_lines .nil pass0 (pa_cons (pv 2) pa_nil)) pe_int (fun _ _ => rfl)) pa_nil))) (pa_cons (pe_call G_law_pending (hr.mono (by decide)) (by rfl) T.g_law_pending T.F_law_pending.kp T.b_law_pending .nil pass0 (pa_cons (pv 1) (pa_cons (pv 2) pa_nil))) pa_nil)) (by rfl))
      (pss_cons (ps_if (pt_cut (PW.pt (pw_or (pt_cmpR (op_neD hr.units) (pe_prop (pv 0) PT.c PT2.p_now (ok_Page_now T PT2) (hr.mono (by decide)) PT2.b_now .nil pass0 rfl) (pe_call G_law_standing (hr.mono (by decide)) (by rfl) T.g_law_standing T.F_law_standing.kp T.b_law_standing .nil pass0 (pa_cons (pv 1) (pa_cons (pv 2) pa_nil))) (nomark _)) (pw_or (pt_cmpR op_neI (pe_prop (pv 0) PT.c PT2.p_pending (ok_Page_pending PT2) (hr.mono (by decide)) PT2.b_pending .nil pass0 rfl) (pv 4) (nomark _)) (pw_or1 (pt_not (pt_val (pe_call G_law_number (hr.mono (by decide)) (by rfl) T.g_law_number T.F_law_number.kp T.b_law_number .nil pass0 (pa_cons (pe_prop (pv 0) PT.c PT2.p_pending (ok_Page_pending PT2) (hr.mono (by decide)) PT2.b_pending .nil pass0 rfl) pa_nil))))))))) (pss_one (ps_ret pe_bl)) pss_nil)
      (pss_cons (ps_set (i := 5) sc_law_shown.nd rfl (.inl rfl) (pe_meth0 (pv 0) PT.c PT.m_finish (ok_Page_finish PT) (hr.mono (by decide)) PT.b_finish .nil pass0))
      (pss_cons (ps_if (pt_cut (PW.pt (pw_or (pt_not (pt_val (pe_call G_law_rows_right (hr.mono (by decide)) (by rfl) T.g_law_rows_right T.F_law_rows_right.kp T.b_law_rows_right .nil pass0 (pa_cons (pv 5) (pa_cons (pv 3) pa_nil))))) (pw_or1 (pt_not (pt_val (pe_call G_law_rows_right (hr.mono (by decide)) (by rfl) T.g_law_rows_right T.F_law_rows_right.kp T.b_law_rows_right .nil pass0 (pa_cons (pe_meth0 (pv 0) PT.c PT2.m_settled (ok_Page_settled PT2) (hr.mono (by decide)) PT2.b_settled .nil pass0) (pa_cons (pe_slice sl_list (pv 3) po_none (po_some (pe_op op_sub (pe_callB (r := rLenM K) call_lenM (by rfl) T.z_len boot_len (pa_cons (pv 3) pa_nil)) (pv 4)))) pa_nil))))))))) (pss_one (ps_ret pe_bl)) pss_nil)
      (pss_cons (ps_expr (pe_bm PySem.F.plainAttrs_list PySem.F.slot_list_append PySem.F.type_list_append mt_append (pv 5) (pa_cons (pe_tup (pa_cons pe_bl (pa_cons pe_int pa_nil))) pa_nil)))
      (pss_one (ps_ret (pe_cut (pe_and (pe_cmpR op_eqI (pe_callB (cr_lenOwn (ok_Page_len PT2) PT2.s_len (hr.mono (by decide)) PT2.b_len pass0) (by rfl) T.z_len boot_len (pa_cons (pv 0) pa_nil)) (pe_callB (r := rLenM K) call_lenM (by rfl) T.z_len boot_len (pa_cons (pv 3) pa_nil)) (nomark _)) (pe_and (pe_cmpR (op_eqD hr.units) (pe_meth0 (pv 0) PT.c PT.m_finish (ok_Page_finish PT) (hr.mono (by decide)) PT.b_finish .nil pass0) (pv 3) (nomark _)) (pe_one (pe_cmpR op_isBl (pe_prop (pv 0) PT.c PT2.p_went_over (ok_Page_went_over PT2) (hr.mono (by decide)) PT2.b_went_over .nil pass0 rfl) pe_bl (nomark _))))))))))))), ?_⟩
    have E0 := Ext.refl G0
    have hm0 : (Option.bind (m_law_lines blocks1) fun r1 =>
  Option.bind (m_law_pages length_here1 r1.1) fun r2 =>
  Option.bind (m_law_pending length_here1 blocks1) fun r3 =>
  Option.bind (Option.bind (Pg.now page1) fun r4 =>
  Option.bind (m_law_standing length_here1 blocks1) fun r5 =>
  if (!decide (r4 = r5)) then some true else (Option.bind (Pg.pend page1) fun r6 =>
  if (!decide (r6 = r3)) then some true else (Option.bind (Pg.pend page1) fun r9 =>
  Option.bind (m_law_number r9) fun r10 =>
  some (!r10)))) fun x1 =>
  if x1 then (some (false, page1))
  else (Option.bind ((fun st => folM cpE (Pg.es st) []) page1) fun r18 =>
  Option.bind (Option.bind (m_law_rows_right r18 r2) fun r20 =>
  if (!r20) then some true else (Option.bind (Pg.settled page1) fun r23 =>
  Option.bind (m_law_rows_right r23 (cutM r2 none (some ((r2.length : Int) - r3)))) fun r24 =>
  some (!r24))) fun x2 =>
  if x2 then (some (false, page1))
  else (Option.bind (appM r18 (true, (0 : Int))) fun told1 =>
  Option.bind (Option.bind (Pg.cnt page1) fun r31 =>
  if (decide (r31 = (r2.length : Int))) then (Option.bind ((fun st => folM cpE (Pg.es st) []) page1) fun r32 =>
  if (decide (r32 = r2)) then (Option.bind (Pg.went page1) fun r33 =>
  some (decide (r33 = false))) else some false) else some false) fun x3 =>
  some (x3, page1)))) = some res := hm
    refine gS_Par ?_
    refine gCons' ?_
    refine gCall ?_
    refine gCons' ?_
    refine gV rfl ?_
    refine gCons' ?_
    refine gOp ?_
    refine gCall ?_
    refine gCons' ?_
    refine gV rfl ?_
    refine gNil' ?_
    obtain ⟨r1, hq1, hm1⟩ := bindS hm0
    refine ⟨G0, ((B1 ++ O)), v1, blocks1, rfl, S0, h2, r1, hq1, fun v2 G1 H1 e1 S1 h3 => ?_⟩
    have h4 := R.up e1 h2
    have E1 := E0.trans e1
    refine gC ?_
    refine q_p3_0 S1 h3 (fun v3 h5 => ?_)
    refine gNil' ?_
    obtain ⟨r2, hq2, hm2⟩ := bindS hm1
    refine ⟨G1, ((B1 ++ O)), length_here1, v3, r1.1, rfl, S1, h5, r2, hq2, fun v4 G2 H2 e2 S2 h6 => ?_⟩
    have h7 := R.up e2 h4
    have E2 := E1.trans e2
    refine gCons' ?_
    refine gCall ?_
    refine gCons' ?_
    refine gV rfl ?_
    refine gCons' ?_
    refine gV rfl ?_
    refine gNil' ?_
    obtain ⟨r3, hq3, hm3⟩ := bindS hm2
    refine ⟨G2, ((B1 ++ O)), length_here1, v1, blocks1, rfl, S2, h7, r3, hq3, fun G3 H3 e3 S3 => ?_⟩
    have h8 := R.up e3 h7
    have h9 := R.up e3 h6
    have E3 := E2.trans e3
    refine gNil' ?_
    refine ⟨_, _, rfl, ?_⟩
    refine gS_IfS ?_
    obtain ⟨x1, hq11, hm11⟩ := bindS hm3
    refine gCT (fun (b : Bool) (H : Hp) => ∃ (G : Hp), Ext G3 G ∧ Sub G ((B1 ++ O)) H ∧ b = x1) ?_ ?_
    · skip
      refine gOr ?_
      refine gTest ?_
      refine gOp ?_
      refine gProp ?_
      refine gV rfl ?_
      obtain ⟨d5, f5, hh5, hl5⟩ := pg_recv (m := "now") rfl (Sub.bFront (E := ([] : Own)) (B := B1) (O := O) S3) h1
      refine ⟨p1, d5, f5, rfl, hh5, ?_⟩
      obtain ⟨r11, hq12, hm12⟩ := bindS hq11
      refine ⟨G3, ([] : Own) ++ O, B1, p1, page1, rfl, (Sub.bFront (E := ([] : Own)) (B := B1) (O := O) S3), h1, r11, hq12, fun v10 G11 H11 e11 S15 h30 => ?_⟩
      have h31 := R.up e11 h8
      have h32 := R.up e11 h9
      have E11 := E3.trans e11
      have S16 : Sub G11 ((B1 ++ O)) H11 := Sub.bBack (E := ([] : Own)) (B := B1) (O := O) S15
      refine gCall ?_
      refine gCons' ?_
      refine gV rfl ?_
      refine gCons' ?_
      refine gV rfl ?_
      refine gNil' ?_
      obtain ⟨r12, hq13, hm13⟩ := bindS hm12
      refine ⟨G11, ((B1 ++ O)), length_here1, v1, blocks1, rfl, S16, h31, r12, hq13, fun v11 G12 H12 e12 S17 h33 => ?_⟩
      have h34 := R.up e12 h31
      have h35 := R.up e12 h32
      have h36 := R.up e12 h30
      have E12 := E11.trans e12
      refine q_neD (dP3 (dEn (K := K) e_Wd e_Wd_inj e_Wd_ok) (dInt (K := K)) (dInt (K := K))) (by show 4 ≤ 64; decide) (R.up S17.ext h36) (R.up S17.ext h33) ((okP3 okEn okI okI) _) ((okP3 okEn okI okI) _) ?_
      refine ⟨(!decide (r11 = r12)), rfl, ?_⟩
      refine ite2 (fun c1 => ?_) (fun c1 => ?_)
      · skip
        have hm14 := (if_pos c1).symm.trans hm13
        cases hm14
        exact ⟨G12, (e11.trans e12), S17, rfl⟩
      · skip
        have hm15 := (if_neg c1).symm.trans hm13
        refine gOr ?_
        refine gTest ?_
        refine gOp ?_
        refine gProp ?_
        refine gV rfl ?_
        obtain ⟨d6, f6, hh6, hl6⟩ := pg_recv (m := "pending") rfl (Sub.bFront (E := ([] : Own)) (B := B1) (O := O) S17) h1
        refine ⟨p1, d6, f6, rfl, hh6, ?_⟩
        obtain ⟨r13, hq14, hm16⟩ := bindS hm15
        refine ⟨G12, ([] : Own) ++ O, B1, p1, page1, rfl, (Sub.bFront (E := ([] : Own)) (B := B1) (O := O) S17), h1, r13, hq14, fun v12 G13 H13 e13 S18 h37 => ?_⟩
        have h38 := R.up e13 h34
        have h39 := R.up e13 h35
        have E13 := E12.trans e13
        have S19 : Sub G13 ((B1 ++ O)) H13 := Sub.bBack (E := ([] : Own)) (B := B1) (O := O) S18
        obtain rfl := (show v12 = (V.int r13) from h37)
        refine gV rfl ?_
        refine ⟨_, _, rfl, rfl, ?_⟩
        refine ⟨(!decide (r13 = r3)), rfl, ?_⟩
        refine ite2 (fun c2 => ?_) (fun c2 => ?_)
        · skip
          have hm17 := (if_pos c2).symm.trans hm16
          cases hm17
          exact ⟨G13, ((e11.trans e12).trans e13), S19, rfl⟩
        · skip
          have hm18 := (if_neg c2).symm.trans hm16
          refine gNot ?_
          refine gB ?_
          refine gCall ?_
          refine gCons' ?_
          refine gProp ?_
          refine gV rfl ?_
          obtain ⟨d8, f8, hh8, hl8⟩ := pg_recv (m := "pending") rfl (Sub.bFront (E := ([] : Own)) (B := B1) (O := O) S19) h1
          refine ⟨p1, d8, f8, rfl, hh8, ?_⟩
          obtain ⟨r16, hq17, hm21⟩ := bindS hm18
          refine ⟨G13, ([] : Own) ++ O, B1, p1, page1, rfl, (Sub.bFront (E := ([] : Own)) (B := B1) (O := O) S19), h1, r16, hq17, fun v14 G16 H16 e16 S23 h45 => ?_⟩
          have h46 := R.up e16 h38
          have h47 := R.up e16 h39
          have E16 := E13.trans e16
          have S24 : Sub G16 ((B1 ++ O)) H16 := Sub.bBack (E := ([] : Own)) (B := B1) (O := O) S23
          obtain rfl := (show v14 = (V.int r16) from h45)
          refine gNil' ?_
          obtain ⟨r17, hq18, hm22⟩ := bindS hm21
          refine ⟨G16, ((B1 ++ O)), r16, rfl, S24, r17, hq18, fun G17 H17 e17 S25 => ?_⟩
          have h48 := R.up e17 h46
          have h49 := R.up e17 h47
          have E17 := E16.trans e17
          refine ⟨r17, rfl, ?_⟩
          cases hm22
          exact ⟨G17, ((((e11.trans e12).trans e13).trans e16).trans e17), S25, rfl⟩
    · intro b1 H18 hJ
      obtain ⟨G18, e18, S26, rfl⟩ := hJ
      have h50 := R.up e18 h8
      have h51 := R.up e18 h9
      have E18 := E3.trans e18
      refine ite2 (fun c3 => ?_) (fun c3 => ?_)
      · skip
        have hm23 := (if_pos c3).symm.trans hm11
        refine gRet ?_
        refine gC ?_
        cases hm23
        exact q G18 H18 B1 E18 S26 h1
      · skip
        have hm24 := (if_neg c3).symm.trans hm11
        refine gNext ?_
        refine gE ?_
        refine gS_AsgN ?_
        refine gMeth ?_
        refine gV rfl ?_
        obtain ⟨d9, f9, hh9, hl9⟩ := pg_recv (m := "finish") rfl (Sub.bFront (E := ([] : Own)) (B := B1) (O := O) S26) h1
        refine ⟨p1, d9, f9, rfl, hh9, hl9, ?_⟩
        refine gNil' ?_
        obtain ⟨r18, hq19, hm25⟩ := bindS hm24
        refine ⟨G18, ([] : Own) ++ O, B1, p1, page1, rfl, (Sub.bFront (E := ([] : Own)) (B := B1) (O := O) S26), h1, r18, hq19, fun a1 w1 G19 H19 e19 S27 h52 => ?_⟩
        have h53 := R.up e19 h50
        have h54 := R.up e19 h51
        have E19 := E18.trans e19
        have S28 : Sub G19 ((a1, HO.lst w1) :: (B1 ++ O)) H19 := Sub.bBack (E := ((a1, HO.lst w1) :: ([] : Own))) (B := B1) (O := O) (Sub.bSwap S27)
        refine gS_IfS ?_
        obtain ⟨x2, hq26, hm32⟩ := bindS hm25
        refine gCT (fun (b : Bool) (H : Hp) => ∃ (G : Hp), Ext G19 G ∧ Sub G ((a1, HO.lst w1) :: (B1 ++ O)) H ∧ b = x2) ?_ ?_
        · skip
          refine gOr ?_
          refine gNot ?_
          refine gB ?_
          refine gCall ?_
          refine gCons' ?_
          refine gV rfl ?_
          refine gCons' ?_
          refine gV rfl ?_
          refine gNil' ?_
          have e34 : Ext G19 (upd G19 a1 (HO.lst w1)) := Sub.extFrz S28
          have S48 : Sub (upd G19 a1 (HO.lst w1)) ((B1 ++ O)) H19 := Sub.frz S28
          obtain ⟨r26, hq28, hm34⟩ := bindS hq26
          refine ⟨(upd G19 a1 (HO.lst w1)), ((B1 ++ O)), (V.ref a1), r18, v4, r2, rfl, S48, (rM_lent S28 h52), (R.up e34 h54), r26, hq28, fun G31 H29 e35 S49 => ?_⟩
          have S50 : Sub G19 ((a1, HO.lst w1) :: (B1 ++ O)) H29 := Sub.thaw S28 e35 S49
          refine ⟨r26, rfl, ?_⟩
          refine ite2 (fun c4 => ?_) (fun c4 => ?_)
          · skip
            have hm35 := (if_pos c4).symm.trans hm34
            cases hm35
            exact ⟨G19, (Ext.refl _), S50, rfl⟩
          · skip
            have hm36 := (if_neg c4).symm.trans hm34
            refine gNot ?_
            refine gB ?_
            refine gCall ?_
            refine gCons' ?_
            refine gMeth ?_
            refine gV rfl ?_
            obtain ⟨d13, f13, hh13, hl13⟩ := pg_recv (m := "settled") rfl (Sub.bFront (E := ((a1, HO.lst w1) :: [] : Own)) (B := B1) (O := O) S50) h1
            refine ⟨p1, d13, f13, rfl, hh13, hl13, ?_⟩
            refine gNil' ?_
            obtain ⟨r29, hq31, hm39⟩ := bindS hm36
            refine ⟨G19, ((a1, HO.lst w1) :: [] : Own) ++ O, B1, p1, page1, rfl, (Sub.bFront (E := ((a1, HO.lst w1) :: [] : Own)) (B := B1) (O := O) S50), h1, r29, hq31, fun a5 w5 G36 H33 e40 S56 h106 => ?_⟩
            have h107 := R.up e40 h53
            have h108 := R.up e40 h54
            have h109 := Al.up e40 h52
            have E32 := E19.trans e40
            have S57 : Sub G36 ((a5, HO.lst w5) :: (a1, HO.lst w1) :: (B1 ++ O)) H33 := Sub.bBack (E := ((a5, HO.lst w5) :: ((a1, HO.lst w1) :: [] : Own))) (B := B1) (O := O) (Sub.bSwap S56)
            refine gCons' ?_
            refine gSl ?_
            refine gV rfl ?_
            refine gNoPart ?_
            refine gPart ?_
            refine gOp ?_
            refine gCB ?_
            refine gCons' ?_
            refine gV rfl ?_
            refine gNil' ?_
            refine q_lenL (y := V.non) S57 (rM_L (K := K) h108) ?_
            refine gV rfl ?_
            refine ⟨_, _, rfl, rfl, ?_⟩
            refine ⟨_, rfl, ?_⟩
            refine q_slM S57 (rM_L (K := K) h108) (fun v18 G37 H34 e41 S58 h110 => ?_)
            have h111 := R.up e41 h107
            have h112 := R.up e41 h108
            have h113 := Al.up e41 h109
            have h114 := Al.up e41 h106
            have E33 := E32.trans e41
            refine gNil' ?_
            obtain ⟨G38, e42, S59, h115⟩ := frz_M S58 h114
            have h116 := R.up e42 h111
            have h117 := R.up e42 h112
            have h118 := Al.up e42 h113
            have h119 := R.up e42 h110
            have E34 := E33.trans e42
            obtain ⟨r30, hq32, hm40⟩ := bindS hm39
            refine ⟨G38, ((a1, HO.lst w1) :: (B1 ++ O)), (V.ref a5), r29, v18, (cutM r2 none (some ((r2.length : Int) - r3))), rfl, S59, h115, h119, r30, hq32, fun G39 H35 e43 S60 => ?_⟩
            have h120 := R.up e43 h116
            have h121 := R.up e43 h117
            have h122 := Al.up e43 h118
            have E35 := E34.trans e43
            refine ⟨r30, rfl, ?_⟩
            cases hm40
            exact ⟨G39, (((e40.trans e41).trans e42).trans e43), S60, rfl⟩
        · intro b2 H36 hJ
          obtain ⟨G40, e44, S61, rfl⟩ := hJ
          have h123 := R.up e44 h53
          have h124 := R.up e44 h54
          have h125 := Al.up e44 h52
          have E36 := E19.trans e44
          refine ite2 (fun c5 => ?_) (fun c5 => ?_)
          · skip
            have hm41 := (if_pos c5).symm.trans hm32
            refine gRet ?_
            refine gC ?_
            have S62 := S61.tail
            cases hm41
            exact q G40 H36 B1 E36 S62 h1
          · skip
            have hm42 := (if_neg c5).symm.trans hm32
            refine gNext ?_
            refine gE ?_
            refine gS_Drop ?_
            refine gBM ?_
            refine gV rfl ?_
            refine ⟨.inl ⟨rfl, _, .inl (.inl S61.head)⟩, ?_⟩
            refine gCons' ?_
            refine gTup' ?_
            refine gCons' ?_
            refine gC ?_
            refine gCons' ?_
            refine gC ?_
            refine gNil' ?_
            refine q_tup2 (K := K) S61 (show R.rel rBool G40 (V.bl true) true from rfl) (show R.rel rInt G40 (V.int (0 : Int)) (0 : Int) from rfl) (fun v19 G41 H37 e45 S63 h126 => ?_)
            have h127 := R.up e45 h123
            have h128 := R.up e45 h124
            have h129 := Al.up e45 h125
            have E37 := E36.trans e45
            refine gNil' ?_
            obtain ⟨told1, hq33, hm43⟩ := bindS hm42
            refine q_app S63 h129 (show R.rel (rP2 K rBool rInt) G41 v19 (true, (0 : Int)) from h126) hq33 (fun H38 w6 S64 h130 => ?_)
            refine gRet ?_
            obtain ⟨x3, hq37, hm47⟩ := bindS hm43
            refine gCE (fun (b : V) (H : Hp) => ∃ (G : Hp), Ext G41 G ∧ Sub G ((a1, HO.lst w6) :: (B1 ++ O)) H ∧ b = V.bl x3) ?_ ?_
            · skip
              refine gAndV ?_
              refine gOp ?_
              refine gCB ?_
              refine gCons' ?_
              refine gV rfl ?_
              refine gNil' ?_
              obtain ⟨d17, f17, hh17, hl17⟩ := pg_recv (m := "__len__") rfl (Sub.bFront (E := ((a1, HO.lst w6) :: [] : Own)) (B := B1) (O := O) S64) h1
              refine ⟨p1, d17, f17, rfl, hh17, ?_⟩
              obtain ⟨r34, hq38, hm48⟩ := bindS hq37
              refine ⟨G41, ((a1, HO.lst w6) :: [] : Own) ++ O, B1, p1, page1, rfl, (Sub.bFront (E := ((a1, HO.lst w6) :: [] : Own)) (B := B1) (O := O) S64), h1, r34, hq38, fun v22 G45 H42 e49 S71 h144 => ?_⟩
              have h145 := R.up e49 h127
              have h146 := R.up e49 h128
              have h147 := Al.up e49 h130
              have E41 := E37.trans e49
              have S72 : Sub G45 ((a1, HO.lst w6) :: (B1 ++ O)) H42 := Sub.bBack (E := ((a1, HO.lst w6) :: [] : Own)) (B := B1) (O := O) S71
              obtain rfl := (show v22 = (V.int r34) from h144)
              refine pg_cntQ hq38 ?_
              refine gCB ?_
              refine gCons' ?_
              refine gV rfl ?_
              refine gNil' ?_
              refine q_lenL (y := V.non) S72 (rM_L (K := K) h146) ?_
              refine ⟨_, _, rfl, rfl, ?_⟩
              refine ⟨(decide (r34 = (r2.length : Int))), rfl, ?_⟩
              refine ite2 (fun c6 => ?_) (fun c6 => ?_)
              · skip
                have hm49 := (if_pos c6).symm.trans hm48
                refine gAndV ?_
                refine gOp ?_
                refine gMeth ?_
                refine gV rfl ?_
                obtain ⟨d18, f18, hh18, hl18⟩ := pg_recv (m := "finish") rfl (Sub.bFront (E := ((a1, HO.lst w6) :: [] : Own)) (B := B1) (O := O) S72) h1
                refine ⟨p1, d18, f18, rfl, hh18, hl18, ?_⟩
                refine gNil' ?_
                obtain ⟨r35, hq39, hm50⟩ := bindS hm49
                refine ⟨G45, ((a1, HO.lst w6) :: [] : Own) ++ O, B1, p1, page1, rfl, (Sub.bFront (E := ((a1, HO.lst w6) :: [] : Own)) (B := B1) (O := O) S72), h1, r35, hq39, fun a7 w8 G46 H43 e50 S73 h148 => ?_⟩
                have h149 := R.up e50 h145
                have h150 := R.up e50 h146
                have h151 := Al.up e50 h147
                have E42 := E41.trans e50
                have S74 : Sub G46 ((a7, HO.lst w8) :: (a1, HO.lst w6) :: (B1 ++ O)) H43 := Sub.bBack (E := ((a7, HO.lst w8) :: ((a1, HO.lst w6) :: [] : Own))) (B := B1) (O := O) (Sub.bSwap S73)
                refine gV rfl ?_
                have h152 := rM_own S74 h148
                refine q_eqD (dM (dP2 (dBool (K := K)) (dInt (K := K)))) (by show 4 ≤ 64; decide) h152 (R.up S74.ext h150) ((okM (okP2 okB okI)) _) ((okM (okP2 okB okI)) _) ?_
                refine ⟨(decide (r35 = r2)), rfl, ?_⟩
                refine ite2 (fun c7 => ?_) (fun c7 => ?_)
                · skip
                  have hm51 := (if_pos c7).symm.trans hm50
                  refine gOp ?_
                  refine gProp ?_
                  refine gV rfl ?_
                  obtain ⟨d19, f19, hh19, hl19⟩ := pg_recv (m := "went_over") rfl (Sub.bFront (E := ((a7, HO.lst w8) :: (a1, HO.lst w6) :: [] : Own)) (B := B1) (O := O) S74) h1
                  refine ⟨p1, d19, f19, rfl, hh19, ?_⟩
                  obtain ⟨r36, hq40, hm52⟩ := bindS hm51
                  refine ⟨G46, ((a7, HO.lst w8) :: (a1, HO.lst w6) :: [] : Own) ++ O, B1, p1, page1, rfl, (Sub.bFront (E := ((a7, HO.lst w8) :: (a1, HO.lst w6) :: [] : Own)) (B := B1) (O := O) S74), h1, r36, hq40, fun v23 G47 H44 e51 S75 h153 => ?_⟩
                  have h154 := R.up e51 h149
                  have h155 := R.up e51 h150
                  have h156 := Al.up e51 h151
                  have E43 := E42.trans e51
                  have S76 : Sub G47 ((a7, HO.lst w8) :: (a1, HO.lst w6) :: (B1 ++ O)) H44 := Sub.bBack (E := ((a7, HO.lst w8) :: (a1, HO.lst w6) :: [] : Own)) (B := B1) (O := O) S75
                  obtain rfl := (show v23 = (V.bl r36) from h153)
                  refine gC ?_
                  refine ⟨_, _, rfl, rfl, ?_⟩
                  have S77 := S76.tail
                  cases hm52
                  exact ⟨G47, ((e49.trans e50).trans e51), S77, rfl⟩
                · skip
                  have hm53 := (if_neg c7).symm.trans hm50
                  have S78 := S74.tail
                  cases hm53
                  exact ⟨G46, (e49.trans e50), S78, rfl⟩
              · skip
                have hm54 := (if_neg c6).symm.trans hm48
                cases hm54
                exact ⟨G45, e49, S72, rfl⟩
            · intro b3 H45 hJ
              obtain ⟨G48, e52, S79, rfl⟩ := hJ
              have h157 := R.up e52 h127
              have h158 := R.up e52 h128
              have h159 := Al.up e52 h130
              have E44 := E37.trans e52
              have S80 := S79.tail
              cases hm47
              exact q G48 H45 B1 E44 S80 h1
end
end Mr

set_option Elab.async false
set_option linter.all false
set_option maxRecDepth 100000
set_option maxHeartbeats 4000000
set_option synthInstance.maxSize 4000
set_option synthInstance.maxHeartbeats 400000
namespace Mr
open PySem PySem.Spec PyProof.Rows L2
section
variable {P : Program} {w : World} {K : PySem.W.Frag} {mg : Str → Option Value} {base : Heap}
theorem sc_law_set : FnScope ["_law_page", "_law_block_here", "_law_apart", "_law_count", "_law_space", "_law_kept", "_law_is_new"] ["_law_page", "_law_block_here", "_law_apart"] (defScope s_law_set) := ⟨rfl, rfl, rfl, by decide +kernel, rfl, by decide +kernel, by decide +kernel⟩
theorem ok_law_set (T : Tx K mg) (PT : PgT K mg) : FnOk P w K mg base CX0 5 (He.fAd K ("_law_set", none)) T.fd_law_set ["_law_page", "_law_block_here", "_law_apart"] (sp_law_set K) := by
  obtain ⟨ds_block, vd_block, bd_block⟩ := bds_block PT
  refine T.F_law_set.ok sc_law_set (fun vs H Q E h => ?_) (fun cdv A outer s H0 vs Q E hr h => ?_)
  · obtain ⟨G, O, B1, p1, page1, v1, block_here1, apart1, rfl, _⟩ := h
    rfl
  · obtain ⟨G0, O, B1, p1, page1, v1, block_here1, apart1, rfl, S0, h1, h2, res, hm, q⟩ := h
    refine ⟨_, PSs.nox (pss_cons (ps_asg (pv 1) (pg_tup rfl (pgs_cons (pg_name (i := 3) sc_law_set.nd rfl (.inl rfl)) (pgs_cons (pg_name (i := 4) sc_law_set.nd rfl (.inl rfl)) (pgs_cons (pg_name (i := 5) sc_law_set.nd rfl (.inl rfl)) (pgs_cons (pg_name (i := 6) sc_law_set.nd rfl (.inl rfl)) pgs_nil))))))
      (pss_cons (ps_if (pt_cut (PW.pt (pw_and (pt_val (pv 6)) (pw_and1 (pt_val (pv 2)))))) (pss_cons (ps_if (pt_cmpR op_isNotNon (pe_meth0 (pv 0) PT.c PT.m_begin (ok_Page_begin PT) (hr.mono (by decide)) PT.b_begin .nil pass0) pe_non (nomark _)) (pss_one (ps_ret pe_bl)) pss_nil)
      (pss_one (ps_set (i := 6) sc_law_set.nd rfl (.inl rfl) pe_bl))) pss_nil)
      (pss_cons (ps_if (pt_cut (PW.pt (pw_and (pt_cmpR op_eqI (pv 4) pe_int (nomark _)) (pw_and (pt_not (pt_val (pv 5))) (pw_and1 (pt_not (pt_val (pv 6)))))))) (pss_one (ps_ret (pe_cmpR op_isNon (pe_meth (pv 0) PT.c PT.m_block (ok_Page_block PT) (hr.mono (by decide)) bd_block vd_block pass0 (pa_cons (pv 3) pa_nil)) pe_non (nomark _)))) pss_nil)
      (pss_one (ps_ret (pe_cmpR op_isNon (pe_methN (pv 0) PT.c PT.m_block (ok_Page_block PT) (hr.mono (by decide)) (kb_block PT) pass0 (pa_cons (pv 3) pa_nil) (pk_cons (pv 4) (pk_cons (pv 5) (pk_cons (pv 6) pk_nil)))) pe_non (nomark _))))))), ?_⟩
    have E0 := Ext.refl G0
    have hm0 : (if (block_here1.2.2.2 && apart1) then (if false then (some (false, (Pg.begin page1)))
  else (if ((decide (block_here1.2.1 = (0 : Int))) && ((!block_here1.2.2.1) && (!false))) then (Option.bind (Pg.block (Pg.begin page1) block_here1.1 (0 : Int) false false) fun pg1 =>
  some (true, pg1))
  else (Option.bind (Pg.block (Pg.begin page1) block_here1.1 block_here1.2.1 block_here1.2.2.1 false) fun pg2 =>
  some (true, pg2))))
  else (if ((decide (block_here1.2.1 = (0 : Int))) && ((!block_here1.2.2.1) && (!block_here1.2.2.2))) then (Option.bind (Pg.block page1 block_here1.1 (0 : Int) false false) fun pg3 =>
  some (true, pg3))
  else (Option.bind (Pg.block page1 block_here1.1 block_here1.2.1 block_here1.2.2.1 block_here1.2.2.2) fun pg4 =>
  some (true, pg4)))) = some res := hm
    refine gS_Asg ?_
    refine gV rfl ?_
    refine q_gt4 S0 h2 (fun v2 v3 v4 v5 h3 h4 h5 h6 => ?_)
    obtain rfl := (show v2 = (V.int block_here1.1) from h3)
    obtain rfl := (show v3 = (V.int block_here1.2.1) from h4)
    obtain rfl := (show v4 = (V.bl block_here1.2.2.1) from h5)
    obtain rfl := (show v5 = (V.bl block_here1.2.2.2) from h6)
    refine gS_IfS ?_
    refine gCT (fun (b : Bool) (H : Hp) => ∃ (G : Hp), Ext G0 G ∧ Sub G ((B1 ++ O)) H ∧ b = (block_here1.2.2.2 && apart1)) ?_ ?_
    · skip
      refine gAnd ?_
      refine gB ?_
      refine gV rfl ?_
      refine ⟨block_here1.2.2.2, rfl, ?_⟩
      refine ite2 (fun c1 => ?_) (fun c1 => ?_)
      · skip
        refine gB ?_
        refine gV rfl ?_
        refine ⟨apart1, rfl, ?_⟩
        exact ⟨G0, (Ext.refl _), S0, (by rw [c1, Bool.true_and])⟩
      · skip
        exact ⟨G0, (Ext.refl _), S0, (by rw [ne_false c1, Bool.false_and])⟩
    · intro b1 H1 hJ
      obtain ⟨G1, e1, S1, rfl⟩ := hJ
      have h7 := R.up e1 h2
      have E1 := E0.trans e1
      refine ite2 (fun c2 => ?_) (fun c2 => ?_)
      · skip
        have hm1 := (if_pos c2).symm.trans hm0
        refine gS_IfS ?_
        refine gTest ?_
        refine gOp ?_
        refine gMeth ?_
        refine gV rfl ?_
        obtain ⟨d1, f1, hh1, hl1⟩ := pg_recv (m := "begin") rfl (Sub.bFront (E := ([] : Own)) (B := B1) (O := O) S1) h1
        refine ⟨p1, d1, f1, rfl, hh1, hl1, ?_⟩
        refine gNil' ?_
        refine ⟨G1, ([] : Own) ++ O, B1, (V.ref p1), page1, rfl, (Sub.bFront (E := ([] : Own)) (B := B1) (O := O) S1), h1, fun G2 H2 B2 e2 S2 h8 => ?_⟩
        have h9 := R.up e2 h7
        have E2 := E1.trans e2
        have S3 : Sub G2 ((B2 ++ O)) H2 := Sub.bBack (E := ([] : Own)) (B := B2) (O := O) S2
        refine gC ?_
        refine q_isNotNon (r := rBool) (G := G2) (o := none) rO_none ?_
        refine ⟨false, rfl, ?_⟩
        refine ite2 (fun c3 => ?_) (fun c3 => ?_)
        · skip
          have hm2 := (if_pos c3).symm.trans hm1
          refine gRet ?_
          refine gC ?_
          cases hm2
          exact q G2 H2 B2 E2 S3 h8
        · skip
          have hm3 := (if_neg c3).symm.trans hm1
          refine gNext ?_
          refine gE ?_
          refine gAsgN ?_
          refine gC ?_
          refine gE ?_
          refine gS_IfS ?_
          refine gCT (fun (b : Bool) (H : Hp) => ∃ (G : Hp), Ext G2 G ∧ Sub G ((B2 ++ O)) H ∧ b = ((decide (block_here1.2.1 = (0 : Int))) && ((!block_here1.2.2.1) && (!false)))) ?_ ?_
          · skip
            refine gAnd ?_
            refine gTest ?_
            refine gOp ?_
            refine gV rfl ?_
            refine gC ?_
            refine ⟨_, _, rfl, rfl, ?_⟩
            refine ⟨(decide (block_here1.2.1 = (0 : Int))), rfl, ?_⟩
            refine ite2 (fun c4 => ?_) (fun c4 => ?_)
            · skip
              refine gAnd ?_
              refine gNot ?_
              refine gB ?_
              refine gV rfl ?_
              refine ⟨block_here1.2.2.1, rfl, ?_⟩
              refine ite2 (fun c5 => ?_) (fun c5 => ?_)
              · skip
                refine gNot ?_
                refine gB ?_
                refine gV rfl ?_
                refine ⟨false, rfl, ?_⟩
                exact ⟨G2, (Ext.refl _), S3, (by rw [c4, Bool.true_and, c5, Bool.true_and])⟩
              · skip
                exact ⟨G2, (Ext.refl _), S3, (by rw [c4, Bool.true_and, ne_false c5, Bool.false_and])⟩
            · skip
              exact ⟨G2, (Ext.refl _), S3, (by rw [ne_false c4, Bool.false_and])⟩
          · intro b2 H3 hJ
            obtain ⟨G3, e3, S4, rfl⟩ := hJ
            have h10 := R.up e3 h9
            have E3 := E2.trans e3
            refine ite2 (fun c6 => ?_) (fun c6 => ?_)
            · skip
              have hm4 := (if_pos c6).symm.trans hm3
              refine gRet ?_
              refine gOp ?_
              refine gMeth ?_
              refine gV rfl ?_
              obtain ⟨d2, f2, hh2, hl2⟩ := pg_recv (m := "block") rfl (Sub.bFront (E := ([] : Own)) (B := B2) (O := O) S4) h8
              refine ⟨p1, d2, f2, rfl, hh2, hl2, ?_⟩
              refine gCons' ?_
              refine gV rfl ?_
              refine gNil' ?_
              obtain ⟨pg1, hq1, hm5⟩ := bindS hm4
              refine ⟨G3, ([] : Own) ++ O, B2, (V.ref p1), block_here1.1, (0 : Int), false, false, (Pg.begin page1), rfl, (Sub.bFront (E := ([] : Own)) (B := B2) (O := O) S4), h8, pg1, hq1, fun G4 H4 B3 e4 S5 h11 => ?_⟩
              have h12 := R.up e4 h10
              have E4 := E3.trans e4
              have S6 : Sub G4 ((B3 ++ O)) H4 := Sub.bBack (E := ([] : Own)) (B := B3) (O := O) S5
              refine gC ?_
              refine q_isNon (r := rBool) (G := G4) (o := none) rO_none ?_
              cases hm5
              exact q G4 H4 B3 E4 S6 h11
            · skip
              have hm6 := (if_neg c6).symm.trans hm3
              refine gNext ?_
              refine gE ?_
              refine gRet ?_
              refine gOp ?_
              refine gMethN ?_
              refine gV rfl ?_
              obtain ⟨d3, f3, hh3, hl3⟩ := pg_recv (m := "block") rfl (Sub.bFront (E := ([] : Own)) (B := B2) (O := O) S4) h8
              refine ⟨p1, d3, f3, rfl, hh3, hl3, ?_⟩
              refine gCons' ?_
              refine gV rfl ?_
              refine gNil' ?_
              refine gCons' ?_
              refine gV rfl ?_
              refine gCons' ?_
              refine gV rfl ?_
              refine gCons' ?_
              refine gV rfl ?_
              refine gNil' ?_
              refine ⟨rfl, rfl, ?_⟩
              obtain ⟨pg2, hq2, hm7⟩ := bindS hm6
              refine ⟨G3, ([] : Own) ++ O, B2, (V.ref p1), block_here1.1, block_here1.2.1, block_here1.2.2.1, false, (Pg.begin page1), rfl, (Sub.bFront (E := ([] : Own)) (B := B2) (O := O) S4), h8, pg2, hq2, fun G5 H5 B4 e5 S7 h13 => ?_⟩
              have h14 := R.up e5 h10
              have E5 := E3.trans e5
              have S8 : Sub G5 ((B4 ++ O)) H5 := Sub.bBack (E := ([] : Own)) (B := B4) (O := O) S7
              refine gC ?_
              refine q_isNon (r := rBool) (G := G5) (o := none) rO_none ?_
              cases hm7
              exact q G5 H5 B4 E5 S8 h13
      · skip
        have hm8 := (if_neg c2).symm.trans hm0
        refine gNext ?_
        refine gE ?_
        refine gS_IfS ?_
        refine gCT (fun (b : Bool) (H : Hp) => ∃ (G : Hp), Ext G1 G ∧ Sub G ((B1 ++ O)) H ∧ b = ((decide (block_here1.2.1 = (0 : Int))) && ((!block_here1.2.2.1) && (!block_here1.2.2.2)))) ?_ ?_
        · skip
          refine gAnd ?_
          refine gTest ?_
          refine gOp ?_
          refine gV rfl ?_
          refine gC ?_
          refine ⟨_, _, rfl, rfl, ?_⟩
          refine ⟨(decide (block_here1.2.1 = (0 : Int))), rfl, ?_⟩
          refine ite2 (fun c7 => ?_) (fun c7 => ?_)
          · skip
            refine gAnd ?_
            refine gNot ?_
            refine gB ?_
            refine gV rfl ?_
            refine ⟨block_here1.2.2.1, rfl, ?_⟩
            refine ite2 (fun c8 => ?_) (fun c8 => ?_)
            · skip
              refine gNot ?_
              refine gB ?_
              refine gV rfl ?_
              refine ⟨block_here1.2.2.2, rfl, ?_⟩
              exact ⟨G1, (Ext.refl _), S1, (by rw [c7, Bool.true_and, c8, Bool.true_and])⟩
            · skip
              exact ⟨G1, (Ext.refl _), S1, (by rw [c7, Bool.true_and, ne_false c8, Bool.false_and])⟩
          · skip
            exact ⟨G1, (Ext.refl _), S1, (by rw [ne_false c7, Bool.false_and])⟩
        · intro b3 H6 hJ
          obtain ⟨G6, e6, S9, rfl⟩ := hJ
          have h15 := R.up e6 h7
          have E6 := E1.trans e6
          refine ite2 (fun c9 => ?_) (fun c9 => ?_)
          · skip
            have hm9 := (if_pos c9).symm.trans hm8
            refine gRet ?_
            refine gOp ?_
            refine gMeth ?_
            refine gV rfl ?_
            obtain ⟨d4, f4, hh4, hl4⟩ := pg_recv (m := "block") rfl (Sub.bFront (E := ([] : Own)) (B := B1) (O := O) S9) h1
            refine ⟨p1, d4, f4, rfl, hh4, hl4, ?_⟩
            refine gCons' ?_
            refine gV rfl ?_
            refine gNil' ?_
            obtain ⟨pg3, hq3, hm10⟩ := bindS hm9
            refine ⟨G6, ([] : Own) ++ O, B1, (V.ref p1), block_here1.1, (0 : Int), false, false, page1, rfl, (Sub.bFront (E := ([] : Own)) (B := B1) (O := O) S9), h1, pg3, hq3, fun G7 H7 B5 e7 S10 h16 => ?_⟩
            have h17 := R.up e7 h15
            have E7 := E6.trans e7
            have S11 : Sub G7 ((B5 ++ O)) H7 := Sub.bBack (E := ([] : Own)) (B := B5) (O := O) S10
            refine gC ?_
            refine q_isNon (r := rBool) (G := G7) (o := none) rO_none ?_
            cases hm10
            exact q G7 H7 B5 E7 S11 h16
          · skip
            have hm11 := (if_neg c9).symm.trans hm8
            refine gNext ?_
            refine gE ?_
            refine gRet ?_
            refine gOp ?_
            refine gMethN ?_
            refine gV rfl ?_
            obtain ⟨d5, f5, hh5, hl5⟩ := pg_recv (m := "block") rfl (Sub.bFront (E := ([] : Own)) (B := B1) (O := O) S9) h1
            refine ⟨p1, d5, f5, rfl, hh5, hl5, ?_⟩
            refine gCons' ?_
            refine gV rfl ?_
            refine gNil' ?_
            refine gCons' ?_
            refine gV rfl ?_
            refine gCons' ?_
            refine gV rfl ?_
            refine gCons' ?_
            refine gV rfl ?_
            refine gNil' ?_
            refine ⟨rfl, rfl, ?_⟩
            obtain ⟨pg4, hq4, hm12⟩ := bindS hm11
            refine ⟨G6, ([] : Own) ++ O, B1, (V.ref p1), block_here1.1, block_here1.2.1, block_here1.2.2.1, block_here1.2.2.2, page1, rfl, (Sub.bFront (E := ([] : Own)) (B := B1) (O := O) S9), h1, pg4, hq4, fun G8 H8 B6 e8 S12 h18 => ?_⟩
            have h19 := R.up e8 h15
            have E8 := E6.trans e8
            have S13 : Sub G8 ((B6 ++ O)) H8 := Sub.bBack (E := ([] : Own)) (B := B6) (O := O) S12
            refine gC ?_
            refine q_isNon (r := rBool) (G := G8) (o := none) rO_none ?_
            cases hm12
            exact q G8 H8 B6 E8 S13 h18
end
end Mr

set_option Elab.async false
set_option linter.all false
set_option maxRecDepth 100000
set_option maxHeartbeats 4000000
set_option synthInstance.maxSize 4000
set_option synthInstance.maxHeartbeats 400000
namespace Mr
open PySem PySem.Spec PyProof.Rows L2
section
variable {P : Program} {w : World} {K : PySem.W.Frag} {mg : Str → Option Value} {base : Heap}
theorem sc_law_right : FnScope ["_law_bag_here", "_law_length_here", "_law_blocks", "_law_page", "_law_other", "_law_settled", "_law_k", "_law_block_here", "_law_told"] ["_law_bag_here", "_law_length_here", "_law_blocks"] (defScope s_law_right) := ⟨rfl, rfl, rfl, by decide +kernel, rfl, by decide +kernel, by decide +kernel⟩
theorem ok_law_right (T : Tx K mg) (PT : PgT K mg) (PT2 : PgT2 K mg) : FnOk P w K mg base CX0 6 (He.fAd K ("_law_right", none)) T.fd_law_right ["_law_bag_here", "_law_length_here", "_law_blocks"] (sp_law_right K) := by
  have G_law_draw := ok_law_draw (P := P) (w := w) (base := base) T
  have G_law_set := ok_law_set (P := P) (w := w) (base := base) T PT
  have G_law_shown := ok_law_shown (P := P) (w := w) (base := base) T PT PT2
  refine T.F_law_right.ok sc_law_right (fun vs H Q E h => ?_) (fun cdv A outer s H0 vs Q E hr h => ?_)
  · obtain ⟨G, O, a1, w1, bag_here1, length_here1, v1, blocks1, rfl, _⟩ := h
    rfl
  · obtain ⟨G0, O, a1, w1, bag_here1, length_here1, v1, blocks1, rfl, S0, h1, h2, res, hm, q⟩ := h
    refine ⟨_, PSs.nox (pss_cons (ps_par3 (i := 3) (j := 4) (l := 5) (by rfl) sc_law_right.nd rfl rfl rfl (by decide) (by decide) (by decide) rfl rfl rfl (pa_cons (pe_make PT.mkr (ok_Page_init PT) (hr.mono (by decide)) (by rfl) PT.g_Page PT.b_init .nil pass0 (pa_cons (pv 1) pa_nil)) (pa_cons (pe_make PT.mkr (ok_Page_init PT) (hr.mono (by decide)) (by rfl) PT.g_Page PT.b_init .nil pass0 (pa_cons (pv 1) pa_nil)) (pa_cons (pe_lst pa_nil) pa_nil))) (by rfl))
      (pss_cons (ps_if (pt_cut (PW.pt (pw_or (pt_not (pt_val (pe_call G_law_shown (hr.mono (by decide)) (by rfl) T.g_law_shown T.F_law_shown.kp T.b_law_shown .nil pass0 (pa_cons (pv 3) (pa_cons (pv 1) (pa_cons (pe_lst pa_nil) pa_nil)))))) (pw_or1 (pt_not (pt_val (pe_call G_law_shown (hr.mono (by decide)) (by rfl) T.g_law_shown T.F_law_shown.kp T.b_law_shown .nil pass0 (pa_cons (pv 4) (pa_cons (pv 1) (pa_cons (pe_lst pa_nil) pa_nil)))))))))) (pss_one (ps_ret pe_bl)) pss_nil)
      (pss_cons (ps_cut (ps_for PassesOwn.never rfl (pi_enumQ (by rfl) T.z_enumerate (pa_cons (pv 2) pa_nil)) (pg_tup rfl (pgs_cons (pg_name (i := 6) sc_law_right.nd rfl (.inl rfl)) (pgs_cons (pg_name (i := 7) sc_law_right.nd rfl (.inl rfl)) pgs_nil)))
      (pss_cons (ps_if (pt_cut (PW.pt (pw_or (pt_not (pt_val (pe_call G_law_set (hr.mono (by decide)) (by rfl) T.g_law_set T.F_law_set.kp T.b_law_set .nil pass0 (pa_cons (pv 3) (pa_cons (pv 7) (pa_cons (pe_cmpR op_eqI (pe_call G_law_draw (hr.mono (by decide)) (by rfl) T.g_law_draw T.F_law_draw.kp T.b_law_draw .nil pass0 (pa_cons (pv 0) (pa_cons pe_int pa_nil))) pe_int (nomark _)) pa_nil)))))) (pw_or1 (pt_not (pt_val (pe_call G_law_shown (hr.mono (by decide)) (by rfl) T.g_law_shown T.F_law_shown.kp T.b_law_shown .nil pass0 (pa_cons (pv 3) (pa_cons (pv 1) (pa_cons (pe_slice sl_list (pv 2) po_none (po_some (pe_op op_add (pv 6) pe_int))) pa_nil)))))))))) (pss_one (ps_ret pe_bl)) pss_nil)
      (pss_cons (ps_if (pt_cut (PW.pt (pw_and (pt_cmpR op_eqI (pv 6) pe_int (nomark _)) (pw_and1 (pt_not (pt_val (pe_call G_law_set (hr.mono (by decide)) (by rfl) T.g_law_set T.F_law_set.kp T.b_law_set .nil pass0 (pa_cons (pv 4) (pa_cons (pv 7) (pa_cons pe_bl pa_nil)))))))))) (pss_one (ps_ret pe_bl)) pss_nil)
      (pss_cons (ps_set (i := 8) sc_law_right.nd rfl (.inl rfl) (pe_meth0 (pv 3) PT.c PT2.m_settled (ok_Page_settled PT2) (hr.mono (by decide)) PT2.b_settled .nil pass0))
      (pss_cons (ps_if (pt_cmpR (op_neD hr.units) (pe_slice sl_list (pv 8) po_none (po_some (pe_callB (r := rLenM K) call_lenM (by rfl) T.z_len boot_len (pa_cons (pv 5) pa_nil)))) (pv 5) (nomark _)) (pss_one (ps_ret pe_bl)) pss_nil)
      (pss_cons (ps_set (i := 5) sc_law_right.nd rfl (.inl rfl) (pe_callTy (r := rListOf K) call_listOf (by rfl) T.z_list boot_list (pa_cons (pv 8) pa_nil)))
      (pss_one (ps_expr (pe_bm PySem.F.plainAttrs_list PySem.F.slot_list_append PySem.F.type_list_append mt_append (pv 8) (pa_cons (pe_tup (pa_cons pe_bl (pa_cons pe_int pa_nil))) pa_nil)))))))))))
      (pss_one (ps_ret (pe_cut (pe_and (pe_cmpR op_eqI (pe_fld (pv 3) rfl) (pv 1) (nomark _)) (pe_one (pe_call G_law_shown (hr.mono (by decide)) (by rfl) T.g_law_shown T.F_law_shown.kp T.b_law_shown .nil pass0 (pa_cons (pv 4) (pa_cons (pv 1) (pa_cons (pe_slice sl_list (pv 2) po_none (po_some pe_int)) pa_nil)))))))))))), ?_⟩
    have E0 := Ext.refl G0
    have hm0 : (Option.bind (Option.bind (m_law_shown (Pg.new length_here1) length_here1 ([] : List (Int × Int × Bool × Bool))) fun (r2, pg2) =>
  if (!r2) then some (true, pg2, (Pg.new length_here1)) else (Option.bind (m_law_shown (Pg.new length_here1) length_here1 ([] : List (Int × Int × Bool × Bool))) fun (r4, pg4) =>
  some ((!r4), pg2, pg4))) fun (x1, page1, other1) =>
  if x1 then (some (false, bag_here1))
  else (Option.bind (forL (m_law_right_b1 length_here1 blocks1) (enumM blocks1) (bag_here1, page1, other1, ([] : List (Bool × Int)))) fun res => match res with
  | Fl.rt r => some r
  | Fl.nx (bag_here2, page2, other2, settled1) => Option.bind (if (decide ((Pg.len page2) = length_here1)) then (Option.bind (m_law_shown other2 length_here1 (cutM blocks1 none (some (1 : Int)))) fun (r27, pg22) =>
  some (r27, pg22)) else some (false, other2)) fun (x5, other5) =>
  some (x5, bag_here2))) = some res := hm
    refine gS_Par3 ?_
    refine gCons' ?_
    refine gMake ?_
    refine gCons' ?_
    refine gV rfl ?_
    refine gNil' ?_
    refine q_newPg S0 (fun p1 G1 H1 B1 e1 S1 h3 => ?_)
    have h4 := Al.up e1 h1
    have h5 := R.up e1 h2
    have E1 := E0.trans e1
    have S2 : Sub G1 ((a1, HO.lst w1) :: (B1 ++ O)) H1 := Sub.bBack (E := ((a1, HO.lst w1) :: [] : Own)) (B := B1) (O := O) S1
    refine gCons' ?_
    refine gMake ?_
    refine gCons' ?_
    refine gV rfl ?_
    refine gNil' ?_
    refine q_newPg S2 (fun p2 G2 H2 B2 e2 S3 h6 => ?_)
    have h7 := Al.up e2 h4
    have h8 := R.up e2 h5
    have E2 := E1.trans e2
    have S4 : Sub G2 ((a1, HO.lst w1) :: (B2 ++ (B1 ++ O))) H2 := Sub.bBack (E := ((a1, HO.lst w1) :: [] : Own)) (B := B2) (O := (B1 ++ O)) S3
    refine gCons' ?_
    refine gLst ?_
    refine gNil' ?_
    have h9 : Al (rP2 K rBool rInt) G2 [] [] := True.intro
    refine q_lst S4 h9 (by show 0 ≤ 100000; decide) (fun a2 H3 w2 S5 h10 => ?_)
    refine gNil' ?_
    refine ⟨_, _, _, rfl, ?_⟩
    obtain ⟨G3, e3, S6, h11⟩ := frz_M S5 h10
    have h12 := Al.up e3 h7
    have h13 := R.up e3 h8
    have E3 := E2.trans e3
    refine gS_IfS ?_
    obtain ⟨⟨x1, page1, other1⟩, hq5, hm5⟩ := bindS hm0
    dsimp only at hm5
    refine gCT (fun (b : Bool) (H : Hp) => ∃ (G : Hp) (B7 : Own) (B8 : Own), Ext G3 G ∧ Sub G ((a1, HO.lst w1) :: (B8 ++ (B7 ++ O))) H ∧ b = x1 ∧ PgR (cPg K) B7 (V.ref p1) page1 ∧ PgR (cPg K) B8 (V.ref p2) other1) ?_ ?_
    · skip
      refine gOr ?_
      refine gNot ?_
      refine gB ?_
      refine gCall ?_
      refine gCons' ?_
      refine gV rfl ?_
      refine gCons' ?_
      refine gV rfl ?_
      refine gCons' ?_
      refine gLst ?_
      refine gNil' ?_
      have h64 : Al (rP4 K rInt rInt rBool rBool) G3 [] [] := True.intro
      refine q_lst S6 h64 (by show 0 ≤ 100000; decide) (fun a8 H14 w8 S27 h65 => ?_)
      refine gNil' ?_
      obtain ⟨G14, e14, S28, h66⟩ := frz_M S27 h65
      have h67 := Al.up e14 h12
      have h68 := R.up e14 h13
      have h69 := R.up e14 h11
      have E14 := E3.trans e14
      obtain ⟨⟨r6, pg6⟩, hq7, hm7⟩ := bindS hq5
      dsimp only at hm7
      refine ⟨G14, ((a1, HO.lst w1) :: B2 : Own) ++ O, B1, p1, (Pg.new length_here1), length_here1, (V.ref a8), ([] : List (Int × Int × Bool × Bool)), rfl, (Sub.bFront (E := ((a1, HO.lst w1) :: B2 : Own)) (B := B1) (O := O) S28), h3, h66, (r6, pg6), hq7, fun G15 H15 B10 e15 S29 h70 => ?_⟩
      have h71 := Al.up e15 h67
      have h72 := R.up e15 h68
      have h73 := R.up e15 h69
      have E15 := E14.trans e15
      have S30 : Sub G15 ((a1, HO.lst w1) :: (B2 ++ (B10 ++ O))) H15 := Sub.bBack (E := ((a1, HO.lst w1) :: B2 : Own)) (B := B10) (O := O) S29
      refine ⟨r6, rfl, ?_⟩
      refine ite2 (fun c1 => ?_) (fun c1 => ?_)
      · skip
        have hm8 := (if_pos c1).symm.trans hm7
        cases hm8
        exact ⟨G15, B10, B2, (e14.trans e15), S30, rfl, h70, h6⟩
      · skip
        have hm9 := (if_neg c1).symm.trans hm7
        refine gNot ?_
        refine gB ?_
        refine gCall ?_
        refine gCons' ?_
        refine gV rfl ?_
        refine gCons' ?_
        refine gV rfl ?_
        refine gCons' ?_
        refine gLst ?_
        refine gNil' ?_
        have h84 : Al (rP4 K rInt rInt rBool rBool) G15 [] [] := True.intro
        refine q_lst S30 h84 (by show 0 ≤ 100000; decide) (fun a10 H18 w10 S35 h85 => ?_)
        refine gNil' ?_
        obtain ⟨G18, e18, S36, h86⟩ := frz_M S35 h85
        have h87 := Al.up e18 h71
        have h88 := R.up e18 h72
        have h89 := R.up e18 h73
        have E18 := E15.trans e18
        obtain ⟨⟨r8, pg8⟩, hq9, hm11⟩ := bindS hm9
        dsimp only at hm11
        refine ⟨G18, ((a1, HO.lst w1) :: [] : Own) ++ (B10 ++ O), B2, p2, (Pg.new length_here1), length_here1, (V.ref a10), ([] : List (Int × Int × Bool × Bool)), rfl, (Sub.bFront (E := ((a1, HO.lst w1) :: [] : Own)) (B := B2) (O := (B10 ++ O)) S36), h6, h86, (r8, pg8), hq9, fun G19 H19 B12 e19 S37 h90 => ?_⟩
        have h91 := Al.up e19 h87
        have h92 := R.up e19 h88
        have h93 := R.up e19 h89
        have E19 := E18.trans e19
        have S38 : Sub G19 ((a1, HO.lst w1) :: (B12 ++ (B10 ++ O))) H19 := Sub.bBack (E := ((a1, HO.lst w1) :: [] : Own)) (B := B12) (O := (B10 ++ O)) S37
        refine ⟨r8, rfl, ?_⟩
        cases hm11
        exact ⟨G19, B10, B12, (((e14.trans e15).trans e18).trans e19), S38, rfl, h70, h90⟩
    · intro b1 H20 hJ
      obtain ⟨G20, B13, B14, e20, S39, rfl, h94, h95⟩ := hJ
      have h96 := Al.up e20 h12
      have h97 := R.up e20 h13
      have h98 := R.up e20 h11
      have E20 := E3.trans e20
      refine ite2 (fun c2 => ?_) (fun c2 => ?_)
      · skip
        have hm12 := (if_pos c2).symm.trans hm5
        refine gRet ?_
        refine gC ?_
        have S40 := Sub.bDrop (E := ((a1, HO.lst w1) :: [] : Own)) S39
        have S40 : Sub G20 ((a1, HO.lst w1) :: (B13 ++ O)) H20 := S40
        have S41 := Sub.bDrop (E := ((a1, HO.lst w1) :: [] : Own)) S40
        have S41 : Sub G20 ((a1, HO.lst w1) :: O) H20 := S41
        cases hm12
        exact q G20 H20 w1 E20 S41 h96
      · skip
        have hm13 := (if_neg c2).symm.trans hm5
        refine gNext ?_
        refine gE ?_
        obtain ⟨res1, hl1, hm14⟩ := bindS hm13
        refine gS_CS (fun (σ : L2.St) (H : Hp) => ∃ s : (List Int) × Pg × Pg × (List (Bool × Int)), res1 = Fl.nx s ∧ ∃ (G : Hp) (w11 : List V) (B15 : Own) (B16 : Own) (v2 : V) (y1 : Option V) (y2 : Option V) (y3 : Option V), Ext G20 G ∧ Sub G ((a1, HO.lst w11) :: (B16 ++ (B15 ++ O))) H ∧ σ = [some (V.ref a1), some (V.int length_here1), some v1, some (V.ref p1), some (V.ref p2), some v2, y1, y2, y3] ∧ Al rInt G w11 s.1 ∧ PgR (cPg K) B15 (V.ref p1) s.2.1 ∧ PgR (cPg K) B16 (V.ref p2) s.2.2.1 ∧ R.rel (rM (rP2 K rBool rInt)) G v2 s.2.2.2) ?_ ?_
        · skip
          refine gFor ?_
          refine gIE ?_
          refine gCons' ?_
          refine gV rfl ?_
          refine gNil' ?_
          refine lp_EQ (r := (rP4 K rInt rInt rBool rBool)) S39 (rM_Q (K := K) h97) hl1 (fun (s : (List Int) × Pg × Pg × (List (Bool × Int))) (σ : L2.St) (H : Hp) => ∃ (G : Hp) (w11 : List V) (B15 : Own) (B16 : Own) (v2 : V) (y1 : Option V) (y2 : Option V) (y3 : Option V), Ext G20 G ∧ Sub G ((a1, HO.lst w11) :: (B16 ++ (B15 ++ O))) H ∧ σ = [some (V.ref a1), some (V.int length_here1), some v1, some (V.ref p1), some (V.ref p2), some v2, y1, y2, y3] ∧ Al rInt G w11 s.1 ∧ PgR (cPg K) B15 (V.ref p1) s.2.1 ∧ PgR (cPg K) B16 (V.ref p2) s.2.2.1 ∧ R.rel (rM (rP2 K rBool rInt)) G v2 s.2.2.2) ⟨G20, w1, B13, B14, (V.ref a2), _, _, _, (Ext.refl _), S39, rfl, h96, h94, h95, h98⟩ ?_ ?_ ?_
          · intro s σ H hI
            obtain ⟨G, k1, k2, k3, k4, k5, k6, k7, ie, iS, _⟩ := hI
            exact ie.trans iS.ext
          · intro i1 x2 s1 b2 hb1 hr1 v3 σ1 H21 H22 hI1 hS1 h99
            obtain ⟨bag_here3, page3, other3, settled2⟩ := s1
            obtain ⟨G21, w12, B17, B18, v4, y4, y5, y6, e21, S42, rfl, h100, h101, h102, h103⟩ := hI1
            have h104 := R.up e21 h97
            have h105 := R.up e21 h97
            have E21 := E20.trans e21
            have S43 := hS1 _ _ S42
            generalize ((i1 : Nat) : Int) = k8 at hb1 ⊢
            have h106 := R.up e21 h99
            have hm15 : (Option.bind (Option.bind (m_law_draw bag_here3 (2 : Int)) fun (r11, bag_here5) =>   Option.bind (m_law_set page3 x2 (decide (r11 = (1 : Int)))) fun (r12, pg10) =>   if (!r12) then some (true, pg10, bag_here5) else (Option.bind (m_law_shown pg10 length_here1 (cutM blocks1 none (some (k8 + (1 : Int))))) fun (r14, pg12) =>   some ((!r14), pg12, bag_here5))) fun (x3, page4, bag_here6) =>   if x3 then (some (Bf.rt (false, bag_here6)))   else (Option.bind (if (decide (k8 = (0 : Int))) then (Option.bind (m_law_set other3 x2 false) fun (r22, pg18) =>   some ((!r22), pg18)) else some (false, other3)) fun (x4, other4) =>   if x4 then (some (Bf.rt (false, bag_here6)))   else (Option.bind (Pg.settled page4) fun r25 =>   if (!decide ((cutM r25 none (some (settled2.length : Int))) = settled2)) then (some (Bf.rt (false, bag_here6)))   else (Option.bind (appM r25 (false, (1 : Int))) fun told1 =>   some (Bf.go (bag_here6, page4, other4, r25)))))) = some b2 := hb1
            refine gS_IfS ?_
            obtain ⟨⟨x3, page4, bag_here6⟩, hq16, hm22⟩ := bindS hm15
            dsimp only at hm22
            refine gCT (fun (b : Bool) (H : Hp) => ∃ (G : Hp) (B23 : Own) (w15 : List V), Ext G21 G ∧ Sub G ((a1, HO.lst w15) :: (B18 ++ (B23 ++ O))) H ∧ b = x3 ∧ PgR (cPg K) B23 (V.ref p1) page4 ∧ Al rInt G w15 bag_here6) ?_ ?_
            · skip
              refine gOr ?_
              refine gNot ?_
              refine gB ?_
              refine gCall ?_
              refine gCons' ?_
              refine gV rfl ?_
              refine gCons' ?_
              refine gV rfl ?_
              refine gCons' ?_
              refine gOp ?_
              refine gCall ?_
              refine gCons' ?_
              refine gV rfl ?_
              refine gCons' ?_
              refine gC ?_
              refine gNil' ?_
              obtain ⟨⟨r17, bag_here8⟩, hq19, hm25⟩ := bindS hq16
              dsimp only at hm25
              refine ⟨G21, ((B18 ++ (B17 ++ O))), a1, w12, bag_here3, (2 : Int), rfl, S43, h100, (r17, bag_here8), hq19, fun G32 H33 w17 e32 S59 h164 => ?_⟩
              have h165 := R.up e32 h104
              have h166 := R.up e32 h103
              have h167 := R.up e32 h106
              have h168 := R.up e32 h105
              have E32 := E21.trans e32
              refine gC ?_
              refine ⟨_, _, rfl, rfl, ?_⟩
              refine gNil' ?_
              obtain ⟨⟨r18, pg14⟩, hq20, hm26⟩ := bindS hm25
              dsimp only at hm26
              refine ⟨G32, ((a1, HO.lst w17) :: B18 : Own) ++ O, B17, p1, page3, v3, x2, (decide (r17 = (1 : Int))), rfl, (Sub.bFront (E := ((a1, HO.lst w17) :: B18 : Own)) (B := B17) (O := O) S59), h101, h167, (r18, pg14), hq20, fun G33 H34 B25 e33 S60 h169 => ?_⟩
              have h170 := Al.up e33 h164
              have h171 := R.up e33 h165
              have h172 := R.up e33 h166
              have h173 := R.up e33 h167
              have h174 := R.up e33 h168
              have E33 := E32.trans e33
              have S61 : Sub G33 ((a1, HO.lst w17) :: (B18 ++ (B25 ++ O))) H34 := Sub.bBack (E := ((a1, HO.lst w17) :: B18 : Own)) (B := B25) (O := O) S60
              refine ⟨r18, rfl, ?_⟩
              refine ite2 (fun c3 => ?_) (fun c3 => ?_)
              · skip
                have hm27 := (if_pos c3).symm.trans hm26
                cases hm27
                exact ⟨G33, B25, w17, (e32.trans e33), S61, rfl, h169, h170⟩
              · skip
                have hm28 := (if_neg c3).symm.trans hm26
                refine gNot ?_
                refine gB ?_
                refine gCall ?_
                refine gCons' ?_
                refine gV rfl ?_
                refine gCons' ?_
                refine gV rfl ?_
                refine gCons' ?_
                refine gSl ?_
                refine gV rfl ?_
                refine gNoPart ?_
                refine gPart ?_
                refine gOp ?_
                refine gV rfl ?_
                refine gC ?_
                refine ⟨_, _, rfl, rfl, ?_⟩
                refine ⟨_, rfl, ?_⟩
                refine q_slM S61 (rM_L (K := K) h171) (fun v8 G36 H37 e36 S65 h187 => ?_)
                have h188 := Al.up e36 h170
                have h189 := R.up e36 h171
                have h190 := R.up e36 h172
                have h191 := R.up e36 h173
                have h192 := R.up e36 h174
                have E36 := E33.trans e36
                refine gNil' ?_
                obtain ⟨⟨r20, pg16⟩, hq22, hm30⟩ := bindS hm28
                dsimp only at hm30
                refine ⟨G36, ((a1, HO.lst w17) :: B18 : Own) ++ O, B25, p1, pg14, length_here1, v8, (cutM blocks1 none (some (k8 + (1 : Int)))), rfl, (Sub.bFront (E := ((a1, HO.lst w17) :: B18 : Own)) (B := B25) (O := O) S65), h169, h187, (r20, pg16), hq22, fun G37 H38 B27 e37 S66 h193 => ?_⟩
                have h194 := Al.up e37 h188
                have h195 := R.up e37 h189
                have h196 := R.up e37 h190
                have h197 := R.up e37 h191
                have h198 := R.up e37 h192
                have E37 := E36.trans e37
                have S67 : Sub G37 ((a1, HO.lst w17) :: (B18 ++ (B27 ++ O))) H38 := Sub.bBack (E := ((a1, HO.lst w17) :: B18 : Own)) (B := B27) (O := O) S66
                refine ⟨r20, rfl, ?_⟩
                cases hm30
                exact ⟨G37, B27, w17, (((e32.trans e33).trans e36).trans e37), S67, rfl, h193, h194⟩
            · intro b3 H39 hJ
              obtain ⟨G38, B28, w18, e38, S68, rfl, h199, h200⟩ := hJ
              have h201 := R.up e38 h104
              have h202 := R.up e38 h103
              have h203 := R.up e38 h106
              have h204 := R.up e38 h105
              have E38 := E21.trans e38
              refine ite2 (fun c4 => ?_) (fun c4 => ?_)
              · skip
                have hm31 := (if_pos c4).symm.trans hm22
                refine gRet ?_
                refine gC ?_
                have S69 := Sub.bDrop (E := ((a1, HO.lst w18) :: [] : Own)) S68
                have S69 : Sub G38 ((a1, HO.lst w18) :: (B28 ++ O)) H39 := S69
                have S70 := Sub.bDrop (E := ((a1, HO.lst w18) :: [] : Own)) S69
                have S70 : Sub G38 ((a1, HO.lst w18) :: O) H39 := S70
                cases hm31
                have hr2 := Option.some.inj (show some (Fl.rt _) = some res1 from hr1)
                subst hr2
                dsimp only at hm14
                cases hm14
                exact q G38 H39 w18 E38 S70 h200
              · skip
                have hm32 := (if_neg c4).symm.trans hm22
                refine gNext ?_
                refine gE ?_
                refine gS_IfS ?_
                obtain ⟨⟨x4, other4⟩, hq25, hm35⟩ := bindS hm32
                dsimp only at hm35
                refine gCT (fun (b : Bool) (H : Hp) => ∃ (G : Hp) (B31 : Own), Ext G38 G ∧ Sub G ((a1, HO.lst w18) :: (B31 ++ (B28 ++ O))) H ∧ b = x4 ∧ PgR (cPg K) B31 (V.ref p2) other4) ?_ ?_
                · skip
                  refine gAnd ?_
                  refine gTest ?_
                  refine gOp ?_
                  refine gV rfl ?_
                  refine gC ?_
                  refine ⟨_, _, rfl, rfl, ?_⟩
                  refine ⟨(decide (k8 = (0 : Int))), rfl, ?_⟩
                  refine ite2 (fun c5 => ?_) (fun c5 => ?_)
                  · skip
                    have hm36 := (if_pos c5).symm.trans hq25
                    refine gNot ?_
                    refine gB ?_
                    refine gCall ?_
                    refine gCons' ?_
                    refine gV rfl ?_
                    refine gCons' ?_
                    refine gV rfl ?_
                    refine gCons' ?_
                    refine gC ?_
                    refine gNil' ?_
                    obtain ⟨⟨r24, pg20⟩, hq27, hm38⟩ := bindS hm36
                    dsimp only at hm38
                    refine ⟨G38, ((a1, HO.lst w18) :: [] : Own) ++ (B28 ++ O), B18, p2, other3, v3, x2, false, rfl, (Sub.bFront (E := ((a1, HO.lst w18) :: [] : Own)) (B := B18) (O := (B28 ++ O)) S68), h102, h203, (r24, pg20), hq27, fun G42 H43 B33 e42 S77 h223 => ?_⟩
                    have h224 := Al.up e42 h200
                    have h225 := R.up e42 h201
                    have h226 := R.up e42 h202
                    have h227 := R.up e42 h203
                    have h228 := R.up e42 h204
                    have E42 := E38.trans e42
                    have S78 : Sub G42 ((a1, HO.lst w18) :: (B33 ++ (B28 ++ O))) H43 := Sub.bBack (E := ((a1, HO.lst w18) :: [] : Own)) (B := B33) (O := (B28 ++ O)) S77
                    refine ⟨r24, rfl, ?_⟩
                    cases hm38
                    exact ⟨G42, B33, e42, S78, rfl, h223⟩
                  · skip
                    have hm39 := (if_neg c5).symm.trans hq25
                    cases hm39
                    exact ⟨G38, B18, (Ext.refl _), S68, rfl, h102⟩
                · intro b4 H44 hJ
                  obtain ⟨G43, B34, e43, S79, rfl, h229⟩ := hJ
                  have h230 := Al.up e43 h200
                  have h231 := R.up e43 h201
                  have h232 := R.up e43 h202
                  have h233 := R.up e43 h203
                  have h234 := R.up e43 h204
                  have E43 := E38.trans e43
                  refine ite2 (fun c6 => ?_) (fun c6 => ?_)
                  · skip
                    have hm40 := (if_pos c6).symm.trans hm35
                    refine gRet ?_
                    refine gC ?_
                    have S80 := Sub.bDrop (E := ((a1, HO.lst w18) :: [] : Own)) S79
                    have S80 : Sub G43 ((a1, HO.lst w18) :: (B28 ++ O)) H44 := S80
                    have S81 := Sub.bDrop (E := ((a1, HO.lst w18) :: [] : Own)) S80
                    have S81 : Sub G43 ((a1, HO.lst w18) :: O) H44 := S81
                    cases hm40
                    have hr3 := Option.some.inj (show some (Fl.rt _) = some res1 from hr1)
                    subst hr3
                    dsimp only at hm14
                    cases hm14
                    exact q G43 H44 w18 E43 S81 h230
                  · skip
                    have hm41 := (if_neg c6).symm.trans hm35
                    refine gNext ?_
                    refine gE ?_
                    refine gS_AsgN ?_
                    refine gMeth ?_
                    refine gV rfl ?_
                    obtain ⟨d1, f1, hh1, hl2⟩ := pg_recv (m := "settled") rfl (Sub.bFront (E := ((a1, HO.lst w18) :: B34 : Own)) (B := B28) (O := O) S79) h199
                    refine ⟨p1, d1, f1, rfl, hh1, hl2, ?_⟩
                    refine gNil' ?_
                    obtain ⟨r25, hq28, hm42⟩ := bindS hm41
                    refine ⟨G43, ((a1, HO.lst w18) :: B34 : Own) ++ O, B28, p1, page4, rfl, (Sub.bFront (E := ((a1, HO.lst w18) :: B34 : Own)) (B := B28) (O := O) S79), h199, r25, hq28, fun a11 w19 G44 H45 e44 S82 h235 => ?_⟩
                    have h236 := Al.up e44 h230
                    have h237 := R.up e44 h231
                    have h238 := R.up e44 h232
                    have h239 := R.up e44 h233
                    have h240 := R.up e44 h234
                    have E44 := E43.trans e44
                    have S83 : Sub G44 ((a11, HO.lst w19) :: (a1, HO.lst w18) :: (B34 ++ (B28 ++ O))) H45 := Sub.bBack (E := ((a11, HO.lst w19) :: ((a1, HO.lst w18) :: B34 : Own))) (B := B28) (O := O) (Sub.bSwap S82)
                    refine gS_IfS ?_
                    refine gTest ?_
                    refine gOp ?_
                    refine gSl ?_
                    refine gV rfl ?_
                    refine gNoPart ?_
                    refine gPart ?_
                    refine gCB ?_
                    refine gCons' ?_
                    refine gV rfl ?_
                    refine gNil' ?_
                    refine q_lenL (y := V.non) S83 (rM_L (K := K) h238) ?_
                    refine ⟨_, rfl, ?_⟩
                    refine q_slO S83 h235 (fun v9 G45 H46 e45 S84 h241 => ?_)
                    have h242 := Al.up e45 h236
                    have h243 := R.up e45 h237
                    have h244 := R.up e45 h238
                    have h245 := R.up e45 h239
                    have h246 := Al.up e45 h235
                    have h247 := R.up e45 h240
                    have E45 := E44.trans e45
                    refine gV rfl ?_
                    refine q_neD (dM (dP2 (dBool (K := K)) (dInt (K := K)))) (by show 4 ≤ 64; decide) (R.up S84.ext h241) (R.up S84.ext h244) ((okM (okP2 okB okI)) _) ((okM (okP2 okB okI)) _) ?_
                    refine ⟨(!decide ((cutM r25 none (some (settled2.length : Int))) = settled2)), rfl, ?_⟩
                    refine ite2 (fun c7 => ?_) (fun c7 => ?_)
                    · skip
                      have hm43 := (if_pos c7).symm.trans hm42
                      refine gRet ?_
                      refine gC ?_
                      have S85 := S84.tail
                      have S86 := Sub.bDrop (E := ((a1, HO.lst w18) :: [] : Own)) S85
                      have S86 : Sub G45 ((a1, HO.lst w18) :: (B28 ++ O)) H46 := S86
                      have S87 := Sub.bDrop (E := ((a1, HO.lst w18) :: [] : Own)) S86
                      have S87 : Sub G45 ((a1, HO.lst w18) :: O) H46 := S87
                      cases hm43
                      have hr4 := Option.some.inj (show some (Fl.rt _) = some res1 from hr1)
                      subst hr4
                      dsimp only at hm14
                      cases hm14
                      exact q G45 H46 w18 E45 S87 h242
                    · skip
                      have hm44 := (if_neg c7).symm.trans hm42
                      refine gNext ?_
                      refine gE ?_
                      refine gS_AsgN ?_
                      refine gCB ?_
                      refine gCons' ?_
                      refine gV rfl ?_
                      refine gNil' ?_
                      refine q_listO S84 h246 (fun v10 G46 H47 e46 S88 h248 => ?_)
                      have h249 := Al.up e46 h242
                      have h250 := R.up e46 h243
                      have h251 := R.up e46 h244
                      have h252 := R.up e46 h245
                      have h253 := Al.up e46 h246
                      have h254 := R.up e46 h247
                      have E46 := E45.trans e46
                      refine gDrop ?_
                      refine gBM ?_
                      refine gV rfl ?_
                      refine ⟨.inl ⟨rfl, _, .inl (.inl S88.head)⟩, ?_⟩
                      refine gCons' ?_
                      refine gTup' ?_
                      refine gCons' ?_
                      refine gC ?_
                      refine gCons' ?_
                      refine gC ?_
                      refine gNil' ?_
                      refine q_tup2 (K := K) S88 (show R.rel rBool G46 (V.bl false) false from rfl) (show R.rel rInt G46 (V.int (1 : Int)) (1 : Int) from rfl) (fun v11 G47 H48 e47 S89 h255 => ?_)
                      have h256 := Al.up e47 h249
                      have h257 := R.up e47 h250
                      have h258 := R.up e47 h248
                      have h259 := R.up e47 h252
                      have h260 := Al.up e47 h253
                      have h261 := R.up e47 h254
                      have E47 := E46.trans e47
                      refine gNil' ?_
                      obtain ⟨told1, hq29, hm45⟩ := bindS hm44
                      refine q_app S89 h260 (show R.rel (rP2 K rBool rInt) G47 v11 (false, (1 : Int)) from h255) hq29 (fun H49 w20 S90 h262 => ?_)
                      have S91 := S90.tail
                      cases hm45
                      exact ⟨(bag_here6, page4, other4, r25), ⟨G47, w18, B28, B34, v10, _, _, _, ((((((e21.trans e38).trans e43).trans e44).trans e45).trans e46).trans e47), S91, rfl, h256, h199, h229, h258⟩, hr1⟩
          · intro s σ H h1 h2
            obtain ⟨G, k1, k2, k3, k4, k5, k6, k7, ie, irest⟩ := h2
            exact ⟨s, h1, G, k1, k2, k3, k4, k5, k6, k7, (ie), irest⟩
        · intro σ2 H50 hJ1
          obtain ⟨s2, hres1, hJ2⟩ := hJ1
          subst hres1
          obtain ⟨bag_here2, page2, other2, settled1⟩ := s2
          dsimp only at hm14
          obtain ⟨G48, w21, B35, B36, v12, y7, y8, y9, e48, S92, rfl, h263, h264, h265, h266⟩ := hJ2
          have h267 := R.up e48 h97
          have E48 := E20.trans e48
          refine gRet ?_
          obtain ⟨⟨x5, other5⟩, hq32, hm48⟩ := bindS hm14
          dsimp only at hm48
          refine gCE (fun (b : V) (H : Hp) => ∃ (G : Hp) (B39 : Own), Ext G48 G ∧ Sub G ((a1, HO.lst w21) :: (B39 ++ (B35 ++ O))) H ∧ b = V.bl x5 ∧ PgR (cPg K) B39 (V.ref p2) other5) ?_ ?_
          · skip
            refine gAndV ?_
            refine gOp ?_
            refine gFld ?_
            refine gV rfl ?_
            obtain ⟨d3, f3, hh3, hl4⟩ := pg_ins (Sub.bFront (E := ((a1, HO.lst w21) :: B36 : Own)) (B := B35) (O := O) S92) h264
            refine ⟨p1, _, d3, f3, _, rfl, hh3, PT.c, PT.n_length, hl4, ?_⟩
            refine gV rfl ?_
            refine ⟨_, _, rfl, rfl, ?_⟩
            refine ⟨(decide ((Pg.len page2) = length_here1)), rfl, ?_⟩
            refine ite2 (fun c8 => ?_) (fun c8 => ?_)
            · skip
              have hm49 := (if_pos c8).symm.trans hq32
              refine gCall ?_
              refine gCons' ?_
              refine gV rfl ?_
              refine gCons' ?_
              refine gV rfl ?_
              refine gCons' ?_
              refine gSl ?_
              refine gV rfl ?_
              refine gNoPart ?_
              refine gPart ?_
              refine gC ?_
              refine ⟨_, rfl, ?_⟩
              refine q_slM S92 (rM_L (K := K) h267) (fun v15 G53 H55 e53 S99 h284 => ?_)
              have h285 := Al.up e53 h263
              have h286 := R.up e53 h267
              have h287 := R.up e53 h266
              have E53 := E48.trans e53
              refine gNil' ?_
              obtain ⟨⟨r28, pg23⟩, hq33, hm50⟩ := bindS hm49
              dsimp only at hm50
              refine ⟨G53, ((a1, HO.lst w21) :: [] : Own) ++ (B35 ++ O), B36, p2, other2, length_here1, v15, (cutM blocks1 none (some (1 : Int))), rfl, (Sub.bFront (E := ((a1, HO.lst w21) :: [] : Own)) (B := B36) (O := (B35 ++ O)) S99), h265, h284, (r28, pg23), hq33, fun G54 H56 B40 e54 S100 h288 => ?_⟩
              have h289 := Al.up e54 h285
              have h290 := R.up e54 h286
              have h291 := R.up e54 h287
              have E54 := E53.trans e54
              have S101 : Sub G54 ((a1, HO.lst w21) :: (B40 ++ (B35 ++ O))) H56 := Sub.bBack (E := ((a1, HO.lst w21) :: [] : Own)) (B := B40) (O := (B35 ++ O)) S100
              cases hm50
              exact ⟨G54, B40, (e53.trans e54), S101, rfl, h288⟩
            · skip
              have hm51 := (if_neg c8).symm.trans hq32
              cases hm51
              exact ⟨G48, B36, (Ext.refl _), S92, rfl, h265⟩
          · intro b5 H57 hJ
            obtain ⟨G55, B41, e55, S102, rfl, h292⟩ := hJ
            have h293 := Al.up e55 h263
            have h294 := R.up e55 h267
            have h295 := R.up e55 h266
            have E55 := E48.trans e55
            have S103 := Sub.bDrop (E := ((a1, HO.lst w21) :: [] : Own)) S102
            have S103 : Sub G55 ((a1, HO.lst w21) :: (B35 ++ O)) H57 := S103
            have S104 := Sub.bDrop (E := ((a1, HO.lst w21) :: [] : Own)) S103
            have S104 : Sub G55 ((a1, HO.lst w21) :: O) H57 := S104
            cases hm48
            exact q G55 H57 w21 E55 S104 h293
end
end Mr

set_option Elab.async false
set_option linter.all false
set_option maxRecDepth 100000
set_option maxHeartbeats 4000000
set_option synthInstance.maxSize 4000
set_option synthInstance.maxHeartbeats 400000
namespace Mr
open PySem PySem.Spec PyProof.Rows L2
section
variable {P : Program} {w : World} {K : PySem.W.Frag} {mg : Str → Option Value} {base : Heap}
theorem sc_law : FnScope ["_law_script", "_law_at", "_law_bag_here", "_law_length_here", "_law_blocks", "_law_turn"] ["_law_script"] (defScope s_law) := ⟨rfl, rfl, rfl, by decide +kernel, rfl, by decide +kernel, by decide +kernel⟩
theorem ok_law (T : Tx K mg) (PT : PgT K mg) (PT2 : PgT2 K mg) : FnOk P w K mg base CX0 7 (He.fAd K ("law", none)) T.fd_law ["_law_script"] (sp_law K) := by
  have G_law_bag := ok_law_bag (P := P) (w := w) (base := base) T
  have G_law_block := ok_law_block (P := P) (w := w) (base := base) T
  have G_law_draw := ok_law_draw (P := P) (w := w) (base := base) T
  have G_law_length := ok_law_length (P := P) (w := w) (base := base) T
  have G_law_right := ok_law_right (P := P) (w := w) (base := base) T PT PT2
  refine T.F_law.ok sc_law (fun vs H Q E h => ?_) (fun cdv A outer s H0 vs Q E hr h => ?_)
  · obtain ⟨G, O, v1, script1, rfl, _⟩ := h
    rfl
  · obtain ⟨G0, O, v1, script1, rfl, S0, h1, res, hm, q⟩ := h
    refine ⟨_, PSs.nox (pss_cons (ps_cut (ps_for PassesOwn.never rfl (pi_range1 (by rfl) T.z_range (pa_cons (pe_callB (call_max2 rfl) (by rfl) T.z_max boot_max (pa_cons pe_int (pa_cons (pe_callB (call_min2 rfl) (by rfl) T.z_min boot_min (pa_cons (pe_callB (r := rLenM K) call_lenM (by rfl) T.z_len boot_len (pa_cons (pv 0) pa_nil)) (pa_cons pe_int pa_nil))) pa_nil))) pa_nil)) (pg_name (i := 1) sc_law.nd rfl (.inl rfl))
      (pss_cons (ps_set (i := 2) sc_law.nd rfl (.inr rfl) (pe_call G_law_bag (hr.mono (by decide)) (by rfl) T.g_law_bag T.F_law_bag.kp T.b_law_bag .nil pass0 (pa_cons (pv 0) (pa_cons (pv 1) pa_nil))))
      (pss_cons (ps_set (i := 3) sc_law.nd rfl (.inl rfl) (pe_call G_law_length (hr.mono (by decide)) (by rfl) T.g_law_length T.F_law_length.kp T.b_law_length .nil pass0 (pa_cons (pv 2) pa_nil)))
      (pss_cons (ps_setLc (i := 4) (own := [("_law_turn", 5)]) (g := gName 5) (by rfl) sc_law.nd rfl rfl (sw_true rfl rfl rfl (by decide +kernel)) (pi_range1 (by rfl) T.z_range (pa_cons (pe_call G_law_draw (hr.mono (by decide)) (by rfl) T.g_law_draw T.F_law_draw.kp T.b_law_draw .nil pass0 (pa_cons (pv 2) (pa_cons pe_int pa_nil))) pa_nil)) (blkOk_by (own := [("_law_turn", 5)]) (N := ["_law_script", "_law_at", "_law_bag_here", "_law_length_here", "_law_blocks", "_law_turn"]) (sc := defScope s_law) (by decide +kernel)) (fun _ _ _ _ _ => (pg_name (i := 5) sc_law.nd rfl (.inl rfl))) (fun _ _ _ _ _ => pts_nil) (fun _ _ _ _ _ => (pe_call G_law_block (hr.mono (by decide)) (by rfl) T.g_law_block T.F_law_block.kp T.b_law_block .nil pass0 (pa_cons (pv 2) (pa_cons pe_int pa_nil)))))
      (pss_one (ps_if (pt_not (pt_val (pe_call G_law_right (hr.mono (by decide)) (by rfl) T.g_law_right T.F_law_right.kp T.b_law_right .nil pass0 (pa_cons (pv 2) (pa_cons (pv 3) (pa_cons (pv 4) pa_nil)))))) (pss_one (ps_ret pe_bl)) pss_nil)))))))
      (pss_one (ps_ret pe_bl))), ?_⟩
    have E0 := Ext.refl G0
    have hm0 : (Option.bind (rngM (if (if (6 : Int) < (script1.length : Int) then (6 : Int) else (script1.length : Int)) > (1 : Int) then (if (6 : Int) < (script1.length : Int) then (6 : Int) else (script1.length : Int)) else (1 : Int))) fun xs1 =>
  Option.bind (forL (m_law_b1 script1) xs1 ()) fun res => match res with
  | Fl.rt r => some r
  | Fl.nx _ => some true) = some res := hm
    obtain ⟨xs1, hq1, hm1⟩ := bindS hm0
    obtain ⟨res1, hl1, hm2⟩ := bindS hm1
    refine gS_CS (fun (σ : L2.St) (H : Hp) => ∃ s : Unit, res1 = Fl.nx s ∧ ∃ (G : Hp) (y1 : Option V) (y2 : Option V) (y3 : Option V) (y4 : Option V) (y5 : Option V), Ext G0 G ∧ Sub G (O) H ∧ σ = [some v1, y1, y2, y3, y4, y5]) ?_ ?_
    · skip
      refine gFor ?_
      refine gIR ?_
      refine gCons' ?_
      refine gCB ?_
      refine gCons' ?_
      refine gC ?_
      refine gCons' ?_
      refine gCB ?_
      refine gCons' ?_
      refine gCB ?_
      refine gCons' ?_
      refine gV rfl ?_
      refine gNil' ?_
      refine q_lenL (y := V.non) S0 h1 ?_
      refine gCons' ?_
      refine gC ?_
      refine gNil' ?_
      refine ⟨_, _, rfl, ?_⟩
      refine gNil' ?_
      refine ⟨_, _, rfl, ?_⟩
      refine gNil' ?_
      refine lp_R hq1 hl1 (fun (s : Unit) (σ : L2.St) (H : Hp) => ∃ (G : Hp) (y1 : Option V) (y2 : Option V) (y3 : Option V) (y4 : Option V) (y5 : Option V), Ext G0 G ∧ Sub G (O) H ∧ σ = [some v1, y1, y2, y3, y4, y5]) ⟨G0, _, _, _, _, _, (Ext.refl _), S0, rfl⟩ ?_ ?_
      · intro i1 x1 s1 b1 hb1 hr1 σ1 H1 hI1
        obtain ⟨G1, y6, y7, y8, y9, y10, e1, S1, rfl⟩ := hI1
        have h3 := R.up e1 h1
        have E1 := E0.trans e1
        have hm3 : (Option.bind (m_law_bag script1 x1) fun r1 =>   Option.bind (m_law_length r1) fun (r2, r3) =>   Option.bind (m_law_draw r3 (10 : Int)) fun (r4, r5) =>   Option.bind (rngM r4) fun xs2 =>   Option.bind (folM (m_law_c2) xs2 (r5, ([] : (List (Int × Int × Bool × Bool))))) fun (bag_here1, acc1) =>   Option.bind (m_law_right bag_here1 r2 acc1) fun (r10, bag_here5) =>   if (!r10) then (some (Bf.rt false))   else (some (Bf.go ()))) = some b1 := hb1
        refine gS_AsgN ?_
        refine gCall ?_
        refine gCons' ?_
        refine gV rfl ?_
        refine gCons' ?_
        refine gV rfl ?_
        refine gNil' ?_
        obtain ⟨r1, hq2, hm4⟩ := bindS hm3
        refine ⟨G1, (O), v1, script1, x1, rfl, S1, h3, r1, hq2, fun a1 w1 G2 H2 e2 S2 h4 => ?_⟩
        have h5 := R.up e2 h3
        have E2 := E1.trans e2
        refine gS_AsgN ?_
        refine gCall ?_
        refine gCons' ?_
        refine gV rfl ?_
        refine gNil' ?_
        obtain ⟨⟨r2, r3⟩, hq3, hm5⟩ := bindS hm4
        dsimp only at hm5
        refine ⟨G2, (O), a1, w1, r1, rfl, S2, h4, (r2, r3), hq3, fun G3 H3 w2 e3 S3 h6 => ?_⟩
        have h7 := R.up e3 h5
        have E3 := E2.trans e3
        refine gS_AsgN ?_
        refine gLc ?_
        refine gIR ?_
        refine gCons' ?_
        refine gCall ?_
        refine gCons' ?_
        refine gV rfl ?_
        refine gCons' ?_
        refine gC ?_
        refine gNil' ?_
        obtain ⟨⟨r4, r5⟩, hq4, hm6⟩ := bindS hm5
        dsimp only at hm6
        refine ⟨G3, (O), a1, w2, r3, (10 : Int), rfl, S3, h6, (r4, r5), hq4, fun G4 H4 w3 e4 S4 h8 => ?_⟩
        have h9 := R.up e4 h7
        have E4 := E3.trans e4
        refine gNil' ?_
        obtain ⟨xs2, hq5, hm7⟩ := bindS hm6
        obtain ⟨⟨bag_here1, acc1⟩, hq7, hm9⟩ := bindS hm7
        dsimp only at hm9
        refine lc_R hq5 hq7 (fun (D : Addr) (s : (List Int) × (List (Int × Int × Bool × Bool))) (H : Hp) => ∃ (G : Hp) (w5 : List V) (w6 : List V), Ext G4 G ∧ Sub G ((D, HO.lst w6) :: (a1, HO.lst w5) :: O) H ∧ Al (rP4 K rInt rInt rBool rBool) G w6 s.2 ∧ Al rInt G w5 s.1) ?_ ?_ ?_
        · intro D1 nD1
          exact ⟨G4, w3, [], Ext.refl _, S4.newOwn nD1, True.intro, h8⟩
        · intro D2 i2 x2 s2 s3 hb2 hr2 H6 hI2
          obtain ⟨bag_here2, acc2⟩ := s2
          obtain ⟨G6, w7, w8, e6, S6, h14, h15⟩ := hI2
          have h16 := R.up e6 h9
          have E6 := E4.trans e6
          refine ⟨rfl, ?_⟩
          have hm10 : (Option.bind (m_law_block bag_here2 (30 : Int)) fun (r8, bag_here3) =>   Option.bind (appM acc2 r8) fun acc3 =>   some (bag_here3, acc3)) = some s3 := hb2
          refine gYes ?_
          refine iteT ?_
          refine gCall ?_
          refine gCons' ?_
          refine gV rfl ?_
          refine gCons' ?_
          refine gC ?_
          refine gNil' ?_
          have S7 : Sub G6 ((a1, HO.lst w7) :: (D2, HO.lst w8) :: O) H6 := S6.front 1 rfl rfl
          obtain ⟨⟨r8, bag_here3⟩, hq8, hm11⟩ := bindS hm10
          dsimp only at hm11
          refine ⟨G6, ((D2, HO.lst w8) :: O), a1, w7, bag_here2, (30 : Int), rfl, S7, h15, (r8, bag_here3), hq8, fun v5 G7 H7 w9 e7 S8 h17 h18 => ?_⟩
          have h19 := R.up e7 h16
          have h20 := Al.up e7 h14
          have E7 := E6.trans e7
          obtain ⟨acc3, hq9, hm12⟩ := bindS hm11
          have S9 : Sub G7 ((D2, HO.lst w8) :: (a1, HO.lst w9) :: O) H7 := S8.front 1 rfl rfl
          refine q_lcEl S9 h20 (show R.rel (rP4 K rInt rInt rBool rBool) G7 v5 r8 from h17) hq9 (fun H8 w10 S10 h21 => ?_)
          cases hm12
          exact ⟨_, ⟨G7, w9, w10, (e6.trans e7), S10, h21, h18⟩, hr2⟩
        · intro D3 H9 hI3
          obtain ⟨G8, w11, w12, e8, S11, h22, h23⟩ := hI3
          have h24 := R.up e8 h9
          have E8 := E4.trans e8
          refine gIfS ?_
          refine gNot ?_
          refine gB ?_
          refine gCall ?_
          refine gCons' ?_
          refine gV rfl ?_
          refine gCons' ?_
          refine gV rfl ?_
          refine gCons' ?_
          refine gV rfl ?_
          refine gNil' ?_
          obtain ⟨G11, e11, S14, h31⟩ := frz_M S11 h22
          have h32 := R.up e11 h24
          have h33 := Al.up e11 h23
          have E11 := E8.trans e11
          obtain ⟨⟨r10, bag_here5⟩, hq11, hm14⟩ := bindS hm9
          dsimp only at hm14
          refine ⟨G11, (O), a1, w11, bag_here1, r2, (V.ref D3), acc1, rfl, S14, h33, h31, (r10, bag_here5), hq11, fun G12 H11 w14 e12 S15 h34 => ?_⟩
          have h35 := R.up e12 h32
          have h36 := R.up e12 h31
          have E12 := E11.trans e12
          refine ⟨r10, rfl, ?_⟩
          refine ite2 (fun c1 => ?_) (fun c1 => ?_)
          · skip
            have hm15 := (if_pos c1).symm.trans hm14
            refine gRet ?_
            refine gC ?_
            have S16 := S15.tail
            cases hm15
            have hr3 := Option.some.inj (show some (Fl.rt _) = some res1 from hr1)
            subst hr3
            dsimp only at hm2
            cases hm2
            exact q G12 H11 E12 S16
          · skip
            have hm16 := (if_neg c1).symm.trans hm14
            refine gNext ?_
            have S17 := S15.tail
            cases hm16
            exact ⟨_, ⟨G12, _, _, _, _, _, ((((((e1.trans e2).trans e3).trans e4).trans e8).trans e11).trans e12), S17, rfl⟩, hr1⟩
      · intro s σ H h1 h2
        obtain ⟨G, k1, k2, k3, k4, k5, ie, irest⟩ := h2
        exact ⟨s, h1, G, k1, k2, k3, k4, k5, (ie), irest⟩
    · intro σ2 H12 hJ1
      obtain ⟨s4, hres1, hJ2⟩ := hJ1
      subst hres1
      dsimp only at hm2
      obtain ⟨G13, y11, y12, y13, y14, y15, e13, S18, rfl⟩ := hJ2
      have h37 := R.up e13 h1
      have E13 := E0.trans e13
      refine gRet ?_
      refine gC ?_
      cases hm2
      exact q G13 H12 E13 S18
end
end Mr

set_option linter.all false
set_option maxRecDepth 100000
set_option maxHeartbeats 1000000
/-! DrawP: the law's source of draws. -/
namespace Mr
theorem bindOk {α β : Type} {o : Option α} {f : α → Option β} {a : α} {r : Option β} (h : o = some a) (h2 : f a = r) : o.bind f = r := by
  subst h; exact h2
theorem modM_pos {a b : Int} (h : 0 < b) : modM a b = some (a % b) := if_pos h
theorem fdivM_ok {a b : Int} (h : 0 < b) (h2 : b.natAbs.log2 < 9000) : fdivM a b = some (a / b) := if_pos ⟨h, h2⟩
theorem appM_ok {α : Type} {xs : List α} {x : α} (h : xs.length < 100000) : appM xs x = some (xs ++ [x]) := if_pos h
theorem getM_nat {α : Type} {xs : List α} {j : Nat} {x : α} (h : xs[j]? = some x) : getM xs (j : Int) = some x := by
  have hj : j < xs.length := (List.getElem?_eq_some_iff.mp h).1
  unfold getM ixM
  rw [if_pos (by omega), if_pos (by omega)]
  simpa using h
theorem rngM_ok {n : Int} (h : 0 ≤ n) (h2 : n < 2 ^ 62) : rngM n = some ((List.range n.toNat).map fun (i : Nat) => (i : Int)) := if_pos ⟨by omega, h2⟩
theorem folM_inv {α σ : Type} {f : σ → α → Option σ} (P : σ → Prop) : ∀ (xs : List α) (s : σ), P s → (∀ x ∈ xs, ∀ s, P s → ∃ s', f s x = some s' ∧ P s') → ∃ s', folM f xs s = some s' ∧ P s'
  | [], s, h, _ => ⟨s, rfl, h⟩
  | x :: xs, s, h, hs => by
    obtain ⟨s1, h1, p1⟩ := hs x (List.mem_cons_self ..) s h
    obtain ⟨s2, h2, p2⟩ := folM_inv P xs s1 p1 fun y hy => hs y (List.mem_cons_of_mem _ hy)
    exact ⟨s2, bindOk h1 h2, p2⟩
theorem forL_inv {α σ ρ : Type} {f : σ → α → Option (Bf σ ρ)} (P : σ → Prop) : ∀ (xs : List α) (s : σ), P s → (∀ x ∈ xs, ∀ s, P s → ∃ s', f s x = some (.go s') ∧ P s') → ∃ s', forL f xs s = some (.nx s') ∧ P s'
  | [], s, h, _ => ⟨s, rfl, h⟩
  | x :: xs, s, h, hs => by
    obtain ⟨s1, h1, p1⟩ := hs x (List.mem_cons_self ..) s h
    obtain ⟨s2, h2, p2⟩ := forL_inv P xs s1 p1 fun y hy => hs y (List.mem_cons_of_mem _ hy)
    exact ⟨s2, bindOk h1 h2, p2⟩
/-- all turns go on -/
def goL {α σ ρ : Type} (f : σ → α → Option (Bf σ ρ)) : List α → σ → Option σ
  | [], s => some s
  | x :: xs, s => match f s x with
    | some (.go s') => goL f xs s'
    | _ => none
theorem goL_cons {α σ ρ : Type} {f : σ → α → Option (Bf σ ρ)} {x : α} {xs : List α} {s s' : σ} (h : f s x = some (.go s')) : goL f (x :: xs) s = goL f xs s' := by
  show (match f s x with
    | some (.go s') => goL f xs s'
    | _ => none) = _
  rw [h]
theorem goL_for {α σ ρ : Type} {f : σ → α → Option (Bf σ ρ)} : ∀ {xs : List α} {s r : σ}, goL f xs s = some r → forL f xs s = some (.nx r)
  | [], s, r, h => by cases h; rfl
  | x :: xs, s, r, h => by
    have h' : (match f s x with
      | some (.go s') => goL f xs s'
      | _ => none) = some r := h
    split at h'
    · rename_i s' e
      exact bindOk e (goL_for h')
    · cases h'
theorem goL_app {α σ ρ : Type} {f : σ → α → Option (Bf σ ρ)} : ∀ {xs ys : List α} {s s1 : σ}, goL f xs s = some s1 → goL f (xs ++ ys) s = goL f ys s1
  | [], ys, s, s1, h => by cases h; rfl
  | x :: xs, ys, s, s1, h => by
    have h' : (match f s x with
      | some (.go s') => goL f xs s'
      | _ => none) = some s1 := h
    split at h'
    · rename_i s' e
      rw [List.cons_append, goL_cons e]
      exact goL_app h'
    · cases h'
theorem enumF_app {α : Type} : ∀ (xs ys : List α) (k : Nat), enumF k (xs ++ ys) = enumF k xs ++ enumF (k + xs.length) ys
  | [], ys, k => rfl
  | x :: xs, ys, k => by
    show ((k : Int), x) :: enumF (k + 1) (xs ++ ys) = ((k : Int), x) :: (enumF (k + 1) xs ++ enumF (k + (xs.length + 1)) ys)
    rw [enumF_app xs ys (k + 1)]
    have e : k + 1 + xs.length = k + (xs.length + 1) := by omega
    rw [e]
theorem log2_lt {n m : Nat} (h : n < 2 ^ m) (hm : 0 < m) : n.log2 < m := by
  by_cases h0 : n = 0
  · subst h0; simpa using hm
  · exact (Nat.log2_lt h0).mpr h

/-! ### bags -/
def BagOk (b : List Int) : Prop := ∃ g m c : Int, b = [g, m, c]
theorem draw_ok {b : List Int} {n : Int} (hb : BagOk b) (h0 : 0 < n) (h1 : n < 2 ^ 60) : ∃ x b', m_law_draw b n = some (x, b') ∧ 0 ≤ x ∧ x < n ∧ BagOk b' := by
  obtain ⟨g, m, c, rfl⟩ := hb
  have hl : n.natAbs.log2 < 9000 := Nat.lt_of_lt_of_le (log2_lt (m := 60) (by omega) (by decide)) (by decide)
  unfold m_law_draw
  by_cases hg : decide (g > 0) = true
  · exact ⟨g % n, [g / n, m, c], bindOk (a := g) rfl ((if_pos hg).trans (bindOk (a := g) rfl (bindOk (modM_pos h0) (bindOk (a := g) rfl (bindOk (fdivM_ok h0 hl) (bindOk (a := [g / n, m, c]) rfl rfl)))))),
      Int.emod_nonneg _ (by omega), Int.emod_lt_of_pos _ h0, _, _, _, rfl⟩
  · refine ⟨_, [g, (m * 48271 + 11 * (c + 1) + 7) % 2147483647, c + 1], bindOk (a := g) rfl ((if_neg hg).trans (bindOk (a := c) rfl (bindOk (a := [g, m, c + 1]) rfl (bindOk (a := m) rfl (bindOk (a := c + 1) rfl (bindOk (a := [g, (m * 48271 + 11 * (c + 1) + 7) % 2147483647, c + 1]) rfl
      (bindOk (a := (m * 48271 + 11 * (c + 1) + 7) % 2147483647) rfl (bindOk (a := c + 1) rfl (bindOk (modM_pos h0) rfl))))))))), ?_, ?_, _, _, _, rfl⟩
    · exact Int.emod_nonneg _ (by omega)
    · exact Int.emod_lt_of_pos _ h0
theorem bag_ok {ns : List Int} {j : Nat} : ∃ b, m_law_bag ns (j : Int) = some b ∧ BagOk b := by
  unfold m_law_bag
  obtain ⟨m, hm, _⟩ := folM_inv (f := m_law_bag_b1) (fun _ => True) (enumM (cutM ns none (some (63 : Int)))) ((1009 : Int) + ((77 : Int) * (j : Int))) True.intro (fun x _ s _ => ⟨_, rfl, True.intro⟩)
  by_cases h : decide ((j : Int) < (ns.length : Int)) = true
  · have hj : j < ns.length := by have := of_decide_eq_true h; omega
    exact ⟨_, bindOk ((if_pos h).trans (bindOk (getM_nat (List.getElem?_eq_getElem hj)) rfl)) (bindOk hm rfl), _, _, _, rfl⟩
  · exact ⟨_, bindOk (if_neg h) (bindOk hm rfl), _, _, _, rfl⟩
end Mr

set_option linter.all false
set_option maxRecDepth 100000
set_option maxHeartbeats 1000000
/-! FinP: lines (space, barred, due) on pages, put one by one (fin), and page by page (cutR, rowsF). -/
namespace Mr
abbrev Ln := Bool × Int
def br (xs : List Int) : Int := if h : xs = [] then 0 else xs.getLast h + 1
def sty (rows : Int) (xs : List Int) : List Ln := xs.map fun x => (false, rows - br xs + x)
theorem sty_nil (rows : Int) : sty rows [] = [] := rfl
def gov (xs : List Int) : List Ln := (enumM xs).map fun p => (decide (p.1 = 0), p.2)
theorem br_nil : br [] = 0 := rfl
theorem br_cons (a : Int) (xs : List Int) : br (a :: xs) = (a :: xs).getLast (by simp) + 1 := by simp [br]
theorem br_add (xs : List Int) (y : Int) : br (xs ++ [y]) = y + 1 := by simp [br]
abbrev L3 := Int × Bool × Bool
/-- the places of the pending and the coming lines -/
def fin (len : Int) : Int → List Int → List L3 → List Ln
  | u, offs, [] => sty u offs
  | u, offs, (sp, b, f) :: t =>
    if u = 0 ∨ f = true then sty u offs ++ (true, 0) :: fin len 1 [] t
    else if u + sp + 1 ≤ len then
      (if b = false then sty u offs ++ fin len (u + sp + 1) [0] t
       else if offs = [] then (false, u + sp) :: fin len (u + sp + 1) [] t
       else fin len (u + sp + 1) (offs ++ [br offs + sp]) t)
    else if b = false ∨ offs = [] then sty u offs ++ (true, 0) :: fin len 1 [] t
    else gov offs ++ (if br offs + sp + 1 ≤ len then (false, br offs + sp) :: fin len (br offs + sp + 1) [] t else (true, 0) :: fin len 1 [] t)
theorem fin_forced (len u : Int) (offs : List Int) (sp : Int) (b : Bool) (t : List L3) : fin len u offs ((sp, b, true) :: t) = sty u offs ++ (true, 0) :: fin len 1 [] t := by
  rw [fin]; simp
theorem fin_zero (len : Int) (l : L3) (t : List L3) : fin len 0 [] (l :: t) = (true, 0) :: fin len 1 [] t := by
  obtain ⟨sp, f, b⟩ := l
  rw [fin]; simp [sty]
/-- how many of the coming lines the page holds; none: it ends ahead of the last line that is not barred -/
def cutR (len : Int) : List L3 → Int → Bool → Option Nat
  | [], _, _ => some 0
  | (sp, b, f) :: t, u, h =>
    if f = true then some 0
    else if u + sp + 1 > len then (if b = false then some 0 else if h = true then none else some 0)
    else if b = false then (match cutR len t (u + sp + 1) true with
      | none => some 0
      | some c => some (c + 1))
    else (match cutR len t (u + sp + 1) h with
      | none => none
      | some c => some (c + 1))
theorem cutR_ne (len : Int) : ∀ (ls : List L3) (u : Int), cutR len ls u false ≠ none
  | [], u => by simp [cutR]
  | (sp, b, f) :: t, u => by
    rw [cutR]
    have ih := cutR_ne len t (u + sp + 1)
    cases f with
    | true => simp
    | false =>
      by_cases h : u + sp + 1 > len
      · cases b <;> simp [h]
      · cases b with
        | false =>
          simp only [h, if_false]
          cases cutR len t (u + sp + 1) true <;> simp
        | true =>
          cases hc : cutR len t (u + sp + 1) false with
          | none => exact absurd hc ih
          | some c => simp [h]
def rowsF : Int → List L3 → List Ln
  | _, [] => []
  | r, (sp, _, _) :: t => (false, r + 1 + sp) :: rowsF (r + 1 + sp) t
theorem sty_one (u : Int) : sty u [0] = [(false, u - 1)] := by simp [sty, br]
theorem gov_one : gov [0] = [(true, 0)] := rfl
theorem sty_add (u sp : Int) {offs : List Int} : sty (u + sp + 1) (offs ++ [br offs + sp]) = sty u offs ++ [(false, u + sp)] := by
  unfold sty
  rw [br_add, List.map_append]
  congr 1
  · apply List.map_congr_left
    intro x _
    simp only [Prod.mk.injEq, true_and]; omega
  · simp only [List.map_cons, List.map_nil]
    congr 2; omega
theorem enumF_snoc {α : Type} (xs : List α) (x : α) (k : Nat) : enumF k (xs ++ [x]) = enumF k xs ++ [(((k + xs.length : Nat) : Int), x)] := by
  rw [enumF_app]; rfl
theorem gov_add {offs : List Int} (h : offs ≠ []) (y : Int) : gov (offs ++ [y]) = gov offs ++ [(false, y)] := by
  unfold gov enumM
  rw [enumF_snoc, List.map_append]
  congr 1
  simp only [List.map_cons, List.map_nil]
  have : 0 < offs.length := List.length_pos_iff.mpr h
  rw [decide_eq_false (by omega)]
/-- what fin says, page by page -/
theorem fin_page (len : Int) : ∀ (ls : List L3) (u : Int), 1 ≤ u → (∀ l ∈ ls, 0 ≤ l.1) →
    (∃ c, cutR len ls u false = some c ∧ c ≤ ls.length ∧ fin len u [] ls = rowsF (u - 1) (ls.take c) ++ fin len 0 [] (ls.drop c)) ∧
    (∀ offs : List Int, offs ≠ [] → 1 ≤ br offs → br offs < u →
      match cutR len ls u true with
      | none => fin len u offs ls = gov offs ++ fin len (br offs) [] ls
      | some c => c ≤ ls.length ∧ fin len u offs ls = sty u offs ++ rowsF (u - 1) (ls.take c) ++ fin len 0 [] (ls.drop c))
  | [], u, hu, _ => by
    refine ⟨⟨0, rfl, Nat.le_refl _, by simp [fin, rowsF, sty]⟩, fun offs _ _ _ => ?_⟩
    show 0 ≤ _ ∧ _
    exact ⟨Nat.le_refl _, by simp [fin, rowsF, sty_nil]⟩
  | (sp, b, f) :: t, u, hu, hn => by
    have hsp : 0 ≤ sp := hn (sp, b, f) (List.mem_cons_self ..)
    have hnt : ∀ l ∈ t, 0 ≤ l.1 := fun l hl => hn l (List.mem_cons_of_mem _ hl)
    have hu0 : ¬ u = 0 := by omega
    cases f with
    | true =>
      refine ⟨⟨0, by simp [cutR], by simp, ?_⟩, fun offs h1 h2 h3 => ?_⟩
      · rw [fin_forced]; simp only [List.take_zero, List.drop_zero, rowsF, List.nil_append, fin_zero, sty_nil]
      · rw [show cutR len ((sp, b, true) :: t) u true = some 0 by simp [cutR]]
        refine ⟨by simp, ?_⟩
        rw [fin_forced]; simp only [List.take_zero, List.drop_zero, rowsF, List.append_nil, fin_zero]
    | false =>
      by_cases hfit : u + sp + 1 ≤ len
      · have hng : ¬ u + sp + 1 > len := by omega
        obtain ⟨iN, iS⟩ := fin_page len t (u + sp + 1) (by omega) hnt
        have hs1 : u + sp + 1 - 1 = u + sp := by omega
        cases b with
        | false =>
          have i1 := iS [0] (by simp) (by decide) (by have : br [0] = 1 := rfl; omega)
          have cu : ∀ h, cutR len ((sp, false, false) :: t) u h = match cutR len t (u + sp + 1) true with
            | none => some 0
            | some c => some (c + 1) := by intro h; rw [cutR]; simp [hng]
          have fu : ∀ offs, fin len u offs ((sp, false, false) :: t) = sty u offs ++ fin len (u + sp + 1) [0] t := by
            intro offs; rw [fin]; simp [hu0, hfit]
          cases hc : cutR len t (u + sp + 1) true with
          | none =>
            rw [hc] at i1
            have e : fin len (u + sp + 1) [0] t = fin len 0 [] ((sp, false, false) :: t) := by
              rw [i1, fin_zero, gov_one]; rfl
            refine ⟨⟨0, by rw [cu, hc], by simp, ?_⟩, fun offs h1 h2 h3 => ?_⟩
            · rw [fu, e, sty_nil]; simp [rowsF]
            · rw [cu, hc]
              refine ⟨by simp, ?_⟩
              rw [fu, e]; simp [rowsF]
          | some c =>
            rw [hc] at i1
            obtain ⟨hcl, i2⟩ := i1
            rw [hs1, sty_one, hs1] at i2
            refine ⟨⟨c + 1, by rw [cu, hc], by simp; omega, ?_⟩, fun offs h1 h2 h3 => ?_⟩
            · rw [fu, i2, sty_nil]
              simp only [List.take_succ_cons, List.drop_succ_cons, rowsF, List.nil_append, List.cons_append]
              have : u - 1 + 1 + sp = u + sp := by omega
              rw [this]
            · rw [cu, hc]
              refine ⟨by simp; omega, ?_⟩
              rw [fu, i2]
              simp only [List.take_succ_cons, List.drop_succ_cons, rowsF, List.nil_append, List.cons_append, List.append_assoc]
              have : u - 1 + 1 + sp = u + sp := by omega
              rw [this]
        | true =>
          have cu : ∀ h, cutR len ((sp, true, false) :: t) u h = match cutR len t (u + sp + 1) h with
            | none => none
            | some c => some (c + 1) := by intro h; rw [cutR]; simp [hng]
          refine ⟨?_, fun offs h1 h2 h3 => ?_⟩
          · obtain ⟨c, hc, hcl, i2⟩ := iN
            refine ⟨c + 1, by rw [cu, hc], by simp; omega, ?_⟩
            have fu : fin len u [] ((sp, true, false) :: t) = (false, u + sp) :: fin len (u + sp + 1) [] t := by
              rw [fin]; simp [hu0, hfit]
            rw [fu, i2, hs1]
            simp only [List.take_succ_cons, List.drop_succ_cons, rowsF, List.cons_append]
            have : u - 1 + 1 + sp = u + sp := by omega
            rw [this]
          · have fu : fin len u offs ((sp, true, false) :: t) = fin len (u + sp + 1) (offs ++ [br offs + sp]) t := by
              rw [fin]; simp [hu0, hfit, h1]
            have i1 := iS (offs ++ [br offs + sp]) (by simp) (by rw [br_add]; omega) (by rw [br_add]; omega)
            rw [cu]
            cases hc : cutR len t (u + sp + 1) true with
            | none =>
              rw [hc] at i1
              show fin len u offs ((sp, true, false) :: t) = gov offs ++ fin len (br offs) [] ((sp, true, false) :: t)
              have fb : fin len (br offs) [] ((sp, true, false) :: t) = (false, br offs + sp) :: fin len (br offs + sp + 1) [] t := by
                rw [fin]
                rw [if_neg (by rintro (h | h); · omega
                               · cases h), if_pos (by omega)]
                simp
              rw [fu, i1, gov_add h1, br_add, fb]
              simp
            | some c =>
              rw [hc] at i1
              obtain ⟨hcl, i2⟩ := i1
              refine ⟨by simp; omega, ?_⟩
              rw [fu, i2, sty_add, hs1]
              simp only [List.take_succ_cons, List.drop_succ_cons, rowsF, List.nil_append, List.cons_append, List.append_assoc]
              have : u - 1 + 1 + sp = u + sp := by omega
              rw [this]
      · have hg : u + sp + 1 > len := by omega
        cases b with
        | false =>
          have fu : ∀ offs, fin len u offs ((sp, false, false) :: t) = sty u offs ++ (true, 0) :: fin len 1 [] t := by
            intro offs; rw [fin]; simp [hu0, hfit]
          have cu : ∀ h, cutR len ((sp, false, false) :: t) u h = some 0 := by intro h; rw [cutR]; simp [hg]
          refine ⟨⟨0, cu _, by simp, ?_⟩, fun offs h1 h2 h3 => ?_⟩
          · rw [fu]; simp only [List.take_zero, List.drop_zero, rowsF, List.nil_append, fin_zero, sty_nil]
          · rw [cu]
            refine ⟨by simp, ?_⟩
            rw [fu]; simp only [List.take_zero, List.drop_zero, rowsF, List.append_nil, fin_zero]
        | true =>
          refine ⟨⟨0, by rw [cutR]; simp [hg], by simp, ?_⟩, fun offs h1 h2 h3 => ?_⟩
          · have fu : fin len u [] ((sp, true, false) :: t) = sty u [] ++ (true, 0) :: fin len 1 [] t := by
              rw [fin]; simp [hu0, hfit]
            rw [fu]; simp only [List.take_zero, List.drop_zero, rowsF, List.nil_append, fin_zero, sty_nil]
          · rw [show cutR len ((sp, true, false) :: t) u true = none by rw [cutR]; simp [hg]]
            show fin len u offs ((sp, true, false) :: t) = gov offs ++ fin len (br offs) [] ((sp, true, false) :: t)
            have hb0 : ¬ br offs = 0 := by omega
            have fu : fin len u offs ((sp, true, false) :: t) = gov offs ++ (if br offs + sp + 1 ≤ len then (false, br offs + sp) :: fin len (br offs + sp + 1) [] t else (true, 0) :: fin len 1 [] t) := by
              rw [fin]; simp [hu0, hfit, h1]
            have fb : fin len (br offs) [] ((sp, true, false) :: t) = (if br offs + sp + 1 ≤ len then (false, br offs + sp) :: fin len (br offs + sp + 1) [] t else (true, 0) :: fin len 1 [] t) := by
              rw [fin]; simp [hb0, sty_nil]
            rw [fu, fb]
theorem rng2_ok {a b : Nat} (h : a ≤ b) (hb : b ≤ 100000) : rng2M (a : Int) (b : Int) = some ((List.range' a (b - a)).map fun (i : Nat) => (i : Int)) := by
  unfold rng2M
  rw [if_pos (by omega)]
  congr 1
  have e : ((b : Int) - (a : Int)).toNat = b - a := by omega
  rw [e, List.range'_eq_map_range, List.map_map]
  apply List.map_congr_left
  intro i _
  simp
theorem rowsF_length : ∀ (ls : List L3) (r : Int), (rowsF r ls).length = ls.length
  | [], _ => rfl
  | (_, _, _) :: t, r => congrArg Nat.succ (rowsF_length t _)
end Mr

set_option linter.all false
set_option maxRecDepth 100000
set_option maxHeartbeats 1000000
/-! PagF: what Page's methods put is fin. -/
namespace Mr
structure Rep (p : Pg) (done : List Ln) (offs : List Int) : Prop where
  es : p.es = done ++ sty p.high offs
  nl : p.nl = offs.length
  lo : offs ≠ [] → (∃ xs, offs = 0 :: xs) ∧ 1 ≤ br offs ∧ br offs < p.high
theorem sty_length (u : Int) (offs : List Int) : (sty u offs).length = offs.length := by simp [sty]
theorem gov_zero (xs : List Int) : gov (0 :: xs) = (true, 0) :: xs.map fun x => (false, x) := by
  unfold gov enumM
  show (decide (((0 : Nat) : Int) = 0), (0 : Int)) :: (enumF 1 xs).map (fun p => (decide (p.1 = 0), p.2)) = _
  have h : ∀ (xs : List Int) (k : Nat), 1 ≤ k → (enumF k xs).map (fun p => (decide (p.1 = 0), p.2)) = xs.map fun x => (false, x) := by
    intro xs
    induction xs with
    | nil => intro k _; rfl
    | cons x xs ih =>
      intro k hk
      show (decide ((k : Int) = 0), x) :: (enumF (k + 1) xs).map (fun p => (decide (p.1 = 0), p.2)) = (false, x) :: xs.map fun x => (false, x)
      rw [ih (k + 1) (by omega), decide_eq_false (by omega)]
  rw [h xs 1 (Nat.le_refl _)]
  rfl
theorem shI_app (done xs : List Ln) (sh : Int) : shI done.length xs.length (done ++ xs) sh = done ++ xs.map fun e => (e.1, e.2 - sh) := by
  unfold shI
  rw [List.mapIdx_append]
  congr 1
  · apply List.ext_getElem
    · simp
    · intro i h1 h2
      have hi : i < done.length := by simpa using h1
      simp only [List.getElem_mapIdx]
      rw [if_neg (by omega)]
  · apply List.ext_getElem
    · simp
    · intro i h1 h2
      have hi : i < xs.length := by simpa using h1
      simp only [List.getElem_mapIdx, List.getElem_map]
      rw [if_pos (by omega)]
section
variable {p : Pg} {done : List Ln} {offs : List Int}
theorem Rep.len (R : Rep p done offs) : p.es.length = done.length + offs.length := by rw [R.es]; simp [sty_length]
theorem over_ok (R : Rep p done offs) (h : offs ≠ []) : p.over = some { p with es := done ++ gov offs, nl := 0, high := br offs } := by
  obtain ⟨⟨xs, rfl⟩, h1, h2⟩ := R.lo h
  have hl := R.len
  have hk : p.es.length - p.nl = done.length := by rw [hl, R.nl]; simp
  have hst : sty p.high (0 :: xs) = (false, p.high - br (0 :: xs)) :: xs.map (fun x => (false, p.high - br (0 :: xs) + x)) := by simp [sty]
  unfold Pg.over
  rw [hk]
  have hf : p.es[done.length]? = some (false, p.high - br (0 :: xs)) := by rw [R.es, hst]; simp
  rw [hf]
  show (if p.nl = 0 then none else some _) = _
  rw [if_neg (by rw [R.nl]; simp)]
  congr 1
  have e1 : shI done.length p.nl p.es (p.high - br (0 :: xs)) = done ++ (sty p.high (0 :: xs)).map fun e => (e.1, e.2 - (p.high - br (0 :: xs))) := by
    rw [← shI_app, sty_length, ← R.nl, ← R.es]
  have e2 : (shI done.length p.nl p.es (p.high - br (0 :: xs))).set done.length (true, 0) = done ++ gov (0 :: xs) := by
    rw [e1, hst, gov_zero, List.map_cons, List.set_append_right _ _ (Nat.le_refl _), Nat.sub_self, List.set_cons_zero, List.map_map]
    congr 2
    apply List.map_congr_left
    intro x _
    simp only [Function.comp_apply, Prod.mk.injEq, true_and]
    omega
  show ({ len := p.len, es := (shI done.length p.nl p.es (p.high - br (0 :: xs))).set done.length (true, 0), nl := 0, high := p.high - (p.high - br (0 :: xs)), bar := p.bar } : Pg) = _
  rw [e2]
  congr 1
  omega
/-- the next line (sp, b, f); a begun page takes it whatever b is -/
theorem line_ok {sp : Int} {b b' f : Bool} (R : Rep p done offs) (hu : 0 ≤ p.high) (hsp : 0 ≤ sp) (hz : p.es.length < 100000) (hf : f = true → p.high = 0) (hb : p.high = 0 ∨ b' = b) :
    ∃ q done' offs', p.line sp b' = some q ∧ Rep q done' offs' ∧ q.len = p.len ∧ q.bar = p.bar ∧ 1 ≤ q.high ∧ q.es.length = p.es.length + 1 ∧ (∀ t, done ++ fin p.len p.high offs ((sp, b, f) :: t) = done' ++ fin p.len q.high offs' t) ∧ done <+: done' := by
  by_cases h0 : p.high = 0
  · have ho : offs = [] := by
      cases offs with
      | nil => rfl
      | cons x xs => obtain ⟨_, h1, h2⟩ := R.lo (by simp); omega
    subst ho
    refine ⟨{ p with es := p.es ++ [(true, 0)], nl := 0, high := 1 }, done ++ [(true, 0)], [], ?_, ⟨?_, rfl, fun h => absurd rfl h⟩, rfl, rfl, by show (1 : Int) ≤ 1; decide, by simp, fun t => ?_, (by first | exact ⟨_, rfl⟩ | exact ⟨_, (List.append_assoc ..).symm⟩ | exact List.prefix_rfl)⟩
    · unfold Pg.line Pg.put
      rw [if_neg (by omega), if_pos hz, if_pos (.inl h0)]
    · show p.es ++ [(true, 0)] = _
      rw [R.es]; simp [sty]
    · rw [h0, fin]; simp [sty]
  · have hb' : b' = b := hb.resolve_left h0
    subst hb'
    have hff : f = false := by
      cases f with
      | false => rfl
      | true => exact absurd (hf rfl) h0
    subst hff
    have hu1 : 1 ≤ p.high := by omega
    by_cases hfit : p.high + sp + 1 ≤ p.len
    · have hng : ¬ (0 < p.high ∧ p.high + sp ≥ p.len ∧ b' = true ∧ p.nl ≠ 0) := by omega
      have hng2 : ¬ (p.high = 0 ∨ p.high + sp ≥ p.len) := by omega
      cases b' with
      | false =>
        refine ⟨{ p with es := p.es ++ [(false, p.high + sp)], nl := 1, high := p.high + sp + 1 }, done ++ sty p.high offs, [0], ?_, ⟨?_, rfl, fun _ => ⟨⟨[], rfl⟩, by decide, ?_⟩⟩, rfl, rfl, by show 1 ≤ p.high + sp + 1; omega, by simp, fun t => ?_, (by first | exact ⟨_, rfl⟩ | exact ⟨_, (List.append_assoc ..).symm⟩ | exact List.prefix_rfl)⟩
        · unfold Pg.line Pg.put
          rw [if_neg hng, if_pos hz, if_neg hng2, if_pos rfl]
        · show p.es ++ [(false, p.high + sp)] = _
          rw [R.es, sty_one]
          show _ = _ ++ [(false, p.high + sp + 1 - 1)]
          have : p.high + sp + 1 - 1 = p.high + sp := by omega
          rw [this]
        · show (1 : Int) < p.high + sp + 1; omega
        · rw [fin]; simp [h0, hfit]
      | true =>
        by_cases ho : offs = []
        · subst ho
          refine ⟨{ p with es := p.es ++ [(false, p.high + sp)], high := p.high + sp + 1 }, done ++ [(false, p.high + sp)], [], ?_, ⟨?_, R.nl, fun h => absurd rfl h⟩, rfl, rfl, by show 1 ≤ p.high + sp + 1; omega, by simp, fun t => ?_, (by first | exact ⟨_, rfl⟩ | exact ⟨_, (List.append_assoc ..).symm⟩ | exact List.prefix_rfl)⟩
          · unfold Pg.line Pg.put
            rw [if_neg hng, if_pos hz, if_neg hng2, if_neg (by simp), if_pos (show p.nl = 0 from R.nl)]
          · show p.es ++ [(false, p.high + sp)] = _
            rw [R.es]; simp [sty]
          · rw [fin]; simp [h0, hfit]
        · obtain ⟨⟨xs, hxs⟩, h1, h2⟩ := R.lo ho
          refine ⟨{ p with es := p.es ++ [(false, p.high + sp)], nl := p.nl + 1, high := p.high + sp + 1 }, done, offs ++ [br offs + sp], ?_, ⟨?_, ?_, fun _ => ⟨⟨xs ++ [br offs + sp], by rw [hxs]; rfl⟩, ?_, ?_⟩⟩, rfl, rfl, by show 1 ≤ p.high + sp + 1; omega, by simp, fun t => ?_, (by first | exact ⟨_, rfl⟩ | exact ⟨_, (List.append_assoc ..).symm⟩ | exact List.prefix_rfl)⟩
          · unfold Pg.line Pg.put
            rw [if_neg hng, if_pos hz, if_neg hng2, if_neg (by simp), if_neg (by rw [R.nl]; simp [ho])]
          · show p.es ++ [(false, p.high + sp)] = done ++ sty (p.high + sp + 1) _
            rw [sty_add, R.es]; simp
          · show p.nl + 1 = _
            rw [R.nl]; simp
          · rw [br_add]; omega
          · show br (offs ++ [br offs + sp]) < p.high + sp + 1
            rw [br_add]; omega
          · rw [fin]; simp [h0, hfit, ho]
    · have hge : p.high + sp ≥ p.len := by omega
      by_cases hgo : b' = true ∧ offs ≠ []
      · obtain ⟨hb1, ho⟩ := hgo
        subst hb1
        obtain ⟨⟨xs, hxs⟩, h1, h2⟩ := R.lo ho
        have hov := over_ok R ho
        have hl2 : (done ++ gov offs).length = p.es.length := by
          rw [R.len, hxs, gov_zero]; simp
        have hnl : p.nl ≠ 0 := by rw [R.nl]; simp [ho]
        have hfin : ∀ t, fin p.len p.high offs ((sp, true, false) :: t) = gov offs ++ (if br offs + sp + 1 ≤ p.len then (false, br offs + sp) :: fin p.len (br offs + sp + 1) [] t else (true, 0) :: fin p.len 1 [] t) := by
          intro t; rw [fin]; simp [h0, hfit, ho]
        by_cases hfit2 : br offs + sp + 1 ≤ p.len
        · refine ⟨{ p with es := done ++ gov offs ++ [(false, br offs + sp)], nl := 0, high := br offs + sp + 1 }, done ++ gov offs ++ [(false, br offs + sp)], [], ?_, ⟨?_, rfl, fun h => absurd rfl h⟩, rfl, rfl, by show 1 ≤ br offs + sp + 1; omega, ?_, fun t => ?_, (by first | exact ⟨_, rfl⟩ | exact ⟨_, (List.append_assoc ..).symm⟩ | exact List.prefix_rfl)⟩
          · unfold Pg.line
            rw [if_pos ⟨by omega, hge, rfl, hnl⟩, hov, Option.bind_some]
            unfold Pg.put
            rw [if_pos (by show (done ++ gov offs).length < _; omega), if_neg (by show ¬ (br offs = 0 ∨ br offs + sp ≥ p.len); omega), if_neg (by simp), if_pos rfl]
          · simp [sty]
          · show (done ++ gov offs ++ [(false, br offs + sp)]).length = _
            rw [List.length_append, hl2]; rfl
          · rw [hfin, if_pos hfit2]; simp
        · refine ⟨{ p with es := done ++ gov offs ++ [(true, 0)], nl := 0, high := 1 }, done ++ gov offs ++ [(true, 0)], [], ?_, ⟨?_, rfl, fun h => absurd rfl h⟩, rfl, rfl, by show (1 : Int) ≤ 1; decide, ?_, fun t => ?_, (by first | exact ⟨_, rfl⟩ | exact ⟨_, (List.append_assoc ..).symm⟩ | exact List.prefix_rfl)⟩
          · unfold Pg.line
            rw [if_pos ⟨by omega, hge, rfl, hnl⟩, hov, Option.bind_some]
            unfold Pg.put
            rw [if_pos (by show (done ++ gov offs).length < _; omega), if_pos (by show (br offs = 0 ∨ br offs + sp ≥ p.len); omega)]
          · simp [sty]
          · show (done ++ gov offs ++ [(true, 0)]).length = _
            rw [List.length_append, hl2]; rfl
          · rw [hfin, if_neg hfit2]; simp
      · have hno : b' = false ∨ offs = [] := by
          cases b' with
          | false => exact .inl rfl
          | true => exact .inr (Classical.byContradiction fun h => hgo ⟨rfl, h⟩)
        have hng : ¬ (0 < p.high ∧ p.high + sp ≥ p.len ∧ b' = true ∧ p.nl ≠ 0) := by
          rintro ⟨_, _, h3, h4⟩
          rcases hno with h | h
          · rw [h] at h3; cases h3
          · rw [R.nl, h] at h4; exact h4 rfl
        refine ⟨{ p with es := p.es ++ [(true, 0)], nl := 0, high := 1 }, done ++ sty p.high offs ++ [(true, 0)], [], ?_, ⟨?_, rfl, fun h => absurd rfl h⟩, rfl, rfl, by show (1 : Int) ≤ 1; decide, by simp, fun t => ?_, (by first | exact ⟨_, rfl⟩ | exact ⟨_, (List.append_assoc ..).symm⟩ | exact List.prefix_rfl)⟩
        · unfold Pg.line Pg.put
          rw [if_neg hng, if_pos hz, if_pos (.inr hge)]
        · show p.es ++ [(true, 0)] = _
          rw [R.es]; simp [sty]
        · rw [fin]
          rw [if_neg (by rintro (h | h); · exact h0 h
                         · cases h), if_neg hfit, if_pos hno]
          simp
theorem begin_ok (R : Rep p done offs) : Rep p.begin (done ++ sty p.high offs) [] := ⟨by show p.es = _; rw [R.es]; simp [sty], rfl, fun h => absurd rfl h⟩
theorem stay_ok {c : Bool} (R : Rep p done offs) : Rep { p with bar := c, nl := 0 } (done ++ sty p.high offs) [] := ⟨by show p.es = _; rw [R.es]; simp [sty], rfl, fun h => absurd rfl h⟩
theorem bar_ok {c : Bool} (R : Rep p done offs) : Rep { p with bar := c } done offs := ⟨R.es, R.nl, R.lo⟩
end
/-! ### lines of blocks -/
abbrev Bk := Int × Int × Bool × Bool
def tlL (c : Int) (j m : Nat) : List L3 := (List.range' j m).map fun (k : Nat) => ((0 : Int), decide ((k : Int) ∈ ([1, c - 1] : List Int)), false)
def blkL (c sp : Int) (barred due : Bool) : List L3 := if c ≤ 0 then [] else (sp, barred, due) :: tlL c 1 (c.toNat - 1)
def lns : Bool → Bool → List Bk → List L3
  | _, _, [] => []
  | barred, due, (c, sp, k, pg) :: bs => blkL c sp barred (due || pg) ++ lns (if c > 0 then k else barred) ((due || pg) && decide (c ≤ 0)) bs
/-- due lines begin with a due one; lines that begin unbarred -/
theorem lns_due : ∀ (bs : List Bk) (barred : Bool), lns barred true bs = [] ∨ ∃ sp b t, lns barred true bs = (sp, b, true) :: t
  | [], _ => .inl rfl
  | (c, sp, k, pg) :: bs, barred => by
    by_cases h : c ≤ 0
    · have e : lns barred true ((c, sp, k, pg) :: bs) = lns barred true bs := by
        show blkL c sp barred (true || pg) ++ lns (if c > 0 then k else barred) ((true || pg) && decide (c ≤ 0)) bs = _
        rw [blkL, if_pos h, if_neg (by omega), decide_eq_true h, Bool.true_or]; rfl
      rw [e]; exact lns_due bs barred
    · refine .inr ⟨sp, barred, tlL c 1 (c.toNat - 1) ++ lns (if c > 0 then k else barred) ((true || pg) && decide (c ≤ 0)) bs, ?_⟩
      show blkL c sp barred (true || pg) ++ _ = _
      rw [blkL, if_neg h, Bool.true_or]; rfl
theorem lns_free : ∀ (bs : List Bk), lns false false bs = [] ∨ ∃ sp f t, lns false false bs = (sp, false, f) :: t ∨ lns false false bs = (sp, f, true) :: t
  | [] => .inl rfl
  | (c, sp, k, pg) :: bs => by
    by_cases h : c ≤ 0
    · have e : lns false false ((c, sp, k, pg) :: bs) = lns false pg bs := by
        show blkL c sp false (false || pg) ++ lns (if c > 0 then k else false) ((false || pg) && decide (c ≤ 0)) bs = _
        rw [blkL, if_pos h, if_neg (by omega), decide_eq_true h, Bool.false_or, Bool.and_true]; rfl
      rw [e]
      cases pg with
      | true =>
        rcases lns_due bs false with h | ⟨sp, b, t, h⟩
        · exact .inl h
        · exact .inr ⟨sp, b, t, .inr h⟩
      | false => exact lns_free bs
    · refine .inr ⟨sp, pg, tlL c 1 (c.toNat - 1) ++ lns (if c > 0 then k else false) ((false || pg) && decide (c ≤ 0)) bs, .inl ?_⟩
      show blkL c sp false (false || pg) ++ _ = _
      rw [blkL, if_neg h, Bool.false_or]; rfl
theorem fin_drop {len u : Int} {offs : List Int} {ls : List L3} (h : ls = [] ∨ ∃ sp f t, ls = (sp, false, f) :: t ∨ ls = (sp, f, true) :: t) : fin len u offs ls = sty u offs ++ fin len u [] ls := by
  rcases h with rfl | ⟨sp, f, t, rfl | rfl⟩
  · simp [fin, sty]
  · simp only [fin, sty_nil]
    split
    · simp
    · split
      · simp
      · simp
  · simp [fin, sty_nil]
theorem fin_due {len u : Int} {offs : List Int} {ls : List L3} (h : ls = [] ∨ ∃ sp b t, ls = (sp, b, true) :: t) : fin len u offs ls = sty u offs ++ fin len 0 [] ls := by
  rcases h with rfl | ⟨sp, b, t, rfl⟩
  · simp [fin, sty]
  · simp [fin, sty_nil]
theorem tail_go {c s : Int} : ∀ (m j : Nat) (p : Pg) (done : List Ln) (offs : List Int), 1 ≤ j → Rep p done offs → 1 ≤ p.high → p.es.length + m ≤ 100000 →
    ∃ q done' offs', folM (Pg.turn c s) ((List.range' j m).map fun (k : Nat) => (k : Int)) p = some q ∧ Rep q done' offs' ∧ q.len = p.len ∧ q.bar = p.bar ∧ 1 ≤ q.high ∧ q.es.length = p.es.length + m ∧
      (∀ t, done ++ fin p.len p.high offs (tlL c j m ++ t) = done' ++ fin p.len q.high offs' t) ∧ done <+: done'
  | 0, j, p, done, offs, _, R, h1, _ => ⟨p, done, offs, rfl, R, rfl, rfl, h1, rfl, fun t => rfl, List.prefix_rfl⟩
  | m + 1, j, p, done, offs, hj, R, h1, hz => by
    obtain ⟨q, d, o, e1, R1, l1, b1, u1, n1, f1, g1⟩ := line_ok (sp := 0) (b := decide ((j : Int) ∈ ([1, c - 1] : List Int))) (b' := decide ((j : Int) ∈ ([1, c - 1] : List Int))) (f := false) R (by omega) (by decide) (by omega) (fun h => by cases h) (.inr rfl)
    obtain ⟨q2, d2, o2, e2, R2, l2, b2, u2, n2, f2, g2⟩ := tail_go (c := c) (s := s) m (j + 1) q d o (by omega) R1 u1 (by omega)
    refine ⟨q2, d2, o2, ?_, R2, l2.trans l1, b2.trans b1, u2, by omega, fun t => ?_, g1.trans g2⟩
    · rw [List.range'_succ, List.map_cons]
      show (Pg.turn c s p (j : Int)).bind _ = _
      have : Pg.turn c s p (j : Int) = some q := by
        unfold Pg.turn
        rw [if_neg (by omega)]; exact e1
      rw [this]
      exact e2
    · have ht : tlL c j (m + 1) = (0, decide ((j : Int) ∈ ([1, c - 1] : List Int)), false) :: tlL c (j + 1) m := by
        unfold tlL; rw [List.range'_succ]; rfl
      rw [ht, List.cons_append, f1]
      rw [← l1]; exact f2 t
def BkOk (b : Bk) : Prop := 0 ≤ b.1 ∧ b.1 ≤ 1000 ∧ 0 ≤ b.2.1
/-- where a page stands between blocks -/
structure Bnd (p : Pg) (barred due : Bool) : Prop where
  u : 0 ≤ p.high
  dz : due = true → p.high = 0
  bz : due = false → p.bar = barred ∧ 1 ≤ p.high
theorem block_ok {p : Pg} {done : List Ln} {offs : List Int} {barred due : Bool} {c sp : Int} {k pg : Bool} (R : Rep p done offs) (B : Bnd p barred due) (ho : BkOk (c, sp, k, pg)) (hz : p.es.length + c.toNat ≤ 100000) :
    ∃ q done' offs', p.block c sp k pg = some q ∧ Rep q done' offs' ∧ q.len = p.len ∧ Bnd q (if c > 0 then k else barred) ((due || pg) && decide (c ≤ 0)) ∧ q.es.length = p.es.length + c.toNat ∧
      (∀ bs, done ++ fin p.len p.high offs (lns barred due ((c, sp, k, pg) :: bs)) = done' ++ fin p.len q.high offs' (lns (if c > 0 then k else barred) ((due || pg) && decide (c ≤ 0)) bs)) ∧ done <+: done' := by
  obtain ⟨hc0, hc1, hs0⟩ := ho
  dsimp only at hc0 hc1 hs0
  -- begin
  have h1 : ∃ d1 o1, Rep (if pg = true then p.begin else p) d1 o1 ∧ (if pg = true then p.begin else p).len = p.len ∧ (if pg = true then p.begin else p).es = p.es ∧ Bnd (if pg = true then p.begin else p) barred (due || pg) ∧
      (∀ bs, done ++ fin p.len p.high offs (lns barred due ((c, sp, k, pg) :: bs)) = d1 ++ fin p.len (if pg = true then p.begin else p).high o1 (lns barred due ((c, sp, k, pg) :: bs))) ∧ done <+: d1 := by
    cases pg with
    | false => exact ⟨done, offs, R, rfl, rfl, by rw [Bool.or_false]; exact B, fun bs => rfl, List.prefix_rfl⟩
    | true =>
      refine ⟨_, _, begin_ok R, rfl, rfl, ⟨by show (0 : Int) ≤ 0; decide, fun _ => rfl, fun h => by simp at h⟩, fun bs => ?_, List.prefix_append ..⟩
      have e : lns barred due ((c, sp, k, true) :: bs) = lns barred true ((c, sp, k, true) :: bs) := by
        show blkL c sp barred (due || true) ++ lns _ ((due || true) && _) bs = blkL c sp barred (true || true) ++ lns _ ((true || true) && _) bs
        rw [Bool.or_true]; rfl
      show _ = done ++ sty p.high offs ++ fin p.len 0 [] _
      rw [e, fin_due (lns_due _ _), List.append_assoc]
  obtain ⟨d1, o1, R1, l1, e1, B1, f1, g1⟩ := h1
  unfold Pg.block
  rw [rngM_ok hc0 (by omega), Option.bind_some]
  generalize hp1 : (if pg = true then p.begin else p) = p1 at R1 l1 e1 B1 f1 ⊢
  by_cases hc : c ≤ 0
  · have hcz : c = 0 := by omega
    subst hcz
    refine ⟨p1, d1, o1, ?_, R1, l1, ?_, ?_, fun bs => ?_, g1⟩
    · show (some p1).bind _ = _
      rw [Option.bind_some, if_neg (by decide)]
    · rw [if_neg (by decide), decide_eq_true hc, Bool.and_true]; exact B1
    · rw [e1]; rfl
    · rw [f1]
      show d1 ++ fin p.len p1.high o1 (blkL 0 sp barred (due || pg) ++ _) = _
      rw [blkL, if_pos hc]; rfl
  · obtain ⟨q, d2, o2, eq, R2, l2, b2, u2, n2, f2, g2⟩ := line_ok (sp := sp) (b := barred) (b' := p1.bar) (f := (due || pg)) R1 B1.u hs0 (by rw [e1]; omega) B1.dz (by
      cases hd : (due || pg) with
      | true => exact .inl (B1.dz hd)
      | false => exact .inr (B1.bz hd).1)
    obtain ⟨q2, d3, o3, eq2, R3, l3, b3, u3, n3, f3, g3⟩ := tail_go (c := c) (s := sp) (c.toNat - 1) 1 q d2 o2 (Nat.le_refl _) R2 u2 (by rw [n2, e1]; omega)
    have hrun : Pg.lines c sp ((List.range c.toNat).map fun (i : Nat) => (i : Int)) p1 = some q2 := by
      unfold Pg.lines
      have e : c.toNat = (c.toNat - 1) + 1 := by omega
      rw [e, List.range_eq_range', List.range'_succ, List.map_cons]
      show (Pg.turn c sp p1 ((0 : Nat) : Int)).bind _ = _
      have e2 : Pg.turn c sp p1 ((0 : Nat) : Int) = some q := by
        unfold Pg.turn
        rw [if_pos (by simp)]; exact eq
      rw [e2]
      exact eq2
    have hf : ∀ bs, done ++ fin p.len p.high offs (lns barred due ((c, sp, k, pg) :: bs)) = d3 ++ fin p.len q2.high o3 (lns k false bs) := by
      intro bs
      rw [f1]
      have e : lns barred due ((c, sp, k, pg) :: bs) = (sp, barred, due || pg) :: (tlL c 1 (c.toNat - 1) ++ lns k false bs) := by
        show blkL c sp barred (due || pg) ++ lns (if c > 0 then k else barred) ((due || pg) && decide (c ≤ 0)) bs = _
        rw [blkL, if_neg hc, if_pos (by omega), decide_eq_false hc, Bool.and_false]; rfl
      rw [e, ← l1, f2, ← l2, f3]
    have hcp : c > 0 := by omega
    rw [hrun, Option.bind_some]
    simp only [if_pos hcp]
    have hd : ((due || pg) && decide (c ≤ 0)) = false := by rw [decide_eq_false hc, Bool.and_false]
    rw [hd]
    have hn : q2.es.length = p.es.length + c.toNat := by have := congrArg List.length e1; omega
    cases k with
    | true =>
      refine ⟨{ q2 with bar := true }, d3, o3, rfl, bar_ok R3, (l3.trans l2).trans l1, ⟨(by show 0 ≤ q2.high; omega), (fun h => by cases h), fun _ => ⟨rfl, u3⟩⟩, hn, hf, (g1.trans g2).trans g3⟩
    | false =>
      refine ⟨{ q2 with bar := false, nl := 0 }, d3 ++ sty q2.high o3, [], rfl, stay_ok R3, (l3.trans l2).trans l1, ⟨(by show 0 ≤ q2.high; omega), (fun h => by cases h), fun _ => ⟨rfl, u3⟩⟩, hn, fun bs => ?_, ((g1.trans g2).trans g3).trans (List.prefix_append ..)⟩
      rw [hf, fin_drop (lns_free bs), List.append_assoc]
def cnt (bs : List Bk) : Nat := (bs.map fun b => b.1.toNat).sum
theorem blocks_go {F : Pg → Bk → Option Pg} (hF : ∀ p c sp k pg, F p (c, sp, k, pg) = p.block c sp k pg) : ∀ (bs : List Bk) (p : Pg) (done : List Ln) (offs : List Int) (barred due : Bool), Rep p done offs → Bnd p barred due → (∀ b ∈ bs, BkOk b) → p.es.length + cnt bs ≤ 100000 →
    ∃ q done' offs', folM F bs p = some q ∧ Rep q done' offs' ∧ q.len = p.len ∧ q.es.length = p.es.length + cnt bs ∧ q.es = done ++ fin p.len p.high offs (lns barred due bs)
  | [], p, done, offs, _, _, R, _, _, _ => ⟨p, done, offs, rfl, R, rfl, rfl, by rw [R.es]; simp [lns, fin]⟩
  | (c, sp, k, pg) :: bs, p, done, offs, barred, due, R, B, ho, hz => by
    have hcn : cnt ((c, sp, k, pg) :: bs) = c.toNat + cnt bs := by simp [cnt]
    rw [hcn] at hz ⊢
    obtain ⟨q, d, o, e1, R1, l1, B1, n1, f1, g1⟩ := block_ok R B (ho _ (List.mem_cons_self ..)) (by omega)
    obtain ⟨q2, d2, o2, e2, R2, l2, n2, f2⟩ := blocks_go hF bs q d o _ _ R1 B1 (fun b hb => ho b (List.mem_cons_of_mem _ hb)) (by omega)
    refine ⟨q2, d2, o2, ?_, R2, l2.trans l1, by omega, ?_⟩
    · show (F p (c, sp, k, pg)).bind _ = _
      rw [hF, e1]
      exact e2
    · rw [f2, f1, l1]
theorem page_fin {F : Pg → Bk → Option Pg} (hF : ∀ p c sp k pg, F p (c, sp, k, pg) = p.block c sp k pg) (len : Int) (bs : List Bk) (ho : ∀ b ∈ bs, BkOk b) (hz : cnt bs ≤ 100000) : ∃ q, folM F bs (Pg.new len) = some q ∧ q.es = fin len 0 [] (lns false true bs) := by
  obtain ⟨q, d, o, e, _, _, _, f⟩ := blocks_go hF bs (Pg.new len) [] [] false true ⟨rfl, rfl, fun h => absurd rfl h⟩ ⟨(by show (0 : Int) ≤ 0; decide), fun _ => rfl, (fun h => by cases h)⟩ ho (by show 0 + cnt bs ≤ 100000; omega)
  exact ⟨q, e, f⟩
end Mr

set_option linter.all false
set_option maxRecDepth 100000
set_option maxHeartbeats 1000000
/-! RunP: a page by its run of lines. -/
namespace Mr
/-! ### a page's lines -/
inductive Run (ls : List L3) (len : Int) : Nat → Int → Nat → Int → Prop
  | refl (i : Nat) (r : Int) : Run ls len i r i r
  | step {i p : Nat} {r q sp : Int} {b : Bool} : ls[i]? = some (sp, b, false) → r + sp + 1 < len → Run ls len (i + 1) (r + sp + 1) p q → Run ls len i r p q
def Stp (ls : List L3) (len : Int) (p : Nat) (q : Int) : Prop := p = ls.length ∨ ∃ sp b f, ls[p]? = some (sp, b, f) ∧ (f = true ∨ len ≤ q + sp + 1)
section
variable {ls : List L3} {len : Int}
theorem run_le {i p : Nat} {r q : Int} (h : Run ls len i r p q) : i ≤ p := by
  induction h with
  | refl => exact Nat.le_refl _
  | step _ _ _ ih => omega
theorem run_ex : ∀ (n i : Nat) (r : Int), ls.length = i + n → ∃ p q, Run ls len i r p q ∧ Stp ls len p q ∧ p ≤ ls.length
  | 0, i, r, h => ⟨i, r, .refl i r, .inl (by omega), by omega⟩
  | n + 1, i, r, h => by
    obtain ⟨⟨sp, b, f⟩, hx⟩ : ∃ x, ls[i]? = some x := ⟨ls[i]'(by omega), List.getElem?_eq_getElem (by omega)⟩
    by_cases hs : f = true ∨ len ≤ r + sp + 1
    · exact ⟨i, r, .refl i r, .inr ⟨sp, b, f, hx, hs⟩, by omega⟩
    · have hf : f = false := by
        cases f with
        | false => rfl
        | true => exact absurd (.inl rfl) hs
      subst hf
      obtain ⟨p, q, h1, h2, h3⟩ := run_ex n (i + 1) (r + sp + 1) (by omega)
      exact ⟨p, q, .step hx (by omega) h1, h2, h3⟩
/-! unbarred places -/
def ub (ls : List L3) (k : Nat) : Bool := match ls[k]? with
  | some l => !l.2.1
  | none => false
def frs (ls : List L3) (i m : Nat) : List Nat := (List.range' i m).filter (ub ls)
theorem fr_gen {F : List Int → Int → Option (List Int)} (hF : ∀ (acc : List Int) (i : Nat) (x : L3), ls[i]? = some x → acc.length < 100000 → F acc (i : Int) = some (if (!x.2.1) = true then acc ++ [(i : Int)] else acc)) : ∀ (m i : Nat) (acc : List Int), i + m ≤ ls.length → acc.length + m ≤ 100000 → folM F ((List.range' i m).map fun (k : Nat) => (k : Int)) acc = some (acc ++ (frs ls i m).map fun (k : Nat) => (k : Int))
  | 0, i, acc, _, _ => by simp [folM, frs]
  | m + 1, i, acc, h, hz => by
    obtain ⟨⟨sp, b, f⟩, hx⟩ : ∃ x, ls[i]? = some x := ⟨ls[i]'(by omega), List.getElem?_eq_getElem (by omega)⟩
    have hu : ub ls i = !b := by unfold ub; rw [hx]
    rw [List.range'_succ, List.map_cons]
    show (F acc (i : Int)).bind _ = _
    rw [hF acc i _ hx (by omega), Option.bind_some]
    cases b with
    | true =>
      have : frs ls i (m + 1) = frs ls (i + 1) m := by
        unfold frs; rw [List.range'_succ, List.filter_cons_of_neg (by rw [hu]; simp)]
      rw [this]
      exact fr_gen hF m (i + 1) acc (by omega) (by omega)
    | false =>
      have : frs ls i (m + 1) = i :: frs ls (i + 1) m := by
        unfold frs; rw [List.range'_succ, List.filter_cons_of_pos (by rw [hu]; simp)]
      rw [this]
      show folM F _ (acc ++ [(i : Int)]) = _
      rw [fr_gen hF m (i + 1) _ (by omega) (by simp; omega)]
      simp
/-- where the page stops, by the last unbarred place -/
def cutB (p i : Nat) (h : Bool) : Option Nat → Option Nat
  | some x => some (x - i)
  | none => if h then none else some (p - i)
theorem run_cutA {i p : Nat} {r q : Int} (h : Run ls len i r p q) (hp : p = ls.length ∨ ∃ sp b, ls[p]? = some (sp, b, true)) : ∀ hh, cutR len (ls.drop i) (r + 1) hh = some (p - i) := by
  induction h with
  | refl i r =>
    intro hh
    rcases hp with h | ⟨sp, b, hx⟩
    · rw [List.drop_eq_nil_of_le (by omega)]; simp [cutR]
    · have hi : i < ls.length := (List.getElem?_eq_some_iff.mp hx).1
      have e : ls[i] = (sp, b, true) := (List.getElem?_eq_some_iff.mp hx).2
      rw [List.drop_eq_getElem_cons hi, e, cutR]; simp
  | @step i p r q sp b hx hf hrun ih =>
    intro hh
    have hle := run_le hrun
    have hi : i < ls.length := (List.getElem?_eq_some_iff.mp hx).1
    have e : ls[i] = (sp, b, false) := (List.getElem?_eq_some_iff.mp hx).2
    rw [List.drop_eq_getElem_cons hi, e, cutR]
    have e1 : r + 1 + sp + 1 = r + sp + 1 + 1 := by omega
    have hng : ¬ (r + 1 + sp + 1 > len) := by omega
    have e2 : p - i = p - (i + 1) + 1 := by omega
    rw [if_neg (by simp), if_neg hng, e1, ih hp, ih hp, e2]
    cases b <;> simp
theorem getLast_cons' {α : Type} (a : α) (l : List α) : (a :: l).getLast? = some (l.getLast?.getD a) := by
  rw [List.getLast?_cons]
theorem frs_ge {i m x : Nat} (h : x ∈ frs ls i m) : i ≤ x ∧ x < i + m ∧ ub ls x = true := by
  unfold frs at h
  obtain ⟨h1, h2⟩ := List.mem_filter.mp h
  rw [List.mem_range'_1] at h1
  exact ⟨h1.1, h1.2, h2⟩
theorem run_cutB {i p : Nat} {r q sp : Int} {b : Bool} (h : Run ls len i r p q) (hx : ls[p]? = some (sp, b, false)) (ho : len ≤ q + sp + 1) : ∀ hh, cutR len (ls.drop i) (r + 1) hh = cutB p i hh (frs ls i (p + 1 - i)).getLast? := by
  induction h with
  | refl i r =>
    intro hh
    have hi : i < ls.length := (List.getElem?_eq_some_iff.mp hx).1
    have e : ls[i] = (sp, b, false) := (List.getElem?_eq_some_iff.mp hx).2
    have hu : ub ls i = !b := by unfold ub; rw [hx]
    rw [List.drop_eq_getElem_cons hi, e, cutR]
    have hg : r + 1 + sp + 1 > len := by omega
    have e1 : i + 1 - i = 1 := by omega
    rw [if_neg (by simp), if_pos hg, e1]
    cases b with
    | false =>
      have : frs ls i 1 = [i] := by unfold frs; simp [List.range'_succ, hu]
      rw [this]; simp [cutB]
    | true =>
      have : frs ls i 1 = [] := by unfold frs; simp [List.range'_succ, hu]
      rw [this]; cases hh <;> simp [cutB]
  | @step i p r q sp' b' hx' hf hrun ih =>
    intro hh
    have hle := run_le hrun
    have hi : i < ls.length := (List.getElem?_eq_some_iff.mp hx').1
    have e : ls[i] = (sp', b', false) := (List.getElem?_eq_some_iff.mp hx').2
    have hu : ub ls i = !b' := by unfold ub; rw [hx']
    rw [List.drop_eq_getElem_cons hi, e, cutR]
    have e1 : r + 1 + sp' + 1 = r + sp' + 1 + 1 := by omega
    have hng : ¬ (r + 1 + sp' + 1 > len) := by omega
    have e2 : p + 1 - i = (p + 1 - (i + 1)) + 1 := by omega
    rw [if_neg (by simp), if_neg hng, e1, ih hx ho, ih hx ho, e2]
    cases b' with
    | false =>
      have : frs ls i (p + 1 - (i + 1) + 1) = i :: frs ls (i + 1) (p + 1 - (i + 1)) := by
        unfold frs; rw [List.range'_succ, List.filter_cons_of_pos (by rw [hu]; simp)]
      rw [this, getLast_cons', if_pos rfl]
      cases hl : (frs ls (i + 1) (p + 1 - (i + 1))).getLast? with
      | none => simp [cutB]
      | some x =>
        have := (frs_ge (List.mem_of_getLast? hl)).1
        show some (x - (i + 1) + 1) = some (x - i)
        congr 1; omega
    | true =>
      have : frs ls i (p + 1 - (i + 1) + 1) = frs ls (i + 1) (p + 1 - (i + 1)) := by
        unfold frs; rw [List.range'_succ, List.filter_cons_of_neg (by rw [hu]; simp)]
      rw [this, if_neg (by simp)]
      cases hl : (frs ls (i + 1) (p + 1 - (i + 1))).getLast? with
      | none =>
        cases hh with
        | true => simp [cutB]
        | false => show some (p - (i + 1) + 1) = some (p - i); congr 1; omega
      | some x =>
        have := (frs_ge (List.mem_of_getLast? hl)).1
        show some (x - (i + 1) + 1) = some (x - i)
        congr 1; omega
theorem frs_app (i m k : Nat) : frs ls i (m + k) = frs ls i m ++ frs ls (i + m) k := by
  unfold frs
  rw [← List.range'_append_1, List.filter_append]
/-- behind the last unbarred place all are barred -/
theorem frs_last {i m x : Nat} (h : (frs ls i m).getLast? = some x) : frs ls (x + 1) (i + m - (x + 1)) = [] := by
  have hx := frs_ge (List.mem_of_getLast? h)
  have e : m = (x + 1 - i) + (i + m - (x + 1)) := by omega
  rw [e, frs_app] at h
  have e2 : i + (x + 1 - i) = x + 1 := by omega
  rw [e2] at h
  cases hf : frs ls (x + 1) (i + m - (x + 1)) with
  | nil => rfl
  | cons y ys =>
    rw [hf, List.getLast?_append] at h
    have hy : (y :: ys).getLast? = some x := by
      rw [getLast_cons'] at h ⊢
      simpa using h
    have hm := List.mem_of_getLast? hy
    rw [← hf] at hm
    have := (frs_ge hm).1
    omega
theorem lst_neg {xs : List Int} {x : Int} (h : xs.getLast? = some x) : getM xs (-1) = some x := by
  have hne : xs ≠ [] := by intro e; subst e; cases h
  have hl : 0 < xs.length := List.length_pos_iff.mpr hne
  unfold getM ixM
  rw [if_neg (by decide), if_pos (by omega)]
  show xs[((-1 : Int) + (xs.length : Int)).toNat]? = some x
  have e : ((-1 : Int) + (xs.length : Int)).toNat = xs.length - 1 := by omega
  rw [e, ← h, List.getLast?_eq_getElem?]
def Fits (len : Int) : Int → List L3 → Prop
  | _, [] => True
  | r, (sp, _, f) :: t => f = false ∧ r + sp + 1 < len ∧ Fits len (r + sp + 1) t
theorem run_fits {i p : Nat} {r q : Int} (h : Run ls len i r p q) : ∀ m, m ≤ p - i → Fits len r ((ls.drop i).take m) := by
  induction h with
  | refl i r =>
    intro m hm
    have : m = 0 := by omega
    subst this; simp [Fits]
  | @step i p r q sp b hx hf hrun ih =>
    intro m hm
    have hi : i < ls.length := (List.getElem?_eq_some_iff.mp hx).1
    have e : ls[i] = (sp, b, false) := (List.getElem?_eq_some_iff.mp hx).2
    cases m with
    | zero => simp [Fits]
    | succ m =>
      rw [List.drop_eq_getElem_cons hi, e, List.take_succ_cons]
      exact ⟨rfl, hf, ih m (by omega)⟩
theorem fin_next {s c : Nat} (hs : s < ls.length) (hn : ∀ x ∈ ls, 0 ≤ x.1) (hc : cutR len (ls.drop (s + 1)) 1 false = some c) : fin len 0 [] (ls.drop s) = (true, 0) :: (rowsF 0 ((ls.drop (s + 1)).take c) ++ fin len 0 [] (ls.drop (s + 1 + c))) := by
  rw [List.drop_eq_getElem_cons hs, fin_zero]
  obtain ⟨⟨c', hc', _, hf⟩, _⟩ := fin_page len (ls.drop (s + 1)) 1 (by decide) (fun x hx => hn x (List.mem_of_mem_drop hx))
  rw [hc] at hc'
  cases hc'
  rw [hf, List.drop_drop]
  rfl
end
end Mr

set_option linter.all false
set_option maxRecDepth 100000
set_option maxHeartbeats 1000000
/-! LawPg: the law's own lines, cuts and pages. -/
namespace Mr
theorem ll_tail {bd du : Bool} {c sp : Int} {k pg : Bool} : ∀ (m j : Nat) (acc : List L3), 1 ≤ j → acc.length + m ≤ 100000 →
    folM (m_law_lines_b2 bd du (c, sp, k, pg)) ((List.range' j m).map fun (i : Nat) => (i : Int)) acc = some (acc ++ tlL c j m)
  | 0, j, acc, _, _ => by simp [folM, tlL]
  | m + 1, j, acc, hj, hz => by
    rw [List.range'_succ, List.map_cons]
    show (m_law_lines_b2 bd du (c, sp, k, pg) acc (j : Int)).bind _ = _
    have e : m_law_lines_b2 bd du (c, sp, k, pg) acc (j : Int) = some (acc ++ [(0, decide ((j : Int) ∈ ([1, c - 1] : List Int)), false)]) := by
      unfold m_law_lines_b2
      dsimp only
      exact bindOk (if_neg (by simp; omega)) (bindOk (appM_ok (by omega)) rfl)
    rw [e, Option.bind_some, ll_tail m (j + 1) _ (by omega) (by simp; omega)]
    unfold tlL
    rw [List.range'_succ]
    simp
theorem ll_blk {bd du : Bool} {c sp : Int} {k pg : Bool} {acc : List L3} (hc : 0 ≤ c) (hz : acc.length + c.toNat ≤ 100000) :
    m_law_lines_b1 (acc, bd, du) (c, sp, k, pg) = some (acc ++ blkL c sp bd (du || pg), (if c > 0 then k else bd), (du || pg) && decide (c ≤ 0)) := by
  unfold m_law_lines_b1
  dsimp only
  refine bindOk (rngM_ok hc (by omega)) ?_
  have e0 : (decide (c = 0)) = decide (c ≤ 0) := by
    by_cases h : c ≤ 0
    · rw [decide_eq_true h, decide_eq_true (by omega)]
    · rw [decide_eq_false h, decide_eq_false (by omega)]
  by_cases h : c ≤ 0
  · have hz' : c = 0 := by omega
    subst hz'
    refine bindOk (a := acc) rfl ?_
    simp [blkL]
  · have e : c.toNat = (c.toNat - 1) + 1 := by omega
    rw [e, List.range_eq_range', List.range'_succ, List.map_cons]
    refine bindOk (a := acc ++ blkL c sp bd (du || pg)) ?_ ?_
    · show (m_law_lines_b2 bd du (c, sp, k, pg) acc ((0 : Nat) : Int)).bind _ = _
      have e : m_law_lines_b2 bd du (c, sp, k, pg) acc ((0 : Nat) : Int) = some (acc ++ [(sp, bd, du || pg)]) := by
        unfold m_law_lines_b2
        dsimp only
        exact bindOk (if_pos (by simp)) (bindOk (appM_ok (by omega)) rfl)
      rw [e, Option.bind_some, ll_tail _ _ _ (Nat.le_refl _) (by simp; omega), blkL, if_neg h]
      simp
    · have hp : c > 0 := by omega
      rw [e0]
      simp [hp]
theorem blkL_length {c sp : Int} {bd du : Bool} (hc : 0 ≤ c) : (blkL c sp bd du).length = c.toNat := by
  unfold blkL
  split
  · simp; omega
  · simp [tlL]; omega
theorem lines_go {F : (List L3 × Bool × Bool) → Bk → Option (List L3 × Bool × Bool)}
    (hF : ∀ (acc : List L3) (bd du : Bool) (c sp : Int) (k pg : Bool), 0 ≤ c → acc.length + c.toNat ≤ 100000 → F (acc, bd, du) (c, sp, k, pg) = some (acc ++ blkL c sp bd (du || pg), (if c > 0 then k else bd), (du || pg) && decide (c ≤ 0))) :
    ∀ (bs : List Bk) (acc : List L3) (bd du : Bool), (∀ b ∈ bs, BkOk b) → acc.length + cnt bs ≤ 100000 → ∃ r, folM F bs (acc, bd, du) = some (acc ++ lns bd du bs, r)
  | [], acc, bd, du, _, _ => ⟨(bd, du), by simp [folM, lns]⟩
  | (c, sp, k, pg) :: bs, acc, bd, du, ho, hz => by
    have hcn : cnt ((c, sp, k, pg) :: bs) = c.toNat + cnt bs := by simp [cnt]
    have hc : 0 ≤ c := (ho _ (List.mem_cons_self ..)).1
    obtain ⟨r, h⟩ := lines_go hF bs (acc ++ blkL c sp bd (du || pg)) (if c > 0 then k else bd) ((du || pg) && decide (c ≤ 0)) (fun b hb => ho b (List.mem_cons_of_mem _ hb)) (by rw [List.length_append, blkL_length hc]; omega)
    refine ⟨r, ?_⟩
    show (F (acc, bd, du) (c, sp, k, pg)).bind _ = _
    rw [hF _ _ _ _ _ _ _ hc (by omega), Option.bind_some, h]
    show _ = some (acc ++ (blkL c sp bd (du || pg) ++ _), r)
    rw [List.append_assoc]
theorem law_lines_ok {bs : List Bk} (ho : ∀ b ∈ bs, BkOk b) (hz : cnt bs ≤ 100000) : ∃ r, m_law_lines bs = some (lns false true bs, r) := by
  obtain ⟨r, h⟩ := lines_go (F := m_law_lines_b1) (fun _ _ _ _ _ _ _ h1 h2 => ll_blk h1 h2) bs [] false true ho (by simpa using hz)
  unfold m_law_lines
  exact ⟨r, bindOk h (by simp)⟩
theorem lns_length : ∀ (bs : List Bk) (bd du : Bool), (∀ b ∈ bs, BkOk b) → (lns bd du bs).length = cnt bs
  | [], _, _, _ => rfl
  | (c, sp, k, pg) :: bs, bd, du, ho => by
    have hcn : cnt ((c, sp, k, pg) :: bs) = c.toNat + cnt bs := by simp [cnt]
    show (blkL c sp bd (du || pg) ++ lns _ _ bs).length = _
    rw [List.length_append, blkL_length (ho _ (List.mem_cons_self ..)).1, lns_length bs _ _ (fun b hb => ho b (List.mem_cons_of_mem _ hb)), hcn]
theorem lns_nonneg : ∀ (bs : List Bk) (bd du : Bool), (∀ b ∈ bs, BkOk b) → ∀ l ∈ lns bd du bs, 0 ≤ l.1
  | [], _, _, _, l, hl => by cases hl
  | (c, sp, k, pg) :: bs, bd, du, ho, l, hl => by
    rcases List.mem_append.mp (show l ∈ blkL c sp bd (du || pg) ++ lns _ _ bs from hl) with h | h
    · unfold blkL at h
      split at h
      · cases h
      · rcases List.mem_cons.mp h with rfl | h
        · exact (ho _ (List.mem_cons_self ..)).2.2
        · unfold tlL at h
          obtain ⟨k, _, rfl⟩ := List.mem_map.mp h
          exact Int.le_refl _
    · exact lns_nonneg bs _ _ (fun b hb => ho b (List.mem_cons_of_mem _ hb)) l h
section
variable {ls : List L3} {len : Int}
theorem lc_c2 {acc : List Int} {i : Nat} {x : L3} (hx : ls[i]? = some x) (hz : acc.length < 100000) : m_law_cut_c2 ls acc (i : Int) = some (if (!x.2.1) = true then acc ++ [(i : Int)] else acc) := by
  unfold m_law_cut_c2
  refine bindOk (getM_nat hx) ?_
  by_cases h : (!x.2.1) = true
  · rw [if_pos h, if_pos h]; exact bindOk (appM_ok hz) rfl
  · rw [if_neg h, if_neg h]
theorem lc_run {s : Nat} {i p : Nat} {r q : Int} (h : Run ls len i r p q) (hp : p ≤ ls.length) : forL (m_law_cut_b1 len ls (s : Int)) ((List.range' i (ls.length - i)).map fun (k : Nat) => (k : Int)) r = forL (m_law_cut_b1 len ls (s : Int)) ((List.range' p (ls.length - p)).map fun (k : Nat) => (k : Int)) q := by
  induction h with
  | refl i r => rfl
  | @step i p r q sp b hx hf hrun ih =>
    have hi : i < ls.length := (List.getElem?_eq_some_iff.mp hx).1
    have g := getM_nat hx
    have e1 : ls.length - i = (ls.length - (i + 1)) + 1 := by omega
    rw [e1, List.range'_succ, List.map_cons, forL_cons]
    have e : m_law_cut_b1 len ls (s : Int) r (i : Int) = some (.go (r + sp + 1)) := by
      unfold m_law_cut_b1
      refine bindOk g (bindOk g ((if_neg (by simp)).trans (if_neg (by simp; omega))))
    rw [e]
    exact ih hp
theorem law_cut_ok {s : Nat} (hs : s < ls.length) (hz : ls.length ≤ 50000) : ∃ c : Nat, m_law_cut len ls (s : Int) = some ((s : Int) + 1 + (c : Int)) ∧ cutR len (ls.drop (s + 1)) 1 false = some c ∧ s + 1 + c ≤ ls.length ∧ Fits len 0 ((ls.drop (s + 1)).take c) := by
  obtain ⟨p, q, hr, hstp, hp⟩ := run_ex (ls := ls) (len := len) (ls.length - (s + 1)) (s + 1) 0 (by omega)
  have hle := run_le hr
  have hrng0 : rng2M ((s : Int) + 1) (ls.length : Int) = some ((List.range' (s + 1) (ls.length - (s + 1))).map fun (k : Nat) => (k : Int)) := rng2_ok (a := s + 1) (b := ls.length) (by omega) (by omega)
  by_cases hA : p = ls.length ∨ ∃ sp b, ls[p]? = some (sp, b, true)
  · refine ⟨p - (s + 1), ?_, run_cutA hr hA false, by omega, run_fits hr _ (Nat.le_refl _)⟩
    unfold m_law_cut
    refine bindOk hrng0 ?_
    rw [lc_run hr hp]
    rcases hA with h | ⟨sp, b, hx⟩
    · have e : ls.length - p = 0 := by omega
      rw [e]
      refine bindOk (a := .nx q) rfl ?_
      exact congrArg some (by omega)
    · have hi : p < ls.length := (List.getElem?_eq_some_iff.mp hx).1
      have e : ls.length - p = (ls.length - (p + 1)) + 1 := by omega
      rw [e, List.range'_succ, List.map_cons, forL_cons]
      have e2 : m_law_cut_b1 len ls (s : Int) q (p : Int) = some (.rt (p : Int)) := by
        unfold m_law_cut_b1
        exact bindOk (getM_nat hx) (bindOk (getM_nat hx) rfl)
      rw [e2]
      refine bindOk (a := .rt (p : Int)) rfl ?_
      exact congrArg some (by omega)
  · have hnl : ¬ p = ls.length := fun h => hA (.inl h)
    obtain ⟨sp, b, f, hx, hov⟩ := hstp.resolve_left hnl
    have hf : f = false := by
      cases f with
      | false => rfl
      | true => exact absurd (.inr ⟨sp, b, hx⟩) hA
    subst hf
    have ho : len ≤ q + sp + 1 := hov.resolve_left (by simp)
    have hi : p < ls.length := (List.getElem?_eq_some_iff.mp hx).1
    have hcut := run_cutB hr hx ho false
    have e1 : p + 1 - (s + 1) = p - s := by omega
    rw [e1] at hcut
    have hfr := fr_gen (ls := ls) (F := m_law_cut_c2 ls) (fun acc i x h1 h2 => lc_c2 h1 h2) (p - s) (s + 1) [] (by omega) (by simp; omega)
    have hrng : rng2M ((s : Int) + 1) ((p : Int) + 1) = some ((List.range' (s + 1) (p - s)).map fun (k : Nat) => (k : Int)) := by
      have := rng2_ok (a := s + 1) (b := p + 1) (by omega) (by omega)
      have e : p + 1 - (s + 1) = p - s := by omega
      rw [e] at this
      exact this
    have hhead : ∀ x : Int, (if (!decide (((frs ls (s + 1) (p - s)).map fun (k : Nat) => (k : Int)) = ([] : (List Int)))) then (Option.bind (getM ((frs ls (s + 1) (p - s)).map fun (k : Nat) => (k : Int)) (-(1 : Int))) fun x19 => some x19) else (some (p : Int))) = some x → m_law_cut len ls (s : Int) = some x := by
      intro x hxx
      unfold m_law_cut
      refine bindOk hrng0 ?_
      rw [lc_run hr hp]
      have e : ls.length - p = (ls.length - (p + 1)) + 1 := by omega
      rw [e, List.range'_succ, List.map_cons, forL_cons]
      have e2 : m_law_cut_b1 len ls (s : Int) q (p : Int) = some (.rt x) := by
        unfold m_law_cut_b1
        refine bindOk (getM_nat hx) (bindOk (getM_nat hx) ((if_neg (by simp)).trans ((if_pos (by simp; omega)).trans ?_)))
        refine bindOk hrng (bindOk hfr ?_)
        exact bindOk hxx rfl
      rw [e2]
      rfl
    cases hl : (frs ls (s + 1) (p - s)).getLast? with
    | some x =>
      rw [hl] at hcut
      have hxx := frs_ge (List.mem_of_getLast? hl)
      have hne : frs ls (s + 1) (p - s) ≠ [] := by intro e; rw [e] at hl; cases hl
      refine ⟨x - (s + 1), ?_, hcut, by omega, run_fits hr _ (by omega)⟩
      refine hhead _ ?_
      have hg : getM ((frs ls (s + 1) (p - s)).map fun (k : Nat) => (k : Int)) (-1) = some (x : Int) := lst_neg (by rw [List.getLast?_map, hl]; rfl)
      refine (if_pos (by simp [hne])).trans (bindOk hg ?_)
      exact congrArg some (by omega)
    | none =>
      rw [hl] at hcut
      have hnil : frs ls (s + 1) (p - s) = [] := List.getLast?_eq_none_iff.mp hl
      refine ⟨p - (s + 1), ?_, hcut, by omega, run_fits hr _ (by omega)⟩
      refine hhead _ ?_
      refine (if_neg (by simp [hnil])).trans ?_
      exact congrArg some (by omega)
theorem fin_len1 : ∀ (n : Nat) (s : Nat), ls.length = s + n → (∀ x ∈ ls, 0 ≤ x.1) → ls.length ≤ 50000 → (fin len 0 [] (ls.drop s)).length = n := by
  intro n
  induction n using Nat.strongRecOn with
  | _ n ih =>
    intro s h hn hz
    by_cases h0 : n = 0
    · subst h0
      rw [List.drop_eq_nil_of_le (by omega)]; simp [fin, sty]
    · obtain ⟨c, _, hc, hcl, _⟩ := law_cut_ok (ls := ls) (len := len) (s := s) (by omega) hz
      rw [fin_next (by omega) hn hc]
      have hi := ih (n - (1 + c)) (by omega) (s + 1 + c) (by omega) hn hz
      simp only [List.length_cons, List.length_append, rowsF_length, List.length_take, List.length_drop, hi]
      omega
theorem fin_length (hn : ∀ x ∈ ls, 0 ≤ x.1) (hz : ls.length ≤ 50000) : (fin len 0 [] ls).length = ls.length := by
  have := fin_len1 (ls := ls) (len := len) ls.length 0 (by omega) hn hz
  simpa using this
/-! ### the law's pages -/
theorem lp_rows {start : Nat} : ∀ (seg : List L3) (k : Nat) (acc : List Ln) (b : Bool) (r : Int), acc.getLast? = some (b, r) → (∀ i, i < seg.length → ls[k + i]? = seg[i]?) → k + seg.length ≤ start → acc.length + seg.length ≤ 100000 →
    folM (m_law_pages_b1 len ls) ((List.range' k seg.length).map fun (i : Nat) => (i : Int)) (acc, (start : Int)) = some (acc ++ rowsF r seg, (start : Int))
  | [], k, acc, b, r, _, _, _, _ => by simp [folM, rowsF]
  | (sp, bb, f) :: t, k, acc, b, r, hl, h1, hk, hz => by
    have hz' : acc.length + (t.length + 1) ≤ 100000 := hz
    have hk' : k + (t.length + 1) ≤ start := hk
    have hx : ls[k]? = some (sp, bb, f) := by simpa using h1 0 (by simp)
    have hne : acc ≠ [] := by intro e; subst e; cases hl
    have hp : 0 < acc.length := List.length_pos_iff.mpr hne
    have g : getM acc (-1) = some (b, r) := by
      unfold getM ixM
      rw [if_neg (by decide), if_pos (by omega)]
      show acc[((-1 : Int) + (acc.length : Int)).toNat]? = some (b, r)
      have e : ((-1 : Int) + (acc.length : Int)).toNat = acc.length - 1 := by omega
      rw [e, ← hl, List.getLast?_eq_getElem?]
    have e0 : r + sp + 1 = r + 1 + sp := by omega
    rw [List.length_cons, List.range'_succ, List.map_cons]
    show (m_law_pages_b1 len ls (acc, (start : Int)) (k : Int)).bind _ = _
    have e : m_law_pages_b1 len ls (acc, (start : Int)) (k : Int) = some (acc ++ [(false, r + 1 + sp)], (start : Int)) := by
      unfold m_law_pages_b1
      dsimp only
      refine bindOk ((if_neg (by simp; omega)).trans (bindOk g (bindOk (getM_nat hx) (bindOk (appM_ok (by omega)) rfl)))) ?_
      dsimp only
      rw [e0]
    rw [e, Option.bind_some, lp_rows t (k + 1) (acc ++ [(false, r + 1 + sp)]) false (r + 1 + sp) (by simp) (fun i hi => ?_) (by omega) (by simp; omega)]
    · simp [rowsF]
    · have := h1 (i + 1) (by simpa using hi)
      have e2 : k + 1 + i = k + (i + 1) := by omega
      rw [e2, this]; simp
theorem folM_app {α σ : Type} {f : σ → α → Option σ} : ∀ {xs ys : List α} {s s1 : σ}, folM f xs s = some s1 → folM f (xs ++ ys) s = folM f ys s1
  | [], ys, s, s1, h => by cases h; rfl
  | x :: xs, ys, s, s1, h => by
    obtain ⟨s2, h1, h2⟩ := bindS h
    show (f s x).bind _ = _
    rw [h1]
    exact folM_app h2
theorem lp_go (hz : ls.length ≤ 50000) (hn : ∀ x ∈ ls, 0 ≤ x.1) : ∀ (n s : Nat) (acc : List Ln), ls.length = s + n → acc.length = s →
    ∃ e, folM (m_law_pages_b1 len ls) ((List.range' s n).map fun (i : Nat) => (i : Int)) (acc, (s : Int)) = some (acc ++ fin len 0 [] (ls.drop s), e) := by
  intro n
  induction n using Nat.strongRecOn with
  | _ n ih =>
    intro s acc hs ha
    by_cases h0 : n = 0
    · subst h0
      refine ⟨(s : Int), ?_⟩
      rw [List.drop_eq_nil_of_le (by omega)]; simp [fin, sty, folM]
    · obtain ⟨c, hst, hc, hcl, _⟩ := law_cut_ok (ls := ls) (len := len) (s := s) (by omega) hz
      have hseg : ((ls.drop (s + 1)).take c).length = c := by rw [List.length_take, List.length_drop]; omega
      have hrows := lp_rows (ls := ls) (len := len) (start := s + 1 + c) ((ls.drop (s + 1)).take c) (s + 1) (acc ++ [(true, 0)]) true 0 (by simp) (fun i hi => by
          rw [hseg] at hi
          rw [List.getElem?_take_of_lt hi, List.getElem?_drop]) (by omega) (by simp; omega)
      rw [hseg] at hrows
      obtain ⟨e, he⟩ := ih (n - (1 + c)) (by omega) (s + 1 + c) (acc ++ [(true, 0)] ++ rowsF 0 ((ls.drop (s + 1)).take c)) (by omega) (by simp [rowsF_length]; omega)
      refine ⟨e, ?_⟩
      have er : List.range' s n = s :: (List.range' (s + 1) c ++ List.range' (s + 1 + c) (n - (1 + c))) := by
        have h : ∀ m, n = (c + m) + 1 → List.range' s n = s :: (List.range' (s + 1) c ++ List.range' (s + 1 + c) m) := by
          intro m hm
          rw [hm, List.range'_succ, ← List.range'_append_1]
        exact h _ (by omega)
      rw [er, List.map_cons, List.map_append]
      show (m_law_pages_b1 len ls (acc, (s : Int)) (s : Int)).bind _ = _
      have e1 : m_law_pages_b1 len ls (acc, (s : Int)) (s : Int) = some (acc ++ [(true, 0)], ((s + 1 + c : Nat) : Int)) := by
        unfold m_law_pages_b1
        dsimp only
        refine bindOk ((if_pos (by simp)).trans (bindOk (appM_ok (by omega)) (bindOk hst rfl))) ?_
        dsimp only
        rw [show ((s + 1 + c : Nat) : Int) = (s : Int) + 1 + (c : Int) by omega]
      rw [e1, Option.bind_some, folM_app hrows, he, fin_next (by omega) hn hc]
      simp
theorem law_pages_ok (hz : ls.length ≤ 50000) (hn : ∀ x ∈ ls, 0 ≤ x.1) : m_law_pages len ls = some (fin len 0 [] ls) := by
  unfold m_law_pages
  obtain ⟨e, h⟩ := lp_go (ls := ls) (len := len) hz hn ls.length 0 [] (by omega) rfl
  refine bindOk (rngM_ok (by omega) (by omega)) ?_
  have e1 : ((ls.length : Nat) : Int).toNat = ls.length := by omega
  rw [e1, List.range_eq_range']
  exact bindOk h (by simp)
end
/-! ### flags behind the blocks -/
def flg : Bool → Bool → List Bk → Bool × Bool
  | bd, du, [] => (bd, du)
  | bd, du, (c, sp, k, pg) :: bs => flg (if c > 0 then k else bd) ((du || pg) && decide (c ≤ 0)) bs
theorem lns_app : ∀ (bs cs : List Bk) (bd du : Bool), lns bd du (bs ++ cs) = lns bd du bs ++ lns (flg bd du bs).1 (flg bd du bs).2 cs
  | [], cs, bd, du => rfl
  | (c, sp, k, pg) :: bs, cs, bd, du => by
    show blkL c sp bd (du || pg) ++ lns _ _ (bs ++ cs) = (blkL c sp bd (du || pg) ++ lns _ _ bs) ++ lns _ _ cs
    rw [lns_app bs cs, List.append_assoc]; rfl
theorem flg_app : ∀ (bs cs : List Bk) (bd du : Bool), flg bd du (bs ++ cs) = flg (flg bd du bs).1 (flg bd du bs).2 cs
  | [], cs, bd, du => rfl
  | (c, sp, k, pg) :: bs, cs, bd, du => flg_app bs cs _ _
theorem lines_go2 {F : (List L3 × Bool × Bool) → Bk → Option (List L3 × Bool × Bool)}
    (hF : ∀ (acc : List L3) (bd du : Bool) (c sp : Int) (k pg : Bool), 0 ≤ c → acc.length + c.toNat ≤ 100000 → F (acc, bd, du) (c, sp, k, pg) = some (acc ++ blkL c sp bd (du || pg), (if c > 0 then k else bd), (du || pg) && decide (c ≤ 0))) :
    ∀ (bs : List Bk) (acc : List L3) (bd du : Bool), (∀ b ∈ bs, BkOk b) → acc.length + cnt bs ≤ 100000 → folM F bs (acc, bd, du) = some (acc ++ lns bd du bs, flg bd du bs)
  | [], acc, bd, du, _, _ => by simp [folM, lns, flg]
  | (c, sp, k, pg) :: bs, acc, bd, du, ho, hz => by
    have hcn : cnt ((c, sp, k, pg) :: bs) = c.toNat + cnt bs := by simp [cnt]
    have hc : 0 ≤ c := (ho _ (List.mem_cons_self ..)).1
    have h := lines_go2 hF bs (acc ++ blkL c sp bd (du || pg)) (if c > 0 then k else bd) ((du || pg) && decide (c ≤ 0)) (fun b hb => ho b (List.mem_cons_of_mem _ hb)) (by rw [List.length_append, blkL_length hc]; omega)
    show (F (acc, bd, du) (c, sp, k, pg)).bind _ = _
    rw [hF _ _ _ _ _ _ _ hc (by omega), Option.bind_some, h]
    show _ = some (acc ++ (blkL c sp bd (du || pg) ++ _), _)
    rw [List.append_assoc]; rfl
theorem law_lines_ok2 {bs : List Bk} (ho : ∀ b ∈ bs, BkOk b) (hz : cnt bs ≤ 100000) : m_law_lines bs = some (lns false true bs, flg false true bs) := by
  have h := lines_go2 (F := m_law_lines_b1) (fun _ _ _ _ _ _ _ h1 h2 => ll_blk h1 h2) bs [] false true ho (by simpa using hz)
  unfold m_law_lines
  exact bindOk h (by simp)
/-! ### the last page -/
section
variable {ls : List L3} {len : Int}
theorem last_page (hz : ls.length ≤ 50000) (hn : ∀ x ∈ ls, 0 ≤ x.1) : ∀ (n s : Nat), ls.length = s + n → 0 < n → ∃ first, s ≤ first ∧ first < ls.length ∧ (fin len 0 [] (ls.drop s)).drop (first - s) = (true, 0) :: rowsF 0 (ls.drop (first + 1)) := by
  intro n
  induction n using Nat.strongRecOn with
  | _ n ih =>
    intro s hs h0
    obtain ⟨c, _, hc, hcl, _⟩ := law_cut_ok (ls := ls) (len := len) (s := s) (by omega) hz
    have hfn := fin_next (by omega) hn hc
    by_cases he : s + 1 + c = ls.length
    · refine ⟨s, Nat.le_refl _, by omega, ?_⟩
      rw [Nat.sub_self, List.drop_zero, hfn, he, List.drop_eq_nil_of_le (Nat.le_refl _), List.take_of_length_le (by rw [List.length_drop]; omega)]
      simp [fin, sty]
    · obtain ⟨first, h1, h2, h3⟩ := ih (n - (1 + c)) (by omega) (s + 1 + c) (by omega) (by omega)
      refine ⟨first, by omega, h2, ?_⟩
      rw [hfn]
      have e : first - s = (first - (s + 1 + c)) + c + 1 := by omega
      have hl : (rowsF 0 ((ls.drop (s + 1)).take c)).length = c := by rw [rowsF_length, List.length_take, List.length_drop]; omega
      rw [e, List.drop_succ_cons, List.drop_append, hl, List.drop_eq_nil_of_le (by omega), List.nil_append, show first - (s + 1 + c) + c - c = first - (s + 1 + c) by omega]
      exact h3
theorem last_page0 (hz : ls.length ≤ 50000) (hn : ∀ x ∈ ls, 0 ≤ x.1) (h : ls ≠ []) : ∃ first, first < ls.length ∧ (fin len 0 [] ls).drop first = (true, 0) :: rowsF 0 (ls.drop (first + 1)) := by
  obtain ⟨first, _, h2, h3⟩ := last_page (ls := ls) (len := len) hz hn ls.length 0 (by omega) (List.length_pos_iff.mpr h)
  exact ⟨first, h2, by simpa using h3⟩
theorem rowsF_false : ∀ (t : List L3) (r : Int), ∀ e ∈ rowsF r t, e.1 = false
  | [], _, e, h => by cases h
  | (sp, b, f) :: t, r, e, h => by
    rcases List.mem_cons.mp (show e ∈ (false, r + 1 + sp) :: rowsF (r + 1 + sp) t from h) with rfl | h
    · rfl
    · exact rowsF_false t _ e h
theorem rowsF_gt : ∀ (t : List L3) (r : Int), (∀ l ∈ t, 0 ≤ l.1) → ∀ e ∈ rowsF r t, r < e.2
  | [], _, _, e, h => by cases h
  | (sp, b, f) :: t, r, hn, e, h => by
    have hsp : 0 ≤ sp := hn _ (List.mem_cons_self ..)
    rcases List.mem_cons.mp (show e ∈ (false, r + 1 + sp) :: rowsF (r + 1 + sp) t from h) with rfl | h
    · show r < r + 1 + sp; omega
    · have := rowsF_gt t _ (fun l hl => hn l (List.mem_cons_of_mem _ hl)) e h
      omega
theorem rowsF_pw : ∀ (t : List L3) (r : Int), (∀ l ∈ t, 0 ≤ l.1) → List.Pairwise (fun a b : Ln => a.2 < b.2) (rowsF r t)
  | [], _, _ => List.Pairwise.nil
  | (sp, b, f) :: t, r, hn => List.Pairwise.cons (fun e he => rowsF_gt t _ (fun l hl => hn l (List.mem_cons_of_mem _ hl)) e he) (rowsF_pw t _ (fun l hl => hn l (List.mem_cons_of_mem _ hl)))
end
/-- indices that are picked -/
theorem sel_gen {N : Nat} {F : List Int → Int → Option (List Int)} {P : Nat → Bool} (hF : ∀ (acc : List Int) (i : Nat), i < N → acc.length < 100000 → F acc (i : Int) = some (if P i = true then acc ++ [(i : Int)] else acc)) : ∀ (m i : Nat) (acc : List Int), i + m ≤ N → acc.length + m ≤ 100000 → folM F ((List.range' i m).map fun (k : Nat) => (k : Int)) acc = some (acc ++ ((List.range' i m).filter P).map fun (k : Nat) => (k : Int))
  | 0, i, acc, _, _ => by simp [folM]
  | m + 1, i, acc, h, hz => by
    rw [List.range'_succ, List.map_cons]
    show (F acc (i : Int)).bind _ = _
    rw [hF acc i (by omega) (by omega), Option.bind_some]
    by_cases hp : P i = true
    · rw [if_pos hp, List.filter_cons_of_pos hp, sel_gen hF m (i + 1) _ (by omega) (by simp; omega)]
      simp
    · rw [if_neg hp, List.filter_cons_of_neg hp]
      exact sel_gen hF m (i + 1) acc (by omega) (by omega)
theorem maxM_is {xs : List Int} {m : Int} (h1 : m ∈ xs) (h2 : ∀ y ∈ xs, y ≤ m) : maxM xs = some m := by
  cases hx : maxM xs with
  | none =>
    cases xs with
    | nil => cases h1
    | cons x xs => cases hx
  | some m' =>
    obtain ⟨h3, h4, _⟩ := maxM_some hx
    rw [max_uniq ⟨h3, h4⟩ ⟨h1, h2⟩]
theorem getM_last {α : Type} {xs : List α} {x : α} (h : xs.getLast? = some x) : getM xs (-1) = some x := by
  have hne : xs ≠ [] := by intro e; subst e; cases h
  have hl : 0 < xs.length := List.length_pos_iff.mpr hne
  unfold getM ixM
  rw [if_neg (by decide), if_pos (by omega)]
  show xs[((-1 : Int) + (xs.length : Int)).toNat]? = some x
  have e : ((-1 : Int) + (xs.length : Int)).toNat = xs.length - 1 := by omega
  rw [e, ← h, List.getLast?_eq_getElem?]
theorem cutM_take {α : Type} {xs : List α} {n : Nat} (h : n ≤ xs.length) : cutM xs none (some (n : Int)) = xs.take n := by
  have e2 : slIx xs.length xs.length (some (n : Int)) = n := by
    show (if (n : Int) < 0 then ((n : Int) + (xs.length : Int)).toNat else min (n : Int).toNat xs.length) = n
    rw [if_neg (by omega)]; omega
  unfold cutM
  rw [e2]
  show (xs.drop 0).take (n - 0) = _
  simp
end Mr

set_option linter.all false
set_option maxRecDepth 100000
set_option maxHeartbeats 1000000
/-! PagS: which lines are loose. -/
namespace Mr
structure Strong (p : Pg) (ls : List L3) : Prop where
  s1 : p.nl = 0 → ∀ k, k < ls.length → (∀ j e, k ≤ j → p.es[j]? = some e → e.1 = false) → ub ls k = false
  s2 : p.nl ≠ 0 → p.nl ≤ ls.length ∧ ub ls (ls.length - p.nl) = true ∧ ∀ k, ls.length - p.nl < k → k < ls.length → ub ls k = false
theorem ub_lt {ls : List L3} {x : L3} {k : Nat} (h : k < ls.length) : ub (ls ++ [x]) k = ub ls k := by
  unfold ub; rw [List.getElem?_append_left h]
theorem ub_eq {ls : List L3} {x : L3} : ub (ls ++ [x]) ls.length = !x.2.1 := by
  unfold ub; simp
def LastOk (p : Pg) : Prop := ∃ e, p.es.getLast? = some e ∧ p.high = e.2 + 1
theorem strong_new {p : Pg} {es : List Ln} {ls : List L3} {x : L3} (he : es.length = ls.length) (h1 : p.es = es ++ [(true, 0)]) (h2 : p.nl = 0) : Strong p (ls ++ [x]) := by
  refine ⟨fun _ k hk h => ?_, fun h => absurd h2 h⟩
  have hk' : k < ls.length + 1 := by simpa using hk
  have := h es.length (true, 0) (by omega) (by rw [h1]; simp)
  cases this
theorem line_str {p q : Pg} {ls : List L3} {sp : Int} {b b' f : Bool} {done : List Ln} {offs : List Int} (R : Rep p done offs) (hn : p.es.length = ls.length) (hS : Strong p ls ∨ p.high = 0 ∨ b = false) (hb : p.high = 0 ∨ b' = b) (hu : 0 ≤ p.high) (h : p.line sp b' = some q) :
    Strong q (ls ++ [(sp, b, f)]) ∧ LastOk q := by
  unfold Pg.line at h
  split at h
  · rename_i hc
    obtain ⟨c1, c2, c3, c4⟩ := hc
    have h0 : ¬ p.high = 0 := by omega
    have hbb : b' = b := hb.resolve_left h0
    subst hbb
    have hS' : Strong p ls := by
      rcases hS with h | h | h
      · exact h
      · exact absurd h h0
      · rw [c3] at h; cases h
    have ho : offs ≠ [] := by
      intro e; rw [R.nl, e] at c4; exact c4 rfl
    have hov := over_ok R ho
    obtain ⟨⟨xs, hxs⟩, _, _⟩ := R.lo ho
    obtain ⟨s0, s1, s2⟩ := hS'.s2 c4
    rw [hov, Option.bind_some] at h
    have hlen : (done ++ gov offs).length = ls.length := by
      rw [← hn, R.len, hxs, gov_zero]; simp
    have hdl : done.length = ls.length - p.nl := by
      have := R.len
      rw [R.nl]; omega
    unfold Pg.put at h
    dsimp only at h
    split at h
    · split at h
      · cases h
        exact ⟨strong_new (es := done ++ gov offs) hlen rfl rfl, (true, 0), by simp, rfl⟩
      · rw [c3] at h
        rw [if_neg (by simp), if_pos rfl] at h
        cases h
        refine ⟨⟨fun _ k hk hh => ?_, fun hh => absurd rfl hh⟩, (false, br offs + sp), by simp, rfl⟩
        have hk' : k < ls.length + 1 := by simpa using hk
        have hkd : done.length < k := by
          by_cases hc : done.length < k
          · exact hc
          · have := hh done.length (true, 0) (by omega) (by
              show (done ++ gov offs ++ [(false, br offs + sp)])[done.length]? = _
              rw [hxs, gov_zero]; simp)
            cases this
        by_cases hkn : k < ls.length
        · rw [ub_lt hkn]; exact s2 k (by omega) hkn
        · have : k = ls.length := by omega
          subst this
          rw [ub_eq, c3]; rfl
    · cases h
  · rename_i hc
    unfold Pg.put at h
    split at h
    · rename_i hz
      split at h
      · cases h
        exact ⟨strong_new (es := p.es) hn rfl rfl, (true, 0), by simp, rfl⟩
      · rename_i hnp
        have h0 : ¬ p.high = 0 := fun e => hnp (.inl e)
        have hbb : b' = b := hb.resolve_left h0
        subst hbb
        cases b' with
        | false =>
          rw [if_pos rfl] at h
          cases h
          refine ⟨⟨fun hh => absurd (show (1 : Nat) = 0 from hh) (by decide), fun _ => ⟨by simp, ?_, fun k h1 h2 => ?_⟩⟩, (false, p.high + sp), by simp, rfl⟩
          · show ub (ls ++ [(sp, false, f)]) ((ls ++ [(sp, false, f)]).length - 1) = true
            have : (ls ++ [(sp, false, f)]).length - 1 = ls.length := by simp
            rw [this, ub_eq]; rfl
          · have h1' : (ls ++ [(sp, false, f)]).length - 1 < k := h1
            simp at h1' h2; omega
        | true =>
          rw [if_neg (by simp)] at h
          have hS' : Strong p ls := by
            rcases hS with h | h | h
            · exact h
            · exact absurd h h0
            · cases h
          split at h
          · rename_i hz0
            cases h
            refine ⟨⟨fun _ k hk hh => ?_, fun hh => absurd hz0 hh⟩, (false, p.high + sp), by simp, rfl⟩
            have hk' : k < ls.length + 1 := by simpa using hk
            by_cases hkn : k < ls.length
            · rw [ub_lt hkn]
              refine hS'.s1 hz0 k hkn fun j e hj he => hh j e hj ?_
              show (p.es ++ [(false, p.high + sp)])[j]? = some e
              rw [List.getElem?_append_left (List.getElem?_eq_some_iff.mp he).1]; exact he
            · have : k = ls.length := by omega
              subst this
              rw [ub_eq]; rfl
          · rename_i hz0
            cases h
            obtain ⟨s0, s1, s2⟩ := hS'.s2 hz0
            refine ⟨⟨fun hh => absurd hh (by show ¬ p.nl + 1 = 0; omega), fun _ => ⟨?_, ?_, fun k h1 h2 => ?_⟩⟩, (false, p.high + sp), by simp, rfl⟩
            · show p.nl + 1 ≤ _
              simp; omega
            · show ub (ls ++ [(sp, true, f)]) ((ls ++ [(sp, true, f)]).length - (p.nl + 1)) = true
              have : (ls ++ [(sp, true, f)]).length - (p.nl + 1) = ls.length - p.nl := by simp
              rw [this]
              have hpos : 0 < p.nl := by omega
              rw [ub_lt (by omega)]; exact s1
            · have h1' : (ls ++ [(sp, true, f)]).length - (p.nl + 1) < k := h1
              have e1 : (ls ++ [(sp, true, f)]).length = ls.length + 1 := by simp
              rw [e1] at h1' h2
              by_cases hkn : k < ls.length
              · rw [ub_lt hkn]; exact s2 k (by omega) hkn
              · have : k = ls.length := by omega
                subst this
                rw [ub_eq]; rfl
    · cases h
theorem tail_str {c s : Int} : ∀ (m j : Nat) (p q : Pg) (ls : List L3) (done : List Ln) (offs : List Int), 1 ≤ j → Rep p done offs → 1 ≤ p.high → p.es.length + m ≤ 100000 → p.es.length = ls.length → Strong p ls ∧ LastOk p →
    folM (Pg.turn c s) ((List.range' j m).map fun (k : Nat) => (k : Int)) p = some q → Strong q (ls ++ tlL c j m) ∧ LastOk q
  | 0, j, p, q, ls, done, offs, _, R, h1, _, hn, hS, h => by
    cases h
    simpa [tlL] using hS
  | m + 1, j, p, q, ls, done, offs, hj, R, h1, hz, hn, hS, h => by
    rw [List.range'_succ, List.map_cons] at h
    obtain ⟨p2, e1, h2⟩ := bindS (show (Pg.turn c s p (j : Int)).bind _ = some q from h)
    have hline : p.line 0 (decide ((j : Int) ∈ ([1, c - 1] : List Int))) = some p2 := by
      unfold Pg.turn at e1
      rw [if_neg (by omega)] at e1
      exact e1
    obtain ⟨p2', d2, o2, e2, R2, l2, b2, u2, n2, f2, g2⟩ := line_ok (sp := 0) (b := decide ((j : Int) ∈ ([1, c - 1] : List Int))) (b' := decide ((j : Int) ∈ ([1, c - 1] : List Int))) (f := false) R (by omega) (by decide) (by omega) (fun h => by cases h) (.inr rfl)
    rw [hline] at e2
    cases e2
    have hs := line_str (f := false) (b := decide ((j : Int) ∈ ([1, c - 1] : List Int))) R hn (.inl hS.1) (.inr rfl) (by omega) hline
    have ht : tlL c j (m + 1) = (0, decide ((j : Int) ∈ ([1, c - 1] : List Int)), false) :: tlL c (j + 1) m := by
      unfold tlL; rw [List.range'_succ]; rfl
    have := tail_str (c := c) (s := s) m (j + 1) p2 q (ls ++ [(0, decide ((j : Int) ∈ ([1, c - 1] : List Int)), false)]) d2 o2 (by omega) R2 u2 (by omega) (by rw [n2]; simp; omega) hs h2
    rw [ht]
    simpa using this
/-- between blocks: ls the lines so far -/
structure Btw (p : Pg) (ls : List L3) (barred due : Bool) : Prop where
  n : p.es.length = ls.length
  z : p.high = 0 → p.nl = 0
  l : 1 ≤ p.high → LastOk p
  s : 1 ≤ p.high → (p.nl = 0 ∧ barred = false) ∨ (barred = true ∧ Strong p ls)
theorem block_str {p q : Pg} {done : List Ln} {offs : List Int} {barred due : Bool} {c sp : Int} {k pg : Bool} {ls : List L3} (R : Rep p done offs) (B : Bnd p barred due) (W : Btw p ls barred due) (ho : BkOk (c, sp, k, pg)) (hz : p.es.length + c.toNat ≤ 100000) (h : p.block c sp k pg = some q) :
    Btw q (ls ++ blkL c sp barred (due || pg)) (if c > 0 then k else barred) ((due || pg) && decide (c ≤ 0)) := by
  obtain ⟨hc0, hc1, hs0⟩ := ho
  dsimp only at hc0 hc1 hs0
  have h1 : ∃ d1 o1, Rep (if pg = true then p.begin else p) d1 o1 ∧ (if pg = true then p.begin else p).es = p.es ∧ Bnd (if pg = true then p.begin else p) barred (due || pg) ∧ Btw (if pg = true then p.begin else p) ls barred (due || pg) := by
    cases pg with
    | false => exact ⟨done, offs, R, rfl, by rw [Bool.or_false]; exact B, ⟨W.n, W.z, W.l, W.s⟩⟩
    | true =>
      refine ⟨_, _, begin_ok R, rfl, ⟨by show (0 : Int) ≤ 0; decide, fun _ => rfl, fun h => by simp at h⟩, ⟨W.n, fun _ => rfl, fun h => ?_, fun h => ?_⟩⟩
      · exact absurd (show (1 : Int) ≤ 0 from h) (by decide)
      · exact absurd (show (1 : Int) ≤ 0 from h) (by decide)
  obtain ⟨d1, o1, R1, e1, B1, W1⟩ := h1
  unfold Pg.block at h
  rw [rngM_ok hc0 (by omega), Option.bind_some] at h
  generalize hp1 : (if pg = true then p.begin else p) = p1 at R1 e1 B1 W1 h
  by_cases hc : c ≤ 0
  · have hcz : c = 0 := by omega
    subst hcz
    rw [show Pg.lines 0 sp ((List.range (0 : Int).toNat).map fun (i : Nat) => (i : Int)) p1 = some p1 from rfl, Option.bind_some, if_neg (by decide)] at h
    cases h
    rw [blkL, if_pos hc, if_neg (by decide), decide_eq_true hc, Bool.and_true, List.append_nil]
    exact W1
  · obtain ⟨q1, hl, h⟩ := bindS h
    have hcp : c > 0 := by omega
    have ec : c.toNat = (c.toNat - 1) + 1 := by omega
    unfold Pg.lines at hl
    rw [ec, List.range_eq_range', List.range'_succ, List.map_cons] at hl
    obtain ⟨q0, hl0, hl2⟩ := bindS (show (Pg.turn c sp p1 ((0 : Nat) : Int)).bind _ = some q1 from hl)
    have hline : p1.line sp p1.bar = some q0 := by
      unfold Pg.turn at hl0
      rw [if_pos (by simp)] at hl0
      exact hl0
    have hbb : p1.high = 0 ∨ p1.bar = barred := by
      cases hd : (due || pg) with
      | true => exact .inl (B1.dz hd)
      | false => exact .inr (B1.bz hd).1
    obtain ⟨q0', d2, o2, e2, R2, l2, b2, u2, n2, f2, g2⟩ := line_ok (sp := sp) (b := barred) (b' := p1.bar) (f := (due || pg)) R1 B1.u hs0 (by rw [e1]; omega) B1.dz hbb
    rw [hline] at e2
    cases e2
    have hS : Strong p1 ls ∨ p1.high = 0 ∨ barred = false := by
      by_cases h0 : p1.high = 0
      · exact .inr (.inl h0)
      · rcases W1.s (by have := B1.u; omega) with h | h
        · exact .inr (.inr h.2)
        · exact .inl h.2
    have hs := line_str (f := (due || pg)) (b := barred) R1 W1.n hS hbb B1.u hline
    have hn0 : q0.es.length = (ls ++ [(sp, barred, due || pg)]).length := by rw [n2, W1.n]; simp
    have ht := tail_str (c := c) (s := sp) (c.toNat - 1) 1 q0 q1 (ls ++ [(sp, barred, due || pg)]) d2 o2 (Nat.le_refl _) R2 u2 (by rw [n2, e1]; omega) hn0 hs hl2
    obtain ⟨q1', d3, o3, eq3, R3, l3, b3, u3, n3, f3, g3⟩ := tail_go (c := c) (s := sp) (c.toNat - 1) 1 q0 d2 o2 (Nat.le_refl _) R2 u2 (by rw [n2, e1]; omega)
    rw [hl2] at eq3
    cases eq3
    have hls : ls ++ blkL c sp barred (due || pg) = ls ++ [(sp, barred, due || pg)] ++ tlL c 1 (c.toNat - 1) := by
      rw [blkL, if_neg hc]; simp
    have hnl : q1.es.length = (ls ++ blkL c sp barred (due || pg)).length := by
      rw [hls, n3, hn0]; simp [tlL]; omega
    rw [if_pos hcp] at h ⊢
    rw [← hls] at ht
    have h := Option.some.inj h
    cases k with
    | true =>
      rw [if_pos rfl] at h
      subst h
      exact ⟨hnl, fun h0 => absurd (show q1.high = 0 from h0) (by omega), fun _ => ht.2, fun _ => .inr ⟨rfl, ⟨ht.1.s1, ht.1.s2⟩⟩⟩
    | false =>
      rw [if_neg (by simp)] at h
      subst h
      exact ⟨hnl, fun _ => rfl, fun _ => ht.2, fun _ => .inl ⟨rfl, rfl⟩⟩
end Mr

set_option linter.all false
set_option maxRecDepth 100000
set_option maxHeartbeats 1000000
/-! LawSt: the law's standing and pending lines against a Page. -/
namespace Mr
theorem cp_go : ∀ (xs acc : List Ln), acc.length + xs.length ≤ 100000 → folM cpE xs acc = some (acc ++ xs)
  | [], acc, _ => by simp [folM]
  | x :: xs, acc, h => by
    have h' : acc.length + (xs.length + 1) ≤ 100000 := h
    show (cpE acc x).bind _ = _
    have e : cpE acc x = some (acc ++ [x]) := bindOk (appM_ok (by omega)) rfl
    rw [e, Option.bind_some, cp_go xs _ (by simp; omega)]
    simp
/-- a page behind blocks -/
structure Inv (len : Int) (p : Pg) (bs : List Bk) (done : List Ln) (offs : List Int) : Prop where
  R : Rep p done offs
  B : Bnd p (flg false true bs).1 (flg false true bs).2
  W : Btw p (lns false true bs) (flg false true bs).1 (flg false true bs).2
  l : p.len = len
  f : ∀ cs, fin len 0 [] (lns false true (bs ++ cs)) = done ++ fin len p.high offs (lns (flg false true bs).1 (flg false true bs).2 cs)
theorem Inv.es {len : Int} {p : Pg} {bs : List Bk} {done : List Ln} {offs : List Int} (I : Inv len p bs done offs) : p.es = fin len 0 [] (lns false true bs) := by
  have := I.f []
  rw [List.append_nil] at this
  rw [this, I.R.es]
  simp [lns, fin]
theorem inv_new (len : Int) : Inv len (Pg.new len) [] [] [] :=
  ⟨⟨rfl, rfl, fun h => absurd rfl h⟩, ⟨(by show (0 : Int) ≤ 0; decide), fun _ => rfl, (fun h => by cases h)⟩,
    ⟨rfl, fun _ => rfl, fun h => absurd (show (1 : Int) ≤ 0 from h) (by decide), fun h => absurd (show (1 : Int) ≤ 0 from h) (by decide)⟩, rfl, fun cs => rfl⟩
theorem inv_block {len : Int} {p : Pg} {bs : List Bk} {done : List Ln} {offs : List Int} {c sp : Int} {k pg : Bool} (I : Inv len p bs done offs) (ho : BkOk (c, sp, k, pg)) (hz : p.es.length + c.toNat ≤ 100000) :
    ∃ q d o, p.block c sp k pg = some q ∧ Inv len q (bs ++ [(c, sp, k, pg)]) d o ∧ done <+: d ∧ q.es.length = p.es.length + c.toNat := by
  obtain ⟨q, d, o, e1, R1, l1, B1, n1, f1, g1⟩ := block_ok I.R I.B ho hz
  have W1 := block_str I.R I.B I.W ho hz e1
  have hfl : flg false true (bs ++ [(c, sp, k, pg)]) = ((if c > 0 then k else (flg false true bs).1), ((flg false true bs).2 || pg) && decide (c ≤ 0)) := by
    rw [flg_app]; rfl
  have hln : lns false true (bs ++ [(c, sp, k, pg)]) = lns false true bs ++ blkL c sp (flg false true bs).1 ((flg false true bs).2 || pg) := by
    rw [lns_app]
    show _ ++ (blkL c sp _ _ ++ []) = _
    rw [List.append_nil]
  refine ⟨q, d, o, e1, ⟨R1, by rw [hfl]; exact B1, by rw [hfl, hln]; exact W1, l1.trans I.l, fun cs => ?_⟩, g1, n1⟩
  rw [List.append_assoc, hfl]
  show fin len 0 [] (lns false true (bs ++ ((c, sp, k, pg) :: cs))) = _
  rw [I.f, ← I.l]
  exact f1 cs
section
variable {len : Int} {p : Pg} {bs : List Bk} {done : List Ln} {offs : List Int}
/-- what is known of a page that has lines of its own -/
structure Lst (p : Pg) (ls : List L3) (first : Nat) (e : Ln) : Prop where
  lt : first < ls.length
  n : p.es.length = ls.length
  dr : p.es.drop first = (true, 0) :: rowsF 0 (ls.drop (first + 1))
  la : p.es.getLast? = some e
  hi : p.high = e.2 + 1
theorem inv_lst (I : Inv len p bs done offs) (ho : ∀ b ∈ bs, BkOk b) (hz : cnt bs ≤ 50000) (hd : (flg false true bs).2 = false) : ∃ first e, Lst p (lns false true bs) first e := by
  obtain ⟨e, he, hh⟩ := I.W.l (I.B.bz hd).2
  have hne : lns false true bs ≠ [] := by
    intro h
    have := I.W.n
    rw [h] at this
    have h9 : p.es = [] := List.length_eq_zero_iff.mp this
    rw [h9] at he
    cases he
  obtain ⟨first, h1, h2⟩ := last_page0 (ls := lns false true bs) (len := len) (by rw [lns_length bs _ _ ho]; omega) (lns_nonneg bs _ _ ho) hne
  exact ⟨first, e, h1, I.W.n, by rw [I.es]; exact h2, he, hh⟩
theorem Lst.fst {ls : List L3} {first : Nat} {e : Ln} (L : Lst p ls first e) : p.es[first]? = some (true, 0) := by
  have := congrArg (fun xs : List Ln => xs[0]?) L.dr
  simpa using this
theorem Lst.aft {ls : List L3} {first : Nat} {e : Ln} (L : Lst p ls first e) {j : Nat} {x : Ln} (hj : first < j) (hx : p.es[j]? = some x) : x.1 = false := by
  have h := congrArg (fun xs : List Ln => xs[j - first]?) L.dr
  have e1 : first + (j - first) = j := by omega
  have e2 : j - first = (j - first - 1) + 1 := by omega
  simp only [List.getElem?_drop, e1] at h
  rw [hx, e2, List.getElem?_cons_succ] at h
  exact rowsF_false _ _ _ (List.mem_of_getElem? h.symm)
/-- the free places behind the page's first line -/
theorem inv_free (I : Inv len p bs done offs) (hd : (flg false true bs).2 = false) (hb : (flg false true bs).1 = true) {first : Nat} {e : Ln} (L : Lst p (lns false true bs) first e) :
    (p.nl = 0 ∧ frs (lns false true bs) (first + 1) ((lns false true bs).length - (first + 1)) = []) ∨
    (p.nl ≠ 0 ∧ p.nl ≤ p.es.length ∧ first < p.es.length - p.nl ∧ (frs (lns false true bs) (first + 1) ((lns false true bs).length - (first + 1))).getLast? = some (p.es.length - p.nl)
      ∧ ∃ r, p.es[p.es.length - p.nl]? = some (false, r) ∧ 0 < p.high - r ∧ Pg.back p = some (p.high - r)) := by
  have hS : Strong p (lns false true bs) := by
    rcases I.W.s (I.B.bz hd).2 with h | h
    · rw [hb] at h; exact absurd h.2 (by decide)
    · exact h.2
  by_cases h0 : p.nl = 0
  · refine .inl ⟨h0, ?_⟩
    cases hf : frs (lns false true bs) (first + 1) ((lns false true bs).length - (first + 1)) with
    | nil => rfl
    | cons x xs =>
      have hx := frs_ge (show x ∈ frs (lns false true bs) (first + 1) ((lns false true bs).length - (first + 1)) by rw [hf]; exact List.mem_cons_self ..)
      have := hS.s1 h0 x (by omega) (fun j e' hj he' => L.aft (by omega) he')
      rw [hx.2.2] at this; cases this
  · obtain ⟨s0, s1, s2⟩ := hS.s2 h0
    have hn := L.n
    have ho : offs ≠ [] := by intro h; rw [I.R.nl, h] at h0; exact h0 rfl
    obtain ⟨⟨xs, hxs⟩, hb1, hb2⟩ := I.R.lo ho
    have hdl : p.es.length - p.nl = done.length := by rw [I.R.len, I.R.nl]; omega
    have hst : sty p.high offs = (false, p.high - br offs) :: xs.map (fun x => (false, p.high - br offs + x)) := by
      rw [hxs]; simp [sty]
    have hx0 : p.es[p.es.length - p.nl]? = some (false, p.high - br offs) := by rw [hdl, I.R.es, hst]; simp
    have hlt : first < p.es.length - p.nl := by
      by_cases hc : first < p.es.length - p.nl
      · exact hc
      · have hf := L.fst
        rw [I.R.es, List.getElem?_append_right (by omega)] at hf
        have hm := List.mem_of_getElem? hf
        unfold sty at hm
        obtain ⟨y, _, hy⟩ := List.mem_map.mp hm
        cases hy
    refine .inr ⟨h0, by omega, hlt, ?_, p.high - br offs, hx0, by omega, ?_⟩
    · cases hf : (frs (lns false true bs) (first + 1) ((lns false true bs).length - (first + 1))).getLast? with
      | none =>
        have hnil := List.getLast?_eq_none_iff.mp hf
        have : (lns false true bs).length - p.nl ∈ frs (lns false true bs) (first + 1) ((lns false true bs).length - (first + 1)) := by
          unfold frs
          exact List.mem_filter.mpr ⟨List.mem_range'_1.mpr ⟨by omega, by omega⟩, s1⟩
        rw [hnil] at this; cases this
      | some x =>
        have hx := frs_ge (List.mem_of_getLast? hf)
        have hl := frs_last hf
        have hle : ¬ (lns false true bs).length - p.nl < x := by
          intro h
          have := s2 x h (by omega)
          rw [hx.2.2] at this; cases this
        have hge : ¬ x < (lns false true bs).length - p.nl := by
          intro h
          have : (lns false true bs).length - p.nl ∈ frs (lns false true bs) (x + 1) (first + 1 + ((lns false true bs).length - (first + 1)) - (x + 1)) := by
            unfold frs
            exact List.mem_filter.mpr ⟨List.mem_range'_1.mpr ⟨by omega, by omega⟩, s1⟩
          rw [hl] at this; cases this
        congr 1; omega
    · unfold Pg.back
      rw [if_neg h0, hx0]; rfl
theorem max_first {ls : List L3} {first : Nat} {e : Ln} (L : Lst p ls first e) {P : Nat → Bool} (hP : ∀ i x, p.es[i]? = some x → P i = x.1) : maxM (([] : List Int) ++ ((List.range' 0 p.es.length).filter P).map fun (k : Nat) => (k : Int)) = some (first : Int) := by
  rw [List.nil_append]
  refine maxM_is ?_ fun y hy => ?_
  · refine List.mem_map.mpr ⟨first, List.mem_filter.mpr ⟨List.mem_range'_1.mpr ⟨by omega, by have := L.lt; have := L.n; omega⟩, hP _ _ L.fst⟩, rfl⟩
  · obtain ⟨i, hi, rfl⟩ := List.mem_map.mp hy
    obtain ⟨h1, h2⟩ := List.mem_filter.mp hi
    have hlt : i < p.es.length := by have := (List.mem_range'_1.mp h1).2; omega
    by_cases h : first < i
    · have := L.aft h (List.getElem?_eq_getElem hlt)
      rw [hP i _ (List.getElem?_eq_getElem hlt), this] at h2; cases h2
    · omega
theorem standing_ok (I : Inv len p bs done offs) (ho : ∀ b ∈ bs, BkOk b) (hz : cnt bs ≤ 50000) : ∃ st, m_law_standing len bs = some st ∧ Pg.now p = some st ∧ (st.2.2 = 0 ↔ p.nl = 0) ∧ (p.nl ≠ 0 → ∃ r, p.es[p.es.length - p.nl]? = some (false, r) ∧ st.2.1 - st.2.2 = r) := by
  have hl := law_lines_ok2 ho (by omega)
  have hn := lns_nonneg bs false true ho
  have hlen := lns_length bs false true ho
  unfold m_law_standing Pg.now
  cases hd : (flg false true bs).2 with
  | true =>
    have h0 := I.B.dz hd
    have hnl := I.W.z h0
    refine ⟨(Wd.top, 0, 0), bindOk hl (if_pos hd), if_pos h0, ⟨fun _ => hnl, fun _ => rfl⟩, fun h => absurd hnl h⟩
  | false =>
    obtain ⟨hbar, hh⟩ := I.B.bz hd
    obtain ⟨first, e, L⟩ := inv_lst I ho hz hd
    have hpg : m_law_pages len (lns false true bs) = some p.es := by rw [law_pages_ok (by omega) hn, I.es]
    have hnn := L.n
    have hlt := L.lt
    have hsel := sel_gen (N := p.es.length) (F := m_law_standing_c1 p.es) (P := fun i => match p.es[i]? with
        | some x => x.1
        | none => false) (fun acc i hi hacc => by
      have hx := List.getElem?_eq_getElem hi
      unfold m_law_standing_c1
      refine bindOk (getM_nat hx) ?_
      simp only [hx]
      by_cases h : (p.es[i]).1 = true
      · rw [if_pos h, if_pos h]; exact bindOk (appM_ok hacc) rfl
      · rw [if_neg h, if_neg h]) p.es.length 0 [] (by omega) (by simp; omega)
    have hmax := max_first L (P := fun i => match p.es[i]? with
        | some x => x.1
        | none => false) (fun i x hx => by simp only [hx])
    have hlast : getM p.es (-1) = some e := getM_last L.la
    have hrng : rng2M ((first : Int) + 1) (p.es.length : Int) = some ((List.range' (first + 1) (p.es.length - (first + 1))).map fun (k : Nat) => (k : Int)) := rng2_ok (a := first + 1) (b := p.es.length) (by omega) (by omega)
    have hfr := fr_gen (ls := lns false true bs) (F := m_law_standing_c2 (lns false true bs, flg false true bs)) (fun acc i x h1 h2 => by
      unfold m_law_standing_c2
      refine bindOk (getM_nat h1) ?_
      by_cases h : (!x.2.1) = true
      · rw [if_pos h, if_pos h]; exact bindOk (appM_ok h2) rfl
      · rw [if_neg h, if_neg h]) (p.es.length - (first + 1)) (first + 1) [] (by omega) (by simp; omega)
    have hhead : ∀ st, (if ((decide ((e.2 + (1 : Int)) = len)) && ((!(flg false true bs).1) || (decide (([] : List Int) ++ ((frs (lns false true bs) (first + 1) (p.es.length - (first + 1))).map fun (k : Nat) => (k : Int)) = ([] : (List Int)))))) then (some (Wd.top, (0 : Int), (0 : Int)))
        else (if (!(flg false true bs).1) then (some (Wd.opn, (e.2 + (1 : Int)), (0 : Int)))
        else (Option.bind (if (!decide (([] : List Int) ++ ((frs (lns false true bs) (first + 1) (p.es.length - (first + 1))).map fun (k : Nat) => (k : Int)) = ([] : (List Int)))) then (Option.bind (getM (([] : List Int) ++ ((frs (lns false true bs) (first + 1) (p.es.length - (first + 1))).map fun (k : Nat) => (k : Int))) (-(1 : Int))) fun x13 =>
        Option.bind (getM p.es x13) fun x14 =>
        some ((e.2 + (1 : Int)) - x14.2)) else (some (0 : Int))) fun x15 =>
        some (Wd.kept, (e.2 + (1 : Int)), x15)))) = some st → m_law_standing len bs = some st := by
      intro st hst
      unfold m_law_standing
      refine bindOk hl ((if_neg (by simp [hd])).trans (bindOk hpg (bindOk (rngM_ok (by omega) (by omega)) ?_)))
      rw [show ((p.es.length : Nat) : Int).toNat = p.es.length by omega, List.range_eq_range']
      exact bindOk hsel (bindOk hmax (bindOk hlast (bindOk hrng (bindOk hfr hst))))
    have hhead' := hhead
    unfold m_law_standing at hhead'
    rw [← L.hi] at hhead'
    have hne0 : ¬ p.high = 0 := by omega
    rw [if_neg hne0]
    cases hb : (flg false true bs).1 with
    | false =>
      have hnl : p.nl = 0 := by
        rcases I.W.s hh with h | h
        · exact h.1
        · rw [hb] at h; exact absurd h.1 (by decide)
      have hbk : Pg.back p = some 0 := if_pos hnl
      rw [hb] at hhead' hbar
      rw [hbk, Option.bind_some, hbar, I.l]
      by_cases ht : p.high = len
      · refine ⟨(Wd.top, 0, 0), hhead' _ (if_pos (by simp [ht])), ?_, ⟨fun _ => hnl, fun _ => rfl⟩, fun h => absurd hnl h⟩
        unfold m_behind
        exact if_pos (by simp [ht])
      · refine ⟨(Wd.opn, p.high, 0), hhead' _ ((if_neg (by simp [ht])).trans (if_pos rfl)), ?_, ⟨fun _ => hnl, fun _ => rfl⟩, fun h => absurd hnl h⟩
        unfold m_behind
        exact (if_neg (by simp [ht])).trans (bindOk (if_neg (by simp)) rfl)
    | true =>
      rw [hb] at hhead' hbar
      rw [hbar, I.l]
      rcases inv_free I hd hb L with ⟨hnl, hfree⟩ | ⟨hnl, hnl2, hf1, hfl, r, hr, hpos, hbk⟩
      · have hbk : Pg.back p = some 0 := if_pos hnl
        rw [hbk, Option.bind_some]
        rw [← hnn] at hfree
        rw [hfree] at hhead'
        by_cases ht : p.high = len
        · refine ⟨(Wd.top, 0, 0), hhead' _ (if_pos (by simp [ht])), ?_, ⟨fun _ => hnl, fun _ => rfl⟩, fun h => absurd hnl h⟩
          unfold m_behind
          exact if_pos (by simp [ht])
        · refine ⟨(Wd.kept, p.high, 0), hhead' _ ((if_neg (by simp [ht])).trans ((if_neg (by simp)).trans (bindOk (if_neg (by simp)) rfl))), ?_, ⟨fun _ => hnl, fun _ => rfl⟩, fun h => absurd hnl h⟩
          unfold m_behind
          exact (if_neg (by simp [ht])).trans (bindOk (if_pos rfl) rfl)
      · rw [hbk, Option.bind_some]
        rw [← hnn] at hfl
        have hne : frs (lns false true bs) (first + 1) (p.es.length - (first + 1)) ≠ [] := by intro h; rw [h] at hfl; cases hfl
        have hg : getM (([] : List Int) ++ ((frs (lns false true bs) (first + 1) (p.es.length - (first + 1))).map fun (k : Nat) => (k : Int))) (-1) = some ((p.es.length - p.nl : Nat) : Int) := lst_neg (by rw [List.nil_append, List.getLast?_map, hfl]; rfl)
        refine ⟨(Wd.kept, p.high, p.high - r), hhead' _ ((if_neg (by simp [hne])).trans ((if_neg (by simp)).trans (bindOk ((if_pos (by simp [hne])).trans (bindOk hg (bindOk (getM_nat hr) rfl))) rfl))), ?_, ⟨fun h => absurd (show p.high - r = 0 from h) (by omega), fun h => absurd h hnl⟩, fun _ => ⟨r, hr, by show p.high - (p.high - r) = r; omega⟩⟩
        unfold m_behind
        have : p.high - r > 0 := by omega
        exact (if_neg (by simp; omega)).trans (bindOk (if_pos rfl) rfl)
/-! ### pending lines -/
theorem pend_go {st : Wd × Int × Int} : ∀ (xs : List Ln) (y : Ln) (ys : List Ln) (c : Int), (∀ x ∈ xs, ¬ x.2 < st.2.1 - st.2.2) → y.2 < st.2.1 - st.2.2 → forL (m_law_pending_b1 st) (xs ++ y :: ys) c = some (.rt (c + (xs.length : Int)))
  | [], y, ys, c, _, hy => by
    rw [List.nil_append, forL_cons]
    have e : m_law_pending_b1 st c y = some (.rt c) := by
      unfold m_law_pending_b1
      exact if_pos (by simpa using hy)
    rw [e]
    show some (Fl.rt c) = _
    simp
  | x :: xs, y, ys, c, hx, hy => by
    rw [List.cons_append, forL_cons]
    have e : m_law_pending_b1 st c x = some (.go (c + 1)) := by
      unfold m_law_pending_b1
      exact if_neg (by simpa using hx x (List.mem_cons_self ..))
    rw [e]
    show forL _ _ _ = _
    rw [pend_go xs y ys (c + 1) (fun z hz => hx z (List.mem_cons_of_mem _ hz)) hy]
    congr 2
    rw [List.length_cons]; omega
theorem pending_ok (I : Inv len p bs done offs) (ho : ∀ b ∈ bs, BkOk b) (hz : cnt bs ≤ 50000) : m_law_pending len bs = some (p.nl : Int) := by
  have hl := law_lines_ok2 ho (by omega)
  have hn := lns_nonneg bs false true ho
  have hlen := lns_length bs false true ho
  obtain ⟨st, h1, _, h2, h3⟩ := standing_ok I ho hz
  unfold m_law_pending
  refine bindOk h1 ?_
  by_cases h0 : p.nl = 0
  · rw [h0]; exact if_pos (by simpa using h2.mpr h0)
  · refine (if_neg (by simpa using fun h => h0 (h2.mp h))).trans ?_
    have hd : (flg false true bs).2 = false := by
      cases h : (flg false true bs).2 with
      | false => rfl
      | true => exact absurd (I.W.z (I.B.dz h)) h0
    have hb : (flg false true bs).1 = true := by
      rcases I.W.s (I.B.bz hd).2 with h | h
      · exact absurd h.1 h0
      · exact h.1
    obtain ⟨first, e, L⟩ := inv_lst I ho hz hd
    obtain ⟨r, hr, hst⟩ := h3 h0
    have hpg : m_law_pages len (lns false true bs) = some p.es := by rw [law_pages_ok (by omega) hn, I.es]
    have hnn := L.n
    have hlt := L.lt
    refine bindOk hl (bindOk hpg ?_)
    rcases inv_free I hd hb L with ⟨hnl, _⟩ | ⟨_, hnl2, hf1, _, _⟩
    · exact absurd hnl h0
    · have hpw : List.Pairwise (fun a b : Ln => a.2 < b.2) (p.es.drop first) := by
        rw [L.dr]
        exact List.Pairwise.cons (fun b hb => rowsF_gt _ _ (fun l hl => hn l (List.mem_of_mem_drop hl)) b hb) (rowsF_pw _ _ fun l hl => hn l (List.mem_of_mem_drop hl))
      have hmono : ∀ (i j : Nat) (x y : Ln), first ≤ i → i < j → p.es[i]? = some x → p.es[j]? = some y → x.2 < y.2 := by
        intro i j x y hi hij hx hy
        have hx' : (p.es.drop first)[i - first]? = some x := by rw [List.getElem?_drop, show first + (i - first) = i by omega]; exact hx
        have hy' : (p.es.drop first)[j - first]? = some y := by rw [List.getElem?_drop, show first + (j - first) = j by omega]; exact hy
        obtain ⟨a1, a2⟩ := List.getElem?_eq_some_iff.mp hx'
        obtain ⟨b1, b2⟩ := List.getElem?_eq_some_iff.mp hy'
        have := List.pairwise_iff_getElem.mp hpw (i - first) (j - first) a1 b1 (by omega)
        rw [a2, b2] at this
        exact this
      obtain ⟨y, hy⟩ : ∃ y, p.es[p.es.length - p.nl - 1]? = some y := ⟨_, List.getElem?_eq_getElem (by omega)⟩
      have hsplit : p.es.reverse = (p.es.drop (p.es.length - p.nl)).reverse ++ y :: (p.es.take (p.es.length - p.nl - 1)).reverse := by
        have h1 : p.es = p.es.take (p.es.length - p.nl - 1) ++ (y :: p.es.drop (p.es.length - p.nl)) := by
          have hyl : p.es.length - p.nl - 1 < p.es.length := by omega
          have e1 := (List.take_append_drop (p.es.length - p.nl - 1) p.es).symm
          rw [List.drop_eq_getElem_cons hyl, (List.getElem?_eq_some_iff.mp hy).2, show p.es.length - p.nl - 1 + 1 = p.es.length - p.nl by omega] at e1
          exact e1
        have h2 := congrArg List.reverse h1
        simpa using h2
      have hgo := pend_go (st := st) (p.es.drop (p.es.length - p.nl)).reverse y (p.es.take (p.es.length - p.nl - 1)).reverse 0 (fun x hx => ?_) ?_
      · rw [← hsplit] at hgo
        refine bindOk hgo ?_
        refine congrArg some ?_
        rw [List.length_reverse, List.length_drop]; omega
      · obtain ⟨i, hi⟩ := List.mem_iff_getElem?.mp (List.mem_reverse.mp hx)
        rw [List.getElem?_drop] at hi
        rw [hst]
        by_cases hi0 : i = 0
        · subst hi0
          rw [Nat.add_zero, hr] at hi
          cases hi
          exact Int.lt_irrefl _
        · have := hmono (p.es.length - p.nl) (p.es.length - p.nl + i) _ _ (by omega) (by omega) hr hi
          show ¬ x.2 < r
          have h' : r < x.2 := this
          omega
      · rw [hst]
        exact hmono (p.es.length - p.nl - 1) (p.es.length - p.nl) _ _ (by omega) (by omega) hy hr
end
end Mr

set_option linter.all false
set_option maxRecDepth 100000
set_option maxHeartbeats 1000000
namespace Mr
theorem block_draw {b : List Int} (hb : BagOk b) : ∃ x b', m_law_block b 30 = some (x, b') ∧ 0 ≤ x.1 ∧ x.1 ≤ 30 ∧ 0 ≤ x.2.1 ∧ BagOk b' := by
  unfold m_law_block
  obtain ⟨x1, b1, e1, h1, h1', B1⟩ := draw_ok hb (n := 4) (by decide) (by decide)
  have hA : ∃ x b', (Option.bind (m_law_draw b (4 : Int)) fun (r1, bag_here2) =>
  if (decide (r1 = (3 : Int))) then (Option.bind (m_law_draw bag_here2 ((30 : Int) + (1 : Int))) fun (r2, bag_here3) =>
  some (r2, bag_here3)) else (Option.bind (m_law_draw bag_here2 (5 : Int)) fun (r3, bag_here4) =>
  some (r3, bag_here4))) = some (x, b') ∧ 0 ≤ x ∧ x ≤ 30 ∧ BagOk b' := by
    by_cases h3 : x1 = 3
    · obtain ⟨x2, b2, e2, h2, h2', B2⟩ := draw_ok B1 (n := 30 + 1) (by decide) (by decide)
      exact ⟨x2, b2, bindOk e1 ((if_pos (by simpa using h3)).trans (bindOk e2 rfl)), h2, by omega, B2⟩
    · obtain ⟨x2, b2, e2, h2, h2', B2⟩ := draw_ok B1 (n := 5) (by decide) (by decide)
      exact ⟨x2, b2, bindOk e1 ((if_neg (by simpa using h3)).trans (bindOk e2 rfl)), h2, by omega, B2⟩
  obtain ⟨x, b2, e2, h2, h2', B2⟩ := hA
  obtain ⟨x3, b3, e3, h3, h3', B3⟩ := draw_ok B2 (n := 3) (by decide) (by decide)
  obtain ⟨x4, b4, e4, h4, h4', B4⟩ := draw_ok B3 (n := 2) (by decide) (by decide)
  obtain ⟨x5, b5, e5, h5, h5', B5⟩ := draw_ok B4 (n := 8) (by decide) (by decide)
  exact ⟨(x, x3, decide (x4 = 1), decide (x5 = 7)), b5, bindOk e2 (bindOk e3 (bindOk e4 (bindOk e5 rfl))), h2, h2', h3, B5⟩
theorem length_draw {b : List Int} (hb : BagOk b) : ∃ x b', m_law_length b = some (x, b') ∧ 2 ≤ x ∧ BagOk b' := by
  unfold m_law_length
  obtain ⟨x1, b1, e1, h1, h1', B1⟩ := draw_ok hb (n := 4) (by decide) (by decide)
  by_cases h3 : x1 = 3
  · obtain ⟨x2, b2, e2, h2, h2', B2⟩ := draw_ok B1 (n := 8) (by decide) (by decide)
    exact ⟨2 + x2, b2, bindOk (a := (x2, b2)) (bindOk e1 ((if_pos (by simpa using h3)).trans (bindOk e2 rfl))) rfl, by omega, B2⟩
  · obtain ⟨x2, b2, e2, h2, h2', B2⟩ := draw_ok B1 (n := 3) (by decide) (by decide)
    exact ⟨2 + x2, b2, bindOk (a := (x2, b2)) (bindOk e1 ((if_neg (by simpa using h3)).trans (bindOk e2 rfl))) rfl, by omega, B2⟩
theorem blocks_draw : ∀ (xs : List Int) (b : List Int) (acc : List Bk), BagOk b → (∀ y ∈ acc, BkOk y ∧ y.1 ≤ 30) → acc.length + xs.length ≤ 100 →
    ∃ b' bs, folM m_law_c2 xs (b, acc) = some (b', bs) ∧ BagOk b' ∧ (∀ y ∈ bs, BkOk y ∧ y.1 ≤ 30) ∧ bs.length = acc.length + xs.length
  | [], b, acc, hb, ha, _ => ⟨b, acc, rfl, hb, ha, rfl⟩
  | x :: xs, b, acc, hb, ha, hz => by
    have hz' : acc.length + (xs.length + 1) ≤ 100 := hz
    obtain ⟨y, b1, e1, h0, h1, h2, B1⟩ := block_draw hb
    obtain ⟨b2, bs, e2, B2, h3, h4⟩ := blocks_draw xs b1 (acc ++ [y]) B1 (fun z hz => by
      rcases List.mem_append.mp hz with h | h
      · exact ha z h
      · obtain rfl := List.mem_singleton.mp h
        exact ⟨⟨h0, by omega, h2⟩, h1⟩) (by simp; omega)
    refine ⟨b2, bs, ?_, B2, h3, by rw [h4]; simp; omega⟩
    show (m_law_c2 (b, acc) x).bind _ = _
    have e : m_law_c2 (b, acc) x = some (b1, acc ++ [y]) := by
      unfold m_law_c2
      dsimp only
      exact bindOk e1 (bindOk (appM_ok (by omega)) rfl)
    rw [e]
    exact e2
theorem cnt_le : ∀ (bs : List Bk), (∀ y ∈ bs, BkOk y ∧ y.1 ≤ 30) → cnt bs ≤ 30 * bs.length
  | [], _ => by simp [cnt]
  | y :: bs, h => by
    have h1 := (h y (List.mem_cons_self ..)).2
    have h2 := cnt_le bs fun z hz => h z (List.mem_cons_of_mem _ hz)
    have e : cnt (y :: bs) = y.1.toNat + cnt bs := by simp [cnt]
    rw [e, List.length_cons]; omega

theorem rows_c : ∀ (xs : List Ln) (acc : List Bool), acc.all id = true → acc.length + xs.length ≤ 100000 → ∃ r, folM m_law_rows_right_c1 xs acc = some r ∧ r.all id = true
  | [], acc, h, _ => ⟨acc, rfl, h⟩
  | x :: xs, acc, h, hz => by
    have hz' : acc.length + (xs.length + 1) ≤ 100000 := hz
    have e : m_law_rows_right_c1 acc x = some (acc ++ [true]) := by
      unfold m_law_rows_right_c1
      exact bindOk (a := true) rfl (bindOk (appM_ok (by omega)) rfl)
    obtain ⟨r, h1, h2⟩ := rows_c xs (acc ++ [true]) (by simpa using h) (by simp; omega)
    exact ⟨r, bindOk e h1, h2⟩
theorem rows_right_ok {xs : List Ln} (hz : xs.length ≤ 100000) : m_law_rows_right xs xs = some true := by
  obtain ⟨r, h1, h2⟩ := rows_c xs [] rfl (by simpa using hz)
  unfold m_law_rows_right
  refine (if_neg (by simp)).trans (bindOk h1 ?_)
  rw [h2]
section
variable {len : Int} {p : Pg} {bs : List Bk} {done : List Ln} {offs : List Int}
theorem settled_ok (I : Inv len p bs done offs) (hz : p.es.length ≤ 50000) : Pg.settled p = some done := by
  unfold Pg.settled
  refine bindOk (cp_go p.es [] (by simp; omega)) ?_
  rw [List.nil_append]
  have h := I.R.len
  have h2 := I.R.nl
  have e : (p.es.length : Int) - (p.nl : Int) = ((done.length : Nat) : Int) := by omega
  rw [e, cutM_take (by omega), I.R.es, List.take_left]
theorem shown_ok (I : Inv len p bs done offs) (ho : ∀ b ∈ bs, BkOk b) (hz : cnt bs ≤ 50000) : m_law_shown p len bs = some (true, p) := by
  have hl := law_lines_ok2 ho (by omega)
  have hn := lns_nonneg bs false true ho
  have hlen := lns_length bs false true ho
  have hpg : m_law_pages len (lns false true bs) = some p.es := by rw [law_pages_ok (by omega) hn, I.es]
  have hnn := I.W.n
  obtain ⟨st, h1, h1', _, _⟩ := standing_ok I ho hz
  have hp := pending_ok I ho hz
  have hse := settled_ok I (by omega)
  have hcut : cutM p.es none (some ((p.es.length : Int) - (p.nl : Int))) = done := by
    have h := I.R.len
    have h2 := I.R.nl
    have e : (p.es.length : Int) - (p.nl : Int) = ((done.length : Nat) : Int) := by omega
    rw [e, cutM_take (by omega), I.R.es, List.take_left]
  have hcp : folM cpE p.es [] = some p.es := cp_go p.es [] (by simp; omega)
  have hdl : done.length ≤ 100000 := by have := I.R.len; omega
  unfold m_law_shown
  refine bindOk hl (bindOk hpg (bindOk hp (bindOk (a := false) (bindOk h1' (bindOk h1 ((if_neg (by simp)).trans (bindOk (a := (p.nl : Int)) rfl ((if_neg (by simp)).trans (bindOk (a := (p.nl : Int)) rfl (bindOk (a := true) rfl rfl))))))) ((if_neg (by simp)).trans ?_))))
  refine bindOk hcp (bindOk (a := false) (bindOk (rows_right_ok (by omega)) ((if_neg (by simp)).trans (bindOk hse ?_))) ((if_neg (by simp)).trans (bindOk (appM_ok (by omega)) ?_)))
  · rw [hcut]
    exact bindOk (rows_right_ok hdl) rfl
  · refine bindOk (a := true) (bindOk (a := (p.es.length : Int)) (if_pos (by omega)) ((if_pos (by simp)).trans (bindOk hcp ((if_pos (by simp)).trans (bindOk (a := false) rfl rfl))))) rfl
theorem set_eq (p : Pg) (b : Bk) (a : Bool) : m_law_set p b a = (p.block b.1 b.2.1 b.2.2.1 b.2.2.2).bind fun q => some (true, q) := by
  obtain ⟨c, sp, k, pg⟩ := b
  unfold m_law_set
  dsimp only
  by_cases h1 : (pg && a) = true
  · rw [if_pos h1, if_neg (by simp)]
    have hpg : pg = true := by cases pg <;> simp_all
    subst hpg
    have e : ∀ c sp k, (Pg.begin p).block c sp k false = p.block c sp k true := fun _ _ _ => rfl
    by_cases h2 : ((decide (sp = 0)) && ((!k) && (!false))) = true
    · rw [if_pos h2]
      have : sp = 0 ∧ k = false := by simpa using h2
      rw [this.1, this.2, e]
    · rw [if_neg h2, e]
  · rw [if_neg h1]
    by_cases h2 : ((decide (sp = 0)) && ((!k) && (!pg))) = true
    · rw [if_pos h2]
      have : sp = 0 ∧ k = false ∧ pg = false := by simpa using h2
      rw [this.1, this.2.1, this.2.2]
    · rw [if_neg h2]
end
theorem cut_pre {pre t : List Bk} {b : Bk} : cutM (pre ++ b :: t) none (some ((pre.length : Int) + 1)) = pre ++ [b] := by
  have e : (pre.length : Int) + 1 = ((pre.length + 1 : Nat) : Int) := by omega
  rw [e, cutM_take (by simp)]
  rw [show pre ++ b :: t = (pre ++ [b]) ++ t by simp]
  exact List.take_left' (by simp)
/-- the second page: nothing or the first block -/
def OInv (len : Int) (o : Pg) (pre : List Bk) : Prop := ∃ d f, Inv len o (pre.take 1) d f
theorem cnt_app (a b : List Bk) : cnt (a ++ b) = cnt a + cnt b := by simp [cnt]
theorem right_go {len : Int} {bs : List Bk} (ho : ∀ b ∈ bs, BkOk b) (hz : cnt bs ≤ 50000) : ∀ (t pre : List Bk) (b : List Int) (p o : Pg) (done : List Ln) (offs : List Int), bs = pre ++ t → BagOk b → Inv len p pre done offs → OInv len o pre →
    ∃ b' p' o' d' f', forL (m_law_right_b1 len bs) (enumF pre.length t) (b, p, o, done) = some (.nx (b', p', o', d')) ∧ Inv len p' bs d' f' ∧ OInv len o' bs
  | [], pre, b, p, o, done, offs, hbs, hb, I, hO => by
    rw [List.append_nil] at hbs
    subst hbs
    exact ⟨b, p, o, done, offs, rfl, I, hO⟩
  | (c, sp, k, pg) :: t, pre, b, p, o, done, offs, hbs, hb, I, hO => by
    obtain ⟨x, b1, e1, _, _, B1⟩ := draw_ok hb (n := 2) (by decide) (by decide)
    have hmem : (c, sp, k, pg) ∈ bs := by rw [hbs]; simp
    have hpre : ∀ y ∈ pre, BkOk y := fun y hy => ho y (by rw [hbs]; exact List.mem_append_left _ hy)
    have hpn := I.W.n
    have hpl := lns_length pre false true hpre
    have hc2 : cnt (pre ++ [(c, sp, k, pg)]) ≤ cnt bs := by
      rw [hbs, show pre ++ (c, sp, k, pg) :: t = (pre ++ [(c, sp, k, pg)]) ++ t by simp, cnt_app (pre ++ [(c, sp, k, pg)]) t]; omega
    have hc3 : cnt (pre ++ [(c, sp, k, pg)]) = cnt pre + c.toNat := by rw [cnt_app]; simp [cnt]
    obtain ⟨q, d, f, hq, I2, hpf, hqn⟩ := inv_block I (ho _ hmem) (by omega)
    have ho2 : ∀ y ∈ pre ++ [(c, sp, k, pg)], BkOk y := fun y hy => ho y (by rw [hbs, show pre ++ (c, sp, k, pg) :: t = (pre ++ [(c, sp, k, pg)]) ++ t by simp]; exact List.mem_append_left _ hy)
    have hset : ∀ a, m_law_set p (c, sp, k, pg) a = some (true, q) := fun a => by rw [set_eq, hq]; rfl
    have hsh := shown_ok I2 ho2 (by omega)
    have hcut : cutM bs none (some (((pre.length : Nat) : Int) + 1)) = pre ++ [(c, sp, k, pg)] := by rw [hbs]; exact cut_pre
    have hse := settled_ok I2 (by omega)
    have hdl : d.length < 100000 := by have := I2.R.len; omega
    have hO2 : ∃ o2, (if (decide (((pre.length : Nat) : Int) = (0 : Int))) then (Option.bind (m_law_set o (c, sp, k, pg) false) fun (r22, pg18) =>
        some ((!r22), pg18)) else some (false, o)) = some (false, o2) ∧ OInv len o2 (pre ++ [(c, sp, k, pg)]) := by
      by_cases h0 : pre.length = 0
      · have hp0 : pre = [] := List.length_eq_zero_iff.mp h0
        subst hp0
        obtain ⟨dd, ff, IO⟩ := hO
        have hon := IO.W.n
        have hol : o.es.length = 0 := hon
        obtain ⟨o2, d2, f2, ho2', IO2, _, _⟩ := inv_block (bs := []) IO (ho _ hmem) (by omega)
        refine ⟨o2, ?_, d2, f2, IO2⟩
        refine (if_pos (by simp)).trans (bindOk (a := (true, o2)) ?_ rfl)
        rw [set_eq, ho2']; rfl
      · refine ⟨o, if_neg (by simpa using h0), ?_⟩
        obtain ⟨dd, ff, IO⟩ := hO
        refine ⟨dd, ff, ?_⟩
        rw [List.take_append_of_le_length (by omega)]
        exact IO
    obtain ⟨o2, eO, hO2⟩ := hO2
    have hstep : m_law_right_b1 len bs (b, p, o, done) (((pre.length : Nat) : Int), (c, sp, k, pg)) = some (.go (b1, q, o2, d)) := by
      unfold m_law_right_b1
      dsimp only
      refine bindOk (a := (false, q, b1)) (bindOk e1 (bindOk (hset _) ((if_neg (by simp)).trans ?_))) ((if_neg (by simp)).trans (bindOk eO ((if_neg (by simp)).trans (bindOk hse ((if_neg ?_).trans (bindOk (appM_ok hdl) rfl))))))
      · rw [hcut]
        exact bindOk hsh rfl
      · have hle : done.length ≤ d.length := hpf.length_le
        rw [cutM_take hle, (List.prefix_iff_eq_take.mp hpf).symm]
        simp
    obtain ⟨b', p', o', d', f', e, I', O'⟩ := right_go ho hz t (pre ++ [(c, sp, k, pg)]) b1 q o2 d f (by rw [hbs]; simp) B1 I2 hO2
    refine ⟨b', p', o', d', f', ?_, I', O'⟩
    show forL _ ((((pre.length : Nat) : Int), (c, sp, k, pg)) :: enumF (pre.length + 1) t) _ = _
    rw [forL_cons, hstep]
    rw [show (pre ++ [(c, sp, k, pg)]).length = pre.length + 1 by simp] at e
    exact e
theorem right_ok {len : Int} {bs : List Bk} {b : List Int} (hb : BagOk b) (ho : ∀ b ∈ bs, BkOk b) (hz : cnt bs ≤ 50000) : ∃ b', m_law_right b len bs = some (true, b') := by
  have h0 : m_law_shown (Pg.new len) len [] = some (true, Pg.new len) := shown_ok (inv_new len) (fun b h => by cases h) (by simp [cnt])
  obtain ⟨b', p', o', d', f', e, I', O'⟩ := right_go (len := len) ho hz bs [] b (Pg.new len) (Pg.new len) [] [] rfl hb (inv_new len) ⟨[], [], inv_new len⟩
  obtain ⟨dd, ff, IO⟩ := O'
  have hcut : cutM bs none (some (1 : Int)) = bs.take 1 := by
    cases bs with
    | nil => rfl
    | cons x xs => exact cutM_take (n := 1) (by simp)
  have hsh := shown_ok IO (fun y hy => ho y (List.mem_of_mem_take hy)) (by
    cases bs with
    | nil => simp [cnt]
    | cons x xs =>
      have e1 : cnt (x :: xs) = x.1.toNat + cnt xs := by simp [cnt]
      have e2 : cnt ((x :: xs).take 1) = x.1.toNat := by simp [cnt]
      omega)
  refine ⟨b', ?_⟩
  unfold m_law_right
  refine bindOk (a := (false, Pg.new len, Pg.new len)) (bindOk h0 ((if_neg (by simp)).trans (bindOk h0 rfl))) ((if_neg (by simp)).trans (bindOk e ?_))
  refine bindOk (a := (true, o')) ((if_pos (by simpa using I'.l)).trans ?_) rfl
  rw [hcut]
  exact bindOk hsh rfl
theorem turn_ok {ns : List Int} {j : Nat} : m_law_b1 ns () (j : Int) = some (.go ()) := by
  unfold m_law_b1
  obtain ⟨b0, e0, B0⟩ := bag_ok (ns := ns) (j := j)
  obtain ⟨len, b1, e1, hlen, B1⟩ := length_draw B0
  obtain ⟨r6, b3, e3, h6, h6', B3⟩ := draw_ok B1 (n := 10) (by decide) (by decide)
  obtain ⟨b4, bs, e4, B4, hbs, hbl⟩ := blocks_draw ((List.range r6.toNat).map fun (i : Nat) => (i : Int)) b3 [] B3 (fun y hy => by cases hy) (by simp; omega)
  have hbl' : bs.length ≤ 10 := by rw [hbl]; simp; omega
  have hc : cnt bs ≤ 300 := Nat.le_trans (cnt_le bs hbs) (by omega)
  have ho : ∀ b ∈ bs, BkOk b := fun b hb => (hbs b hb).1
  obtain ⟨b5, e5⟩ := right_ok (len := len) B4 ho (by omega)
  exact bindOk e0 (bindOk e1 (bindOk e3 (bindOk (rngM_ok h6 (by omega)) (bindOk e4 (bindOk e5 (if_neg (by simp)))))))
theorem law_plain (ns : List Int) (h : ns.length ≤ 63) : m_law ns = some true := by
  unfold m_law
  obtain ⟨n, hn⟩ : ∃ n : Int, (if (if (6 : Int) < (ns.length : Int) then (6 : Int) else (ns.length : Int)) > (1 : Int) then (if (6 : Int) < (ns.length : Int) then (6 : Int) else (ns.length : Int)) else (1 : Int)) = n := ⟨_, rfl⟩
  rw [hn]
  have hn0 : 0 ≤ n ∧ n ≤ 100 := by
    rw [← hn]
    constructor <;> (repeat' split) <;> omega
  refine bindOk (rngM_ok hn0.1 (by omega)) ?_
  obtain ⟨s, hs, _⟩ := forL_inv (f := m_law_b1 ns) (fun _ => True) ((List.range n.toNat).map fun (i : Nat) => (i : Int)) () True.intro (fun x hx s _ => by
    obtain ⟨j, _, rfl⟩ := List.mem_map.mp hx
    exact ⟨(), turn_ok, True.intro⟩)
  exact bindOk hs rfl
end Mr

set_option Elab.async false
set_option linter.all false
set_option maxRecDepth 100000
set_option maxHeartbeats 4000000
set_option synthInstance.maxSize 4000
set_option synthInstance.maxHeartbeats 400000
namespace Mr
open PySem PySem.Spec PyProof.Rows L2
def mkD (n : Str) (i : Nat) : He5.DefA := ⟨fun K => He.fAd K (n, none), n, n, defArgs (top i), defBody (top i), defScope (top i), [], []⟩
def fn : List He5.DefA := [mkD "behind" 3, mkD "_law_bag" 7, mkD "_law_draw" 8, mkD "_law_number" 9, mkD "_law_lines" 10, mkD "_law_cut" 11, mkD "_law_pages" 12, mkD "_law_standing" 13, mkD "_law_block" 14, mkD "_law_length" 15, mkD "_law_pending" 16, mkD "_law_rows_right" 17, mkD "_law_shown" 18, mkD "_law_set" 19, mkD "_law_right" 20, mkD "law" 21, ⟨fun K => He.fAd K ("Page", some "stay"), "stay", "Page.stay", defArgs s_Page_stay, defBody s_Page_stay, defScope s_Page_stay, [], []⟩, ⟨fun K => He.fAd K ("Page", some "begin"), "begin", "Page.begin", defArgs s_Page_begin, defBody s_Page_begin, defScope s_Page_begin, [], []⟩, ⟨fun K => He.fAd K ("Page", some "go_over"), "go_over", "Page.go_over", defArgs s_Page_go_over, defBody s_Page_go_over, defScope s_Page_go_over, [], []⟩, ⟨fun K => He.fAd K ("Page", some "line"), "line", "Page.line", defArgs s_Page_line, defBody s_Page_line, defScope s_Page_line, [], []⟩, ⟨fun K => He.fAd K ("Page", some "block"), "block", "Page.block", defArgs s_Page_block, defBody s_Page_block, defScope s_Page_block, [], [("space", .int 0), ("kept", .bl false), ("page", .bl false)]⟩, ⟨fun K => He.fAd K ("Page", some "finish"), "finish", "Page.finish", defArgs s_Page_finish, defBody s_Page_finish, defScope s_Page_finish, [], []⟩, ⟨fun K => He.fAd K ("Page", some "__init__"), "__init__", "Page.__init__", defArgs s_Page_init, defBody s_Page_init, defScope s_Page_init, [], []⟩, ⟨fun K => gAd K "Page" "now", "now", "Page.now", defArgs s_Page_now, defBody s_Page_now, defScope s_Page_now, [], []⟩, ⟨fun K => gAd K "Page" "pending", "pending", "Page.pending", defArgs s_Page_pending, defBody s_Page_pending, defScope s_Page_pending, [], []⟩, ⟨fun K => gAd K "Page" "went_over", "went_over", "Page.went_over", defArgs s_Page_went_over, defBody s_Page_went_over, defScope s_Page_went_over, [], []⟩, ⟨fun K => He.fAd K ("Page", some "settled"), "settled", "Page.settled", defArgs s_Page_settled, defBody s_Page_settled, defScope s_Page_settled, [], []⟩, ⟨fun K => He.fAd K ("Page", some "__len__"), "__len__", "Page.__len__", defArgs s_Page_len, defBody s_Page_len, defScope s_Page_len, [], []⟩]
def fa : List He.Fa := [.glo "behind", .glo "_law_bag", .glo "_law_draw", .glo "_law_number", .glo "_law_lines", .glo "_law_cut", .glo "_law_pages", .glo "_law_standing", .glo "_law_block", .glo "_law_length", .glo "_law_pending", .glo "_law_rows_right", .glo "_law_shown", .glo "_law_set", .glo "_law_right", .glo "law", .free "abs", .free "all", .free "bool", .free "enumerate", .free "int", .free "isinstance", .free "len", .free "list", .free "max", .free "min", .free "range", .free "tuple", .glo "TOP", .glo "Page", .cls "Page", .mkr "Page", .noat "Page" "length", .noat "Page" "put_lines", .noat "Page" "loose", .noat "Page" "high", .noat "Page" "is_barred", .noat "Page" "unknown", .meth "Page" "stay", .meth "Page" "begin", .meth "Page" "go_over", .meth "Page" "line", .meth "Page" "block", .meth "Page" "finish", .meth "Page" "settled"]
def fx : List FrT := [(fun K => He.tupB K "TOP" [.str "top", .int 0, .int 0]), (spcB "Page" "__len__"), (propB "Page" "now"), (propB "Page" "pending"), (propB "Page" "went_over")]
abbrev Rw : PySem.W.OpenRow := PySem.W.OpenLaw.row PySem.Challenge.rw_pressalike_k27_blocks_on_pages
abbrev hk : PySem.W.Hook := hookE 5 fa fn fx
def ob (s : PySem.W.SharedT) : He.AlD := obsEG 5 fa fn fx (HandSHeadRun.getT s)
theorem ob_eq (s : PySem.W.SharedT) : ob s = hk.obs s.abs := obsEG_eq (HandSHeadRun.getT_eq s)
theorem run (w : World) : HandSHeadRun.RunEq Rw (PySem.W.view Rw.prog [21]) hk ob 2000 ["_wall", "TOP", "behind", "Page", "_law_bag", "_law_draw", "_law_number", "_law_lines", "_law_cut", "_law_pages", "_law_standing", "_law_block", "_law_length", "_law_pending", "_law_rows_right", "_law_shown", "_law_set", "_law_right"] w := by
  intro os
  kernel_rfl
theorem facts {P : Program} {w : World} {K : PySem.W.Frag} {h : Heap} {mg : Str → Option Value} {f : Addr} (X : K.In h) (G : h.Ns mainGlobals mg) (hfa : mg ("law" : Str) = some (.ref f)) (c : SaysE fa fn fx K) :
    ∃ fd : FuncData, (∀ (s : Shared) (v : Value), BindsTo s fd ⟨[v], []⟩ [("_law_script", v)]) ∧ ∀ base : Heap, K.In base → base.Ns mainGlobals mg → FnOk P w K mg base CX0 7 f fd ["_law_script"] (sp_law K) := by
  obtain ⟨fd_behind, F_behind⟩ := c.def_ 0 rfl
  obtain ⟨fd_law_bag, F_law_bag⟩ := c.def_ 1 rfl
  obtain ⟨fd_law_draw, F_law_draw⟩ := c.def_ 2 rfl
  obtain ⟨fd_law_number, F_law_number⟩ := c.def_ 3 rfl
  obtain ⟨fd_law_lines, F_law_lines⟩ := c.def_ 4 rfl
  obtain ⟨fd_law_cut, F_law_cut⟩ := c.def_ 5 rfl
  obtain ⟨fd_law_pages, F_law_pages⟩ := c.def_ 6 rfl
  obtain ⟨fd_law_standing, F_law_standing⟩ := c.def_ 7 rfl
  obtain ⟨fd_law_block, F_law_block⟩ := c.def_ 8 rfl
  obtain ⟨fd_law_length, F_law_length⟩ := c.def_ 9 rfl
  obtain ⟨fd_law_pending, F_law_pending⟩ := c.def_ 10 rfl
  obtain ⟨fd_law_rows_right, F_law_rows_right⟩ := c.def_ 11 rfl
  obtain ⟨fd_law_shown, F_law_shown⟩ := c.def_ 12 rfl
  obtain ⟨fd_law_set, F_law_set⟩ := c.def_ 13 rfl
  obtain ⟨fd_law_right, F_law_right⟩ := c.def_ 14 rfl
  obtain ⟨fd_law, F_law⟩ := c.def_ 15 rfl
  obtain ⟨fd_Page_stay, F_Page_stay⟩ := c.def_ 16 rfl
  obtain ⟨fd_Page_begin, F_Page_begin⟩ := c.def_ 17 rfl
  obtain ⟨fd_Page_go_over, F_Page_go_over⟩ := c.def_ 18 rfl
  obtain ⟨fd_Page_line, F_Page_line⟩ := c.def_ 19 rfl
  obtain ⟨fd_Page_block, F_Page_block⟩ := c.def_ 20 rfl
  obtain ⟨fd_Page_finish, F_Page_finish⟩ := c.def_ 21 rfl
  obtain ⟨fd_Page_init, F_Page_init⟩ := c.def_ 22 rfl
  obtain ⟨fd_Page_now, F_Page_now⟩ := c.def_ 23 rfl
  obtain ⟨fd_Page_pending, F_Page_pending⟩ := c.def_ 24 rfl
  obtain ⟨fd_Page_went_over, F_Page_went_over⟩ := c.def_ 25 rfl
  obtain ⟨fd_Page_settled, F_Page_settled⟩ := c.def_ 26 rfl
  obtain ⟨fd_Page_len, F_Page_len⟩ := c.def_ 27 rfl
  let T : Tx K mg := {
    fd_behind := fd_behind
    F_behind := F_behind
    g_behind := He.glo_ok X G (c.fact 0 rfl)
    b_behind := F_behind.bindsN fun _ _ _ _ _ _ us hl => (match us, hl with | [_, _, _, _], _ => rfl)
    fd_law_bag := fd_law_bag
    F_law_bag := F_law_bag
    g_law_bag := He.glo_ok X G (c.fact 1 rfl)
    b_law_bag := F_law_bag.bindsN fun _ _ _ _ _ _ us hl => (match us, hl with | [_, _], _ => rfl)
    fd_law_draw := fd_law_draw
    F_law_draw := F_law_draw
    g_law_draw := He.glo_ok X G (c.fact 2 rfl)
    b_law_draw := F_law_draw.bindsN fun _ _ _ _ _ _ us hl => (match us, hl with | [_, _], _ => rfl)
    fd_law_number := fd_law_number
    F_law_number := F_law_number
    g_law_number := He.glo_ok X G (c.fact 3 rfl)
    b_law_number := F_law_number.bindsN fun _ _ _ _ _ _ us hl => (match us, hl with | [_], _ => rfl)
    fd_law_lines := fd_law_lines
    F_law_lines := F_law_lines
    g_law_lines := He.glo_ok X G (c.fact 4 rfl)
    b_law_lines := F_law_lines.bindsN fun _ _ _ _ _ _ us hl => (match us, hl with | [_], _ => rfl)
    fd_law_cut := fd_law_cut
    F_law_cut := F_law_cut
    g_law_cut := He.glo_ok X G (c.fact 5 rfl)
    b_law_cut := F_law_cut.bindsN fun _ _ _ _ _ _ us hl => (match us, hl with | [_, _, _], _ => rfl)
    fd_law_pages := fd_law_pages
    F_law_pages := F_law_pages
    g_law_pages := He.glo_ok X G (c.fact 6 rfl)
    b_law_pages := F_law_pages.bindsN fun _ _ _ _ _ _ us hl => (match us, hl with | [_, _], _ => rfl)
    fd_law_standing := fd_law_standing
    F_law_standing := F_law_standing
    g_law_standing := He.glo_ok X G (c.fact 7 rfl)
    b_law_standing := F_law_standing.bindsN fun _ _ _ _ _ _ us hl => (match us, hl with | [_, _], _ => rfl)
    fd_law_block := fd_law_block
    F_law_block := F_law_block
    g_law_block := He.glo_ok X G (c.fact 8 rfl)
    b_law_block := F_law_block.bindsN fun _ _ _ _ _ _ us hl => (match us, hl with | [_, _], _ => rfl)
    fd_law_length := fd_law_length
    F_law_length := F_law_length
    g_law_length := He.glo_ok X G (c.fact 9 rfl)
    b_law_length := F_law_length.bindsN fun _ _ _ _ _ _ us hl => (match us, hl with | [_], _ => rfl)
    fd_law_pending := fd_law_pending
    F_law_pending := F_law_pending
    g_law_pending := He.glo_ok X G (c.fact 10 rfl)
    b_law_pending := F_law_pending.bindsN fun _ _ _ _ _ _ us hl => (match us, hl with | [_, _], _ => rfl)
    fd_law_rows_right := fd_law_rows_right
    F_law_rows_right := F_law_rows_right
    g_law_rows_right := He.glo_ok X G (c.fact 11 rfl)
    b_law_rows_right := F_law_rows_right.bindsN fun _ _ _ _ _ _ us hl => (match us, hl with | [_, _], _ => rfl)
    fd_law_shown := fd_law_shown
    F_law_shown := F_law_shown
    g_law_shown := He.glo_ok X G (c.fact 12 rfl)
    b_law_shown := F_law_shown.bindsN fun _ _ _ _ _ _ us hl => (match us, hl with | [_, _, _], _ => rfl)
    fd_law_set := fd_law_set
    F_law_set := F_law_set
    g_law_set := He.glo_ok X G (c.fact 13 rfl)
    b_law_set := F_law_set.bindsN fun _ _ _ _ _ _ us hl => (match us, hl with | [_, _, _], _ => rfl)
    fd_law_right := fd_law_right
    F_law_right := F_law_right
    g_law_right := He.glo_ok X G (c.fact 14 rfl)
    b_law_right := F_law_right.bindsN fun _ _ _ _ _ _ us hl => (match us, hl with | [_, _, _], _ => rfl)
    fd_law := fd_law
    F_law := F_law
    g_law := He.glo_ok X G (c.fact 15 rfl)
    b_law := F_law.bindsN fun _ _ _ _ _ _ us hl => (match us, hl with | [_], _ => rfl)
    z_abs := He.free_ok X G (c.fact 16 rfl)
    z_all := He.free_ok X G (c.fact 17 rfl)
    z_bool := He.free_ok X G (c.fact 18 rfl)
    z_enumerate := He.free_ok X G (c.fact 19 rfl)
    z_int := He.free_ok X G (c.fact 20 rfl)
    z_isinstance := He.free_ok X G (c.fact 21 rfl)
    z_len := He.free_ok X G (c.fact 22 rfl)
    z_list := He.free_ok X G (c.fact 23 rfl)
    z_max := He.free_ok X G (c.fact 24 rfl)
    z_min := He.free_ok X G (c.fact 25 rfl)
    z_range := He.free_ok X G (c.fact 26 rfl)
    z_tuple := He.free_ok X G (c.fact 27 rfl)
    c_TOP := He.glo_ok X G (c.fact 28 rfl)
    v_TOP := fun G => ⟨_, _, _, _, rfl, He.tupB_ok (c.test 0 rfl) G, rfl, rfl, rfl⟩ }
  let PT : PgT K mg := {
    g_Page := He.glo_ok X G (c.fact 29 rfl)
    c := He.cls_ok (c.fact 30 rfl)
    z_range := T.z_range
    mkr := He.mkr_ok (c.fact 31 rfl)
    n_length := He.noat_ok (c.fact 32 rfl)
    n_put_lines := He.noat_ok (c.fact 33 rfl)
    n_loose := He.noat_ok (c.fact 34 rfl)
    n_high := He.noat_ok (c.fact 35 rfl)
    n_is_barred := He.noat_ok (c.fact 36 rfl)
    n_unknown := He.noat_ok (c.fact 37 rfl)
    fd_stay := fd_Page_stay
    F_stay := F_Page_stay
    b_stay := F_Page_stay.bindsN fun _ _ _ _ _ _ us hl => (match us, hl with | [_], _ => rfl)
    fd_begin := fd_Page_begin
    F_begin := F_Page_begin
    b_begin := F_Page_begin.bindsN fun _ _ _ _ _ _ us hl => (match us, hl with | [_], _ => rfl)
    fd_go_over := fd_Page_go_over
    F_go_over := F_Page_go_over
    b_go_over := F_Page_go_over.bindsN fun _ _ _ _ _ _ us hl => (match us, hl with | [_], _ => rfl)
    fd_line := fd_Page_line
    F_line := F_Page_line
    b_line := F_Page_line.bindsN fun _ _ _ _ _ _ us hl => (match us, hl with | [_, _, _], _ => rfl)
    fd_block := fd_Page_block
    F_block := F_Page_block
    fd_finish := fd_Page_finish
    F_finish := F_Page_finish
    b_finish := F_Page_finish.bindsN fun _ _ _ _ _ _ us hl => (match us, hl with | [_], _ => rfl)
    fd_init := fd_Page_init
    F_init := F_Page_init
    b_init := F_Page_init.bindsN fun _ _ _ _ _ _ us hl => (match us, hl with | [_, _], _ => rfl)
    m_stay := He.meth_ok (c.fact 38 rfl)
    m_begin := He.meth_ok (c.fact 39 rfl)
    m_go_over := He.meth_ok (c.fact 40 rfl)
    m_line := He.meth_ok (c.fact 41 rfl)
    m_block := He.meth_ok (c.fact 42 rfl)
    m_finish := He.meth_ok (c.fact 43 rfl) }
  let PT2 : PgT2 K mg := {
    b := PT
    z_len := T.z_len
    z_int := T.z_int
    s_len := spcB_ok (c.test 1 rfl)
    fd_now := fd_Page_now
    F_now := F_Page_now
    b_now := F_Page_now.bindsN fun _ _ _ _ _ _ us hl => (match us, hl with | [_], _ => rfl)
    fd_pending := fd_Page_pending
    F_pending := F_Page_pending
    b_pending := F_Page_pending.bindsN fun _ _ _ _ _ _ us hl => (match us, hl with | [_], _ => rfl)
    fd_went_over := fd_Page_went_over
    F_went_over := F_Page_went_over
    b_went_over := F_Page_went_over.bindsN fun _ _ _ _ _ _ us hl => (match us, hl with | [_], _ => rfl)
    fd_settled := fd_Page_settled
    F_settled := F_Page_settled
    b_settled := F_Page_settled.bindsN fun _ _ _ _ _ _ us hl => (match us, hl with | [_], _ => rfl)
    fd_len := fd_Page_len
    F_len := F_Page_len
    b_len := F_Page_len.bindsN fun _ _ _ _ _ _ us hl => (match us, hl with | [_], _ => rfl)
    m_settled := He.meth_ok (c.fact 44 rfl)
    p_now := propB_ok (c.test 2 rfl)
    p_pending := propB_ok (c.test 3 rfl)
    p_went_over := propB_ok (c.test 4 rfl) }
  have e := hfa.symm.trans T.g_law
  cases e
  have b := FunD.bindsA (ps := ["_law_script"]) F_law fun _ _ _ _ _ _ us hl => match us, hl with | [_], _ => rfl
  exact ⟨fd_law, fun s v => b s [v] rfl, fun base _ _ => ok_law T PT PT2⟩
end Mr
open PySem PySem.W PySem.Calls PyProof.Rows
theorem PySem.Challenge.cw_pressalike_k27_blocks_on_pages_holds : PySem.Challenge.rw_pressalike_k27_blocks_on_pages.Holds := by
  w_on; o_law
  refine HandSHeadRun.head_any (r := OpenLaw.row PySem.Challenge.rw_pressalike_k27_blocks_on_pages) (q := view (OpenLaw.row PySem.Challenge.rw_pressalike_k27_blocks_on_pages).prog [21]) (H := Mr.hk) (ob := Mr.ob) (M := 2000) (loose := ["_wall", "TOP", "behind", "Page", "_law_bag", "_law_draw", "_law_number", "_law_lines", "_law_cut", "_law_pages", "_law_standing", "_law_block", "_law_length", "_law_pending", "_law_rows_right", "_law_shown", "_law_set", "_law_right"]) (d := HandSHeadRun.topDef (OpenLaw.row PySem.Challenge.rw_pressalike_k27_blocks_on_pages).prog 21) (kwd := []) Mr.ob_eq
    (by kernel_rfl) (fun s => by kernel_rfl) Mr.run (by kernel_rfl) (by kernel_rfl) (by kernel_rfl) (by rfl) (by first | assumption | decide +kernel) (by decide +kernel) ⟨rfl, rfl, rfl, rfl, rfl, by decide +kernel⟩ ?hw ?hc
  case hw => w_witness2
  case hc =>
    refine L2.walk_ofE (l := PySem.Challenge.rw_pressalike_k27_blocks_on_pages) (n := 63) (k := 7) (x := "_law_script") (CX := L2.CX0) rfl (by decide) (by kernel_rfl) ⟨rfl, by decide, by decide⟩ ?F (fun _ _ _ _ z => z)
    intro w mg fa h Y G hmg0
    obtain ⟨K, KX, c⟩ := Y
    have hmg : mg ("law" : PySem.Str) = some (.ref fa) := by
      have e : (HandSHeadRun.topDef (OpenLaw.row PySem.Challenge.rw_pressalike_k27_blocks_on_pages).prog 21).name = ("law" : PySem.Str) := by kernel_rfl
      rw [← e]
      exact hmg0
    obtain ⟨fd, hb, hF⟩ := Mr.facts (P := (PySem.Challenge.rw_pressalike_k27_blocks_on_pages).prog) (w := w) KX G hmg c
    exact ⟨K, fd, Mr.sp_law K, KX, hb, fun H a ns hl _ hS => ⟨H, [], .ref a, ns, rfl, Mr.Sub.of H, ⟨a, _, rfl, hS, Mr.Al.ofSc⟩, true, Mr.law_plain ns hl, fun _ _ _ _ => rfl⟩, hF⟩
