import PyProof.Rows.All
import HandS.Property
import HandS.HeadNt
import Wide.All
import OpenK.AllK
import Wide.FinOn
import HandS.ForMost
import KE.GoesEnum
import HandS.ForExc
import HandS.Wide
import HandS.IsInst
import HandS.Style
import HandS.Walk
import HandS.Conv
import HandS.Flow
import HandS.Defaults
import HandS.Star
import HandS.Deep
import PyProof.GenQ
import HandS.GenOver
import HandS.GenYield
import HandS.GenCall
import HandS.GenList
import HandS.StrMore
import HandS.Head0
import HandS.Head1
import HandS.Head2
import HandS.HeadEnd
import HandS.HeadHook1
import HandS.HeadHook2
import HandS.HeadWalk
import PySem.Challenge.RW_pressalike_k02_inks_by_rows
set_option Elab.async false
set_option linter.all false
set_option maxRecDepth 100000
set_option maxHeartbeats 2000000
/-! MirH: the head's facts: defs at any address, and any test of the written part. -/
namespace Mr
open PySem PySem.Spec PyProof.Rows L2
abbrev FrT := PySem.W.Frag → Bool
def obsE (fa : List He.Fa) (fn : List He5.DefA) (ex : List FrT) (K : PySem.W.Frag) : He.AlD := (((fa.all fun f => f.ok K) && fn.all fun d => d.ok K) && ex.all fun f => f K, fn.map fun d => He5.fnA K (d.at_ K))
def valE (fn : List He5.DefA) : He.AlD := (true, fn.map He5.DefA.val)
def SaysE (fa : List He.Fa) (fn : List He5.DefA) (ex : List FrT) (K : PySem.W.Frag) : Prop := obsE fa fn ex K = valE fn
def obsEG (n : Nat) (fa : List He.Fa) (fn : List He5.DefA) (ex : List FrT) (g : Addr → Option Obj) : He.AlD := obsE fa fn ex (He.frG g (He.asD g n))
def hookE (n : Nat) (fa : List He.Fa) (fn : List He5.DefA) (ex : List FrT) : PySem.W.Hook where
  α := He.AlD
  obs := fun s => obsEG n fa fn ex s.heap.get?
  val := fun _ => valE fn
  says := fun _ h => ∃ K : PySem.W.Frag, K.In h ∧ SaysE fa fn ex K
  of := fun _ _ e => ⟨_, He.frG_in, e⟩
  keeps := fun _ _ _ ⟨K, hK, c⟩ k => ⟨K, PySem.W.Frag.In.keeps hK k, c⟩
theorem obsEG_eq {n : Nat} {fa : List He.Fa} {fn : List He5.DefA} {ex : List FrT} {g : Addr → Option Obj} {s : Shared} (h : ∀ a, g a = s.heap.get? a) : obsEG n fa fn ex g = (hookE n fa fn ex).obs s := by
  have e : g = s.heap.get? := funext h
  rw [e] <;> rfl
section
variable {fa : List He.Fa} {fn : List He5.DefA} {ex : List FrT} {K : PySem.W.Frag}
theorem SaysE.all (c : SaysE fa fn ex K) : ((fa.all fun f => f.ok K) = true ∧ (fn.all fun d => d.ok K) = true) ∧ (ex.all fun f => f K) = true := by
  have h := He.ba (show (((fa.all fun f => f.ok K) && fn.all fun d => d.ok K) && ex.all fun f => f K) = true from congrArg (fun z : He.AlD => z.1) c)
  exact ⟨He.ba h.1, h.2⟩
theorem SaysE.fact (c : SaysE fa fn ex K) (i : Nat) {f : He.Fa} (h : fa[i]? = some f := by rfl) : f.ok K = true := List.all_eq_true.mp c.all.1.1 f (List.mem_of_getElem? h)
theorem SaysE.test (c : SaysE fa fn ex K) (i : Nat) {f : FrT} (h : ex[i]? = some f := by rfl) : f K = true := List.all_eq_true.mp c.all.2 f (List.mem_of_getElem? h)
theorem SaysE.def_ (c : SaysE fa fn ex K) (i : Nat) {d : He5.DefA} (h : fn[i]? = some d := by rfl) : ∃ fd, L2.FunD K d.name d.qual d.params d.body d.scope (d.dvs K) (d.kws K) (d.at_ K) fd := by
  have e : fn.map (fun d => He5.fnA K (d.at_ K)) = fn.map He5.DefA.val := congrArg (fun z : He.AlD => z.2) c
  have e2 : (fn.map fun d => He5.fnA K (d.at_ K))[i]? = (fn.map He5.DefA.val)[i]? := by rw [e]
  rw [List.getElem?_map, List.getElem?_map, h] at e2
  exact He5.DefA.funD (Option.some.inj e2) (List.all_eq_true.mp c.all.1.2 d (List.mem_of_getElem? h))
end
/-! ### properties -/
abbrev pAd (K : PySem.W.Frag) (C f : Str) : Addr := He.ma K (He.ga K C) f
abbrev gAd (K : PySem.W.Frag) (C f : Str) : Addr := He5.wf K (He.ga K C) "property" f
def propB (C f : Str) : FrT := fun K => He.eqO (PySem.W.findIn K (.ref (He.ga K C)) f) (some (some (.ref (pAd K C f)))) && (He.eqO (PySem.W.specialIn K (.ref (pAd K C f)) "__get__") (some (some (.builtin "property.__get__"))) &&
  (decide (PySem.W.takesIn K (.ref (pAd K C f)) = some true) && (match PySem.W.recIn K (pAd K C f) "property" with
    | some (.ref _ :: _) => true
    | _ => false)))
theorem propB_ok {C f : Str} {K : PySem.W.Frag} (h : propB C f K = true) : PropOf K (He.ga K C) f (pAd K C f) (gAd K C f) := by
  obtain ⟨h1, h⟩ := He.ba h
  obtain ⟨h2, h⟩ := He.ba h
  obtain ⟨h3, h4⟩ := He.ba h
  refine ⟨He.eqO_ok h1, He.eqO_ok h2, of_decide_eq_true h3, ?_⟩
  show ∃ rest, PySem.W.recIn K (pAd K C f) "property" = some (.ref (He5.wf K (He.ga K C) "property" f) :: rest)
  unfold He5.wf
  split at h4
  · rename_i g r e
    exact ⟨r, by rw [e]⟩
  · cases h4
/-! ### len by an own __len__ -/
def spcB (C m : Str) : FrT := fun K => He.eqO (PySem.W.findIn K (.ref (He.ga K C)) m) (some (some (.ref (He.ma K (He.ga K C) m)))) && PySem.W.isFn K (.ref (He.ma K (He.ga K C) m))
structure Spc (K : PySem.W.Frag) (C : Addr) (m : Str) (f : Addr) : Prop where
  at_ : PySem.W.findIn K (.ref C) m = some (some (.ref f))
  fn : PySem.W.isFn K (.ref f) = true
theorem spcB_ok {C m : Str} {K : PySem.W.Frag} (h : spcB C m K = true) : Spc K (He.ga K C) m (He.ma K (He.ga K C) m) := by
  obtain ⟨h1, h2⟩ := He.ba h
  exact ⟨He.eqO_ok h1, h2⟩
def lenQ (Q : VK) : VK := fun v H' => ∃ n : Nat, v = .int n ∧ n < 2 ^ 62 ∧ Q (.int n) H'
def rLenOwn (C : Addr) (sp : Sp) (E : XK) : List V → Hp → VK → Prop := fun xs H Q => ∃ a dx fs, xs = [.ref a] ∧ H a = some (.ins C dx fs) ∧ sp [.ref a] H (lenQ Q) E
theorem cr_lenOwn {X : Cx} {CX : CXT} {k : Nat} {C f : Addr} {fd : FuncData} {ps : List Str} {sp : Sp} {E : XK} (F : FnOk X.prog X.w X.K X.mg X.base CX k f fd ps sp) (hs : Spc X.K C "__len__" f) (hr : Room (k + 1) X.A) (hb : Binds X.K fd ps []) (hx : Passes CX X.nox E) :
    CallR X (.builtin "len") (rLenOwn C sp E) := by
  intro pins s σ H xs us Q I r h
  obtain ⟨a, dx, fs, rfl, ea, h⟩ := h
  obtain ⟨u, rfl, rx⟩ := vals1 r
  obtain rfl : u = Value.ref a := rx
  obtain ⟨mA, O, _, _, _, _⟩ := ins_get I.hok ea
  obtain ⟨od, J, _⟩ := O.look
  have hl : ([Value.ref a] ++ ([] : List Value)).length = ps.length := by
    rw [← F.len _ _ _ _ h]; rfl
  refine PySem.Calls.call_function_entry kind_len plain_len entry_len (args_len1 _) ?_
  unfold Builtin.«len»
  refine wpAny_bind (m := oneArg "len" _) (wpAny_pure ?_)
  refine wpAny_bind (m := callSpecial? (.ref a) (Str.ofString "__len__")) (PySem.W.special_fn I.kIn J hs.at_ (beq_iff_eq.mp hs.fn) ?_)
  refine wpAny_call (codeAny_mono (F.run X.A.in1 X.stack s H ⟨[.ref a], []⟩ [.ref a] [.ref a] _ E hr.in1 I.env0.in1 (hb s [.ref a] I.kIn hl) (.cons rfl .nil) h) fun r s' hq => ?_)
  cases r with
  | error er => exact False.elim (hx pins σ H s er s' (I.wish _) hq)
  | ok fl =>
    cases fl with
    | ret u =>
      obtain ⟨v, H', I3, rv, n, rfl, hn, q3⟩ := I.after hq
      obtain ⟨t, rfl⟩ := rv
      refine wpAny_bind (wpAny_holding (wpAny_pure ?_))
      refine wpAny_bind (wpAny_letGo ?_)
      show wpAny _ _ (if (n : Int) < 0 then _ else _) _ _ _
      rw [if_neg (by omega)]
      show wpAny _ _ (if (n : Int) ≥ 2 ^ 63 then _ else _) _ _ _
      rw [if_neg (by omega)]
      exact wpAny_bind (wpAny_mkInt (wpAny_pure ⟨_, rfl, ⟨.int n, H', I3.tok _, ⟨_, rfl⟩, q3⟩⟩))
    | next => exact False.elim hq
    | brk => exact False.elim hq
    | cont => exact False.elim hq
end Mr

set_option Elab.async false
set_option linter.all false
set_option maxRecDepth 100000
set_option maxHeartbeats 2000000
/-! MirE: enumerate of a tuple, of a list or a tuple. -/
namespace Mr
open PySem PySem.Spec PyProof.Rows L2
theorem meets_enum1 {v : Value} {o : Obj} {H : Heap → Prop} (B : Begins v o H) :
    Meets (Builtin.«enumerate.__new__» ⟨[.type "enumerate", v], []⟩) (fun _ R s => H s.heap ∧
      R (.ok (.ret (.ref (s.heap.push o).objs.size))) { s with heap := (s.heap.push o).push { cls := .type "enumerate", data := .fields #[.none, .bool false, .ref s.heap.objs.size, rawInt 0, .none, .none] } }) :=
  .of_wp fun prog w A R s h => by
    obtain ⟨hp, g, d, tk, os⟩ := s; obtain ⟨h1, h⟩ := h
    have hsub := sub_enumerate
    have q1 : ∀ {A' : Around} {E : Value → Shared → Prop} {Q : Value → Shared → Prop}, Q (.ref hp.objs.size) ⟨hp.push o, g, d, tk, os⟩ → wpAny (model prog w) A' (pyIter v) Q E ⟨hp, g, d, tk, os⟩ :=
      fun q => B.iter prog w _ _ ⟨hp, g, d, tk, os⟩ _ h1 q
    wp_walk using q1
    refine wpAny_stack_any fun st => wpAny_pure ?_
    split
    · rename_i c _ _ _ _ _
      cases (c == Value.type "enumerate")
      · wp_walk using q1
        exact ⟨_, rfl, h⟩
      · wp_walk using q1
        exact ⟨_, rfl, h⟩
    · wp_walk using q1
      exact ⟨_, rfl, h⟩
theorem call_enum1 {prog : Program} {w : World} {A : Around} {E : Value → Shared → Prop} {s : Shared} {v : Value} {o : Obj} {H : Heap → Prop} {Q : Value → Shared → Prop} (B : Begins v o H) (h1 : H s.heap)
    (h : ∀ h', IsEnum h' (s.heap.objs.size + 1) s.heap.objs.size 0 .none → h'.get? s.heap.objs.size = some o → h'.objs.size = s.heap.objs.size + 2 →
      (∀ b o, s.heap.get? b = some o → h'.get? b = some o) → Q (.ref (s.heap.objs.size + 1)) { s with heap := h' }) :
    wpAny (model prog w) A (call (.type "enumerate") [v]) Q E s := by
  refine callType_new F.called_enumerate (by decide) (F.typeCall_enumerate_1 _) (F.newCall_enumerate_1 _) (fun obj => F.args_object_init_2 obj _) F.entry_enumerate_new
    (meets_enum1 B) ⟨h1, ?_⟩
  have hz : (s.heap.push o).objs.size = s.heap.objs.size + 1 := Heap.size_push ..
  show _ ∧ _
  rw [hz]
  have he : IsEnum ((s.heap.push o).push { cls := .type "enumerate", data := .fields #[.none, .bool false, .ref s.heap.objs.size, rawInt 0, .none, .none] }) (s.heap.objs.size + 1) s.heap.objs.size 0 .none := by
    have := Heap.get?_push_size (s.heap.push o) (o := { cls := .type "enumerate", data := .fields #[.none, .bool false, .ref s.heap.objs.size, rawInt 0, .none, .none] }) rfl
    rw [hz] at this; exact this
  refine ⟨⟨_, he, rfl⟩, h _ he (Heap.get?_push_of_some _ (Heap.get?_push_size _ B.free)) (by rw [Heap.size_push, hz]) fun b o x => Heap.get?_push_of_some _ (Heap.get?_push_of_some _ x)⟩
/-- the tuple at a, each item in a new pair -/
def IteT (K : PySem.W.Frag) (a : Addr) : It :=
  ⟨fun i H => ∃ (xs : List V) (x : V), SqT K H a xs ∧ xs[i]? = some x, fun i H v H' => ∃ T x, v = .ref T ∧ H T = none ∧ H' = upd H T (.tup [.int (i : Nat), x]) ∧ ∀ xs, SqT K H a xs → xs[i]? = some x, fun i H => ∃ xs : List V, SqT K H a xs ∧ xs.length = i⟩
theorem turn_enumT {P : Program} {w : World} {K : PySem.W.Frag} {elts : List Expr} {kk : Nat} {tpos : Pos} (a e it : Addr) :
    Turn P w K (.Tuple elts kk tpos) (IteT K a) [e, it] e (fun i h => (∃ old, IsEnum h e it ((i : Nat) : Int) old) ∧ h.IsTupleIter it a i ∧ e ≠ it ∧ a ≠ it ∧ a ≠ e) where
  mem := by simp
  obj := fun i h st b hb => by
    obtain ⟨⟨old, he⟩, ⟨o, ho, hc, hd⟩, _⟩ := st
    have e' : b = e ∨ b = it := by simpa using hb
    rcases e' with z | z
    · rw [z]; exact ⟨_, he, fun v q => nomatch q⟩
    · rw [z]; exact ⟨o, ho, fun v q => by rw [hd] at q; cases q⟩
  keep := fun i h h' st k => let ⟨⟨old, he⟩, hi, hne⟩ := st; ⟨⟨old, k e (by simp) _ he⟩, hi.at fun o q => k it (by simp) o q, hne⟩
  item := by
    intro X hP hw hK hc i pins s σ H E I hf st hg
    subst hP hw hK
    obtain ⟨⟨old, he⟩, hit, hne, hai, hae⟩ := st
    obtain ⟨xs, x, hq, hx⟩ := hg
    obtain ⟨its, rv, p, hz⟩ := I.tuple hq
    have hi : i < its.length := by rw [← rv.length]; exact (List.getElem?_eq_some_iff.mp hx).1
    have hel : e < s.heap.objs.size := Heap.lt_size he
    have hil : it < s.heap.objs.size := by obtain ⟨_, q, _⟩ := hit; exact Heap.lt_size q
    have D : Draws X.prog X.w X.A.in1 it [it, a] its.toArray.size (fun i v => its.toArray[i]? = some v) (fun i h => h.IsTupleIter it a i ∧ h.IsTuple a its.toArray) := Draws.tuple (A := X.A.in1) (show X.A.in1.handled = none from I.ok.hd hc) it a hai its.toArray
    refine wpAny_pyNext_enum_itemC D he ⟨hit, p⟩ (by simpa using hi) hne (fun hm => ?_) fun u h' tk hu ho hst' hT hsz hk => ?_
    · rcases List.mem_cons.mp hm with z | hm
      · exact hne z
      · rcases List.mem_cons.mp hm with z | hm
        · exact hae z.symm
        · cases hm
    obtain ⟨u', hu', ru⟩ := rv.get hx
    have hu2 : its[i]? = some u := by simpa using hu
    rw [hu2] at hu'
    cases hu'
    refine ⟨_, rfl, wpAny_letOwnedTupleGo_enum (s := { s with heap := h', toks := tk + 1 }) ho fun h'' he' sb => ?_⟩
    have hT2 : h''.get? s.heap.objs.size = some { cls := .type "tuple", data := .seq #[.int i tk, u] } := (sb.2 _ (Nat.ne_of_gt hel)).trans hT
    have new : ObjOk X.prog X.w (upd H s.heap.objs.size (.tup [.int (i : Nat), x])) h'' s.heap.objs.size (.tup [.int (i : Nat), x]) :=
      ⟨by show 2 ≤ sizeLine; decide, [.int i tk, u], .cons ⟨_, rfl⟩ (.cons ru .nil), ⟨_, hT2, rfl, _, rfl⟩⟩
    have I1 : Inv X pins σ (upd H s.heap.objs.size (.tup [.int (i : Nat), x])) { s with heap := h'', toks := tk + 1 } :=
      I.turnedNew (ch := [e, it]) (fun b ob hb q => (sb.2 b (fun z => hb (by simp [z]))).trans (hk b ob (fun z => hb (by simp [z])) (fun z => hb (by simp [z])) q)) hf (Nat.le_refl _) new
    refine ⟨.ref s.heap.objs.size, _, I1, rfl, ⟨_, x, rfl, I.hok.fresh (Nat.le_refl _), rfl, fun ys hy => by rw [I.tuple_inj hy hq]; exact hx⟩, ⟨⟨u, ?_⟩, hst'.1.at fun o q => (sb.2 it (Ne.symm hne)).trans q, hne, hai, hae⟩, fun b hb => ?_⟩
    · have e1 : ((i + 1 : Nat) : Int) = (i : Int) + 1 := by omega
      rw [e1]; exact he'
    · have hb' : b < s.heap.objs.size := by
        have e' : b = e ∨ b = it := by simpa using hb
        rcases e' with z | z
        · rw [z]; exact hel
        · rw [z]; exact hil
      rw [upd_ne (Nat.ne_of_lt hb')]
      exact (hf b hb).1
  done := by
    intro X hP hw hK hc i pins s σ H E I hf st hg
    subst hP hw hK
    obtain ⟨⟨old, he⟩, hit, hne, hai, hae⟩ := st
    obtain ⟨xs, hq, hx⟩ := hg
    obtain ⟨its, rv, p, hz⟩ := I.tuple hq
    obtain ⟨f0, f1, f2, f3, f4, f5⟩ := hf it (by simp)
    have hl := rv.length
    have D : Draws X.prog X.w X.A.in1 it [it, a] its.toArray.size (fun i v => its.toArray[i]? = some v) (fun i h => h.IsTupleIter it a i ∧ h.IsTuple a its.toArray) := Draws.tuple (A := X.A.in1) (show X.A.in1.handled = none from I.ok.hd hc) it a hai its.toArray
    have e0 : its.toArray.size = i := by simp; omega
    refine wpAny_pyNext_enum_endD D he (by rw [e0]; exact ⟨hit, p⟩) fun h' eb => ⟨rfl, I.turned (t' := s.toks) (fun b o hb q => eb b o hb q) f0 f1 f3 f4 f5⟩
  self := fun A i s Q E st h => let ⟨⟨_, he⟩, _⟩ := st; wpAny_pyIter_enum he h
def iEnumQ (K : PySem.W.Frag) (ta : TA) : TI := fun σ H R => ta σ H fun vs H1 => ∃ a xs, vs = [.ref a] ∧ ((SqL K H1 a xs ∧ R (Ite K a) H1) ∨ (SqT K H1 a xs ∧ R (IteT K a) H1))
theorem pi_enumQ {X : Cx} {e : Expr} {ta : TA} {p pos tpos : Pos} {elts : List Expr} {kk : Nat} (hg : Gl X "enumerate") (hm : X.mg "enumerate" = none) (ha : PA X [e] ta) (hs : starEach [e] X.env = [(false, eval e X.env)] := by rfl) :
    PI X (.Tuple elts kk tpos) (.Call (.Name "enumerate" p) [e] [] pos) (iEnumQ X.K ta) := by
  refine ⟨fun pins s σ H R I h => ?_⟩
  refine Call_ (ld_blt I hg hm boot_enumerate (PyProof.Rows.callWith_type1 (thn (ha.run pos pins s σ H _ I h) fun us s1 ⟨vs, H1, I1, r1, q1⟩ => ?_) hs rfl))
  obtain ⟨a, xs, ex, hqq⟩ := q1
  subst ex
  cases r1 with
  | cons r rr =>
    cases rr
    cases r
    have fin : ∀ b, b ∈ [s1.heap.objs.size + 1, s1.heap.objs.size] → s1.heap.objs.size ≤ b := fun b hb => by
      have e' : b = s1.heap.objs.size + 1 ∨ b = s1.heap.objs.size := by simpa using hb
      rcases e' with z | z
      · rw [z]; exact Nat.le_add_right _ _
      · rw [z]; exact Nat.le_refl _
    rcases hqq with ⟨hq, q⟩ | ⟨hq, q⟩
    · obtain ⟨its, rv, p', hz⟩ := I1.list hq
      refine call_enumerate_list p'.isList fun h' he hit hsz hk => wpAny_pyIter_enum he ?_
      have I2 : Inv X pins σ H1 { s1 with heap := h' } := I1.kept (t' := s1.toks) hk
      exact ⟨s1.heap.objs.size + 1, [s1.heap.objs.size + 1, s1.heap.objs.size], _, _, H1, rfl, I2, turn_enum a (s1.heap.objs.size + 1) s1.heap.objs.size, ⟨⟨.none, he⟩, hit, Nat.succ_ne_self _⟩, fun b hb => I1.fpOk (fin b hb) (I1.hok.fresh (fin b hb)), q⟩
    · obtain ⟨its, rv, p', hz⟩ := I1.tuple hq
      have hlt : a < s1.heap.objs.size := by obtain ⟨_, q, _⟩ := id p'; exact Heap.lt_size q
      refine call_enum1 (begins_tuple a its.toArray) p' fun h' he hit hsz hk => wpAny_pyIter_enum he ?_
      have I2 : Inv X pins σ H1 { s1 with heap := h' } := I1.kept (t' := s1.toks) hk
      exact ⟨s1.heap.objs.size + 1, [s1.heap.objs.size + 1, s1.heap.objs.size], _, _, H1, rfl, I2, turn_enumT a (s1.heap.objs.size + 1) s1.heap.objs.size,
        ⟨⟨.none, he⟩, ⟨_, hit, rfl, rfl⟩, Nat.succ_ne_self _, Nat.ne_of_lt hlt, Nat.ne_of_lt (Nat.lt_succ_of_lt hlt)⟩, fun b hb => I1.fpOk (fin b hb) (I1.hok.fresh (fin b hb)), q⟩
end Mr

set_option linter.all false
set_option maxRecDepth 100000
/-! MirP: the plain part of the mirrors: Option computations (none: the model's rules do not cover it), folds, loops. -/
namespace Mr
theorem bindS {α β : Type} {o : Option α} {f : α → Option β} {r : β} (h : o.bind f = some r) : ∃ a, o = some a ∧ f a = some r := by
  cases o with
  | none => cases h
  | some a => exact ⟨a, rfl, h⟩
def fdivM (a b : Int) : Option Int := if 0 < b ∧ b.natAbs.log2 < 9000 then some (a / b) else none
def modM (a b : Int) : Option Int := if 0 < b then some (a % b) else none
def mulM (a b : Int) : Option Int := if (-(2 ^ 64) < a ∧ a < 2 ^ 64) ∨ (-(2 ^ 64) < b ∧ b < 2 ^ 64) then some (a * b) else none
def ixM (n : Nat) (i : Int) : Option Nat := if 0 ≤ i then (if i < n then some i.toNat else none) else if -(n : Int) ≤ i then some (i + n).toNat else none
def getM {α : Type} (xs : List α) (i : Int) : Option α := (ixM xs.length i).bind fun j => xs[j]?
def setM {α : Type} (xs : List α) (i : Int) (x : α) : Option (List α) := (ixM xs.length i).bind fun j => some (xs.set j x)
def appM {α : Type} (xs : List α) (x : α) : Option (List α) := if xs.length < 100000 then some (xs ++ [x]) else none
def rngM (n : Int) : Option (List Int) := if -(2 ^ 62) ≤ n ∧ n < 2 ^ 62 then some ((List.range n.toNat).map fun (i : Nat) => (i : Int)) else none
def rng2M (a b : Int) : Option (List Int) := if -(2 ^ 62) ≤ a ∧ a < 2 ^ 62 ∧ -(2 ^ 62) ≤ b ∧ b < 2 ^ 62 then some ((List.range (b - a).toNat).map fun (i : Nat) => a + (i : Int)) else none
def enumF {α : Type} : Nat → List α → List (Int × α)
  | _, [] => []
  | k, x :: xs => ((k : Int), x) :: enumF (k + 1) xs
def enumM {α : Type} (xs : List α) : List (Int × α) := enumF 0 xs
def slIx (n d : Nat) : Option Int → Nat
  | none => d
  | some v => if v < 0 then (v + (n : Int)).toNat else min v.toNat n
def cutM {α : Type} (xs : List α) (lo hi : Option Int) : List α := (xs.drop (slIx xs.length 0 lo)).take (slIx xs.length xs.length hi - slIx xs.length 0 lo)
def catM {α : Type} (xs ys : List α) : Option (List α) := if xs.length + ys.length ≤ 100000 then some (xs ++ ys) else none
theorem catM_some {α : Type} {xs ys zs : List α} (h : catM xs ys = some zs) : xs.length + ys.length ≤ 100000 ∧ xs ++ ys = zs := by
  unfold catM at h
  split at h
  · rename_i c; exact ⟨c, Option.some.inj h⟩
  · cases h
def szM {α : Type} (xs : List α) : Option (List α) := if xs.length ≤ 100000 then some xs else none
theorem szM_some {α : Type} {xs ys : List α} (h : szM xs = some ys) : xs.length ≤ 100000 ∧ xs = ys := by
  unfold szM at h
  split at h
  · rename_i c; exact ⟨c, Option.some.inj h⟩
  · cases h
/-- a loop that is never left -/
def folM {α σ : Type} (f : σ → α → Option σ) : List α → σ → Option σ
  | [], s => some s
  | x :: xs, s => (f s x).bind fun s' => folM f xs s'
/-- a turn's end, a loop's end -/
inductive Bf (σ ρ : Type) where
  | go (s : σ) | bk (s : σ) | rt (r : ρ)
inductive Fl (σ ρ : Type) where
  | nx (s : σ) | rt (r : ρ)
def forL {α σ ρ : Type} (f : σ → α → Option (Bf σ ρ)) : List α → σ → Option (Fl σ ρ)
  | [], s => some (.nx s)
  | x :: xs, s => (f s x).bind fun b => match b with
    | .go s' => forL f xs s'
    | .bk s' => some (.nx s')
    | .rt r => some (.rt r)
def conL {α σ ρ : Type} (f : σ → α → Option (Bf σ ρ)) (xs : List α) : Bf σ ρ → Option (Fl σ ρ)
  | .go s' => forL f xs s'
  | .bk s' => some (.nx s')
  | .rt r => some (.rt r)
theorem forL_cons {α σ ρ : Type} {f : σ → α → Option (Bf σ ρ)} {x : α} {xs : List α} {s : σ} : forL f (x :: xs) s = (f s x).bind (conL f xs) := by
  show (f s x).bind _ = _
  congr 1
/-- [e for x in xs if t]: none of a turn: left out -/
def mapM' {α β : Type} (f : α → Option β) : List α → Option (List β)
  | [] => some []
  | x :: xs => (f x).bind fun y => (mapM' f xs).bind fun ys => some (y :: ys)
def selM {α β : Type} (f : α → Option (Option β)) : List α → Option (List β)
  | [] => some []
  | x :: xs => (f x).bind fun y => (selM f xs).bind fun ys => some (match y with
    | some z => z :: ys
    | none => ys)
/-- while: n turns at most -/
def whlM {σ : Type} (c : σ → Option Bool) (f : σ → Option σ) : Nat → σ → Option σ
  | 0, _ => none
  | n + 1, s => (c s).bind fun b => if b then (f s).bind fun s' => whlM c f n s' else some s
/-- while: test and body as one turn; N turns at most -/
def whL {σ ρ : Type} (f : σ → Option (Bf σ ρ)) : Nat → σ → Option (Fl σ ρ)
  | 0, _ => none
  | n + 1, s => (f s).bind fun b => match b with
    | .go s' => whL f n s'
    | .bk s' => some (.nx s')
    | .rt r => some (.rt r)
def conW {σ ρ : Type} (f : σ → Option (Bf σ ρ)) (n : Nat) : Bf σ ρ → Option (Fl σ ρ)
  | .go s' => whL f n s'
  | .bk s' => some (.nx s')
  | .rt r => some (.rt r)
theorem whL_succ {σ ρ : Type} {f : σ → Option (Bf σ ρ)} {n : Nat} {s : σ} : whL f (n + 1) s = (f s).bind (conW f n) := by
  show (f s).bind _ = _
  congr 1
def goF {α σ : Type} (ρ : Type) (f : σ → α → Option σ) : σ → α → Option (Bf σ ρ) := fun s x => (f s x).bind fun s' => some (.go s')
theorem goF_some {α σ ρ : Type} {f : σ → α → Option σ} {s : σ} {x : α} {b : Bf σ ρ} (h : goF ρ f s x = some b) : ∃ s', f s x = some s' ∧ Bf.go s' = b := by
  obtain ⟨s', h1, h2⟩ := bindS h
  exact ⟨s', h1, Option.some.inj h2⟩
theorem fol_for {α σ : Type} (ρ : Type) {f : σ → α → Option σ} : ∀ {xs : List α} {s r : σ}, folM f xs s = some r → forL (goF ρ f) xs s = some (.nx r)
  | [], s, r, h => by cases h; rfl
  | x :: xs, s, r, h => by
    obtain ⟨s', h1, h2⟩ := bindS h
    rw [forL_cons]
    show ((f s x).bind fun s' => some (Bf.go s')).bind _ = _
    rw [h1]
    exact fol_for ρ h2
theorem mulM_some {a b x : Int} (h : mulM a b = some x) : ((-(2 ^ 64) < a ∧ a < 2 ^ 64) ∨ (-(2 ^ 64) < b ∧ b < 2 ^ 64)) ∧ a * b = x := by
  unfold mulM at h
  split at h
  · rename_i c; exact ⟨c, Option.some.inj h⟩
  · cases h
theorem fdivM_some {a b x : Int} (h : fdivM a b = some x) : (0 < b ∧ b.natAbs.log2 < 9000) ∧ a / b = x := by
  unfold fdivM at h
  split at h
  · rename_i c; exact ⟨c, Option.some.inj h⟩
  · cases h
theorem modM_some {a b x : Int} (h : modM a b = some x) : 0 < b ∧ a % b = x := by
  unfold modM at h
  split at h
  · rename_i c; exact ⟨c, Option.some.inj h⟩
  · cases h
theorem appM_some {α : Type} {xs ys : List α} {x : α} (h : appM xs x = some ys) : xs.length < 100000 ∧ xs ++ [x] = ys := by
  unfold appM at h
  split at h
  · rename_i c; exact ⟨c, Option.some.inj h⟩
  · cases h
theorem setM_some {α : Type} {xs ys : List α} {i : Int} {x : α} (h : setM xs i x = some ys) : ∃ j, ixM xs.length i = some j ∧ xs.set j x = ys := by
  obtain ⟨j, h1, h2⟩ := bindS h
  exact ⟨j, h1, Option.some.inj h2⟩
theorem rngM_some {n : Int} {xs : List Int} (h : rngM n = some xs) : (-(2 ^ 62) ≤ n ∧ n < 2 ^ 62) ∧ (List.range n.toNat).map (fun (i : Nat) => (i : Int)) = xs := by
  unfold rngM at h
  split at h
  · rename_i c; exact ⟨c, Option.some.inj h⟩
  · cases h
theorem rng2M_some {a b : Int} {xs : List Int} (h : rng2M a b = some xs) : (-(2 ^ 62) ≤ a ∧ a < 2 ^ 62 ∧ -(2 ^ 62) ≤ b ∧ b < 2 ^ 62) ∧ (List.range (b - a).toNat).map (fun (i : Nat) => a + (i : Int)) = xs := by
  unfold rng2M at h
  split at h
  · rename_i c; exact ⟨c, Option.some.inj h⟩
  · cases h
theorem folM_drop {α σ : Type} {f : σ → α → Option σ} {xs : List α} {s r : σ} {i : Nat} {x : α} (hx : xs[i]? = some x) (h : folM f (xs.drop i) s = some r) :
    ∃ s', f s x = some s' ∧ folM f (xs.drop (i + 1)) s' = some r := by
  have hi : i < xs.length := (List.getElem?_eq_some_iff.mp hx).1
  have e : xs[i] = x := (List.getElem?_eq_some_iff.mp hx).2
  rw [List.drop_eq_getElem_cons hi, e] at h
  exact bindS h
theorem forL_drop {α σ ρ : Type} {f : σ → α → Option (Bf σ ρ)} {xs : List α} {s : σ} {r : Fl σ ρ} {i : Nat} {x : α} (hx : xs[i]? = some x) (h : forL f (xs.drop i) s = some r) :
    ∃ b, f s x = some b ∧ conL f (xs.drop (i + 1)) b = some r := by
  have hi : i < xs.length := (List.getElem?_eq_some_iff.mp hx).1
  have e : xs[i] = x := (List.getElem?_eq_some_iff.mp hx).2
  rw [List.drop_eq_getElem_cons hi, e, forL_cons] at h
  exact bindS h
theorem enumF_get {α : Type} : ∀ (xs : List α) (k i : Nat), (enumF k xs)[i]? = (xs[i]?).map fun x => (((k + i : Nat) : Int), x)
  | [], k, i => by simp [enumF]
  | x :: xs, k, 0 => by simp [enumF]
  | x :: xs, k, i + 1 => by
    show (enumF (k + 1) xs)[i]? = _
    rw [enumF_get xs (k + 1) i]
    have e : k + 1 + i = k + (i + 1) := by omega
    rw [e]
    rfl
theorem enumF_length {α : Type} : ∀ (xs : List α) (k : Nat), (enumF k xs).length = xs.length
  | [], _ => rfl
  | x :: xs, k => congrArg Nat.succ (enumF_length xs (k + 1))
theorem enumM_get {α : Type} (xs : List α) (i : Nat) : (enumM xs)[i]? = (xs[i]?).map fun x => ((i : Int), x) := by
  unfold enumM
  rw [enumF_get, Nat.zero_add]
theorem enumM_length {α : Type} (xs : List α) : (enumM xs).length = xs.length := enumF_length xs 0
/-- the sides of a ring -/
def sidesM {α : Type} (xs : List α) : List (α × α) := xs.zip (xs.drop 1 ++ xs.take 1)
theorem sidesM_length {α : Type} (xs : List α) : (sidesM xs).length = xs.length := by
  unfold sidesM
  rw [List.length_zip, List.length_append, List.length_drop, List.length_take]
  omega
theorem sidesM_get {α : Type} (xs : List α) {i : Nat} {p : α × α} (h : (sidesM xs)[i]? = some p) : xs[i]? = some p.1 ∧ xs[(i + 1) % xs.length]? = some p.2 := by
  unfold sidesM at h
  rw [List.getElem?_zip_eq_some] at h
  refine ⟨h.1, ?_⟩
  have hi : i < xs.length := (List.getElem?_eq_some_iff.mp h.1).1
  have h2 := h.2
  by_cases hl : i + 1 < xs.length
  · rw [List.getElem?_append_left (by rw [List.length_drop]; omega), List.getElem?_drop, Nat.add_comm] at h2
    rw [Nat.mod_eq_of_lt hl]; exact h2
  · have e : i + 1 = xs.length := by omega
    rw [List.getElem?_append_right (by rw [List.length_drop]; omega), List.length_drop] at h2
    have e2 : i - (xs.length - 1) = 0 := by omega
    rw [e2, List.getElem?_take_of_lt (by decide)] at h2
    rw [e, Nat.mod_self]; exact h2
def sdM {α : Type} (xs : List α) : Option (List (α × α)) := if xs.length ≤ 100000 then some (sidesM xs) else none
theorem sdM_some {α : Type} {xs : List α} {ys : List (α × α)} (h : sdM xs = some ys) : xs.length ≤ 100000 ∧ ys = sidesM xs := by
  unfold sdM at h
  split at h
  · next c => exact ⟨c, (Option.some.inj h).symm⟩
  · cases h
def maxM : List Int → Option Int
  | [] => none
  | x :: xs => some (xs.foldl (fun a b => if a < b then b else a) x)
theorem maxF_ge : ∀ (xs : List Int) (x : Int), x ≤ xs.foldl (fun a b => if a < b then b else a) x ∧ (∀ y ∈ xs, y ≤ xs.foldl (fun a b => if a < b then b else a) x) ∧ (xs.foldl (fun a b => if a < b then b else a) x = x ∨ xs.foldl (fun a b => if a < b then b else a) x ∈ xs)
  | [], x => ⟨Int.le_refl _, (fun y h => by cases h), .inl rfl⟩
  | z :: xs, x => by
    obtain ⟨h1, h2, h3⟩ := maxF_ge xs (if x < z then z else x)
    have ha : x ≤ (if x < z then z else x) := by split <;> omega
    have hb : z ≤ (if x < z then z else x) := by split <;> omega
    refine ⟨Int.le_trans ha h1, fun y hy => ?_, ?_⟩
    · rcases List.mem_cons.mp hy with rfl | hy
      · exact Int.le_trans hb h1
      · exact h2 y hy
    · rcases h3 with h3 | h3
      · show List.foldl _ (if x < z then z else x) xs = x ∨ _
        by_cases c : x < z
        · right
          show List.foldl _ (if x < z then z else x) xs ∈ z :: xs
          rw [h3, if_pos c]; exact List.mem_cons_self ..
        · left
          rw [h3, if_neg c]
      · exact .inr (List.mem_cons_of_mem _ h3)
theorem maxM_some {xs : List Int} {m : Int} (h : maxM xs = some m) : m ∈ xs ∧ (∀ y ∈ xs, y ≤ m) ∧ 0 < xs.length := by
  cases xs with
  | nil => cases h
  | cons x xs =>
    cases h
    obtain ⟨h1, h2, h3⟩ := maxF_ge xs x
    refine ⟨?_, fun y hy => ?_, by simp⟩
    · rcases h3 with h3 | h3
      · rw [h3]; exact List.mem_cons_self ..
      · exact List.mem_cons_of_mem _ h3
    · rcases List.mem_cons.mp hy with rfl | hy
      · exact h1
      · exact h2 y hy
theorem max_uniq {xs : List Int} {m m' : Int} (h : m ∈ xs ∧ ∀ y ∈ xs, y ≤ m) (h' : m' ∈ xs ∧ ∀ y ∈ xs, y ≤ m') : m = m' := by
  have := h.2 m' h'.1
  have := h'.2 m h.1
  omega
end Mr

set_option Elab.async false
set_option linter.all false
set_option maxRecDepth 100000
set_option maxHeartbeats 2000000
/-! Mir: worlds (frozen part G, owned part O), what data a value stands for (R), steps and loops over the readings of HandS. -/
namespace Mr
open PySem PySem.Spec PyProof.Rows L2

/-! ### worlds -/
def Ext (G H : Hp) : Prop := ∀ a o, G a = some o → H a = some o
theorem Ext.refl (H : Hp) : Ext H H := fun _ _ h => h
theorem Ext.trans {H H1 H2 : Hp} (a : Ext H H1) (b : Ext H1 H2) : Ext H H2 := fun x o h => b x o (a x o h)
abbrev Own := List (Addr × HO)
structure Sub (G : Hp) (O : Own) (H : Hp) : Prop where
  ext : Ext G H
  own : ∀ p ∈ O, H p.1 = some p.2 ∧ G p.1 = none
  nd : (O.map (·.1)).Nodup
section
variable {G G' H H' : Hp} {O O' : Own} {a b p : Addr} {o o' : HO}
theorem Sub.gnone (S : Sub G O H) (hp : H p = none) : G p = none := by
  cases h : G p with
  | none => rfl
  | some u => rw [S.ext p u h] at hp; cases hp
theorem Sub.junk (S : Sub G O H) (hp : H p = none) : Sub G O (upd H p o) := by
  refine ⟨fun x u h => ?_, fun q hq => ?_, S.nd⟩
  · rw [upd_ne (ne_of_none (S.ext x u h) hp)]; exact S.ext x u h
  · obtain ⟨h1, h2⟩ := S.own q hq
    exact ⟨by rw [upd_ne (ne_of_none h1 hp)]; exact h1, h2⟩
theorem Sub.extNew (S : Sub G O H) (hp : H p = none) (o : HO) : Ext G (upd G p o) := fun x u h => by
  rw [upd_ne (ne_of_none h (S.gnone hp))]; exact h
theorem Sub.new (S : Sub G O H) (hp : H p = none) : Sub (upd G p o) O (upd H p o) := by
  refine ⟨fun x u h => ?_, fun q hq => ?_, S.nd⟩
  · by_cases e : x = p
    · subst e; rw [upd_same] at h ⊢; exact h
    · rw [upd_ne e] at h ⊢; exact S.ext x u h
  · obtain ⟨h1, h2⟩ := S.own q hq
    have e := ne_of_none h1 hp
    exact ⟨by rw [upd_ne e]; exact h1, by rw [upd_ne e]; exact h2⟩
theorem Sub.newOwn (S : Sub G O H) (hp : H p = none) : Sub G ((p, o) :: O) (upd H p o) := by
  refine ⟨(S.junk hp).ext, fun q hq => ?_, ?_⟩
  · rcases List.mem_cons.mp hq with e | hq
    · subst e; exact ⟨upd_same, S.gnone hp⟩
    · exact (S.junk hp).own q hq
  · refine List.nodup_cons.mpr ⟨fun hm => ?_, S.nd⟩
    obtain ⟨q, hq, e⟩ := List.mem_map.mp hm
    exact ne_of_none (S.own q hq).1 hp e
theorem Sub.head (S : Sub G ((a, o) :: O) H) : H a = some o := (S.own (a, o) (List.mem_cons_self ..)).1
theorem Sub.ghead (S : Sub G ((a, o) :: O) H) : G a = none := (S.own (a, o) (List.mem_cons_self ..)).2
theorem Sub.tail (S : Sub G ((a, o) :: O) H) : Sub G O H :=
  ⟨S.ext, fun q hq => S.own q (List.mem_cons_of_mem _ hq), (List.nodup_cons.mp S.nd).2⟩
theorem Sub.head_ne (S : Sub G ((a, o) :: O) H) : ∀ q ∈ O, q.1 ≠ a := fun q hq e =>
  (List.nodup_cons.mp S.nd).1 (List.mem_map.mpr ⟨q, hq, e⟩)
/-- the first owned object is written -/
theorem Sub.wr (S : Sub G ((a, o) :: O) H) : Sub G ((a, o') :: O) (upd H a o') := by
  refine ⟨fun x u h => ?_, fun q hq => ?_, S.nd⟩
  · have e : x ≠ a := ne_of_none h S.ghead
    rw [upd_ne e]; exact S.ext x u h
  · rcases List.mem_cons.mp hq with e | hq
    · subst e; exact ⟨upd_same, S.ghead⟩
    · have e := S.head_ne q hq
      exact ⟨by rw [upd_ne e]; exact (S.tail.own q hq).1, (S.tail.own q hq).2⟩
/-- the first owned object is frozen -/
theorem Sub.frz (S : Sub G ((a, o) :: O) H) : Sub (upd G a o) O H := by
  refine ⟨fun x u h => ?_, fun q hq => ?_, S.tail.nd⟩
  · by_cases e : x = a
    · subst e; rw [upd_same] at h; cases h; exact S.head
    · rw [upd_ne e] at h; exact S.ext x u h
  · rw [upd_ne (S.head_ne q hq)]; exact S.tail.own q hq
theorem Sub.extFrz (S : Sub G ((a, o) :: O) H) : Ext G (upd G a o) := fun x u h => by
  rw [upd_ne (ne_of_none h S.ghead)]; exact h
theorem Sub.perm (S : Sub G O H) (h : O.Perm O') : Sub G O' H :=
  ⟨S.ext, fun q hq => S.own q (h.mem_iff.mpr hq), (h.map _).nodup_iff.mp S.nd⟩
theorem perm_erase {α : Type} : ∀ (l : List α) (i : Nat) (q : α), l[i]? = some q → l.Perm (q :: l.eraseIdx i)
  | [], i, q, h => by simp at h
  | x :: l, 0, q, h => by simp at h; subst h; exact List.Perm.refl _
  | x :: l, i + 1, q, h => by
    have ih := perm_erase l i q (by simpa using h)
    exact (List.Perm.cons x ih).trans (List.Perm.swap q x _)
/-- the i-th owned object to the front -/
theorem Sub.front (S : Sub G O H) (i : Nat) {q : Addr × HO} {O' : Own} (h : O[i]? = some q) (h' : O.eraseIdx i = O') : Sub G (q :: O') H := by
  subst h'
  exact S.perm (perm_erase O i q h)
theorem Sub.of (H : Hp) : Sub H [] H := ⟨Ext.refl H, fun q h => (nomatch h), List.nodup_nil⟩
end

/-! ### what a value stands for -/
structure R (α : Type) where
  rel : Hp → V → α → Prop
  mono : ∀ {G G' : Hp} {v : V} {x : α}, Ext G G' → rel G v x → rel G' v x
theorem R.up {α : Type} {r : R α} {G G' : Hp} {v : V} {x : α} (e : Ext G G') (h : r.rel G v x) : r.rel G' v x := r.mono e h
def rSc {α : Type} (f : α → V) : R α := ⟨fun _ v x => v = f x, fun _ h => h⟩
abbrev rInt : R Int := rSc V.int
abbrev rBool : R Bool := rSc V.bl
abbrev rStr : R Str := rSc V.str
abbrev rNon : R Unit := rSc fun _ => V.non
def Al {α : Type} (r : R α) (G : Hp) : List V → List α → Prop
  | [], [] => True
  | v :: vs, x :: xs => r.rel G v x ∧ Al r G vs xs
  | _, _ => False
section
variable {α β γ : Type} {r : R α} {G G' H : Hp} {K : PySem.W.Frag} {v w : V} {vs : List V} {x : α} {xs : List α} {a : Addr}
theorem Al.nil : Al r G [] [] := True.intro
theorem Al.up (e : Ext G G') : ∀ {vs : List V} {xs : List α}, Al r G vs xs → Al r G' vs xs
  | [], [], _ => True.intro
  | _ :: _, _ :: _, h => ⟨r.mono e h.1, Al.up e h.2⟩
  | [], _ :: _, h => h.elim
  | _ :: _, [], h => h.elim
theorem Al.len : ∀ {vs : List V} {xs : List α}, Al r G vs xs → vs.length = xs.length
  | [], [], _ => rfl
  | _ :: _, _ :: _, h => congrArg Nat.succ (Al.len h.2)
  | [], _ :: _, h => h.elim
  | _ :: _, [], h => h.elim
theorem Al.get : ∀ {vs : List V} {xs : List α} {i : Nat} {x : α}, Al r G vs xs → xs[i]? = some x → ∃ v, vs[i]? = some v ∧ r.rel G v x
  | [], [], i, x, _, e => by simp at e
  | v :: vs, y :: xs, 0, x, h, e => by simp at e; subst e; exact ⟨v, rfl, h.1⟩
  | v :: vs, y :: xs, i + 1, x, h, e => by
    obtain ⟨w, h1, h2⟩ := Al.get (i := i) h.2 (by simpa using e)
    exact ⟨w, by simpa using h1, h2⟩
  | [], _ :: _, _, _, h, _ => h.elim
  | _ :: _, [], _, _, h, _ => h.elim
theorem Al.getV : ∀ {vs : List V} {xs : List α} {i : Nat} {v : V}, Al r G vs xs → vs[i]? = some v → ∃ x, xs[i]? = some x ∧ r.rel G v x
  | [], [], i, v, _, e => by simp at e
  | v :: vs, y :: xs, 0, w, h, e => by simp at e; subst e; exact ⟨y, rfl, h.1⟩
  | v :: vs, y :: xs, i + 1, w, h, e => by
    obtain ⟨z, h1, h2⟩ := Al.getV (i := i) h.2 (by simpa using e)
    exact ⟨z, by simpa using h1, h2⟩
  | [], _ :: _, _, _, h, _ => h.elim
  | _ :: _, [], _, _, h, _ => h.elim
theorem Al.app : ∀ {vs ws : List V} {xs ys : List α}, Al r G vs xs → Al r G ws ys → Al r G (vs ++ ws) (xs ++ ys)
  | [], _, [], _, _, h => h
  | _ :: _, _, _ :: _, _, h, h' => ⟨h.1, Al.app h.2 h'⟩
  | [], _, _ :: _, _, h, _ => h.elim
  | _ :: _, _, [], _, h, _ => h.elim
theorem Al.set : ∀ {vs : List V} {xs : List α} (i : Nat), Al r G vs xs → r.rel G v x → Al r G (vs.set i v) (xs.set i x)
  | [], [], _, _, _ => True.intro
  | _ :: _, _ :: _, 0, h, h' => ⟨h', h.2⟩
  | _ :: _, _ :: _, i + 1, h, h' => ⟨h.1, Al.set i h.2 h'⟩
  | [], _ :: _, _, h, _ => h.elim
  | _ :: _, [], _, h, _ => h.elim
theorem Al.take : ∀ {vs : List V} {xs : List α} (n : Nat), Al r G vs xs → Al r G (vs.take n) (xs.take n)
  | _, _, 0, _ => True.intro
  | [], [], _ + 1, _ => True.intro
  | _ :: _, _ :: _, n + 1, h => ⟨h.1, Al.take n h.2⟩
  | [], _ :: _, _ + 1, h => h.elim
  | _ :: _, [], _ + 1, h => h.elim
theorem Al.drop : ∀ {vs : List V} {xs : List α} (n : Nat), Al r G vs xs → Al r G (vs.drop n) (xs.drop n)
  | _, _, 0, h => h
  | [], [], _ + 1, _ => True.intro
  | _ :: _, _ :: _, n + 1, h => Al.drop n h.2
  | [], _ :: _, _ + 1, h => h.elim
  | _ :: _, [], _ + 1, h => h.elim
theorem Al.sc {f : α → V} : ∀ {vs : List V} {xs : List α}, Al (rSc f) G vs xs → vs = xs.map f
  | [], [], _ => rfl
  | _ :: _, _ :: _, h => by rw [h.1, Al.sc h.2]; rfl
  | [], _ :: _, h => h.elim
  | _ :: _, [], h => h.elim
theorem Al.ofSc {f : α → V} : ∀ {xs : List α}, Al (rSc f) G (xs.map f) xs
  | [] => True.intro
  | _ :: _ => ⟨rfl, Al.ofSc⟩
end
theorem sqL_up {K : PySem.W.Frag} {G G' : Hp} {a : Addr} {xs : List V} (e : Ext G G') (h : SqL K G a xs) : SqL K G' a xs := by
  rcases h with (h | ⟨o, h⟩) | h
  · exact .inl (.inl (e _ _ h))
  · exact .inl (.inr ⟨o, e _ _ h⟩)
  · exact .inr h
theorem sqT_up {K : PySem.W.Frag} {G G' : Hp} {a : Addr} {xs : List V} (e : Ext G G') (h : SqT K G a xs) : SqT K G' a xs := by
  rcases h with (h | ⟨o, h⟩) | h
  · exact .inl (.inl (e _ _ h))
  · exact .inl (.inr ⟨o, e _ _ h⟩)
  · exact .inr h
section
variable (K : PySem.W.Frag) {α β γ δ : Type}
/-- a list; a tuple of any length; either -/
def rL (r : R α) : R (List α) := ⟨fun G v xs => ∃ p vs, v = .ref p ∧ SqL K G p vs ∧ Al r G vs xs, fun e ⟨p, vs, h1, h2, h3⟩ => ⟨p, vs, h1, sqL_up e h2, h3.up e⟩⟩
def rT (r : R α) : R (List α) := ⟨fun G v xs => ∃ p vs, v = .ref p ∧ SqT K G p vs ∧ Al r G vs xs, fun e ⟨p, vs, h1, h2, h3⟩ => ⟨p, vs, h1, sqT_up e h2, h3.up e⟩⟩
def rQ (r : R α) : R (List α) := ⟨fun G v xs => ∃ p vs, v = .ref p ∧ (SqL K G p vs ∨ SqT K G p vs) ∧ Al r G vs xs, fun e ⟨p, vs, h1, h2, h3⟩ => ⟨p, vs, h1, h2.imp (sqL_up e) (sqT_up e), h3.up e⟩⟩
end

/-! ### rules with a cut, ints and bools compared -/
def tCutE (t : TE) : TE := fun σ H Q => ∃ J : VK, t σ H J ∧ ∀ v H', J v H' → Q v H'
def tCutT (t : TT) : TT := fun σ H Q => ∃ J : Bool → Hp → Prop, t σ H J ∧ ∀ b H', J b H' → Q b H'
def tCutS (t : TS) : TS := fun D σ H => ∃ J : L2.St → Hp → Prop, t { D with nx := J } σ H ∧ ∀ σ' H', J σ' H' → D.nx σ' H'
section
variable {X : Cx} {e : Expr} {st : Stmt} {te : TE} {tt : TT} {ts : TS}
theorem pe_cut (h : PE X e te) : PE X e (tCutE te) := by
  refine ⟨fun pins s σ H Q I hq => ?_⟩
  obtain ⟨J, h1, h2⟩ := hq
  exact thn (h.run pins s σ H J I h1) fun v s1 ⟨x, H1, I1, r1, q1⟩ => ⟨x, H1, I1, r1, h2 _ _ q1⟩
theorem pt_cut (h : PT X e tt) : PT X e (tCutT tt) := by
  refine ⟨fun pins s σ H Q I hq => ?_⟩
  obtain ⟨J, h1, h2⟩ := hq
  exact thn (h.run pins s σ H J I h1) fun b s1 ⟨H1, I1, q1⟩ => ⟨H1, I1, h2 _ _ q1⟩
theorem ps_cut (h : PS X st ts) : PS X st (tCutS ts) := by
  refine ⟨fun pins s σ H D I hq => ?_⟩
  obtain ⟨J, h1, h2⟩ := hq
  refine thn (h.run pins s σ H { D with nx := J } I h1) fun f s1 q => ?_
  cases f with
  | next => obtain ⟨σ', H', I', q⟩ := q; exact ⟨σ', H', I', h2 _ _ q⟩
  | ret v => exact q
  | brk => exact q
  | cont => exact q
theorem op_eqI : OpR X (compareOp .Eq) (rI0 fun i j => .bl (decide (i = j))) := fun pins s σ H x y v u Q I rx ry h => by
  obtain ⟨i, j, rfl, rfl, q⟩ := h
  refine op_eq pins s σ H _ _ v u Q I rx ry ⟨rfl, ?_⟩
  have e : decide (V.int i = V.int j) = decide (i = j) := by
    by_cases h : i = j
    · subst h; simp
    · rw [decide_eq_false h, decide_eq_false (fun z => h (V.int.inj z))]
  rw [e]; exact q
theorem op_neI : OpR X (compareOp .NotEq) (rI0 fun i j => .bl (!decide (i = j))) := fun pins s σ H x y v u Q I rx ry h => by
  obtain ⟨i, j, rfl, rfl, q⟩ := h
  refine op_ne pins s σ H _ _ v u Q I rx ry ⟨rfl, ?_⟩
  have e : decide (V.int i = V.int j) = decide (i = j) := by
    by_cases h : i = j
    · subst h; simp
    · rw [decide_eq_false h, decide_eq_false (fun z => h (V.int.inj z))]
  rw [e]; exact q
def rB0 (g : Bool → Bool → V) : R2 := fun x y H Q => ∃ i j, x = .bl i ∧ y = .bl j ∧ Q (g i j) H
theorem op_eqB : OpR X (compareOp .Eq) (rB0 fun i j => .bl (i == j)) := fun pins s σ H x y v u Q I rx ry h => by
  obtain ⟨i, j, rfl, rfl, q⟩ := h
  refine op_eq pins s σ H _ _ v u Q I rx ry ⟨rfl, ?_⟩
  have e : decide (V.bl i = V.bl j) = (i == j) := by cases i <;> cases j <;> rfl
  rw [e]; exact q
theorem op_neB : OpR X (compareOp .NotEq) (rB0 fun i j => .bl (i != j)) := fun pins s σ H x y v u Q I rx ry h => by
  obtain ⟨i, j, rfl, rfl, q⟩ := h
  refine op_ne pins s σ H _ _ v u Q I rx ry ⟨rfl, ?_⟩
  have e : (!decide (V.bl i = V.bl j)) = (i != j) := by cases i <;> cases j <;> rfl
  rw [e]; exact q
def rS0 (g : Str → Str → V) : R2 := fun x y H Q => ∃ i j, x = .str i ∧ y = .str j ∧ Q (g i j) H
theorem op_eqS : OpR X (compareOp .Eq) (rS0 fun i j => .bl (decide (i = j))) := fun pins s σ H x y v u Q I rx ry h => by
  obtain ⟨i, j, rfl, rfl, q⟩ := h
  refine op_eq pins s σ H _ _ v u Q I rx ry ⟨rfl, ?_⟩
  have e : decide (V.str i = V.str j) = decide (i = j) := by
    by_cases h : i = j
    · subst h; simp
    · rw [decide_eq_false h, decide_eq_false (fun z => h (V.str.inj z))]
  rw [e]; exact q
theorem op_neS : OpR X (compareOp .NotEq) (rS0 fun i j => .bl (!decide (i = j))) := fun pins s σ H x y v u Q I rx ry h => by
  obtain ⟨i, j, rfl, rfl, q⟩ := h
  refine op_ne pins s σ H _ _ v u Q I rx ry ⟨rfl, ?_⟩
  have e : decide (V.str i = V.str j) = decide (i = j) := by
    by_cases h : i = j
    · subst h; simp
    · rw [decide_eq_false h, decide_eq_false (fun z => h (V.str.inj z))]
  rw [e]; exact q
end

/-! ### relations by name -/
def rLenM (K : PySem.W.Frag) : List V → Hp → VK → Prop := fun xs H Q => ∃ p ys, xs = [.ref p] ∧ (SqL K H p ys ∨ SqT K H p ys) ∧ Q (.int ys.length) H
def rTupOf (K : PySem.W.Frag) : List V → Hp → VK → Prop := fun xs H Q => ∃ p ys, xs = [.ref p] ∧ ((SqL K H p ys ∧ ∀ l, H l = none → Q (.ref l) (upd H l (.tup ys))) ∨ (SqT K H p ys ∧ Q (.ref p) H))
def rListOf (K : PySem.W.Frag) : List V → Hp → VK → Prop := fun xs H Q => ∃ p ys, xs = [.ref p] ∧ (SqL K H p ys ∨ SqT K H p ys) ∧ ∀ l, H l = none → Q (.ref l) (upd H l (.lst ys))
section
variable {X : Cx}
theorem call_lenM : CallR X (.builtin "len") (rLenM X.K) := call_len_seq
theorem call_tupOf : CallR X (.type "tuple") (rTupOf X.K) := call_tuple_of
theorem call_listOf : CallR X (.type "list") (rListOf X.K) := call_list_of
end
def mkTup (xs : List V) (H : Hp) (Q : VK) : Prop := xs.length ≤ sizeLine ∧ ∀ p, H p = none → Q (.ref p) (upd H p (.tup xs))
def mkLst (xs : List V) (H : Hp) (Q : VK) : Prop := xs.length ≤ sizeLine ∧ ∀ p, H p = none → Q (.ref p) (upd H p (.lst xs))
def LpW (g : TG) (tb : TS) (D : Ends) (σ : L2.St) (J : It) (H : Hp) : Prop := ∃ W : Nat → Nat → L2.St → Hp → Prop, (∃ m, W 0 m σ H) ∧ ∀ i m σ H, W i m σ H →
  (J.stop i H ∧ D.nx σ H) ∨ (J.go i H ∧ ∃ N : L2.St → Hp → Prop, (∀ σ' H', N σ' H' → ∃ m', m' < m ∧ W (i + 1) m' σ' H') ∧ ∀ x H', J.yld i H x H' → g x σ H' fun σ2 H2 => tb { D with nx := N, ct := N, bk := D.nx } σ2 H2)
def itL (K : PySem.W.Frag) (x : V) (H : Hp) (RI : It → Hp → Prop) : Prop := ∃ a, x = .ref a ∧ (∃ xs, SqL K H a xs) ∧ RI (Itl K a) H
def itT (K : PySem.W.Frag) (x : V) (H : Hp) (RI : It → Hp → Prop) : Prop := ∃ a, x = .ref a ∧ (∃ xs, SqT K H a xs) ∧ RI (Itt K a) H
def itR (vs : List V) (H : Hp) (RI : It → Hp → Prop) : Prop := ∃ j : Int, vs = [.int j] ∧ -(2 ^ 62) ≤ j ∧ j < 2 ^ 62 ∧ RI (Itr 0 j.toNat) H
def itR2 (vs : List V) (H : Hp) (RI : It → Hp → Prop) : Prop := ∃ i j : Int, vs = [.int i, .int j] ∧ (-(2 ^ 62) ≤ i ∧ i < 2 ^ 62 ∧ -(2 ^ 62) ≤ j ∧ j < 2 ^ 62) ∧ RI (Itr i (j - i).toNat) H
def itE (K : PySem.W.Frag) (vs : List V) (H : Hp) (RI : It → Hp → Prop) : Prop := ∃ a xs, vs = [.ref a] ∧ ((SqL K H a xs ∧ RI (Ite K a) H) ∨ (SqT K H a xs ∧ RI (IteT K a) H))

/-! ### peeling a reading -/
section
variable {σ : L2.St} {H : Hp} {Q : VK} {QB : Bool → Hp → Prop} {QA : List V → Hp → Prop} {QO : Option Int → Hp → Prop} {v : V} {i j l : Nat} {ta tb te : TE} {tt tu : TT} {ts tr : TS} {t : TA} {D : Ends} {K : PySem.W.Frag}
theorem gV (e : σ[i]? = some (some v)) (h : Q v H) : tVar i σ H Q := ⟨v, e, h⟩
theorem gC (h : Q v H) : tC v σ H Q := h
theorem gOp {r : R2} (h : ta σ H fun x H1 => tb σ H1 fun y H2 => r x y H2 Q) : tOp r ta tb σ H Q := h
theorem gUn {r : V → Hp → VK → Prop} (h : ta σ H fun x H1 => r x H1 Q) : tUn r ta σ H Q := h
theorem gTest (h : te σ H fun x H' => ∃ k, x = .bl k ∧ QB k H') : tTest te σ H QB := h
theorem gB (h : te σ H fun x H' => ∃ k, x = .bl k ∧ QB k H') : tB te σ H QB := h
theorem gNot (h : tt σ H fun c H1 => QB (!c) H1) : tNot tt σ H QB := h
theorem gAnd (h : tt σ H fun c H1 => if c = true then tu σ H1 QB else QB false H1) : tAnd tt tu σ H QB := h
theorem gOr (h : tt σ H fun c H1 => if c = true then QB true H1 else tu σ H1 QB) : tOr tt tu σ H QB := h
theorem gAndV (h : ta σ H fun x H1 => ∃ c, x = .bl c ∧ if c = true then tb σ H1 Q else Q (.bl false) H1) : tAndV ta tb σ H Q := h
theorem gOrV (h : ta σ H fun x H1 => ∃ c, x = .bl c ∧ if c = true then Q (.bl true) H1 else tb σ H1 Q) : tOrV ta tb σ H Q := h
theorem gNotV (h : ta σ H fun x H1 => ∃ c, x = .bl c ∧ Q (.bl (!c)) H1) : tNotV ta σ H Q := h
theorem gIf (h : tt σ H fun c H1 => if c = true then ta σ H1 Q else tb σ H1 Q) : tIf tt ta tb σ H Q := h
theorem gCons' (h : ta σ H fun x H1 => t σ H1 fun xs H2 => QA (x :: xs) H2) : tCons ta t σ H QA := h
theorem gNil' (h : QA [] H) : tNil σ H QA := h
theorem gCB {r : List V → Hp → VK → Prop} (h : t σ H fun vs H1 => r vs H1 Q) : tCB r t σ H Q := h
theorem gCall {sp : Sp} {dvs : List V} {E : XK} (h : t σ H fun vs H1 => sp (vs ++ dvs) H1 Q E) : tCall sp dvs E t σ H Q := h
theorem gTup' (h : t σ H fun xs H1 => mkTup xs H1 Q) : tTup t σ H Q := h
theorem gLst (h : t σ H fun xs H1 => mkLst xs H1 Q) : tLst t σ H Q := h
theorem gSl {r : V → Option Int → Option Int → Hp → VK → Prop} {to tp : TO} (h : te σ H fun x H1 => to σ H1 fun l H2 => tp σ H2 fun u H3 => r x l u H3 Q) : tSl r te to tp σ H Q := h
theorem gPart (h : te σ H fun x H1 => ∃ i, x = .int i ∧ QO (some i) H1) : tPart te σ H QO := h
theorem gNoPart (h : QO none H) : tNoPart σ H QO := h
theorem gBM {T : String} {r : V → List V → Hp → VK → Prop} (h : te σ H fun x H1 => tyV K T x H1 ∧ t σ H1 fun xs H2 => r x xs H2 Q) : tBM K T r te t σ H Q := h
theorem gSeq (h : ts { D with nx := tr D } σ H) : tSeq ts tr D σ H := h
theorem gNext (h : D.nx σ H) : tNext D σ H := h
theorem gAsgN (h : te σ H fun x H1 => D.nx (σ.set i (some x)) H1) : tAsg te (gName i) D σ H := h
theorem gAsg {g : TG} (h : te σ H fun x H1 => g x σ H1 D.nx) : tAsg te g D σ H := h
theorem gSub' {ts' : TSet} {QS : L2.St → Hp → Prop} (h : ta σ H fun o H1 => tb σ H1 fun i H2 => ts' o i v H2 fun H3 => QS σ H3) : gSub ta tb ts' v σ H QS := h
theorem gPar (h : t σ H fun vs H1 => ∃ v w, vs = [v, w] ∧ D.nx ((σ.set i (some v)).set j (some w)) H1) : tPar i j t D σ H := h
theorem gPar3 (h : t σ H fun vs H1 => ∃ u v w, vs = [u, v, w] ∧ D.nx (((σ.set i (some u)).set j (some v)).set l (some w)) H1) : tPar3 i j l t D σ H := h
theorem gAug {ti : TIp} {x : V} (e : σ[i]? = some (some x)) (h : te σ H fun y H1 => ti x y H1 fun z H2 => D.nx (σ.set i (some z)) H2) : tAug i te ti D σ H := ⟨x, e, h⟩
theorem gDrop (h : te σ H fun _ H1 => D.nx σ H1) : tDrop te D σ H := h
theorem gRet (h : te σ H D.rt) : tRet te D σ H := h
theorem gIfS (h : tt σ H fun b H1 => if b = true then ts D σ H1 else tr D σ H1) : tIfS tt ts tr D σ H := h
theorem gFor {wi : TI} {g : TG} (h : wi σ H (LpW g ts D σ)) : tFor wi g ts D σ H := h
variable {RI : It → Hp → Prop}
theorem gIL (h : te σ H fun x H1 => itL K x H1 RI) : iList K te σ H RI := h
theorem gIT (h : te σ H fun x H1 => itT K x H1 RI) : iTup K te σ H RI := h
theorem gIR (h : t σ H fun vs H1 => itR vs H1 RI) : iRng1 t σ H RI := h
theorem gIR2 (h : t σ H fun vs H1 => itR2 vs H1 RI) : iRng2 t σ H RI := h
theorem gIE (h : t σ H fun vs H1 => itE K vs H1 RI) : iEnumQ K t σ H RI := h
theorem gCE (J : VK) (h : te σ H J) (h2 : ∀ v H', J v H' → Q v H') : tCutE te σ H Q := ⟨J, h, h2⟩
theorem gCT (J : Bool → Hp → Prop) (h : tt σ H J) (h2 : ∀ v H', J v H' → QB v H') : tCutT tt σ H QB := ⟨J, h, h2⟩
theorem gCS (J : L2.St → Hp → Prop) (h : ts { D with nx := J } σ H) (h2 : ∀ σ' H', J σ' H' → D.nx σ' H') : tCutS ts D σ H := ⟨J, h, h2⟩
theorem gS_AsgN (h : te σ H fun x H1 => tr D (σ.set i (some x)) H1) : tSeq (tAsg te (gName i)) tr D σ H := h
theorem gS_Asg {g : TG} (h : te σ H fun x H1 => g x σ H1 (tr D)) : tSeq (tAsg te g) tr D σ H := h
theorem gS_Par (h : t σ H fun vs H1 => ∃ v w, vs = [v, w] ∧ tr D ((σ.set i (some v)).set j (some w)) H1) : tSeq (tPar i j t) tr D σ H := h
theorem gS_Par3 (h : t σ H fun vs H1 => ∃ u v w, vs = [u, v, w] ∧ tr D (((σ.set i (some u)).set j (some v)).set l (some w)) H1) : tSeq (tPar3 i j l t) tr D σ H := h
theorem gS_Aug {ti : TIp} {x : V} (e : σ[i]? = some (some x)) (h : te σ H fun y H1 => ti x y H1 fun z H2 => tr D (σ.set i (some z)) H2) : tSeq (tAug i te ti) tr D σ H := ⟨x, e, h⟩
theorem gS_Drop (h : te σ H fun _ H1 => tr D σ H1) : tSeq (tDrop te) tr D σ H := h
theorem gS_IfS {tw : TS} (h : tt σ H fun b H1 => if b = true then ts { D with nx := tr D } σ H1 else tw { D with nx := tr D } σ H1) : tSeq (tIfS tt ts tw) tr D σ H := h
theorem gS_CS (J : L2.St → Hp → Prop) (h : ts { D with nx := J } σ H) (h2 : ∀ σ' H', J σ' H' → tr D σ' H') : tSeq (tCutS ts) tr D σ H := ⟨J, h, h2⟩
theorem gE {f bk ct : L2.St → Hp → Prop} {rt : VK} (h : f σ H) : Ends.nx ⟨f, rt, bk, ct⟩ σ H := h
theorem ne_false {b : Bool} (h : ¬ b = true) : b = false := by
  cases b with
  | true => exact (h rfl).elim
  | false => rfl
end

/-! ### sizes -/
theorem sz {n : Nat} (h : n ≤ 100000) : n ≤ sizeLine := Nat.le_trans h (by decide)
theorem szl {n : Nat} (h : n < 100000) : n < sizeLine := Nat.lt_of_lt_of_le h (by decide)
theorem sz0 : 0 ≤ sizeLine := sz (by decide)
theorem sz1 : 1 ≤ sizeLine := sz (by decide)
theorem sz2 : 2 ≤ sizeLine := sz (by decide)
theorem sz3 : 3 ≤ sizeLine := sz (by decide)
theorem sz4 : 4 ≤ sizeLine := sz (by decide)
theorem sz5 : 5 ≤ sizeLine := sz (by decide)
theorem sz6 : 6 ≤ sizeLine := sz (by decide)

/-! ### steps -/
theorem ix_eq (n : Nat) (i : Int) : ixM n i = ixN n i := rfl
theorem get_eq {α : Type} (xs : List α) (i : Int) : getM xs i = atI xs i := rfl
theorem cut_eq (xs : List V) (lo hi : Option Int) : cutV xs lo hi = cutM xs lo hi := by
  have e : ∀ n d o, HT.sIx n d o = slIx n d o := fun n d o => by cases o <;> rfl
  unfold cutV cutM
  rw [e, e]
section
variable {α β γ δ : Type} {r : R α} {G G' H : Hp} {O : Own} {K : PySem.W.Frag} {v w : V} {vs : List V} {x : α} {xs : List α} {a : Addr} {Q : VK}
theorem Al.getI {i : Int} (h : Al r G vs xs) (e : getM xs i = some x) : ∃ v, atI vs i = some v ∧ r.rel G v x := by
  unfold getM at e
  rw [← h.len] at e
  obtain ⟨j, e1, e2⟩ := bindS e
  obtain ⟨w, h1, h2⟩ := h.get e2
  refine ⟨w, ?_, h2⟩
  show (ixN vs.length i).bind _ = some w
  rw [← ix_eq, e1]
  exact h1
theorem Al.cut {lo hi : Option Int} (h : Al r G vs xs) : Al r G (cutV vs lo hi) (cutM xs lo hi) := by
  rw [cut_eq]
  unfold cutM
  rw [h.len]
  exact (h.drop _).take _
/-- xs[i] of a frozen list, tuple, list or tuple; of an owned list -/
theorem q_ixL {i : Int} (S : Sub G O H) (h : (rL K r).rel G v xs) (e : getM xs i = some x) (q : ∀ w, r.rel G w x → Q w H) : rIxL K v (.int i) H Q := by
  obtain ⟨p, vs, rfl, hs, ha⟩ := h
  obtain ⟨w, h1, h2⟩ := ha.getI e
  exact ⟨p, vs, i, w, rfl, rfl, sqL_up S.ext hs, h1, q w h2⟩
theorem q_ixT {i : Int} (S : Sub G O H) (h : (rT K r).rel G v xs) (e : getM xs i = some x) (q : ∀ w, r.rel G w x → Q w H) : rIxT K v (.int i) H Q := by
  obtain ⟨p, vs, rfl, hs, ha⟩ := h
  obtain ⟨w, h1, h2⟩ := ha.getI e
  exact ⟨p, vs, i, w, rfl, rfl, sqT_up S.ext hs, h1, q w h2⟩
theorem q_ixO {i : Int} (S : Sub G ((a, .lst vs) :: O) H) (h : Al r G vs xs) (e : getM xs i = some x) (q : ∀ w, r.rel G w x → Q w H) : rIxL K (.ref a) (.int i) H Q := by
  obtain ⟨w, h1, h2⟩ := h.getI e
  exact ⟨a, vs, i, w, rfl, rfl, .inl (.inl S.head), h1, q w h2⟩
/-- len -/
theorem q_lenL {y : V} (S : Sub G O H) (h : (rL K r).rel G v xs) (q : Q (.int (xs.length : Int)) H) : rLenM K [v] H Q := by
  obtain ⟨p, vs, rfl, hs, ha⟩ := h
  refine ⟨p, vs, rfl, .inl (sqL_up S.ext hs), ?_⟩
  rw [ha.len]; exact q
theorem q_lenT (S : Sub G O H) (h : (rT K r).rel G v xs) (q : Q (.int (xs.length : Int)) H) : rLenM K [v] H Q := by
  obtain ⟨p, vs, rfl, hs, ha⟩ := h
  refine ⟨p, vs, rfl, .inr (sqT_up S.ext hs), ?_⟩
  rw [ha.len]; exact q
theorem q_lenO (S : Sub G ((a, .lst vs) :: O) H) (h : Al r G vs xs) (q : Q (.int (xs.length : Int)) H) : rLenM K [V.ref a] H Q := by
  refine ⟨a, vs, rfl, .inl (.inl (.inl S.head)), ?_⟩
  rw [h.len]; exact q
end
/-! ### further steps -/
section
variable {α β γ δ : Type} {r : R α} {G G' H : Hp} {O : Own} {K : PySem.W.Frag} {v w : V} {vs : List V} {x : α} {xs ys : List α} {a : Addr} {Q : VK}
theorem q_mul {i j k : Int} (h : mulM i j = some k) (q : Q (.int k) H) : rI CMul (fun i j => .int (i * j)) (.int i) (.int j) H Q := by
  obtain ⟨c, e⟩ := mulM_some h
  exact ⟨i, j, rfl, rfl, c, by show Q (.int (i * j)) H; rw [e]; exact q⟩
theorem q_fdiv {i j k : Int} (h : fdivM i j = some k) (q : Q (.int k) H) : rI CDivW (fun i j => .int (i / j)) (.int i) (.int j) H Q := by
  obtain ⟨c, e⟩ := fdivM_some h
  exact ⟨i, j, rfl, rfl, c, by show Q (.int (i / j)) H; rw [e]; exact q⟩
theorem q_mod {i j k : Int} (h : modM i j = some k) (q : Q (.int k) H) : rI (fun _ j => 0 < j) (fun i j => .int (i % j)) (.int i) (.int j) H Q := by
  obtain ⟨c, e⟩ := modM_some h
  exact ⟨i, j, rfl, rfl, c, by show Q (.int (i % j)) H; rw [e]; exact q⟩
/-- xs.append(e), the first owned list -/
theorem q_app (S : Sub G ((a, .lst vs) :: O) H) (h : Al r G vs xs) (hv : r.rel G v x) (e : appM xs x = some ys) (q : ∀ H' w, Sub G ((a, .lst w) :: O) H' → Al r G w ys → Q .non H') : rAppend (.ref a) [v] H Q := by
  obtain ⟨c, e⟩ := appM_some e
  refine ⟨a, vs, v, rfl, rfl, S.head, szl (by rw [h.len]; exact c), q _ _ S.wr ?_⟩
  rw [← e]
  exact h.app ⟨hv, True.intro⟩
/-- xs[i] = e -/
theorem q_setL {i : Int} {Q : Hp → Prop} (S : Sub G ((a, .lst vs) :: O) H) (h : Al r G vs xs) (hv : r.rel G v x) (e : setM xs i x = some ys) (q : ∀ H' ws, Sub G ((a, .lst ws) :: O) H' → Al r G ws ys → Q H') : rSetL (.ref a) (.int i) v H Q := by
  obtain ⟨j, e1, e2⟩ := setM_some e
  rw [← h.len] at e1
  refine ⟨a, vs, i, j, rfl, rfl, S.head, e1, q _ _ S.wr ?_⟩
  rw [← e2]
  exact h.set j hv
/-- slices: a new list (frozen at once) -/
theorem q_slL {lo hi : Option Int} (S : Sub G O H) (h : (rL K r).rel G v xs) (q : ∀ w G' H', Ext G G' → Sub G' O H' → (rL K r).rel G' w (cutM xs lo hi) → Q w H') : rSlL K v lo hi H Q := by
  obtain ⟨p, vs, rfl, hs, ha⟩ := h
  refine ⟨p, vs, rfl, sqL_up S.ext hs, fun t ht => q _ _ _ (S.extNew ht (.lst (cutV vs lo hi))) (S.new ht) ⟨t, _, rfl, .inl (.inl upd_same), ?_⟩⟩
  exact (ha.up (S.extNew ht _)).cut
/-- a list display, owned -/
theorem q_lst (S : Sub G O H) (h : Al r G vs xs) (hz : vs.length ≤ 100000) (q : ∀ p H' w, Sub G ((p, .lst w) :: O) H' → Al r G w xs → Q (.ref p) H') : mkLst vs H Q :=
  ⟨sz hz, fun p hp => q p _ vs (S.newOwn hp) h⟩
/-- tuple(xs) of an owned list, of a list, of a list or tuple -/
theorem q_tupO (S : Sub G ((a, .lst vs) :: O) H) (h : Al r G vs xs) (q : ∀ u G' H', Ext G G' → Sub G' ((a, .lst vs) :: O) H' → (rT K r).rel G' u xs → Q u H') :
    rTupOf K [V.ref a] H Q :=
  ⟨a, vs, rfl, .inl ⟨.inl (.inl S.head), fun l hl => q _ _ _ (S.extNew hl _) (S.new hl) ⟨l, vs, rfl, .inl (.inl upd_same), h.up (S.extNew hl _)⟩⟩⟩
theorem q_tupL (S : Sub G O H) (h : (rL K r).rel G v xs) (q : ∀ u G' H', Ext G G' → Sub G' O H' → (rT K r).rel G' u xs → Q u H') :
    rTupOf K [v] H Q := by
  obtain ⟨p, vs, rfl, hs, ha⟩ := h
  exact ⟨p, vs, rfl, .inl ⟨sqL_up S.ext hs, fun l hl => q _ _ _ (S.extNew hl _) (S.new hl) ⟨l, vs, rfl, .inl (.inl upd_same), ha.up (S.extNew hl _)⟩⟩⟩
theorem q_tupT (S : Sub G O H) (h : (rT K r).rel G v xs) (q : Q v H) :
    rTupOf K [v] H Q := by
  obtain ⟨p, vs, rfl, hs, ha⟩ := h
  exact ⟨p, vs, rfl, .inr ⟨sqT_up S.ext hs, q⟩⟩
/-- list(xs): a new list, frozen or owned -/
theorem q_listQ (S : Sub G O H) (h : (rQ K r).rel G v xs) (q : ∀ u G' H', Ext G G' → Sub G' O H' → (rL K r).rel G' u xs → Q u H') :
    rListOf K [v] H Q := by
  obtain ⟨p, vs, rfl, hs, ha⟩ := h
  exact ⟨p, vs, rfl, hs.imp (sqL_up S.ext) (sqT_up S.ext), fun l hl => q _ _ _ (S.extNew hl _) (S.new hl) ⟨l, vs, rfl, .inl (.inl upd_same), ha.up (S.extNew hl _)⟩⟩
theorem q_listQo (S : Sub G O H) (h : (rQ K r).rel G v xs) (q : ∀ p vs H', Sub G ((p, .lst vs) :: O) H' → Al r G vs xs → Q (.ref p) H') :
    rListOf K [v] H Q := by
  obtain ⟨p, vs, rfl, hs, ha⟩ := h
  exact ⟨p, vs, rfl, hs.imp (sqL_up S.ext) (sqT_up S.ext), fun l hl => q l vs _ (S.newOwn hl) ha⟩
theorem rL_Q (h : (rL K r).rel G v xs) : (rQ K r).rel G v xs := let ⟨p, vs, e, hs, ha⟩ := h; ⟨p, vs, e, .inl hs, ha⟩
theorem rT_Q (h : (rT K r).rel G v xs) : (rQ K r).rel G v xs := let ⟨p, vs, e, hs, ha⟩ := h; ⟨p, vs, e, .inr hs, ha⟩
/-- an owned list, frozen -/
theorem rL_frz (S : Sub G ((a, .lst vs) :: O) H) (h : Al r G vs xs) : (rL K r).rel (upd G a (.lst vs)) (.ref a) xs := ⟨a, vs, rfl, .inl (.inl upd_same), h.up S.extFrz⟩
theorem frz_L (S : Sub G ((a, .lst vs) :: O) H) (h : Al r G vs xs) : ∃ G', Ext G G' ∧ Sub G' O H ∧ (rL K r).rel G' (.ref a) xs := ⟨_, S.extFrz, S.frz, rL_frz S h⟩
/-- an owned list as the heap has it now -/
theorem rL_own (S : Sub G ((a, .lst vs) :: O) H) (h : Al r G vs xs) : (rL K r).rel H (.ref a) xs := ⟨a, vs, rfl, .inl (.inl S.head), h.up S.ext⟩

/-! types, for isinstance -/
theorem ty_L (h : (rL K r).rel H v xs) : TyX K H v (.type "list") := by
  obtain ⟨p, vs, rfl, hs, _⟩ := h
  rcases hs with (hs | ⟨o, hs⟩) | ⟨o, its, n, h1, h2, _⟩
  · exact .base (.lst hs)
  · exact .base (.frz hs)
  · exact .kList h1 h2
theorem ty_sqT {p : Addr} (hs : SqT K H p vs) : TyX K H (.ref p) (.type "tuple") := by
  rcases hs with (hs | ⟨o, hs⟩) | ⟨o, its, n, h1, h2, _⟩
  · exact .base (.tup hs)
  · exact .fTuple hs
  · exact .kTuple h1 h2
theorem ty_T (h : (rT K r).rel H v xs) : TyX K H v (.type "tuple") := by
  obtain ⟨p, vs, rfl, hs, _⟩ := h
  exact ty_sqT hs
theorem ty_I (i : Int) : TyX K H (.int i) (.type "int") := .base (.int i)
theorem ty_B (b : Bool) : TyX K H (.bl b) (.type "bool") := .base (.bl b)
theorem ty_S (b : Str) : TyX K H (.str b) (.type "str") := .base (.str b)
theorem ty_N : TyX K H .non (.type "NoneType") := .base .non
theorem q_isi {t c : String} {b : Bool} (h : TyX K H v (.type t)) (e : kitB t c = some b) (q : Q (.bl b) H) : rIsi K [v, .ty c] H Q := ⟨v, .ty c, .type t, .type c, b, rfl, .ty c, h, kit_ty e, q⟩
end

/-! ### data and == -/
structure RD (K : PySem.W.Frag) (α : Type) [DecidableEq α] where
  r : R α
  enc : α → PyData
  dep : Nat
  ok : α → Bool
  lay : ∀ x, ok x = true → (enc x).canLay0 = true
  dpt : ∀ x, (enc x).depth ≤ dep
  dp : ∀ {H : Hp} {v : V} {x : α}, r.rel H v x → Dp K H v (enc x)
  eqv : ∀ x y, PyData.eqv (enc x) (enc y) = decide (x = y)
section
variable {K : PySem.W.Frag} {α β γ : Type} [DecidableEq α] [DecidableEq β] [DecidableEq γ]
def dInt : RD K Int := ⟨rInt, .int, 1, fun _ => true, fun _ _ => rfl, fun _ => by simp [PyData.depth], fun {H v x} h => by cases (show v = .int x from h); exact .int x, fun x y => rfl⟩
def dBool : RD K Bool := ⟨rBool, .bool, 1, fun _ => true, fun _ _ => rfl, fun _ => by simp [PyData.depth], fun {H v x} h => by cases (show v = .bl x from h); exact .bl x, fun x y => by cases x <;> cases y <;> rfl⟩
def dStr : RD K Str := ⟨rStr, .str, 1, PyData.strOk, fun _ h => h, fun _ => by simp [PyData.depth], fun {H v x} h => by cases (show v = .str x from h); exact .str x, fun x y => by
  show (x == y) = decide (x = y)
  by_cases e : x = y
  · subst e; simp
  · rw [decide_eq_false e]; exact beq_eq_false_iff_ne.mpr e⟩
theorem Al.dps {r : R α} {enc : α → PyData} {H : Hp} (hd : ∀ {v : V} {x : α}, r.rel H v x → Dp K H v (enc x)) : ∀ {vs : List V} {xs : List α}, Al r H vs xs → DpAll K H vs (xs.map enc)
  | [], [], _ => .nil
  | _ :: _, _ :: _, h => .cons (hd h.1) (Al.dps hd h.2)
  | [], _ :: _, h => h.elim
  | _ :: _, [], h => h.elim
theorem eqvs {enc : α → PyData} (he : ∀ x y, PyData.eqv (enc x) (enc y) = decide (x = y)) : ∀ xs ys : List α, PyData.eqvAll (xs.map enc) (ys.map enc) = decide (xs = ys)
  | [], [] => rfl
  | [], _ :: _ => rfl
  | _ :: _, [] => rfl
  | x :: xs, y :: ys => by
    show (PyData.eqv (enc x) (enc y) && PyData.eqvAll (xs.map enc) (ys.map enc)) = _
    rw [he, eqvs he xs ys]
    by_cases h1 : x = y
    · subst h1
      by_cases h2 : xs = ys
      · subst h2; simp
      · simp [h2]
    · simp [h1]
theorem lays {enc : α → PyData} {ok : α → Bool} (he : ∀ x, ok x = true → (enc x).canLay0 = true) : ∀ xs : List α, xs.all ok = true → PyData.canLayAll0 (xs.map enc) = true
  | [], _ => rfl
  | x :: xs, h => by
    rw [List.all_cons, Bool.and_eq_true] at h
    show (PyData.canLay0 (enc x) && PyData.canLayAll0 (xs.map enc)) = true
    rw [he x h.1, lays he xs h.2]
    rfl
theorem deps {enc : α → PyData} {n : Nat} (he : ∀ x, (enc x).depth ≤ n) : ∀ xs : List α, PyData.depthAll (xs.map enc) ≤ n
  | [] => by simp [PyData.depthAll]
  | x :: xs => by
    have h1 := he x
    have h2 := deps he xs
    simp only [List.map_cons, PyData.depthAll]
    omega
def dL (d : RD K α) : RD K (List α) := ⟨rL K d.r, fun xs => .list (xs.map d.enc), d.dep + 1, fun xs => xs.all d.ok, fun xs h => lays d.lay xs h, fun xs => by have := deps d.dpt xs; simp only [PyData.depth]; omega,
  fun {H v x} h => by obtain ⟨p, vs, rfl, hs, ha⟩ := h; exact .lst hs (ha.dps d.dp), fun x y => eqvs d.eqv x y⟩
def dT (d : RD K α) : RD K (List α) := ⟨rT K d.r, fun xs => .tuple (xs.map d.enc), d.dep + 1, fun xs => xs.all d.ok, fun xs h => lays d.lay xs h, fun xs => by have := deps d.dpt xs; simp only [PyData.depth]; omega,
  fun {H v x} h => by obtain ⟨p, vs, rfl, hs, ha⟩ := h; exact .tup hs (ha.dps d.dp), fun x y => eqvs d.eqv x y⟩
theorem RD.shaped (d : RD K α) (hd : d.dep ≤ 64) {x : α} (h : d.ok x = true) : SeqAt.shaped (d.enc x) = true := by
  unfold SeqAt.shaped
  rw [d.lay x h, decide_eq_true (Nat.le_trans (d.dpt x) hd)]
  rfl
variable {G H : Hp} {O : Own} {v w : V} {x y : α} {Q : VK}
/-- x == y of data: the reps at the heap as it stands -/
theorem q_eqD (d : RD K α) (hd : d.dep ≤ 64) (h1 : d.r.rel H v x) (h2 : d.r.rel H w y) (o1 : d.ok x = true) (o2 : d.ok y = true) (q : Q (.bl (decide (x = y))) H) : rEqD K v w H Q :=
  ⟨d.enc x, d.enc y, d.dp h1, d.dp h2, d.shaped hd o1, d.shaped hd o2, by rw [d.eqv]; exact q⟩
theorem q_neD (d : RD K α) (hd : d.dep ≤ 64) (h1 : d.r.rel H v x) (h2 : d.r.rel H w y) (o1 : d.ok x = true) (o2 : d.ok y = true) (q : Q (.bl (!decide (x = y))) H) : rNeD K v w H Q :=
  ⟨d.enc x, d.enc y, d.dp h1, d.dp h2, d.shaped hd o1, d.shaped hd o2, by rw [d.eqv]; exact q⟩
theorem okI : ∀ x, (dInt (K := K)).ok x = true := fun _ => rfl
theorem okB : ∀ x, (dBool (K := K)).ok x = true := fun _ => rfl
theorem okL {d : RD K α} (h : ∀ x, d.ok x = true) : ∀ xs, (dL d).ok xs = true := fun xs => List.all_eq_true.mpr fun x _ => h x
theorem okT {d : RD K α} (h : ∀ x, d.ok x = true) : ∀ xs, (dT d).ok xs = true := fun xs => List.all_eq_true.mpr fun x _ => h x
theorem ok_all {ok : α → Bool} (h : ∀ x, ok x = true) (xs : List α) : xs.all ok = true := List.all_eq_true.mpr fun x _ => h x
end

/-! ### loops -/
def PvL {α σ ρ : Type} (f : σ → α → Option (Bf σ ρ)) (xs : List α) (res : Fl σ ρ) (I : σ → L2.St → Hp → Prop) (i : Nat) : L2.St → Hp → Prop := fun σ' H => ∃ s, I s σ' H ∧ forL f (xs.drop i) s = some res
section
variable {α β τ ρ : Type} {J : It} {n : Nat} {GW : Hp → Prop} {Y : Nat → Hp → V → Hp → Prop} {f : τ → α → Option (Bf τ ρ)} {xs : List α} {s0 : τ} {res : Fl τ ρ} {I : τ → L2.St → Hp → Prop} {g : TG} {tb : TS} {D : Ends} {σ : L2.St} {H : Hp}
theorem lp_it (w : Walk J n GW Y) (hn : xs.length = n) (hm : forL f xs s0 = some res) (I : τ → L2.St → Hp → Prop) (h0 : I s0 σ H) (hG : ∀ s σ H, I s σ H → GW H)
    (hs : ∀ (i : Nat) (x : α) (s : τ) (b : Bf τ ρ), xs[i]? = some x → f s x = some b → conL f (xs.drop (i + 1)) b = some res → ∀ v σ H H', I s σ H → Y i H v H' →
      g v σ H' fun σ2 H2 => tb { D with nx := PvL f xs res I (i + 1), ct := PvL f xs res I (i + 1), bk := D.nx } σ2 H2)
    (hd : ∀ s σ H, res = .nx s → I s σ H → D.nx σ H) :
    LpW g tb D σ J H := by
  refine for_it w (PvL f xs res I) ⟨s0, h0, hm⟩ (fun i σ H _ ⟨s, hI, _⟩ => hG s σ H hI) (fun i v σ H H' hi ⟨s, hI, hf⟩ hy => ?_) fun σ H ⟨s, hI, hf⟩ => ?_
  · have hx : xs[i]? = some xs[i] := List.getElem?_eq_getElem (by omega)
    obtain ⟨b, hb, hr⟩ := forL_drop hx hf
    exact hs i _ s b hx hb hr v σ H H' hI hy
  · rw [← hn, List.drop_length] at hf
    exact hd s σ H (Option.some.inj hf).symm hI
variable {K : PySem.W.Frag} {G : Hp} {O : Own} {r : R α} {v : V} {vs : List V} {a : Addr}
theorem Al.at {i : Nat} {x : α} {w : V} (h : Al r G vs xs) (hx : xs[i]? = some x) (hw : vs[i]? = some w) : r.rel G w x := by
  obtain ⟨w', h1, h2⟩ := h.get hx
  rw [hw] at h1; cases h1; exact h2
/-- for x in a frozen list -/
theorem lp_L (S : Sub G O H) (h : (rL K r).rel G v xs) (hm : forL f xs s0 = some res) (I : τ → L2.St → Hp → Prop) (h0 : I s0 σ H) (hG : ∀ s σ H, I s σ H → Ext G H)
    (hs : ∀ (i : Nat) (x : α) (s : τ) (b : Bf τ ρ), f s x = some b → conL f (xs.drop (i + 1)) b = some res → ∀ w σ H, I s σ H → r.rel G w x →
      g w σ H fun σ2 H2 => tb { D with nx := PvL f xs res I (i + 1), ct := PvL f xs res I (i + 1), bk := D.nx } σ2 H2)
    (hd : ∀ s σ H, res = .nx s → I s σ H → D.nx σ H) :
    itL K v H (LpW g tb D σ) := by
  obtain ⟨p, vs, rfl, hq, ha⟩ := h
  refine ⟨p, rfl, ⟨vs, sqL_up S.ext hq⟩, lp_it (walk_list (xs := vs)) ha.len.symm hm I h0 (fun s σ H hI => sqL_up (hG s σ H hI) hq) (fun i x s b hx hb hr w σ H H' hI hY => ?_) hd⟩
  obtain ⟨rfl, hw⟩ := hY
  exact hs i x s b hb hr w σ _ hI (ha.at hx hw)
/-- for x in a frozen tuple -/
theorem lp_T (S : Sub G O H) (h : (rT K r).rel G v xs) (hm : forL f xs s0 = some res) (I : τ → L2.St → Hp → Prop) (h0 : I s0 σ H) (hG : ∀ s σ H, I s σ H → Ext G H)
    (hs : ∀ (i : Nat) (x : α) (s : τ) (b : Bf τ ρ), f s x = some b → conL f (xs.drop (i + 1)) b = some res → ∀ w σ H, I s σ H → r.rel G w x →
      g w σ H fun σ2 H2 => tb { D with nx := PvL f xs res I (i + 1), ct := PvL f xs res I (i + 1), bk := D.nx } σ2 H2)
    (hd : ∀ s σ H, res = .nx s → I s σ H → D.nx σ H) :
    itT K v H (LpW g tb D σ) := by
  obtain ⟨p, vs, rfl, hq, ha⟩ := h
  refine ⟨p, rfl, ⟨vs, sqT_up S.ext hq⟩, lp_it (walk_tup (xs := vs)) ha.len.symm hm I h0 (fun s σ H hI => sqT_up (hG s σ H hI) hq) (fun i x s b hx hb hr w σ H H' hI hY => ?_) hd⟩
  obtain ⟨rfl, hw⟩ := hY
  exact hs i x s b hb hr w σ _ hI (ha.at hx hw)
theorem rng_at {n i k : Nat} (h : (List.range n)[i]? = some k) : k = i := by
  obtain ⟨h1, h2⟩ := List.getElem?_eq_some_iff.mp h
  rw [List.getElem_range] at h2
  exact h2.symm
/-- for i in range(n) -/
theorem lp_R {f : τ → Int → Option (Bf τ ρ)} {xs : List Int} {n : Int} (hx : rngM n = some xs) (hm : forL f xs s0 = some res) (I : τ → L2.St → Hp → Prop) (h0 : I s0 σ H)
    (hs : ∀ (i : Nat) (x : Int) (s : τ) (b : Bf τ ρ), f s x = some b → conL f (xs.drop (i + 1)) b = some res → ∀ σ H, I s σ H →
      g (.int x) σ H fun σ2 H2 => tb { D with nx := PvL f xs res I (i + 1), ct := PvL f xs res I (i + 1), bk := D.nx } σ2 H2)
    (hd : ∀ s σ H, res = .nx s → I s σ H → D.nx σ H) :
    itR [V.int n] H (LpW g tb D σ) := by
  obtain ⟨c, rfl⟩ := rngM_some hx
  refine ⟨n, rfl, c.1, c.2, lp_it walk_range (by simp) hm I h0 (fun _ _ _ _ => True.intro) (fun i x s b hx hb hr w σ H H' hI hY => ?_) hd⟩
  obtain ⟨rfl, hw⟩ := hY
  have e : (0 : Int) + (i : Nat) = x := by
    rw [List.getElem?_map] at hx
    obtain ⟨k, h1, h2⟩ := Option.map_eq_some_iff.mp hx
    have := rng_at h1
    omega
  have e2 : w = .int x := by rw [hw, ← e]
  rw [e2]
  exact hs i x s b hb hr σ _ hI
theorem lp_R2 {f : τ → Int → Option (Bf τ ρ)} {xs : List Int} {lo n : Int} (hx : rng2M lo n = some xs) (hm : forL f xs s0 = some res) (I : τ → L2.St → Hp → Prop) (h0 : I s0 σ H)
    (hs : ∀ (i : Nat) (x : Int) (s : τ) (b : Bf τ ρ), f s x = some b → conL f (xs.drop (i + 1)) b = some res → ∀ σ H, I s σ H →
      g (.int x) σ H fun σ2 H2 => tb { D with nx := PvL f xs res I (i + 1), ct := PvL f xs res I (i + 1), bk := D.nx } σ2 H2)
    (hd : ∀ s σ H, res = .nx s → I s σ H → D.nx σ H) :
    itR2 [V.int lo, V.int n] H (LpW g tb D σ) := by
  obtain ⟨c, rfl⟩ := rng2M_some hx
  refine ⟨lo, n, rfl, c, lp_it walk_range (by simp) hm I h0 (fun _ _ _ _ => True.intro) (fun i x s b hx hb hr w σ H H' hI hY => ?_) hd⟩
  obtain ⟨rfl, hw⟩ := hY
  have e : lo + (i : Nat) = x := by
    rw [List.getElem?_map] at hx
    obtain ⟨k, h1, h2⟩ := Option.map_eq_some_iff.mp hx
    have := rng_at h1
    omega
  have e2 : w = .int x := by rw [hw, ← e]
  rw [e2]
  exact hs i x s b hb hr σ _ hI
/-- for i, x in enumerate(a list or a tuple) -/
theorem walk_enumT {xs : List V} : Walk (IteT K a) xs.length (fun H => SqT K H a xs) (YPair (fun i => some (.int (i : Nat))) (fun i => xs[i]?)) := by
  refine ⟨fun i _ hi q => ⟨xs, xs[i], q, by simp [hi]⟩, fun _ q => ⟨xs, q, rfl⟩, fun i H v H' _ q y => ?_⟩
  obtain ⟨T, x, h1, h2, h3, h4⟩ := y
  exact ⟨T, .int (i : Nat), x, h1, h2, h3, rfl, h4 xs q⟩
theorem lp_Eit {f : τ → Int × α → Option (Bf τ ρ)} {i1 i2 : Nat} {J : It} {vs : List V} (w : Walk J vs.length GW (YPair (fun i => some (.int (i : Nat))) (fun i => vs[i]?))) (ha : Al r G vs xs) (hm : forL f (enumM xs) s0 = some res) (I : τ → L2.St → Hp → Prop) (h0 : I s0 σ H) (hG : ∀ s σ H, I s σ H → GW H)
    (hs : ∀ (i : Nat) (x : α) (s : τ) (b : Bf τ ρ), f s ((i : Int), x) = some b → conL f ((enumM xs).drop (i + 1)) b = some res → ∀ w σ H H', I s σ H → (∀ G O, Sub G O H → Sub G O H') → r.rel G w x →
      tb { D with nx := PvL f (enumM xs) res I (i + 1), ct := PvL f (enumM xs) res I (i + 1), bk := D.nx } ((σ.set i1 (some (.int (i : Int)))).set i2 (some w)) H')
    (hd : ∀ s σ H, res = .nx s → I s σ H → D.nx σ H) :
    LpW (gTup K 2 (gCons (gName i1) (gCons (gName i2) gNil))) tb D σ J H := by
  refine lp_it w (by rw [enumM_length, ha.len]) hm I h0 hG (fun i y s b hx hb hr v σ H H' hI hY => ?_) hd
  rw [enumM_get] at hx
  obtain ⟨x, hx2, rfl⟩ := Option.map_eq_some_iff.mp hx
  obtain ⟨T, k, w, rfl, hT, rfl, hk, hw⟩ := hY
  cases hk
  exact ⟨T, _, rfl, .inl (.inl upd_same), rfl, _, _, rfl, _, _, rfl, rfl, hs i x s b hb hr w σ H _ hI (fun G O S => S.junk hT) (ha.at hx2 hw)⟩
/-- for i, x in enumerate(xs): a frozen list or tuple -/
theorem lp_EQ {f : τ → Int × α → Option (Bf τ ρ)} {i1 i2 : Nat} (S : Sub G O H) (h : (rQ K r).rel G v xs) (hm : forL f (enumM xs) s0 = some res) (I : τ → L2.St → Hp → Prop) (h0 : I s0 σ H) (hG : ∀ s σ H, I s σ H → Ext G H)
    (hs : ∀ (i : Nat) (x : α) (s : τ) (b : Bf τ ρ), f s ((i : Int), x) = some b → conL f ((enumM xs).drop (i + 1)) b = some res → ∀ w σ H H', I s σ H → (∀ G O, Sub G O H → Sub G O H') → r.rel G w x →
      tb { D with nx := PvL f (enumM xs) res I (i + 1), ct := PvL f (enumM xs) res I (i + 1), bk := D.nx } ((σ.set i1 (some (.int (i : Int)))).set i2 (some w)) H')
    (hd : ∀ s σ H, res = .nx s → I s σ H → D.nx σ H) :
    itE K [v] H (LpW (gTup K 2 (gCons (gName i1) (gCons (gName i2) gNil))) tb D σ) := by
  obtain ⟨p, vs, rfl, hq, ha⟩ := h
  refine ⟨p, vs, rfl, ?_⟩
  rcases hq with hq | hq
  · exact .inl ⟨sqL_up S.ext hq, lp_Eit walk_enum ha hm I h0 (fun s σ H hI => sqL_up (hG s σ H hI) hq) hs hd⟩
  · exact .inr ⟨sqT_up S.ext hq, lp_Eit walk_enumT ha hm I h0 (fun s σ H hI => sqT_up (hG s σ H hI) hq) hs hd⟩
end
end Mr

set_option Elab.async false
set_option linter.all false
set_option maxRecDepth 100000
set_option maxHeartbeats 2000000
/-! MirT: tuples of fixed length (printed by wip/gen/tup.py). -/
namespace Mr
open PySem PySem.Spec PyProof.Rows L2
section
variable {α : Type} {β : Type} {K : PySem.W.Frag} {G H : Hp} {O : Own} {v : V} {Q : VK}
def rP2 (K : PySem.W.Frag) (r0 : R α) (r1 : R β) : R (α × β) := ⟨fun G v x => ∃ p v0 v1, v = .ref p ∧ SqT K G p [v0, v1] ∧ r0.rel G v0 x.1 ∧ r1.rel G v1 x.2, fun e ⟨p, v0, v1, hv, hs, h0, h1⟩ => ⟨p, v0, v1, hv, sqT_up e hs, r0.mono e h0, r1.mono e h1⟩⟩
theorem q_tup2 {r0 : R α} {r1 : R β} {v0 v1 : V} {x0 : α} {x1 : β} (S : Sub G O H) (h0 : r0.rel G v0 x0) (h1 : r1.rel G v1 x1) (q : ∀ u G' H', Ext G G' → Sub G' O H' → (rP2 K r0 r1).rel G' u (x0, x1) → Q u H') : mkTup [v0, v1] H Q :=
  ⟨sz (by show 2 ≤ 100000; decide), fun p hp => q _ _ _ (S.extNew hp _) (S.new hp) ⟨p, v0, v1, rfl, .inl (.inl upd_same), r0.mono (S.extNew hp _) h0, r1.mono (S.extNew hp _) h1⟩⟩
theorem q_p2_0 {r0 : R α} {r1 : R β} {y : α × β} (S : Sub G O H) (h : (rP2 K r0 r1).rel G v y) (q : ∀ w, r0.rel G w y.1 → Q w H) : rIxT K v (.int 0) H Q := by
  obtain ⟨p, v0, v1, rfl, hs, h0, h1⟩ := h
  exact ⟨p, _, 0, v0, rfl, rfl, sqT_up S.ext hs, rfl, q v0 h0⟩
theorem q_p2_1 {r0 : R α} {r1 : R β} {y : α × β} (S : Sub G O H) (h : (rP2 K r0 r1).rel G v y) (q : ∀ w, r1.rel G w y.2 → Q w H) : rIxT K v (.int 1) H Q := by
  obtain ⟨p, v0, v1, rfl, hs, h0, h1⟩ := h
  exact ⟨p, _, 1, v1, rfl, rfl, sqT_up S.ext hs, rfl, q v1 h1⟩
theorem q_len2 {r0 : R α} {r1 : R β} {y : α × β} (S : Sub G O H) (h : (rP2 K r0 r1).rel G v y) (q : Q (.int 2) H) : rLenM K [v] H Q := by
  obtain ⟨p, v0, v1, rfl, hs, _⟩ := h
  exact ⟨p, _, rfl, .inr (sqT_up S.ext hs), q⟩
theorem ty_P2 {r0 : R α} {r1 : R β} {y : α × β} (h : (rP2 K r0 r1).rel H v y) : TyX K H v (.type "tuple") := by
  obtain ⟨p, v0, v1, rfl, hs, _⟩ := h
  exact ty_sqT hs
theorem q_gt2 {r0 : R α} {r1 : R β} {y : α × β} {σ : L2.St} {i0 i1 : Nat} {QS : L2.St → Hp → Prop} (S : Sub G O H) (h : (rP2 K r0 r1).rel G v y) (q : ∀ v0 v1, r0.rel G v0 y.1 → r1.rel G v1 y.2 → QS ((σ.set i0 (some v0)).set i1 (some v1)) H) : gTup K 2 (gCons (gName i0) (gCons (gName i1) gNil)) v σ H QS := by
  obtain ⟨p, v0, v1, rfl, hs, h0, h1⟩ := h
  exact ⟨p, _, rfl, sqT_up S.ext hs, rfl, _, _, rfl, _, _, rfl, rfl, q v0 v1 h0 h1⟩
variable [DecidableEq α] [DecidableEq β]
def dP2 (d0 : RD K α) (d1 : RD K β) : RD K (α × β) := ⟨rP2 K d0.r d1.r, fun x => .tuple [d0.enc x.1, d1.enc x.2], d0.dep + d1.dep + 1, fun x => d0.ok x.1 && (d1.ok x.2),
  fun x h => by
    simp only [Bool.and_eq_true] at h
    show (PyData.canLay0 _ && (PyData.canLay0 _ && (true))) = true
    rw [d0.lay _ h.1, d1.lay _ h.2]; rfl,
  fun x => by
    have := d0.dpt x.1
    have := d1.dpt x.2
    simp only [PyData.depth, PyData.depthAll]; omega,
  fun {H v x} h => by
    obtain ⟨p, v0, v1, rfl, hs, h0, h1⟩ := h
    exact .tup hs (.cons (d0.dp h0) (.cons (d1.dp h1) (.nil))),
  fun x y => by
    obtain ⟨a0, a1⟩ := x
    obtain ⟨b0, b1⟩ := y
    show (PyData.eqv _ _ && (PyData.eqv _ _ && (true))) = _
    rw [d0.eqv, d1.eqv]
    simp only [Prod.mk.injEq, Bool.and_true, Bool.decide_and]⟩
theorem okP2 {d0 : RD K α} {d1 : RD K β} (h0 : ∀ x, d0.ok x = true) (h1 : ∀ x, d1.ok x = true) : ∀ x, (dP2 d0 d1).ok x = true := fun x => by
  show (d0.ok x.1 && (d1.ok x.2)) = true
  rw [h0, h1]; rfl
end
section
variable {α : Type} {β : Type} {γ : Type} {K : PySem.W.Frag} {G H : Hp} {O : Own} {v : V} {Q : VK}
def rP3 (K : PySem.W.Frag) (r0 : R α) (r1 : R β) (r2 : R γ) : R (α × β × γ) := ⟨fun G v x => ∃ p v0 v1 v2, v = .ref p ∧ SqT K G p [v0, v1, v2] ∧ r0.rel G v0 x.1 ∧ r1.rel G v1 x.2.1 ∧ r2.rel G v2 x.2.2, fun e ⟨p, v0, v1, v2, hv, hs, h0, h1, h2⟩ => ⟨p, v0, v1, v2, hv, sqT_up e hs, r0.mono e h0, r1.mono e h1, r2.mono e h2⟩⟩
theorem q_tup3 {r0 : R α} {r1 : R β} {r2 : R γ} {v0 v1 v2 : V} {x0 : α} {x1 : β} {x2 : γ} (S : Sub G O H) (h0 : r0.rel G v0 x0) (h1 : r1.rel G v1 x1) (h2 : r2.rel G v2 x2) (q : ∀ u G' H', Ext G G' → Sub G' O H' → (rP3 K r0 r1 r2).rel G' u (x0, x1, x2) → Q u H') : mkTup [v0, v1, v2] H Q :=
  ⟨sz (by show 3 ≤ 100000; decide), fun p hp => q _ _ _ (S.extNew hp _) (S.new hp) ⟨p, v0, v1, v2, rfl, .inl (.inl upd_same), r0.mono (S.extNew hp _) h0, r1.mono (S.extNew hp _) h1, r2.mono (S.extNew hp _) h2⟩⟩
theorem q_p3_0 {r0 : R α} {r1 : R β} {r2 : R γ} {y : α × β × γ} (S : Sub G O H) (h : (rP3 K r0 r1 r2).rel G v y) (q : ∀ w, r0.rel G w y.1 → Q w H) : rIxT K v (.int 0) H Q := by
  obtain ⟨p, v0, v1, v2, rfl, hs, h0, h1, h2⟩ := h
  exact ⟨p, _, 0, v0, rfl, rfl, sqT_up S.ext hs, rfl, q v0 h0⟩
theorem q_p3_1 {r0 : R α} {r1 : R β} {r2 : R γ} {y : α × β × γ} (S : Sub G O H) (h : (rP3 K r0 r1 r2).rel G v y) (q : ∀ w, r1.rel G w y.2.1 → Q w H) : rIxT K v (.int 1) H Q := by
  obtain ⟨p, v0, v1, v2, rfl, hs, h0, h1, h2⟩ := h
  exact ⟨p, _, 1, v1, rfl, rfl, sqT_up S.ext hs, rfl, q v1 h1⟩
theorem q_p3_2 {r0 : R α} {r1 : R β} {r2 : R γ} {y : α × β × γ} (S : Sub G O H) (h : (rP3 K r0 r1 r2).rel G v y) (q : ∀ w, r2.rel G w y.2.2 → Q w H) : rIxT K v (.int 2) H Q := by
  obtain ⟨p, v0, v1, v2, rfl, hs, h0, h1, h2⟩ := h
  exact ⟨p, _, 2, v2, rfl, rfl, sqT_up S.ext hs, rfl, q v2 h2⟩
theorem q_len3 {r0 : R α} {r1 : R β} {r2 : R γ} {y : α × β × γ} (S : Sub G O H) (h : (rP3 K r0 r1 r2).rel G v y) (q : Q (.int 3) H) : rLenM K [v] H Q := by
  obtain ⟨p, v0, v1, v2, rfl, hs, _⟩ := h
  exact ⟨p, _, rfl, .inr (sqT_up S.ext hs), q⟩
theorem ty_P3 {r0 : R α} {r1 : R β} {r2 : R γ} {y : α × β × γ} (h : (rP3 K r0 r1 r2).rel H v y) : TyX K H v (.type "tuple") := by
  obtain ⟨p, v0, v1, v2, rfl, hs, _⟩ := h
  exact ty_sqT hs
theorem q_gt3 {r0 : R α} {r1 : R β} {r2 : R γ} {y : α × β × γ} {σ : L2.St} {i0 i1 i2 : Nat} {QS : L2.St → Hp → Prop} (S : Sub G O H) (h : (rP3 K r0 r1 r2).rel G v y) (q : ∀ v0 v1 v2, r0.rel G v0 y.1 → r1.rel G v1 y.2.1 → r2.rel G v2 y.2.2 → QS (((σ.set i0 (some v0)).set i1 (some v1)).set i2 (some v2)) H) : gTup K 3 (gCons (gName i0) (gCons (gName i1) (gCons (gName i2) gNil))) v σ H QS := by
  obtain ⟨p, v0, v1, v2, rfl, hs, h0, h1, h2⟩ := h
  exact ⟨p, _, rfl, sqT_up S.ext hs, rfl, _, _, rfl, _, _, rfl, _, _, rfl, rfl, q v0 v1 v2 h0 h1 h2⟩
variable [DecidableEq α] [DecidableEq β] [DecidableEq γ]
def dP3 (d0 : RD K α) (d1 : RD K β) (d2 : RD K γ) : RD K (α × β × γ) := ⟨rP3 K d0.r d1.r d2.r, fun x => .tuple [d0.enc x.1, d1.enc x.2.1, d2.enc x.2.2], d0.dep + d1.dep + d2.dep + 1, fun x => d0.ok x.1 && (d1.ok x.2.1 && (d2.ok x.2.2)),
  fun x h => by
    simp only [Bool.and_eq_true] at h
    show (PyData.canLay0 _ && (PyData.canLay0 _ && (PyData.canLay0 _ && (true)))) = true
    rw [d0.lay _ h.1, d1.lay _ h.2.1, d2.lay _ h.2.2]; rfl,
  fun x => by
    have := d0.dpt x.1
    have := d1.dpt x.2.1
    have := d2.dpt x.2.2
    simp only [PyData.depth, PyData.depthAll]; omega,
  fun {H v x} h => by
    obtain ⟨p, v0, v1, v2, rfl, hs, h0, h1, h2⟩ := h
    exact .tup hs (.cons (d0.dp h0) (.cons (d1.dp h1) (.cons (d2.dp h2) (.nil)))),
  fun x y => by
    obtain ⟨a0, a1, a2⟩ := x
    obtain ⟨b0, b1, b2⟩ := y
    show (PyData.eqv _ _ && (PyData.eqv _ _ && (PyData.eqv _ _ && (true)))) = _
    rw [d0.eqv, d1.eqv, d2.eqv]
    simp only [Prod.mk.injEq, Bool.and_true, Bool.decide_and]⟩
theorem okP3 {d0 : RD K α} {d1 : RD K β} {d2 : RD K γ} (h0 : ∀ x, d0.ok x = true) (h1 : ∀ x, d1.ok x = true) (h2 : ∀ x, d2.ok x = true) : ∀ x, (dP3 d0 d1 d2).ok x = true := fun x => by
  show (d0.ok x.1 && (d1.ok x.2.1 && (d2.ok x.2.2))) = true
  rw [h0, h1, h2]; rfl
end
section
variable {α : Type} {β : Type} {γ : Type} {δ : Type} {K : PySem.W.Frag} {G H : Hp} {O : Own} {v : V} {Q : VK}
def rP4 (K : PySem.W.Frag) (r0 : R α) (r1 : R β) (r2 : R γ) (r3 : R δ) : R (α × β × γ × δ) := ⟨fun G v x => ∃ p v0 v1 v2 v3, v = .ref p ∧ SqT K G p [v0, v1, v2, v3] ∧ r0.rel G v0 x.1 ∧ r1.rel G v1 x.2.1 ∧ r2.rel G v2 x.2.2.1 ∧ r3.rel G v3 x.2.2.2, fun e ⟨p, v0, v1, v2, v3, hv, hs, h0, h1, h2, h3⟩ => ⟨p, v0, v1, v2, v3, hv, sqT_up e hs, r0.mono e h0, r1.mono e h1, r2.mono e h2, r3.mono e h3⟩⟩
theorem q_tup4 {r0 : R α} {r1 : R β} {r2 : R γ} {r3 : R δ} {v0 v1 v2 v3 : V} {x0 : α} {x1 : β} {x2 : γ} {x3 : δ} (S : Sub G O H) (h0 : r0.rel G v0 x0) (h1 : r1.rel G v1 x1) (h2 : r2.rel G v2 x2) (h3 : r3.rel G v3 x3) (q : ∀ u G' H', Ext G G' → Sub G' O H' → (rP4 K r0 r1 r2 r3).rel G' u (x0, x1, x2, x3) → Q u H') : mkTup [v0, v1, v2, v3] H Q :=
  ⟨sz (by show 4 ≤ 100000; decide), fun p hp => q _ _ _ (S.extNew hp _) (S.new hp) ⟨p, v0, v1, v2, v3, rfl, .inl (.inl upd_same), r0.mono (S.extNew hp _) h0, r1.mono (S.extNew hp _) h1, r2.mono (S.extNew hp _) h2, r3.mono (S.extNew hp _) h3⟩⟩
theorem q_p4_0 {r0 : R α} {r1 : R β} {r2 : R γ} {r3 : R δ} {y : α × β × γ × δ} (S : Sub G O H) (h : (rP4 K r0 r1 r2 r3).rel G v y) (q : ∀ w, r0.rel G w y.1 → Q w H) : rIxT K v (.int 0) H Q := by
  obtain ⟨p, v0, v1, v2, v3, rfl, hs, h0, h1, h2, h3⟩ := h
  exact ⟨p, _, 0, v0, rfl, rfl, sqT_up S.ext hs, rfl, q v0 h0⟩
theorem q_p4_1 {r0 : R α} {r1 : R β} {r2 : R γ} {r3 : R δ} {y : α × β × γ × δ} (S : Sub G O H) (h : (rP4 K r0 r1 r2 r3).rel G v y) (q : ∀ w, r1.rel G w y.2.1 → Q w H) : rIxT K v (.int 1) H Q := by
  obtain ⟨p, v0, v1, v2, v3, rfl, hs, h0, h1, h2, h3⟩ := h
  exact ⟨p, _, 1, v1, rfl, rfl, sqT_up S.ext hs, rfl, q v1 h1⟩
theorem q_p4_2 {r0 : R α} {r1 : R β} {r2 : R γ} {r3 : R δ} {y : α × β × γ × δ} (S : Sub G O H) (h : (rP4 K r0 r1 r2 r3).rel G v y) (q : ∀ w, r2.rel G w y.2.2.1 → Q w H) : rIxT K v (.int 2) H Q := by
  obtain ⟨p, v0, v1, v2, v3, rfl, hs, h0, h1, h2, h3⟩ := h
  exact ⟨p, _, 2, v2, rfl, rfl, sqT_up S.ext hs, rfl, q v2 h2⟩
theorem q_p4_3 {r0 : R α} {r1 : R β} {r2 : R γ} {r3 : R δ} {y : α × β × γ × δ} (S : Sub G O H) (h : (rP4 K r0 r1 r2 r3).rel G v y) (q : ∀ w, r3.rel G w y.2.2.2 → Q w H) : rIxT K v (.int 3) H Q := by
  obtain ⟨p, v0, v1, v2, v3, rfl, hs, h0, h1, h2, h3⟩ := h
  exact ⟨p, _, 3, v3, rfl, rfl, sqT_up S.ext hs, rfl, q v3 h3⟩
theorem q_len4 {r0 : R α} {r1 : R β} {r2 : R γ} {r3 : R δ} {y : α × β × γ × δ} (S : Sub G O H) (h : (rP4 K r0 r1 r2 r3).rel G v y) (q : Q (.int 4) H) : rLenM K [v] H Q := by
  obtain ⟨p, v0, v1, v2, v3, rfl, hs, _⟩ := h
  exact ⟨p, _, rfl, .inr (sqT_up S.ext hs), q⟩
theorem ty_P4 {r0 : R α} {r1 : R β} {r2 : R γ} {r3 : R δ} {y : α × β × γ × δ} (h : (rP4 K r0 r1 r2 r3).rel H v y) : TyX K H v (.type "tuple") := by
  obtain ⟨p, v0, v1, v2, v3, rfl, hs, _⟩ := h
  exact ty_sqT hs
theorem q_gt4 {r0 : R α} {r1 : R β} {r2 : R γ} {r3 : R δ} {y : α × β × γ × δ} {σ : L2.St} {i0 i1 i2 i3 : Nat} {QS : L2.St → Hp → Prop} (S : Sub G O H) (h : (rP4 K r0 r1 r2 r3).rel G v y) (q : ∀ v0 v1 v2 v3, r0.rel G v0 y.1 → r1.rel G v1 y.2.1 → r2.rel G v2 y.2.2.1 → r3.rel G v3 y.2.2.2 → QS ((((σ.set i0 (some v0)).set i1 (some v1)).set i2 (some v2)).set i3 (some v3)) H) : gTup K 4 (gCons (gName i0) (gCons (gName i1) (gCons (gName i2) (gCons (gName i3) gNil)))) v σ H QS := by
  obtain ⟨p, v0, v1, v2, v3, rfl, hs, h0, h1, h2, h3⟩ := h
  exact ⟨p, _, rfl, sqT_up S.ext hs, rfl, _, _, rfl, _, _, rfl, _, _, rfl, _, _, rfl, rfl, q v0 v1 v2 v3 h0 h1 h2 h3⟩
variable [DecidableEq α] [DecidableEq β] [DecidableEq γ] [DecidableEq δ]
def dP4 (d0 : RD K α) (d1 : RD K β) (d2 : RD K γ) (d3 : RD K δ) : RD K (α × β × γ × δ) := ⟨rP4 K d0.r d1.r d2.r d3.r, fun x => .tuple [d0.enc x.1, d1.enc x.2.1, d2.enc x.2.2.1, d3.enc x.2.2.2], d0.dep + d1.dep + d2.dep + d3.dep + 1, fun x => d0.ok x.1 && (d1.ok x.2.1 && (d2.ok x.2.2.1 && (d3.ok x.2.2.2))),
  fun x h => by
    simp only [Bool.and_eq_true] at h
    show (PyData.canLay0 _ && (PyData.canLay0 _ && (PyData.canLay0 _ && (PyData.canLay0 _ && (true))))) = true
    rw [d0.lay _ h.1, d1.lay _ h.2.1, d2.lay _ h.2.2.1, d3.lay _ h.2.2.2]; rfl,
  fun x => by
    have := d0.dpt x.1
    have := d1.dpt x.2.1
    have := d2.dpt x.2.2.1
    have := d3.dpt x.2.2.2
    simp only [PyData.depth, PyData.depthAll]; omega,
  fun {H v x} h => by
    obtain ⟨p, v0, v1, v2, v3, rfl, hs, h0, h1, h2, h3⟩ := h
    exact .tup hs (.cons (d0.dp h0) (.cons (d1.dp h1) (.cons (d2.dp h2) (.cons (d3.dp h3) (.nil))))),
  fun x y => by
    obtain ⟨a0, a1, a2, a3⟩ := x
    obtain ⟨b0, b1, b2, b3⟩ := y
    show (PyData.eqv _ _ && (PyData.eqv _ _ && (PyData.eqv _ _ && (PyData.eqv _ _ && (true))))) = _
    rw [d0.eqv, d1.eqv, d2.eqv, d3.eqv]
    simp only [Prod.mk.injEq, Bool.and_true, Bool.decide_and]⟩
theorem okP4 {d0 : RD K α} {d1 : RD K β} {d2 : RD K γ} {d3 : RD K δ} (h0 : ∀ x, d0.ok x = true) (h1 : ∀ x, d1.ok x = true) (h2 : ∀ x, d2.ok x = true) (h3 : ∀ x, d3.ok x = true) : ∀ x, (dP4 d0 d1 d2 d3).ok x = true := fun x => by
  show (d0.ok x.1 && (d1.ok x.2.1 && (d2.ok x.2.2.1 && (d3.ok x.2.2.2)))) = true
  rw [h0, h1, h2, h3]; rfl
end
section
variable {α : Type} {β : Type} {γ : Type} {δ : Type} {ε : Type} {K : PySem.W.Frag} {G H : Hp} {O : Own} {v : V} {Q : VK}
def rP5 (K : PySem.W.Frag) (r0 : R α) (r1 : R β) (r2 : R γ) (r3 : R δ) (r4 : R ε) : R (α × β × γ × δ × ε) := ⟨fun G v x => ∃ p v0 v1 v2 v3 v4, v = .ref p ∧ SqT K G p [v0, v1, v2, v3, v4] ∧ r0.rel G v0 x.1 ∧ r1.rel G v1 x.2.1 ∧ r2.rel G v2 x.2.2.1 ∧ r3.rel G v3 x.2.2.2.1 ∧ r4.rel G v4 x.2.2.2.2, fun e ⟨p, v0, v1, v2, v3, v4, hv, hs, h0, h1, h2, h3, h4⟩ => ⟨p, v0, v1, v2, v3, v4, hv, sqT_up e hs, r0.mono e h0, r1.mono e h1, r2.mono e h2, r3.mono e h3, r4.mono e h4⟩⟩
theorem q_tup5 {r0 : R α} {r1 : R β} {r2 : R γ} {r3 : R δ} {r4 : R ε} {v0 v1 v2 v3 v4 : V} {x0 : α} {x1 : β} {x2 : γ} {x3 : δ} {x4 : ε} (S : Sub G O H) (h0 : r0.rel G v0 x0) (h1 : r1.rel G v1 x1) (h2 : r2.rel G v2 x2) (h3 : r3.rel G v3 x3) (h4 : r4.rel G v4 x4) (q : ∀ u G' H', Ext G G' → Sub G' O H' → (rP5 K r0 r1 r2 r3 r4).rel G' u (x0, x1, x2, x3, x4) → Q u H') : mkTup [v0, v1, v2, v3, v4] H Q :=
  ⟨sz (by show 5 ≤ 100000; decide), fun p hp => q _ _ _ (S.extNew hp _) (S.new hp) ⟨p, v0, v1, v2, v3, v4, rfl, .inl (.inl upd_same), r0.mono (S.extNew hp _) h0, r1.mono (S.extNew hp _) h1, r2.mono (S.extNew hp _) h2, r3.mono (S.extNew hp _) h3, r4.mono (S.extNew hp _) h4⟩⟩
theorem q_p5_0 {r0 : R α} {r1 : R β} {r2 : R γ} {r3 : R δ} {r4 : R ε} {y : α × β × γ × δ × ε} (S : Sub G O H) (h : (rP5 K r0 r1 r2 r3 r4).rel G v y) (q : ∀ w, r0.rel G w y.1 → Q w H) : rIxT K v (.int 0) H Q := by
  obtain ⟨p, v0, v1, v2, v3, v4, rfl, hs, h0, h1, h2, h3, h4⟩ := h
  exact ⟨p, _, 0, v0, rfl, rfl, sqT_up S.ext hs, rfl, q v0 h0⟩
theorem q_p5_1 {r0 : R α} {r1 : R β} {r2 : R γ} {r3 : R δ} {r4 : R ε} {y : α × β × γ × δ × ε} (S : Sub G O H) (h : (rP5 K r0 r1 r2 r3 r4).rel G v y) (q : ∀ w, r1.rel G w y.2.1 → Q w H) : rIxT K v (.int 1) H Q := by
  obtain ⟨p, v0, v1, v2, v3, v4, rfl, hs, h0, h1, h2, h3, h4⟩ := h
  exact ⟨p, _, 1, v1, rfl, rfl, sqT_up S.ext hs, rfl, q v1 h1⟩
theorem q_p5_2 {r0 : R α} {r1 : R β} {r2 : R γ} {r3 : R δ} {r4 : R ε} {y : α × β × γ × δ × ε} (S : Sub G O H) (h : (rP5 K r0 r1 r2 r3 r4).rel G v y) (q : ∀ w, r2.rel G w y.2.2.1 → Q w H) : rIxT K v (.int 2) H Q := by
  obtain ⟨p, v0, v1, v2, v3, v4, rfl, hs, h0, h1, h2, h3, h4⟩ := h
  exact ⟨p, _, 2, v2, rfl, rfl, sqT_up S.ext hs, rfl, q v2 h2⟩
theorem q_p5_3 {r0 : R α} {r1 : R β} {r2 : R γ} {r3 : R δ} {r4 : R ε} {y : α × β × γ × δ × ε} (S : Sub G O H) (h : (rP5 K r0 r1 r2 r3 r4).rel G v y) (q : ∀ w, r3.rel G w y.2.2.2.1 → Q w H) : rIxT K v (.int 3) H Q := by
  obtain ⟨p, v0, v1, v2, v3, v4, rfl, hs, h0, h1, h2, h3, h4⟩ := h
  exact ⟨p, _, 3, v3, rfl, rfl, sqT_up S.ext hs, rfl, q v3 h3⟩
theorem q_p5_4 {r0 : R α} {r1 : R β} {r2 : R γ} {r3 : R δ} {r4 : R ε} {y : α × β × γ × δ × ε} (S : Sub G O H) (h : (rP5 K r0 r1 r2 r3 r4).rel G v y) (q : ∀ w, r4.rel G w y.2.2.2.2 → Q w H) : rIxT K v (.int 4) H Q := by
  obtain ⟨p, v0, v1, v2, v3, v4, rfl, hs, h0, h1, h2, h3, h4⟩ := h
  exact ⟨p, _, 4, v4, rfl, rfl, sqT_up S.ext hs, rfl, q v4 h4⟩
theorem q_len5 {r0 : R α} {r1 : R β} {r2 : R γ} {r3 : R δ} {r4 : R ε} {y : α × β × γ × δ × ε} (S : Sub G O H) (h : (rP5 K r0 r1 r2 r3 r4).rel G v y) (q : Q (.int 5) H) : rLenM K [v] H Q := by
  obtain ⟨p, v0, v1, v2, v3, v4, rfl, hs, _⟩ := h
  exact ⟨p, _, rfl, .inr (sqT_up S.ext hs), q⟩
theorem ty_P5 {r0 : R α} {r1 : R β} {r2 : R γ} {r3 : R δ} {r4 : R ε} {y : α × β × γ × δ × ε} (h : (rP5 K r0 r1 r2 r3 r4).rel H v y) : TyX K H v (.type "tuple") := by
  obtain ⟨p, v0, v1, v2, v3, v4, rfl, hs, _⟩ := h
  exact ty_sqT hs
theorem q_gt5 {r0 : R α} {r1 : R β} {r2 : R γ} {r3 : R δ} {r4 : R ε} {y : α × β × γ × δ × ε} {σ : L2.St} {i0 i1 i2 i3 i4 : Nat} {QS : L2.St → Hp → Prop} (S : Sub G O H) (h : (rP5 K r0 r1 r2 r3 r4).rel G v y) (q : ∀ v0 v1 v2 v3 v4, r0.rel G v0 y.1 → r1.rel G v1 y.2.1 → r2.rel G v2 y.2.2.1 → r3.rel G v3 y.2.2.2.1 → r4.rel G v4 y.2.2.2.2 → QS (((((σ.set i0 (some v0)).set i1 (some v1)).set i2 (some v2)).set i3 (some v3)).set i4 (some v4)) H) : gTup K 5 (gCons (gName i0) (gCons (gName i1) (gCons (gName i2) (gCons (gName i3) (gCons (gName i4) gNil))))) v σ H QS := by
  obtain ⟨p, v0, v1, v2, v3, v4, rfl, hs, h0, h1, h2, h3, h4⟩ := h
  exact ⟨p, _, rfl, sqT_up S.ext hs, rfl, _, _, rfl, _, _, rfl, _, _, rfl, _, _, rfl, _, _, rfl, rfl, q v0 v1 v2 v3 v4 h0 h1 h2 h3 h4⟩
variable [DecidableEq α] [DecidableEq β] [DecidableEq γ] [DecidableEq δ] [DecidableEq ε]
def dP5 (d0 : RD K α) (d1 : RD K β) (d2 : RD K γ) (d3 : RD K δ) (d4 : RD K ε) : RD K (α × β × γ × δ × ε) := ⟨rP5 K d0.r d1.r d2.r d3.r d4.r, fun x => .tuple [d0.enc x.1, d1.enc x.2.1, d2.enc x.2.2.1, d3.enc x.2.2.2.1, d4.enc x.2.2.2.2], d0.dep + d1.dep + d2.dep + d3.dep + d4.dep + 1, fun x => d0.ok x.1 && (d1.ok x.2.1 && (d2.ok x.2.2.1 && (d3.ok x.2.2.2.1 && (d4.ok x.2.2.2.2)))),
  fun x h => by
    simp only [Bool.and_eq_true] at h
    show (PyData.canLay0 _ && (PyData.canLay0 _ && (PyData.canLay0 _ && (PyData.canLay0 _ && (PyData.canLay0 _ && (true)))))) = true
    rw [d0.lay _ h.1, d1.lay _ h.2.1, d2.lay _ h.2.2.1, d3.lay _ h.2.2.2.1, d4.lay _ h.2.2.2.2]; rfl,
  fun x => by
    have := d0.dpt x.1
    have := d1.dpt x.2.1
    have := d2.dpt x.2.2.1
    have := d3.dpt x.2.2.2.1
    have := d4.dpt x.2.2.2.2
    simp only [PyData.depth, PyData.depthAll]; omega,
  fun {H v x} h => by
    obtain ⟨p, v0, v1, v2, v3, v4, rfl, hs, h0, h1, h2, h3, h4⟩ := h
    exact .tup hs (.cons (d0.dp h0) (.cons (d1.dp h1) (.cons (d2.dp h2) (.cons (d3.dp h3) (.cons (d4.dp h4) (.nil)))))),
  fun x y => by
    obtain ⟨a0, a1, a2, a3, a4⟩ := x
    obtain ⟨b0, b1, b2, b3, b4⟩ := y
    show (PyData.eqv _ _ && (PyData.eqv _ _ && (PyData.eqv _ _ && (PyData.eqv _ _ && (PyData.eqv _ _ && (true)))))) = _
    rw [d0.eqv, d1.eqv, d2.eqv, d3.eqv, d4.eqv]
    simp only [Prod.mk.injEq, Bool.and_true, Bool.decide_and]⟩
theorem okP5 {d0 : RD K α} {d1 : RD K β} {d2 : RD K γ} {d3 : RD K δ} {d4 : RD K ε} (h0 : ∀ x, d0.ok x = true) (h1 : ∀ x, d1.ok x = true) (h2 : ∀ x, d2.ok x = true) (h3 : ∀ x, d3.ok x = true) (h4 : ∀ x, d4.ok x = true) : ∀ x, (dP5 d0 d1 d2 d3 d4).ok x = true := fun x => by
  show (d0.ok x.1 && (d1.ok x.2.1 && (d2.ok x.2.2.1 && (d3.ok x.2.2.2.1 && (d4.ok x.2.2.2.2))))) = true
  rw [h0, h1, h2, h3, h4]; rfl
end
section
variable {α : Type} {β : Type} {γ : Type} {δ : Type} {ε : Type} {ζ : Type} {K : PySem.W.Frag} {G H : Hp} {O : Own} {v : V} {Q : VK}
def rP6 (K : PySem.W.Frag) (r0 : R α) (r1 : R β) (r2 : R γ) (r3 : R δ) (r4 : R ε) (r5 : R ζ) : R (α × β × γ × δ × ε × ζ) := ⟨fun G v x => ∃ p v0 v1 v2 v3 v4 v5, v = .ref p ∧ SqT K G p [v0, v1, v2, v3, v4, v5] ∧ r0.rel G v0 x.1 ∧ r1.rel G v1 x.2.1 ∧ r2.rel G v2 x.2.2.1 ∧ r3.rel G v3 x.2.2.2.1 ∧ r4.rel G v4 x.2.2.2.2.1 ∧ r5.rel G v5 x.2.2.2.2.2, fun e ⟨p, v0, v1, v2, v3, v4, v5, hv, hs, h0, h1, h2, h3, h4, h5⟩ => ⟨p, v0, v1, v2, v3, v4, v5, hv, sqT_up e hs, r0.mono e h0, r1.mono e h1, r2.mono e h2, r3.mono e h3, r4.mono e h4, r5.mono e h5⟩⟩
theorem q_tup6 {r0 : R α} {r1 : R β} {r2 : R γ} {r3 : R δ} {r4 : R ε} {r5 : R ζ} {v0 v1 v2 v3 v4 v5 : V} {x0 : α} {x1 : β} {x2 : γ} {x3 : δ} {x4 : ε} {x5 : ζ} (S : Sub G O H) (h0 : r0.rel G v0 x0) (h1 : r1.rel G v1 x1) (h2 : r2.rel G v2 x2) (h3 : r3.rel G v3 x3) (h4 : r4.rel G v4 x4) (h5 : r5.rel G v5 x5) (q : ∀ u G' H', Ext G G' → Sub G' O H' → (rP6 K r0 r1 r2 r3 r4 r5).rel G' u (x0, x1, x2, x3, x4, x5) → Q u H') : mkTup [v0, v1, v2, v3, v4, v5] H Q :=
  ⟨sz (by show 6 ≤ 100000; decide), fun p hp => q _ _ _ (S.extNew hp _) (S.new hp) ⟨p, v0, v1, v2, v3, v4, v5, rfl, .inl (.inl upd_same), r0.mono (S.extNew hp _) h0, r1.mono (S.extNew hp _) h1, r2.mono (S.extNew hp _) h2, r3.mono (S.extNew hp _) h3, r4.mono (S.extNew hp _) h4, r5.mono (S.extNew hp _) h5⟩⟩
theorem q_p6_0 {r0 : R α} {r1 : R β} {r2 : R γ} {r3 : R δ} {r4 : R ε} {r5 : R ζ} {y : α × β × γ × δ × ε × ζ} (S : Sub G O H) (h : (rP6 K r0 r1 r2 r3 r4 r5).rel G v y) (q : ∀ w, r0.rel G w y.1 → Q w H) : rIxT K v (.int 0) H Q := by
  obtain ⟨p, v0, v1, v2, v3, v4, v5, rfl, hs, h0, h1, h2, h3, h4, h5⟩ := h
  exact ⟨p, _, 0, v0, rfl, rfl, sqT_up S.ext hs, rfl, q v0 h0⟩
theorem q_p6_1 {r0 : R α} {r1 : R β} {r2 : R γ} {r3 : R δ} {r4 : R ε} {r5 : R ζ} {y : α × β × γ × δ × ε × ζ} (S : Sub G O H) (h : (rP6 K r0 r1 r2 r3 r4 r5).rel G v y) (q : ∀ w, r1.rel G w y.2.1 → Q w H) : rIxT K v (.int 1) H Q := by
  obtain ⟨p, v0, v1, v2, v3, v4, v5, rfl, hs, h0, h1, h2, h3, h4, h5⟩ := h
  exact ⟨p, _, 1, v1, rfl, rfl, sqT_up S.ext hs, rfl, q v1 h1⟩
theorem q_p6_2 {r0 : R α} {r1 : R β} {r2 : R γ} {r3 : R δ} {r4 : R ε} {r5 : R ζ} {y : α × β × γ × δ × ε × ζ} (S : Sub G O H) (h : (rP6 K r0 r1 r2 r3 r4 r5).rel G v y) (q : ∀ w, r2.rel G w y.2.2.1 → Q w H) : rIxT K v (.int 2) H Q := by
  obtain ⟨p, v0, v1, v2, v3, v4, v5, rfl, hs, h0, h1, h2, h3, h4, h5⟩ := h
  exact ⟨p, _, 2, v2, rfl, rfl, sqT_up S.ext hs, rfl, q v2 h2⟩
theorem q_p6_3 {r0 : R α} {r1 : R β} {r2 : R γ} {r3 : R δ} {r4 : R ε} {r5 : R ζ} {y : α × β × γ × δ × ε × ζ} (S : Sub G O H) (h : (rP6 K r0 r1 r2 r3 r4 r5).rel G v y) (q : ∀ w, r3.rel G w y.2.2.2.1 → Q w H) : rIxT K v (.int 3) H Q := by
  obtain ⟨p, v0, v1, v2, v3, v4, v5, rfl, hs, h0, h1, h2, h3, h4, h5⟩ := h
  exact ⟨p, _, 3, v3, rfl, rfl, sqT_up S.ext hs, rfl, q v3 h3⟩
theorem q_p6_4 {r0 : R α} {r1 : R β} {r2 : R γ} {r3 : R δ} {r4 : R ε} {r5 : R ζ} {y : α × β × γ × δ × ε × ζ} (S : Sub G O H) (h : (rP6 K r0 r1 r2 r3 r4 r5).rel G v y) (q : ∀ w, r4.rel G w y.2.2.2.2.1 → Q w H) : rIxT K v (.int 4) H Q := by
  obtain ⟨p, v0, v1, v2, v3, v4, v5, rfl, hs, h0, h1, h2, h3, h4, h5⟩ := h
  exact ⟨p, _, 4, v4, rfl, rfl, sqT_up S.ext hs, rfl, q v4 h4⟩
theorem q_p6_5 {r0 : R α} {r1 : R β} {r2 : R γ} {r3 : R δ} {r4 : R ε} {r5 : R ζ} {y : α × β × γ × δ × ε × ζ} (S : Sub G O H) (h : (rP6 K r0 r1 r2 r3 r4 r5).rel G v y) (q : ∀ w, r5.rel G w y.2.2.2.2.2 → Q w H) : rIxT K v (.int 5) H Q := by
  obtain ⟨p, v0, v1, v2, v3, v4, v5, rfl, hs, h0, h1, h2, h3, h4, h5⟩ := h
  exact ⟨p, _, 5, v5, rfl, rfl, sqT_up S.ext hs, rfl, q v5 h5⟩
theorem q_len6 {r0 : R α} {r1 : R β} {r2 : R γ} {r3 : R δ} {r4 : R ε} {r5 : R ζ} {y : α × β × γ × δ × ε × ζ} (S : Sub G O H) (h : (rP6 K r0 r1 r2 r3 r4 r5).rel G v y) (q : Q (.int 6) H) : rLenM K [v] H Q := by
  obtain ⟨p, v0, v1, v2, v3, v4, v5, rfl, hs, _⟩ := h
  exact ⟨p, _, rfl, .inr (sqT_up S.ext hs), q⟩
theorem ty_P6 {r0 : R α} {r1 : R β} {r2 : R γ} {r3 : R δ} {r4 : R ε} {r5 : R ζ} {y : α × β × γ × δ × ε × ζ} (h : (rP6 K r0 r1 r2 r3 r4 r5).rel H v y) : TyX K H v (.type "tuple") := by
  obtain ⟨p, v0, v1, v2, v3, v4, v5, rfl, hs, _⟩ := h
  exact ty_sqT hs
theorem q_gt6 {r0 : R α} {r1 : R β} {r2 : R γ} {r3 : R δ} {r4 : R ε} {r5 : R ζ} {y : α × β × γ × δ × ε × ζ} {σ : L2.St} {i0 i1 i2 i3 i4 i5 : Nat} {QS : L2.St → Hp → Prop} (S : Sub G O H) (h : (rP6 K r0 r1 r2 r3 r4 r5).rel G v y) (q : ∀ v0 v1 v2 v3 v4 v5, r0.rel G v0 y.1 → r1.rel G v1 y.2.1 → r2.rel G v2 y.2.2.1 → r3.rel G v3 y.2.2.2.1 → r4.rel G v4 y.2.2.2.2.1 → r5.rel G v5 y.2.2.2.2.2 → QS ((((((σ.set i0 (some v0)).set i1 (some v1)).set i2 (some v2)).set i3 (some v3)).set i4 (some v4)).set i5 (some v5)) H) : gTup K 6 (gCons (gName i0) (gCons (gName i1) (gCons (gName i2) (gCons (gName i3) (gCons (gName i4) (gCons (gName i5) gNil)))))) v σ H QS := by
  obtain ⟨p, v0, v1, v2, v3, v4, v5, rfl, hs, h0, h1, h2, h3, h4, h5⟩ := h
  exact ⟨p, _, rfl, sqT_up S.ext hs, rfl, _, _, rfl, _, _, rfl, _, _, rfl, _, _, rfl, _, _, rfl, _, _, rfl, rfl, q v0 v1 v2 v3 v4 v5 h0 h1 h2 h3 h4 h5⟩
variable [DecidableEq α] [DecidableEq β] [DecidableEq γ] [DecidableEq δ] [DecidableEq ε] [DecidableEq ζ]
def dP6 (d0 : RD K α) (d1 : RD K β) (d2 : RD K γ) (d3 : RD K δ) (d4 : RD K ε) (d5 : RD K ζ) : RD K (α × β × γ × δ × ε × ζ) := ⟨rP6 K d0.r d1.r d2.r d3.r d4.r d5.r, fun x => .tuple [d0.enc x.1, d1.enc x.2.1, d2.enc x.2.2.1, d3.enc x.2.2.2.1, d4.enc x.2.2.2.2.1, d5.enc x.2.2.2.2.2], d0.dep + d1.dep + d2.dep + d3.dep + d4.dep + d5.dep + 1, fun x => d0.ok x.1 && (d1.ok x.2.1 && (d2.ok x.2.2.1 && (d3.ok x.2.2.2.1 && (d4.ok x.2.2.2.2.1 && (d5.ok x.2.2.2.2.2))))),
  fun x h => by
    simp only [Bool.and_eq_true] at h
    show (PyData.canLay0 _ && (PyData.canLay0 _ && (PyData.canLay0 _ && (PyData.canLay0 _ && (PyData.canLay0 _ && (PyData.canLay0 _ && (true))))))) = true
    rw [d0.lay _ h.1, d1.lay _ h.2.1, d2.lay _ h.2.2.1, d3.lay _ h.2.2.2.1, d4.lay _ h.2.2.2.2.1, d5.lay _ h.2.2.2.2.2]; rfl,
  fun x => by
    have := d0.dpt x.1
    have := d1.dpt x.2.1
    have := d2.dpt x.2.2.1
    have := d3.dpt x.2.2.2.1
    have := d4.dpt x.2.2.2.2.1
    have := d5.dpt x.2.2.2.2.2
    simp only [PyData.depth, PyData.depthAll]; omega,
  fun {H v x} h => by
    obtain ⟨p, v0, v1, v2, v3, v4, v5, rfl, hs, h0, h1, h2, h3, h4, h5⟩ := h
    exact .tup hs (.cons (d0.dp h0) (.cons (d1.dp h1) (.cons (d2.dp h2) (.cons (d3.dp h3) (.cons (d4.dp h4) (.cons (d5.dp h5) (.nil))))))),
  fun x y => by
    obtain ⟨a0, a1, a2, a3, a4, a5⟩ := x
    obtain ⟨b0, b1, b2, b3, b4, b5⟩ := y
    show (PyData.eqv _ _ && (PyData.eqv _ _ && (PyData.eqv _ _ && (PyData.eqv _ _ && (PyData.eqv _ _ && (PyData.eqv _ _ && (true))))))) = _
    rw [d0.eqv, d1.eqv, d2.eqv, d3.eqv, d4.eqv, d5.eqv]
    simp only [Prod.mk.injEq, Bool.and_true, Bool.decide_and]⟩
theorem okP6 {d0 : RD K α} {d1 : RD K β} {d2 : RD K γ} {d3 : RD K δ} {d4 : RD K ε} {d5 : RD K ζ} (h0 : ∀ x, d0.ok x = true) (h1 : ∀ x, d1.ok x = true) (h2 : ∀ x, d2.ok x = true) (h3 : ∀ x, d3.ok x = true) (h4 : ∀ x, d4.ok x = true) (h5 : ∀ x, d5.ok x = true) : ∀ x, (dP6 d0 d1 d2 d3 d4 d5).ok x = true := fun x => by
  show (d0.ok x.1 && (d1.ok x.2.1 && (d2.ok x.2.2.1 && (d3.ok x.2.2.2.1 && (d4.ok x.2.2.2.2.1 && (d5.ok x.2.2.2.2.2)))))) = true
  rw [h0, h1, h2, h3, h4, h5]; rfl
end
end Mr

set_option Elab.async false
set_option linter.all false
set_option maxRecDepth 100000
set_option maxHeartbeats 2000000
/-! Mir2: lists that stand by themselves, None, one text or data, truth, +, comprehensions, stars. -/
namespace Mr
open PySem PySem.Spec PyProof.Rows L2
section
variable {α β : Type} {r : R α} {G G' H : Hp} {O : Own} {K : PySem.W.Frag} {v w : V} {vs ws : List V} {x : α} {xs ys zs : List α} {a : Addr} {Q : VK}
/-- a list that the program made -/
def rM (r : R α) : R (List α) := ⟨fun G v xs => ∃ p vs, v = .ref p ∧ G p = some (.lst vs) ∧ Al r G vs xs, fun e ⟨p, vs, h1, h2, h3⟩ => ⟨p, vs, h1, e _ _ h2, h3.up e⟩⟩
theorem rM_L (h : (rM r).rel G v xs) : (rL K r).rel G v xs := let ⟨p, vs, e, h, ha⟩ := h; ⟨p, vs, e, .inl (.inl h), ha⟩
theorem rM_Q (h : (rM r).rel G v xs) : (rQ K r).rel G v xs := rL_Q (rM_L h)
theorem frz_M (S : Sub G ((a, .lst vs) :: O) H) (h : Al r G vs xs) : ∃ G', Ext G G' ∧ Sub G' O H ∧ (rM r).rel G' (.ref a) xs :=
  ⟨_, S.extFrz, S.frz, a, vs, rfl, upd_same, h.up S.extFrz⟩
theorem rM_own (S : Sub G ((a, .lst vs) :: O) H) (h : Al r G vs xs) : (rM r).rel H (.ref a) xs := ⟨a, vs, rfl, S.head, h.up S.ext⟩
theorem q_slM {lo hi : Option Int} (S : Sub G O H) (h : (rL K r).rel G v xs) (q : ∀ w G' H', Ext G G' → Sub G' O H' → (rM r).rel G' w (cutM xs lo hi) → Q w H') : rSlL K v lo hi H Q := by
  obtain ⟨p, vs, rfl, hs, ha⟩ := h
  refine ⟨p, vs, rfl, sqL_up S.ext hs, fun t ht => q _ _ _ (S.extNew ht (.lst (cutV vs lo hi))) (S.new ht) ⟨t, _, rfl, upd_same, ?_⟩⟩
  exact (ha.up (S.extNew ht _)).cut
theorem q_listM (S : Sub G O H) (h : (rQ K r).rel G v xs) (q : ∀ u G' H', Ext G G' → Sub G' O H' → (rM r).rel G' u xs → Q u H') : rListOf K [v] H Q := by
  obtain ⟨p, vs, rfl, hs, ha⟩ := h
  exact ⟨p, vs, rfl, hs.imp (sqL_up S.ext) (sqT_up S.ext), fun l hl => q _ _ _ (S.extNew hl _) (S.new hl) ⟨l, vs, rfl, upd_same, ha.up (S.extNew hl _)⟩⟩
theorem q_listO {vs : List V} {a : Addr} (S : Sub G ((a, .lst vs) :: O) H) (h : Al r G vs xs) (q : ∀ u G' H', Ext G G' → Sub G' ((a, .lst vs) :: O) H' → (rM r).rel G' u xs → Q u H') : rListOf K [V.ref a] H Q :=
  ⟨a, vs, rfl, .inl (.inl (.inl S.head)), fun l hl => q _ _ _ (S.extNew hl _) (S.new hl) ⟨l, vs, rfl, upd_same, h.up (S.extNew hl _)⟩⟩
/-- a list as it stands now: its items by the frozen part -/
def LsAt (r : R α) (G H : Hp) (v : V) (xs : List α) : Prop := ∃ p vs, v = .ref p ∧ H p = some (.lst vs) ∧ Al r G vs xs
theorem ls_M (S : Sub G O H) (h : (rM r).rel G v xs) : LsAt r G H v xs := let ⟨p, vs, e, h, ha⟩ := h; ⟨p, vs, e, S.ext _ _ h, ha⟩
theorem ls_O (S : Sub G ((a, .lst vs) :: O) H) (h : Al r G vs xs) : LsAt r G H (.ref a) xs := ⟨a, vs, rfl, S.head, h⟩
theorem q_cat (S : Sub G O H) (h1 : LsAt r G H v xs) (h2 : LsAt r G H w ys) (e : catM xs ys = some zs) (q : ∀ u G' H', Ext G G' → Sub G' O H' → (rM r).rel G' u zs → Q u H') : rCat v w H Q := by
  obtain ⟨p, vs, rfl, h3, ha⟩ := h1
  obtain ⟨p2, ws, rfl, h4, hb⟩ := h2
  obtain ⟨c, rfl⟩ := catM_some e
  refine ⟨p, p2, vs, ws, rfl, rfl, h3, h4, sz (by rw [ha.len, hb.len]; exact c), fun t ht => q _ _ _ (S.extNew ht _) (S.new ht) ⟨t, _, rfl, upd_same, ?_⟩⟩
  exact (ha.app hb).up (S.extNew ht _)
/-- a tuple display, all places alike -/
theorem q_tupH (S : Sub G O H) (h : Al r G vs xs) (e : szM xs = some ys) (q : ∀ u G' H', Ext G G' → Sub G' O H' → (rT K r).rel G' u ys → Q u H') : mkTup vs H Q := by
  obtain ⟨c, rfl⟩ := szM_some e
  exact ⟨sz (by rw [h.len]; exact c), fun p hp => q _ _ _ (S.extNew hp _) (S.new hp) ⟨p, vs, rfl, .inl (.inl upd_same), h.up (S.extNew hp _)⟩⟩
theorem Al.snoc (h : Al r G vs xs) (hv : r.rel G v x) : Al r G (vs ++ [v]) (xs ++ [x]) := h.app ⟨hv, True.intro⟩
def mkStar (K : PySem.W.Frag) (t : TA) (σ : L2.St) (QA : List V → Hp → Prop) (x : V) (H : Hp) : Prop := ∃ p xs, x = V.ref p ∧ (SqT K H p xs ∨ SqL K H p xs) ∧ t σ H fun ys H2 => QA (xs ++ ys) H2
theorem gStar {te : TE} {t : TA} {σ : L2.St} {QA : List V → Hp → Prop} (h : te σ H (mkStar K t σ QA)) : StX.tStar K te t σ H QA := h
theorem q_starT {t : TA} {σ : L2.St} {QA : List V → Hp → Prop} (S : Sub G O H) (h : (rT K r).rel G v xs) (q : ∀ vs, Al r G vs xs → t σ H fun ys H2 => QA (vs ++ ys) H2) : mkStar K t σ QA v H := by
  obtain ⟨p, vs, rfl, hs, ha⟩ := h
  exact ⟨p, vs, rfl, .inl (sqT_up S.ext hs), q vs ha⟩

/-! ### None or data; one text or data -/
def rO (r : R α) : R (Option α) := ⟨fun G v x => match x with
  | none => v = .non
  | some y => v ≠ .non ∧ r.rel G v y, fun {G G' v x} e h => by
    cases x with
    | none => exact h
    | some y => exact ⟨h.1, r.mono e h.2⟩⟩
theorem rO_none : (rO r).rel G .non none := rfl
theorem rO_some (hn : v ≠ .non) (h : r.rel G v x) : (rO r).rel G v (some x) := ⟨hn, h⟩
theorem rO_get {o : Option α} (h : (rO r).rel G v o) (e : o = some x) : r.rel G v x := by subst e; exact h.2
theorem nn_T (h : (rT K r).rel G v xs) : v ≠ .non := by obtain ⟨p, vs, rfl, _⟩ := h; intro z; cases z
theorem nn_M (h : (rM r).rel G v xs) : v ≠ .non := by obtain ⟨p, vs, rfl, _⟩ := h; intro z; cases z
def rIsNon : R2 := fun x y H Q => y = .non ∧ Q (.bl (decide (x = .non))) H
def rIsNotNon : R2 := fun x y H Q => y = .non ∧ Q (.bl (!decide (x = .non))) H
theorem op_isNon {X : Cx} : OpR X (compareOp .Is) rIsNon := op_isN
theorem op_isNotNon {X : Cx} : OpR X (compareOp .IsNot) rIsNotNon := op_notN
theorem rO_dec {o : Option α} (h : (rO r).rel G v o) : decide (v = .non) = o.isNone := by
  cases o with
  | none => rw [show v = .non from h]; rfl
  | some y => rw [decide_eq_false h.1]; rfl
theorem q_isNon {o : Option α} (h : (rO r).rel G v o) (q : Q (.bl o.isNone) H) : rIsNon v .non H Q := ⟨rfl, by rw [rO_dec h]; exact q⟩
theorem q_isNotNon {o : Option α} (h : (rO r).rel G v o) (q : Q (.bl (!o.isNone)) H) : rIsNotNon v .non H Q := ⟨rfl, by rw [rO_dec h]; exact q⟩
/-- the text c, or data -/
def rA (c : Str) (r : R α) : R (Option α) := ⟨fun G v x => match x with
  | none => v = .str c
  | some y => r.rel G v y, fun {G G' v x} e h => by
    cases x with
    | none => exact h
    | some y => exact r.mono e h⟩
theorem rA_none {c : Str} : (rA c r).rel G (.str c) none := rfl
theorem rA_some {c : Str} (h : r.rel G v x) : (rA c r).rel G v (some x) := h
theorem rA_get {c : Str} {o : Option α} (h : (rA c r).rel G v o) (e : o = some x) : r.rel G v x := by subst e; exact h
end
section
variable {K : PySem.W.Frag} {α : Type} [DecidableEq α]
def dM (d : RD K α) : RD K (List α) := ⟨rM d.r, fun xs => .list (xs.map d.enc), d.dep + 1, fun xs => xs.all d.ok, fun xs h => lays d.lay xs h, fun xs => by have := deps d.dpt xs; simp only [PyData.depth]; omega,
  fun {H v x} h => by obtain ⟨p, vs, rfl, hs, ha⟩ := h; exact .lst (.inl (.inl hs)) (ha.dps d.dp), fun x y => eqvs d.eqv x y⟩
theorem okM {d : RD K α} (h : ∀ x, d.ok x = true) : ∀ xs, (dM d).ok xs = true := fun xs => List.all_eq_true.mpr fun x _ => h x
def isTupD : PyData → Bool
  | .tuple _ => true
  | _ => false
def dA (c : Str) (hc : PyData.strOk c = true) (d : RD K α) (ht : ∀ x, isTupD (d.enc x) = true) : RD K (Option α) := ⟨rA c d.r, fun x => match x with
    | none => .str c
    | some y => d.enc y, d.dep + 1, fun x => match x with
    | none => true
    | some y => d.ok y,
  fun x h => by
    cases x with
    | none => exact hc
    | some y => exact d.lay y h,
  fun x => by
    cases x with
    | none => simp [PyData.depth]
    | some y => exact Nat.le_succ_of_le (d.dpt y),
  fun {H v x} h => by
    cases x with
    | none => cases (show v = .str c from h); exact .str c
    | some y => exact d.dp h,
  fun x y => by
    cases x with
    | none =>
      cases y with
      | none =>
        show (c == c) = decide (none = none)
        simp
      | some y =>
        have h := ht y
        show PyData.eqv (.str c) (d.enc y) = _
        cases e : d.enc y with
        | tuple zs => rfl
        | _ => rw [e] at h; cases h
    | some x =>
      cases y with
      | none =>
        have h := ht x
        show PyData.eqv (d.enc x) (.str c) = _
        cases e : d.enc x with
        | tuple zs => rfl
        | _ => rw [e] at h; cases h
      | some y =>
        show PyData.eqv (d.enc x) (d.enc y) = _
        rw [d.eqv]
        by_cases e : x = y
        · subst e; simp
        · simp [e]⟩
theorem okA {c : Str} {hc : PyData.strOk c = true} {d : RD K α} {ht : ∀ x, isTupD (d.enc x) = true} (h : ∀ x, d.ok x = true) : ∀ x, (dA c hc d ht).ok x = true := fun x => by
  cases x with
  | none => rfl
  | some y => exact h y
def dO (d : RD K α) (ht : ∀ x, isTupD (d.enc x) = true) : RD K (Option α) := ⟨rO d.r, fun x => match x with
    | none => .none
    | some y => d.enc y, d.dep + 1, fun x => match x with
    | none => true
    | some y => d.ok y,
  fun x h => by
    cases x with
    | none => rfl
    | some y => exact d.lay y h,
  fun x => by
    cases x with
    | none => simp [PyData.depth]
    | some y => exact Nat.le_succ_of_le (d.dpt y),
  fun {H v x} h => by
    cases x with
    | none => cases (show v = .non from h); exact .non
    | some y => exact d.dp h.2,
  fun x y => by
    cases x with
    | none =>
      cases y with
      | none => rfl
      | some y =>
        have h := ht y
        show PyData.eqv .none (d.enc y) = _
        cases e : d.enc y with
        | tuple zs => rfl
        | _ => rw [e] at h; cases h
    | some x =>
      cases y with
      | none =>
        have h := ht x
        show PyData.eqv (d.enc x) .none = _
        cases e : d.enc x with
        | tuple zs => rfl
        | _ => rw [e] at h; cases h
      | some y =>
        show PyData.eqv (d.enc x) (d.enc y) = _
        rw [d.eqv]
        by_cases e : x = y
        · subst e; simp
        · simp [e]⟩
theorem okO {d : RD K α} {ht : ∀ x, isTupD (d.enc x) = true} (h : ∀ x, d.ok x = true) : ∀ x, (dO d ht).ok x = true := fun x => by
  cases x with
  | none => rfl
  | some y => exact h y
/-- a text out of a few: e: its encoding (one to one) -/
def rEn {α : Type} (e : α → Str) : R α := rSc fun x => V.str (e x)
def dEn (e : α → Str) (hi : ∀ x y, e x = e y → x = y) (ho : ∀ x, PyData.strOk (e x) = true) : RD K α := ⟨rEn e, fun x => .str (e x), 1, fun _ => true, fun x _ => ho x, fun _ => by simp [PyData.depth], fun {H v x} h => by cases (show v = .str (e x) from h); exact .str _, fun x y => by
  show (e x == e y) = decide (x = y)
  by_cases h : x = y
  · subst h; simp
  · rw [decide_eq_false h]
    exact beq_eq_false_iff_ne.mpr fun z => h (hi x y z)⟩
theorem okEn {e : α → Str} {hi : ∀ x y, e x = e y → x = y} {ho : ∀ x, PyData.strOk (e x) = true} : ∀ x, (dEn (K := K) e hi ho).ok x = true := fun _ => rfl
theorem en_dec {e : α → Str} (hi : ∀ x y, e x = e y → x = y) (x y : α) : decide (e x = e y) = decide (x = y) := by
  by_cases h : x = y
  · subst h; simp
  · rw [decide_eq_false h, decide_eq_false fun z => h (hi x y z)]
end

def rE0 {α : Type} (e : α → Str) (g : α → α → V) : R2 := fun x y H Q => ∃ i j, x = .str (e i) ∧ y = .str (e j) ∧ Q (g i j) H
theorem op_eqE {α : Type} [DecidableEq α] {X : Cx} {e : α → Str} (hi : ∀ x y, e x = e y → x = y) : OpR X (compareOp .Eq) (rE0 e fun i j => .bl (decide (i = j))) := fun pins s σ H x y v u Q I rx ry h => by
  obtain ⟨i, j, rfl, rfl, q⟩ := h
  exact op_eqS pins s σ H _ _ v u Q I rx ry ⟨_, _, rfl, rfl, by show Q (.bl (decide (e i = e j))) H; rw [en_dec hi]; exact q⟩
theorem op_neE {α : Type} [DecidableEq α] {X : Cx} {e : α → Str} (hi : ∀ x y, e x = e y → x = y) : OpR X (compareOp .NotEq) (rE0 e fun i j => .bl (!decide (i = j))) := fun pins s σ H x y v u Q I rx ry h => by
  obtain ⟨i, j, rfl, rfl, q⟩ := h
  exact op_neS pins s σ H _ _ v u Q I rx ry ⟨_, _, rfl, rfl, by show Q (.bl (!decide (e i = e j))) H; rw [en_dec hi]; exact q⟩

/-! ### truth -/
def tTruM (K : PySem.W.Frag) (ta : TE) : TT := fun σ H Q => ta σ H fun x H' => ∃ k, TruV K x H' k ∧ Q k H'
theorem pt_truM {X : Cx} {a : Expr} {ta : TE} (ha : PE X a ta) (he : ∀ whole, isTrue a X.env whole = (do let v ← whole; standAt a.pos; holding [v] (truthy v)) := by intro _; rfl) : PT X a (tTruM X.K ta) := pt_truth ha he
def truM (K : PySem.W.Frag) (x : V) (H : Hp) (Q : Bool → Hp → Prop) : Prop := ∃ k, TruV K x H k ∧ Q k H
section
variable {α : Type} {r : R α} {G H : Hp} {O : Own} {K : PySem.W.Frag} {v : V} {vs : List V} {xs : List α} {a : Addr} {QB : Bool → Hp → Prop}
theorem gTru {ta : TE} {σ : L2.St} (h : ta σ H fun x H' => truM K x H' QB) : tTruM K ta σ H QB := h
theorem emp_eq (h : Al r G vs xs) : (!vs.isEmpty) = !xs.isEmpty := by
  cases vs with
  | nil =>
    cases xs with
    | nil => rfl
    | cons y ys => exact h.elim
  | cons u us =>
    cases xs with
    | nil => exact h.elim
    | cons y ys => rfl
theorem q_truT (S : Sub G O H) (h : (rT K r).rel G v xs) (q : QB (!xs.isEmpty) H) : truM K v H QB := by
  obtain ⟨p, vs, rfl, hs, ha⟩ := h
  exact ⟨_, .inr (.inl ⟨vs, sqT_up S.ext hs, rfl⟩), by rw [emp_eq ha]; exact q⟩
theorem q_truL (S : Sub G O H) (h : (rL K r).rel G v xs) (q : QB (!xs.isEmpty) H) : truM K v H QB := by
  obtain ⟨p, vs, rfl, hs, ha⟩ := h
  exact ⟨_, .inl ⟨vs, sqL_up S.ext hs, rfl⟩, by rw [emp_eq ha]; exact q⟩
theorem q_truO (S : Sub G ((a, .lst vs) :: O) H) (h : Al r G vs xs) (q : QB (!xs.isEmpty) H) : truM K (.ref a) H QB :=
  ⟨_, .inl ⟨vs, .inl (.inl S.head), rfl⟩, by rw [emp_eq h]; exact q⟩
end

/-! ### list comprehensions: a fold whose last state part is the list so far -/
def PvF {α τ : Type} (f : τ → α → Option τ) (xs : List α) (s1 : τ) (I : τ → Hp → Prop) (i : Nat) : Hp → Prop := fun H => ∃ s, I s H ∧ folM f (xs.drop i) s = some s1
def LcW (g : TG) (tt : TT) (te : TE) (vs : List Nat) (σ : L2.St) (Q : VK) (J : It) (H1 : Hp) : Prop := ∀ D, H1 D = none → ∃ W : Nat → Nat → Hp → Prop, (∃ m, W 0 m (upd H1 D (.lst []))) ∧ ∀ i m H, W i m H →
  (J.stop i H ∧ Q (.ref D) H) ∨ (J.go i H ∧ ∃ Nx : Hp → Prop, (∀ H', Nx H' → ∃ m', m' < m ∧ W (i + 1) m' H') ∧ ∀ x H', J.yld i H x H' → g x (wipe σ vs) H' fun σ2 H2 => wipe σ2 vs = wipe σ vs ∧ tt σ2 H2 fun b H3 =>
    if b = true then te σ2 H3 fun y H4 => ∃ acc, H4 D = some (.lst acc) ∧ acc.length < sizeLine ∧ Nx (upd H4 D (.lst (acc ++ [y]))) else Nx H3)
theorem gLc {wi : TI} {g : TG} {tt : TT} {te : TE} {vs : List Nat} {σ : L2.St} {H : Hp} {Q : VK} (h : wi σ H (LcW g tt te vs σ Q)) : tLc wi g tt te vs σ H Q := h
/-- a turn's end: the element is kept -/
def lcEl (D : Addr) (Nx : Hp → Prop) (y : V) (H : Hp) : Prop := ∃ acc, H D = some (.lst acc) ∧ acc.length < sizeLine ∧ Nx (upd H D (.lst (acc ++ [y])))
def lcTurn (tt : TT) (te : TE) (vs : List Nat) (σ : L2.St) (D : Addr) (Nx : Hp → Prop) (σ2 : L2.St) (H2 : Hp) : Prop := wipe σ2 vs = wipe σ vs ∧ tt σ2 H2 fun b H3 => if b = true then te σ2 H3 (lcEl D Nx) else Nx H3
theorem gYes {σ : L2.St} {H : Hp} {QB : Bool → Hp → Prop} (h : QB true H) : tYes σ H QB := h
section
variable {α β τ : Type} {J : It} {n : Nat} {GW : Hp → Prop} {Y : Nat → Hp → V → Hp → Prop} {f : τ → α → Option τ} {xs : List α} {s0 s1 : τ} {g : TG} {tt : TT} {te : TE} {ws : List Nat} {σ : L2.St} {H : Hp} {Q : VK}
theorem lc_fol (w : Walk J n GW Y) (hn : xs.length = n) (hm : folM f xs s0 = some s1) (I : Addr → τ → Hp → Prop) (h0 : ∀ D, H D = none → I D s0 (upd H D (.lst []))) (hG : ∀ D s H, I D s H → GW H)
    (hs : ∀ (D : Addr) (i : Nat) (x : α) (s s' : τ), xs[i]? = some x → f s x = some s' → folM f (xs.drop (i + 1)) s' = some s1 → ∀ v H H', I D s H → Y i H v H' → g v (wipe σ ws) H' (lcTurn tt te ws σ D (PvF f xs s1 (I D) (i + 1))))
    (hd : ∀ D H, I D s1 H → Q (.ref D) H) : LcW g tt te ws σ Q J H := by
  intro D hD
  refine lc_it w (PvF f xs s1 (I D)) ⟨s0, h0 D hD, hm⟩ (fun i H _ ⟨s, hI, _⟩ => hG D s H hI) (fun i v H H' hi ⟨s, hI, hf⟩ hy => ?_) fun H ⟨s, hI, hf⟩ => ?_
  · have hx : xs[i]? = some xs[i] := List.getElem?_eq_getElem (by omega)
    obtain ⟨s', hb, hr⟩ := folM_drop hx hf
    exact hs D i _ s s' hx hb hr v H H' hI hy
  · rw [← hn, List.drop_length] at hf
    cases hf
    exact hd D H hI
variable {K : PySem.W.Frag} {G : Hp} {O : Own} {r : R α} {v : V} {vs : List V} {a : Addr}
theorem lc_L (S : Sub G O H) (h : (rL K r).rel G v xs) (hm : folM f xs s0 = some s1) (I : Addr → τ → Hp → Prop) (h0 : ∀ D, H D = none → I D s0 (upd H D (.lst []))) (hG : ∀ D s H, I D s H → Ext G H)
    (hs : ∀ (D : Addr) (i : Nat) (x : α) (s s' : τ), f s x = some s' → folM f (xs.drop (i + 1)) s' = some s1 → ∀ w H, I D s H → r.rel G w x → g w (wipe σ ws) H (lcTurn tt te ws σ D (PvF f xs s1 (I D) (i + 1))))
    (hd : ∀ D H, I D s1 H → Q (.ref D) H) : itL K v H (LcW g tt te ws σ Q) := by
  obtain ⟨p, vs, rfl, hq, ha⟩ := h
  refine ⟨p, rfl, ⟨vs, sqL_up S.ext hq⟩, lc_fol (walk_list (xs := vs)) ha.len.symm hm I h0 (fun D s H hI => sqL_up (hG D s H hI) hq) (fun D i x s s' hx hb hr w H H' hI hY => ?_) hd⟩
  obtain ⟨rfl, hw⟩ := hY
  exact hs D i x s s' hb hr w _ hI (ha.at hx hw)
theorem lc_T (S : Sub G O H) (h : (rT K r).rel G v xs) (hm : folM f xs s0 = some s1) (I : Addr → τ → Hp → Prop) (h0 : ∀ D, H D = none → I D s0 (upd H D (.lst []))) (hG : ∀ D s H, I D s H → Ext G H)
    (hs : ∀ (D : Addr) (i : Nat) (x : α) (s s' : τ), f s x = some s' → folM f (xs.drop (i + 1)) s' = some s1 → ∀ w H, I D s H → r.rel G w x → g w (wipe σ ws) H (lcTurn tt te ws σ D (PvF f xs s1 (I D) (i + 1))))
    (hd : ∀ D H, I D s1 H → Q (.ref D) H) : itT K v H (LcW g tt te ws σ Q) := by
  obtain ⟨p, vs, rfl, hq, ha⟩ := h
  refine ⟨p, rfl, ⟨vs, sqT_up S.ext hq⟩, lc_fol (walk_tup (xs := vs)) ha.len.symm hm I h0 (fun D s H hI => sqT_up (hG D s H hI) hq) (fun D i x s s' hx hb hr w H H' hI hY => ?_) hd⟩
  obtain ⟨rfl, hw⟩ := hY
  exact hs D i x s s' hb hr w _ hI (ha.at hx hw)
theorem lc_R {f : τ → Int → Option τ} {xs : List Int} {n : Int} (hx : rngM n = some xs) (hm : folM f xs s0 = some s1) (I : Addr → τ → Hp → Prop) (h0 : ∀ D, H D = none → I D s0 (upd H D (.lst [])))
    (hs : ∀ (D : Addr) (i : Nat) (x : Int) (s s' : τ), f s x = some s' → folM f (xs.drop (i + 1)) s' = some s1 → ∀ H, I D s H → g (.int x) (wipe σ ws) H (lcTurn tt te ws σ D (PvF f xs s1 (I D) (i + 1))))
    (hd : ∀ D H, I D s1 H → Q (.ref D) H) : itR [V.int n] H (LcW g tt te ws σ Q) := by
  obtain ⟨c, rfl⟩ := rngM_some hx
  refine ⟨n, rfl, c.1, c.2, lc_fol walk_range (by simp) hm I h0 (fun _ _ _ _ => True.intro) (fun D i x s s' hx hb hr w H H' hI hY => ?_) hd⟩
  obtain ⟨rfl, hw⟩ := hY
  have e : (0 : Int) + (i : Nat) = x := by
    rw [List.getElem?_map] at hx
    obtain ⟨k, h1, h2⟩ := Option.map_eq_some_iff.mp hx
    have := rng_at h1
    omega
  have e2 : w = .int x := by rw [hw, ← e]
  rw [e2]
  exact hs D i x s s' hb hr _ hI
theorem lc_R2 {f : τ → Int → Option τ} {xs : List Int} {lo n : Int} (hx : rng2M lo n = some xs) (hm : folM f xs s0 = some s1) (I : Addr → τ → Hp → Prop) (h0 : ∀ D, H D = none → I D s0 (upd H D (.lst [])))
    (hs : ∀ (D : Addr) (i : Nat) (x : Int) (s s' : τ), f s x = some s' → folM f (xs.drop (i + 1)) s' = some s1 → ∀ H, I D s H → g (.int x) (wipe σ ws) H (lcTurn tt te ws σ D (PvF f xs s1 (I D) (i + 1))))
    (hd : ∀ D H, I D s1 H → Q (.ref D) H) : itR2 [V.int lo, V.int n] H (LcW g tt te ws σ Q) := by
  obtain ⟨c, rfl⟩ := rng2M_some hx
  refine ⟨lo, n, rfl, c, lc_fol walk_range (by simp) hm I h0 (fun _ _ _ _ => True.intro) (fun D i x s s' hx hb hr w H H' hI hY => ?_) hd⟩
  obtain ⟨rfl, hw⟩ := hY
  have e : lo + (i : Nat) = x := by
    rw [List.getElem?_map] at hx
    obtain ⟨k, h1, h2⟩ := Option.map_eq_some_iff.mp hx
    have := rng_at h1
    omega
  have e2 : w = .int x := by rw [hw, ← e]
  rw [e2]
  exact hs D i x s s' hb hr _ hI
theorem lc_Eit {f : τ → Int × α → Option τ} {i1 i2 : Nat} {J : It} {vs : List V} (w : Walk J vs.length GW (YPair (fun i => some (.int (i : Nat))) (fun i => vs[i]?))) (ha : Al r G vs xs) (hm : folM f (enumM xs) s0 = some s1) (I : Addr → τ → Hp → Prop) (h0 : ∀ D, H D = none → I D s0 (upd H D (.lst []))) (hG : ∀ D s H, I D s H → GW H)
    (hs : ∀ (D : Addr) (i : Nat) (x : α) (s s' : τ), f s ((i : Int), x) = some s' → folM f ((enumM xs).drop (i + 1)) s' = some s1 → ∀ w H H', I D s H → (∀ G O, Sub G O H → Sub G O H') → r.rel G w x →
      lcTurn tt te ws σ D (PvF f (enumM xs) s1 (I D) (i + 1)) (((wipe σ ws).set i1 (some (.int (i : Int)))).set i2 (some w)) H')
    (hd : ∀ D H, I D s1 H → Q (.ref D) H) : LcW (gTup K 2 (gCons (gName i1) (gCons (gName i2) gNil))) tt te ws σ Q J H := by
  refine lc_fol w (by rw [enumM_length, ha.len]) hm I h0 hG (fun D i y s s' hx hb hr v H H' hI hY => ?_) hd
  rw [enumM_get] at hx
  obtain ⟨x, hx2, rfl⟩ := Option.map_eq_some_iff.mp hx
  obtain ⟨T, k, w, rfl, hT, rfl, hk, hw⟩ := hY
  cases hk
  exact ⟨T, _, rfl, .inl (.inl upd_same), rfl, _, _, rfl, _, _, rfl, rfl, hs D i x s s' hb hr w H _ hI (fun G O S => S.junk hT) (ha.at hx2 hw)⟩
theorem lc_EQ {f : τ → Int × α → Option τ} {i1 i2 : Nat} (S : Sub G O H) (h : (rQ K r).rel G v xs) (hm : folM f (enumM xs) s0 = some s1) (I : Addr → τ → Hp → Prop) (h0 : ∀ D, H D = none → I D s0 (upd H D (.lst []))) (hG : ∀ D s H, I D s H → Ext G H)
    (hs : ∀ (D : Addr) (i : Nat) (x : α) (s s' : τ), f s ((i : Int), x) = some s' → folM f ((enumM xs).drop (i + 1)) s' = some s1 → ∀ w H H', I D s H → (∀ G O, Sub G O H → Sub G O H') → r.rel G w x →
      lcTurn tt te ws σ D (PvF f (enumM xs) s1 (I D) (i + 1)) (((wipe σ ws).set i1 (some (.int (i : Int)))).set i2 (some w)) H')
    (hd : ∀ D H, I D s1 H → Q (.ref D) H) : itE K [v] H (LcW (gTup K 2 (gCons (gName i1) (gCons (gName i2) gNil))) tt te ws σ Q) := by
  obtain ⟨p, vs, rfl, hq, ha⟩ := h
  refine ⟨p, vs, rfl, ?_⟩
  rcases hq with hq | hq
  · exact .inl ⟨sqL_up S.ext hq, lc_Eit walk_enum ha hm I h0 (fun D s H hI => sqL_up (hG D s H hI) hq) hs hd⟩
  · exact .inr ⟨sqT_up S.ext hq, lc_Eit walk_enumT ha hm I h0 (fun D s H hI => sqT_up (hG D s H hI) hq) hs hd⟩
end
section
variable {α β τ : Type} {r : R β} {G H : Hp} {O : Own} {vs : List V} {D : Addr} {y : V} {b : β} {acc acc' : List β} {Nx : Hp → Prop}
theorem q_lcEl (S : Sub G ((D, .lst vs) :: O) H) (h : Al r G vs acc) (hy : r.rel G y b) (e : appM acc b = some acc') (q : ∀ H' w, Sub G ((D, .lst w) :: O) H' → Al r G w acc' → Nx H') : lcEl D Nx y H := by
  obtain ⟨c, rfl⟩ := appM_some e
  exact ⟨vs, S.head, szl (by rw [h.len]; exact c), q _ _ S.wr (h.snoc hy)⟩
end
end Mr

set_option Elab.async false
set_option linter.all false
set_option maxRecDepth 100000
/-! Mir3: chained comparisons, in. -/
namespace Mr
open PySem PySem.Spec PyProof.Rows L2
theorem ix_listK {X : Cx} {K : PySem.W.Frag} (h : X.K = K) : IxR X (rIxL K) := h ▸ ix_list
theorem ix_tupK {X : Cx} {K : PySem.W.Frag} (h : X.K = K) : IxR X (rIxT K) := h ▸ ix_tup
theorem call_lenK {X : Cx} {K : PySem.W.Frag} (h : X.K = K) : CallR X (.builtin "len") (rLenM K) := h ▸ call_lenM
theorem op_inDK {X : Cx} {K : PySem.W.Frag} (h : X.K = K) (hu : X.A.units + 65 < cLine) : OpR X (compareOp .In) (rInD K) := h ▸ op_inD hu
theorem op_notInDK {X : Cx} {K : PySem.W.Frag} (h : X.K = K) (hu : X.A.units + 65 < cLine) : OpR X (compareOp .NotIn) (rNotInD K) := h ▸ op_notInD hu
theorem op_eqDK {X : Cx} {K : PySem.W.Frag} (h : X.K = K) (hu : X.A.units + 64 < cLine) : OpR X (compareOp .Eq) (rEqD K) := h ▸ op_eqD hu
theorem op_neDK {X : Cx} {K : PySem.W.Frag} (h : X.K = K) (hu : X.A.units + 64 < cLine) : OpR X (compareOp .NotEq) (rNeD K) := h ▸ op_neD hu
theorem un65 {k : Nat} {A : Around} (r : Room k A) : A.units + 65 < cLine := by have := r.un; omega
section
variable {ta tb tc te : TE} {σ : L2.St} {H : Hp} {Q : VK} {QB : Bool → Hp → Prop}
theorem gChain {r r' : R2} (h : ta σ H fun x H1 => tb σ H1 fun y H2 => r x y H2 fun z H3 => ∃ k, z = .bl k ∧ (if k = true then tc σ H3 fun w' H4 => r' y w' H4 Q else Q (.bl false) H3)) : tChain r r' ta tb tc σ H Q := h
end
section
variable {K : PySem.W.Frag} {α : Type} [DecidableEq α] {H : Hp} {v w : V} {x : α} {xs : List α} {Q : VK}
theorem any_mem (d : RD K α) (x : α) : ∀ xs : List α, ((xs.map d.enc).any fun z => PyData.eqv z (d.enc x)) = decide (x ∈ xs)
  | [] => by simp
  | y :: ys => by
    rw [List.map_cons, List.any_cons, any_mem d x ys, d.eqv]
    by_cases h : y = x
    · subst h; simp
    · have h' : ¬ x = y := fun e => h e.symm
      simp [h, h']
theorem q_inD (d : RD K α) (hd : d.dep + 1 ≤ 64) (h1 : d.r.rel H v x) (h2 : (rM d.r).rel H w xs) (o1 : d.ok x = true) (o2 : xs.all d.ok = true) (q : Q (.bl (decide (x ∈ xs))) H) : rInD K v w H Q :=
  ⟨d.enc x, xs.map d.enc, d.dp h1, (dM d).dp h2, d.shaped (by omega) o1, (dM d).shaped hd o2, by rw [any_mem]; exact q⟩
theorem q_niD (d : RD K α) (hd : d.dep + 1 ≤ 64) (h1 : d.r.rel H v x) (h2 : (rM d.r).rel H w xs) (o1 : d.ok x = true) (o2 : xs.all d.ok = true) (q : Q (.bl (!decide (x ∈ xs))) H) : rNotInD K v w H Q :=
  ⟨d.enc x, xs.map d.enc, d.dp h1, (dM d).dp h2, d.shaped (by omega) o1, (dM d).shaped hd o2, by rw [any_mem]; exact q⟩
end
/-! ### while -/
def PvW {σ ρ : Type} (f : σ → Option (Bf σ ρ)) (res : Fl σ ρ) (I : σ → L2.St → Hp → Prop) (n : Nat) : L2.St → Hp → Prop := fun σ' H => ∃ s, I s σ' H ∧ whL f n s = some res
theorem lp_W {τ ρ : Type} {f : τ → Option (Bf τ ρ)} {N : Nat} {s0 : τ} {res : Fl τ ρ} {c : TT} {tb : TS} {D : Ends} {σ : L2.St} {H : Hp} (hm : whL f N s0 = some res) (I : τ → L2.St → Hp → Prop) (h0 : I s0 σ H)
    (hs : ∀ (n : Nat) (s : τ) (b : Bf τ ρ), f s = some b → conW f n b = some res → ∀ σ H, I s σ H →
      c σ H fun t H1 => if t = true then ∃ N : L2.St → Hp → Prop, (∀ σ' H', N σ' H' → ∃ m', m' < n + 1 ∧ PvW f res I m' σ' H') ∧ tb { D with nx := N, ct := N, bk := D.nx } σ H1 else D.nx σ H1) : tWhile c tb D σ H := by
  refine ⟨fun m => PvW f res I m, ⟨N, s0, h0, hm⟩, fun m σ H hW => ?_⟩
  obtain ⟨s, hI, hf⟩ := hW
  cases m with
  | zero => cases hf
  | succ n =>
    rw [whL_succ] at hf
    obtain ⟨b, hb, hc⟩ := bindS hf
    exact hs n s b hb hc σ H hI
theorem whGo {τ ρ : Type} {f : τ → Option (Bf τ ρ)} {res : Fl τ ρ} {I : τ → L2.St → Hp → Prop} {n : Nat} {tb : TS} {D : Ends} {σ : L2.St} {H1 : Hp} (h : tb { D with nx := PvW f res I n, ct := PvW f res I n, bk := D.nx } σ H1) :
    ∃ N : L2.St → Hp → Prop, (∀ σ' H', N σ' H' → ∃ m', m' < n + 1 ∧ PvW f res I m' σ' H') ∧ tb { D with nx := N, ct := N, bk := D.nx } σ H1 := ⟨_, fun _ _ h => ⟨n, Nat.lt_succ_self n, h⟩, h⟩
/-! ### in a tuple of ints -/
theorem inV_ints (x : Int) : ∀ (as : List Int), inV (.int x) (as.map V.int) = decide (x ∈ as)
  | [] => by simp [inV]
  | a :: as => by
    have ih := inV_ints x as
    unfold inV at ih ⊢
    rw [List.map_cons, List.any_cons, ih]
    have e : eqV (V.int a) (V.int x) = decide (a = x) := rfl
    rw [e]
    by_cases h : a = x
    · subst h; simp
    · have h' : ¬ x = a := fun q => h q.symm
      simp [h, h']
theorem flat_ints : ∀ (as : List Int), (as.map V.int).all flatV = true
  | [] => rfl
  | a :: as => by rw [List.map_cons, List.all_cons, flat_ints as]; rfl
theorem q_inT {K : PySem.W.Frag} {H : Hp} {x : Int} {p : Addr} {Q : VK} (as : List Int) (q : Q (.bl (decide (x ∈ as))) (upd H p (.tup (as.map V.int)))) : rIn K false (.int x) (.ref p) (upd H p (.tup (as.map V.int))) Q :=
  ⟨p, as.map V.int, rfl, .inr (.inl (.inl upd_same)), rfl, flat_ints as, by show Q (.bl (inV (.int x) (as.map V.int))) _; rw [inV_ints]; exact q⟩
/-! ### for over a list or a tuple -/
def iQ (K : PySem.W.Frag) (tl : TE) : TI := fun σ H R => tl σ H fun x H1 => ∃ a, x = .ref a ∧ (((∃ xs, SqL K H1 a xs) ∧ R (Itl K a) H1) ∨ ((∃ xs, SqT K H1 a xs) ∧ R (Itt K a) H1))
theorem pi_Q {X : Cx} {tg l : Expr} {tl : TE} (hl : PE X l tl) : PI X tg l (iQ X.K tl) := by
  refine ⟨fun pins s σ H R I h => ?_⟩
  refine thn (hl.run pins s σ H _ I h) fun v s1 ⟨x, H1, I1, r1, a, e, q1⟩ => ?_
  subst e
  cases r1
  have fr : ∀ b ∈ [s1.heap.objs.size], b = s1.heap.objs.size := fun b hb => by simpa using hb
  rcases q1 with ⟨⟨xs, hq⟩, q⟩ | ⟨⟨xs, hq⟩, q⟩
  · obtain ⟨its, rv, p, hz⟩ := I1.list hq
    exact wpAny_pyIter_list p.isList ⟨s1.heap.objs.size, [s1.heap.objs.size], _, _, H1, rfl, I1.kept (t' := s1.toks) fun b o e => Heap.get?_push_of_some _ e, turn_list a _, ⟨_, Heap.get?_push_size _ rfl, rfl, rfl⟩, fun b hb => by rw [fr b hb]; exact I1.fpOk (Nat.le_refl _) (I1.hok.fresh (Nat.le_refl _)), q⟩
  · obtain ⟨its, rv, p, hz⟩ := I1.tuple hq
    exact wpAny_pyIter_tuple (show s1.heap.IsTuple a its.toArray from p) ⟨s1.heap.objs.size, [s1.heap.objs.size], _, _, H1, rfl, I1.kept (t' := s1.toks) fun b o e => Heap.get?_push_of_some _ e, turn_tuple a _, ⟨_, Heap.get?_push_size _ rfl, rfl, rfl⟩, fun b hb => by rw [fr b hb]; exact I1.fpOk (Nat.le_refl _) (I1.hok.fresh (Nat.le_refl _)), q⟩
def itQ (K : PySem.W.Frag) (x : V) (H : Hp) (RI : It → Hp → Prop) : Prop := ∃ a, x = .ref a ∧ (((∃ xs, SqL K H a xs) ∧ RI (Itl K a) H) ∨ ((∃ xs, SqT K H a xs) ∧ RI (Itt K a) H))
theorem gIQ {K : PySem.W.Frag} {te : TE} {σ : L2.St} {H : Hp} {RI : It → Hp → Prop} (h : te σ H fun x H1 => itQ K x H1 RI) : iQ K te σ H RI := h
theorem lp_Q {α τ ρ : Type} {f : τ → α → Option (Bf τ ρ)} {xs : List α} {s0 : τ} {res : Fl τ ρ} {g : TG} {tb : TS} {D : Ends} {σ : L2.St} {H G : Hp} {K : PySem.W.Frag} {O : Own} {r : R α} {v : V} (S : Sub G O H) (h : (rQ K r).rel G v xs) (hm : forL f xs s0 = some res) (I : τ → L2.St → Hp → Prop) (h0 : I s0 σ H) (hG : ∀ s σ H, I s σ H → Ext G H)
    (hs : ∀ (i : Nat) (x : α) (s : τ) (b : Bf τ ρ), f s x = some b → conL f (xs.drop (i + 1)) b = some res → ∀ w σ H, I s σ H → r.rel G w x →
      g w σ H fun σ2 H2 => tb { D with nx := PvL f xs res I (i + 1), ct := PvL f xs res I (i + 1), bk := D.nx } σ2 H2)
    (hd : ∀ s σ H, res = .nx s → I s σ H → D.nx σ H) :
    itQ K v H (LpW g tb D σ) := by
  obtain ⟨p, vs, rfl, hq, ha⟩ := h
  rcases hq with hq | hq
  · obtain ⟨a, e, h1, h2⟩ := lp_L S ⟨p, vs, rfl, hq, ha⟩ hm I h0 hG hs hd
    exact ⟨a, e, .inl ⟨h1, h2⟩⟩
  · obtain ⟨a, e, h1, h2⟩ := lp_T S ⟨p, vs, rfl, hq, ha⟩ hm I h0 hG hs hd
    exact ⟨a, e, .inr ⟨h1, h2⟩⟩
/-! ### all, any of a list of bools -/
theorem q_all {K : PySem.W.Frag} {G H : Hp} {O : Own} {v : V} {xs : List Bool} {Q : VK} (S : Sub G O H) (h : (rM rBool).rel G v xs) (q : Q (.bl (xs.all id)) H) : rAll K [v] H Q := by
  obtain ⟨p, vs, rfl, hs, ha⟩ := h
  exact ⟨p, xs, rfl, by rw [← ha.sc]; exact .inl (.inl (S.ext _ _ hs)), q⟩
theorem q_any {K : PySem.W.Frag} {G H : Hp} {O : Own} {v : V} {xs : List Bool} {Q : VK} (S : Sub G O H) (h : (rM rBool).rel G v xs) (q : Q (.bl (xs.any id)) H) : rAny K [v] H Q := by
  obtain ⟨p, vs, rfl, hs, ha⟩ := h
  exact ⟨p, xs, rfl, by rw [← ha.sc]; exact .inl (.inl (S.ext _ _ hs)), q⟩
end Mr

set_option Elab.async false
set_option linter.all false
set_option maxRecDepth 100000
set_option maxHeartbeats 2000000
/-! Mir4: slices of owned lists, xs[::-1], max(xs), is None, is of bools, properties. -/
namespace Mr
open PySem PySem.Spec PyProof.Rows L2
section
variable {α β γ δ : Type} {r : R α} {G G' H : Hp} {O : Own} {K : PySem.W.Frag} {v w : V} {vs : List V} {x : α} {xs ys : List α} {a : Addr} {Q : VK} {σ : L2.St}
theorem Al.rev : ∀ {vs : List V} {xs : List α}, Al r G vs xs → Al r G vs.reverse xs.reverse
  | [], [], _ => True.intro
  | v :: vs, x :: xs, h => by
    rw [List.reverse_cons, List.reverse_cons]
    exact (Al.rev h.2).app ⟨h.1, True.intro⟩
  | [], _ :: _, h => h.elim
  | _ :: _, [], h => h.elim
theorem q_slO {lo hi : Option Int} (S : Sub G ((a, .lst vs) :: O) H) (h : Al r G vs xs) (q : ∀ w G' H', Ext G G' → Sub G' ((a, .lst vs) :: O) H' → (rM r).rel G' w (cutM xs lo hi) → Q w H') : rSlL K (.ref a) lo hi H Q := by
  refine ⟨a, vs, rfl, .inl (.inl S.head), fun t ht => q _ _ _ (S.extNew ht (.lst (cutV vs lo hi))) (S.new ht) ⟨t, _, rfl, upd_same, ?_⟩⟩
  exact (h.up (S.extNew ht _)).cut
/-- an owned list is lent -/
theorem Sub.thaw {G2 H2 : Hp} {o : HO} (S : Sub G ((a, o) :: O) H) (e : Ext (upd G a o) G2) (S2 : Sub G2 O H2) : Sub G ((a, o) :: O) H2 := by
  have h0 : Ext G G2 := S.extFrz.trans e
  refine ⟨h0.trans S2.ext, fun q hq => ?_, S.nd⟩
  rcases List.mem_cons.mp hq with rfl | hq
  · exact ⟨S2.ext _ _ (e _ _ upd_same), S.ghead⟩
  · obtain ⟨h1, h2⟩ := S2.own q hq
    refine ⟨h1, ?_⟩
    cases hg : G q.1 with
    | none => rfl
    | some u => rw [h0 _ _ hg] at h2; cases h2
theorem rM_lent (S : Sub G ((a, .lst vs) :: O) H) (h : Al r G vs xs) : (rM r).rel (upd G a (.lst vs)) (.ref a) xs := ⟨a, vs, rfl, upd_same, h.up S.extFrz⟩
def mkRev (K : PySem.W.Frag) (x : V) (H1 : Hp) (Q : VK) : Prop := ∃ a xs, x = .ref a ∧ SqL K H1 a xs ∧ ∀ p, H1 p = none → Q (.ref p) (upd H1 p (.lst xs.reverse))
theorem pe_revLK {X : Cx} {K : PySem.W.Frag} {e : Expr} {te : TE} {k : Nat} {p1 p2 p3 pos : Pos} (h : X.K = K) (he : PE X e te) : PE X (.Subscript e (.Slice none none (some (.UnaryOp .USub (.Constant (.int 1) k p1) p2)) p3) pos) (tRevL K te) := h ▸ pe_revL he
theorem gRevL {te : TE} (h : te σ H fun x H1 => mkRev K x H1 Q) : tRevL K te σ H Q := h
theorem q_rev (S : Sub G O H) (h : (rL K r).rel G v xs) (q : ∀ w G' H', Ext G G' → Sub G' O H' → (rM r).rel G' w xs.reverse → Q w H') : mkRev K v H Q := by
  obtain ⟨p, vs, rfl, hs, ha⟩ := h
  exact ⟨p, vs, rfl, sqL_up S.ext hs, fun t ht => q _ _ _ (S.extNew ht _) (S.new ht) ⟨t, _, rfl, upd_same, (ha.up (S.extNew ht _)).rev⟩⟩
theorem q_revO (S : Sub G ((a, .lst vs) :: O) H) (h : Al r G vs xs) (q : ∀ w G' H', Ext G G' → Sub G' ((a, .lst vs) :: O) H' → (rM r).rel G' w xs.reverse → Q w H') : mkRev K (.ref a) H Q :=
  ⟨a, vs, rfl, .inl (.inl S.head), fun t ht => q _ _ _ (S.extNew ht _) (S.new ht) ⟨t, _, rfl, upd_same, (h.up (S.extNew ht _)).rev⟩⟩
theorem q_max {ns : List Int} {m : Int} (S : Sub G O H) (h : (rL K rInt).rel G v ns) (hm : maxM ns = some m) (q : Q (.int m) H) : rMax K [v] H Q := by
  obtain ⟨p, vs, rfl, hs, ha⟩ := h
  have hv := Al.sc ha
  subst hv
  obtain ⟨h1, h2, h3⟩ := maxM_some hm
  refine ⟨p, ns, rfl, sqL_up S.ext hs, h3, fun m' h1' h2' => ?_⟩
  rw [max_uniq ⟨h1', h2'⟩ ⟨h1, h2⟩]; exact q
theorem gProp {C : Addr} {sp : Sp} {dvs : List V} {E : XK} {ta : TE} (h : ta σ H fun x H1 => ∃ a dx fs, x = .ref a ∧ H1 a = some (.ins C dx fs) ∧ sp (.ref a :: dvs) H1 Q E) : tProp C sp dvs E ta σ H Q := h
end
/-! ### conversions of nested data -/
section
variable {α : Type} {r r' : R α} {K : PySem.W.Frag} {G : Hp} {v : V} {xs : List α}
theorem Al.imp (f : ∀ v x, r.rel G v x → r'.rel G v x) : ∀ {vs : List V} {xs : List α}, Al r G vs xs → Al r' G vs xs
  | [], [], _ => True.intro
  | _ :: _, _ :: _, h => ⟨f _ _ h.1, Al.imp f h.2⟩
  | [], _ :: _, h => h.elim
  | _ :: _, [], h => h.elim
theorem cv_MQ (f : ∀ v x, r.rel G v x → r'.rel G v x) (h : (rM r).rel G v xs) : (rQ K r').rel G v xs := let ⟨p, vs, e, h, ha⟩ := h; ⟨p, vs, e, .inl (.inl (.inl h)), ha.imp f⟩
theorem cv_LQ (f : ∀ v x, r.rel G v x → r'.rel G v x) (h : (rL K r).rel G v xs) : (rQ K r').rel G v xs := let ⟨p, vs, e, h, ha⟩ := h; ⟨p, vs, e, .inl h, ha.imp f⟩
theorem cv_TQ (f : ∀ v x, r.rel G v x → r'.rel G v x) (h : (rT K r).rel G v xs) : (rQ K r').rel G v xs := let ⟨p, vs, e, h, ha⟩ := h; ⟨p, vs, e, .inr h, ha.imp f⟩
theorem cv_QQ (f : ∀ v x, r.rel G v x → r'.rel G v x) (h : (rQ K r).rel G v xs) : (rQ K r').rel G v xs := let ⟨p, vs, e, h, ha⟩ := h; ⟨p, vs, e, h, ha.imp f⟩
theorem cv_ML (f : ∀ v x, r.rel G v x → r'.rel G v x) (h : (rM r).rel G v xs) : (rL K r').rel G v xs := let ⟨p, vs, e, h, ha⟩ := h; ⟨p, vs, e, .inl (.inl h), ha.imp f⟩
theorem cv_LL (f : ∀ v x, r.rel G v x → r'.rel G v x) (h : (rL K r).rel G v xs) : (rL K r').rel G v xs := let ⟨p, vs, e, h, ha⟩ := h; ⟨p, vs, e, h, ha.imp f⟩
end
end Mr

set_option Elab.async false
set_option linter.all false
set_option maxRecDepth 100000
set_option maxHeartbeats 1000000
/-! GenFr: code that is run leaves the generators that sleep as they are, if it runs well where none of them can be woken. -/
namespace GFr
open PySem
open Sem (wp)
/-- one that sleeps and can't be woken; it looks the same -/
def stk : GenState → GenState
  | .suspended _ l c p fs cl => .suspended (fun _ => .unsupported "asleep") l c p fs cl
  | x => x
def isSus : GenState → Bool
  | .suspended .. => true
  | _ => false
abbrev nog (fs : List Frame) : Prop := splitAtGen fs = none
def nogS : GenState → Prop
  | .suspended _ _ _ _ fs _ => nog fs
  | _ => True
def nogE : End → Prop
  | .susp _ _ _ _ _ _ fs => nog fs
  | _ => True
theorem nog_ret {k h g l c p kp fs} (x : nog (.ret k h g l c p kp :: fs)) : nog fs := by
  have y : (splitAtGen fs).map _ = none := x
  exact Option.map_eq_none_iff.mp y
theorem nog_cons {k h g l c p kp fs} (x : nog fs) : nog (.ret k h g l c p kp :: fs) := by
  show (splitAtGen fs).map _ = none
  rw [show splitAtGen fs = none from x]; rfl
theorem nog_app : ∀ {a b : List Frame}, nog a → nog b → nog (a ++ b)
  | [], _, _, h => h
  | .ret .. :: a, b, h1, h2 => nog_cons (nog_app (nog_ret h1) h2)
  | .gen .. :: a, b, h1, _ => by cases (show some _ = none from h1)
theorem seen_stk (x : GenState) : (stk x).seen = x.seen := by cases x <;> rfl
theorem bare_stk (x : GenState) : (stk x).bare = x.bare := by cases x <;> rfl
theorem nogS_gen {e : End} (h : nogE e) : nogS e.genState := by
  cases e with
  | ret r => exact True.intro
  | susp v g l k c p fs => exact h
abbrev Pt := Nat → Option GenState
def pat (P : Pt) (s : Shared) : Shared := { s with gens := s.gens.mapIdx fun j x => (P j).getD x }
structure Ok (P : Pt) (s : Shared) : Prop where
  st : ∀ j gs, P j = some gs → isSus gs = true ∧ s.gens[j]? = some (stk gs)
  fr : ∀ j x, P j = none → s.gens[j]? = some x → nogS x
section
variable {P : Pt} {s : Shared} {g : Nat} {x : GenState}
theorem pat_get : (pat P s).gens[g]? = (s.gens[g]?).map fun x => (P g).getD x := by
  simp [pat]
theorem Ok.none_of (o : Ok P s) (h : s.gens[g]? = some x) (hx : isSus x = false) : P g = none := by
  cases e : P g with
  | none => rfl
  | some gs =>
    obtain ⟨h1, h2⟩ := o.st g gs e
    rw [h] at h2
    cases gs <;> simp_all [isSus, stk]
theorem pat_at (hp : P g = none) (h : s.gens[g]? = some x) : (pat P s).gens[g]? = some x := by
  rw [pat_get, h, hp]; rfl
theorem pat_set (hp : P g = none) : (pat P s).setGen g x = pat P (s.setGen g x) := by
  unfold pat Shared.setGen
  congr 1
  refine Array.ext_getElem? fun j => ?_
  simp only [Array.getElem?_setIfInBounds, Array.getElem?_mapIdx, Array.size_mapIdx]
  by_cases hj : g = j
  · subst hj
    by_cases hl : g < s.gens.size
    · simp [hl, hp]
    · simp [hl]
  · simp [hj]
theorem Ok.set (o : Ok P s) (hp : P g = none) (hx : nogS x) : Ok P (s.setGen g x) := by
  refine ⟨fun j gs e => ?_, fun j y e h => ?_⟩
  · obtain ⟨h1, h2⟩ := o.st j gs e
    refine ⟨h1, ?_⟩
    have hj : g ≠ j := fun z => by rw [z, e] at hp; cases hp
    simp only [Shared.setGen, Array.getElem?_setIfInBounds, hj, if_false]
    exact h2
  · simp only [Shared.setGen, Array.getElem?_setIfInBounds] at h
    by_cases hj : g = j
    · subst hj
      rw [if_pos rfl] at h
      split at h
      · cases h; exact hx
      · cases h
    · rw [if_neg hj] at h
      exact o.fr j y e h
theorem Ok.free (o : Ok P s) : P s.gens.size = none := by
  cases e : P s.gens.size with
  | none => rfl
  | some gs =>
    obtain ⟨_, h2⟩ := o.st _ gs e
    simp at h2
theorem pat_push (o : Ok P s) {c : Code} : pat P { s with gens := s.gens.push (.fresh c) } = { pat P s with gens := (pat P s).gens.push (.fresh c) } := by
  have hf := o.free
  unfold pat
  congr 1
  refine Array.ext_getElem? fun j => ?_
  simp only [Array.getElem?_mapIdx, Array.getElem?_push, Array.size_mapIdx]
  by_cases hj : j = s.gens.size
  · subst hj; simp [hf]
  · simp [hj]
theorem pat_size : (pat P s).gens.size = s.gens.size := by simp [pat]
theorem Ok.push (o : Ok P s) {c : Code} : Ok P { s with gens := s.gens.push (.fresh c) } := by
  refine ⟨fun j gs e => ?_, fun j y e h => ?_⟩
  · obtain ⟨h1, h2⟩ := o.st j gs e
    refine ⟨h1, ?_⟩
    have hl : j < s.gens.size := (Array.getElem?_eq_some_iff.mp h2).1
    simp only [Array.getElem?_push]
    rw [if_neg (Nat.ne_of_lt hl)]; exact h2
  · simp only [Array.getElem?_push] at h
    split at h
    · cases h; exact True.intro
    · exact o.fr j y e h
end
theorem no_unsup {M : Model} {Γ : Ctx} {p : Pos} {w : String} {fs : List Frame} {s s' : Shared} {e : End} (h : Runs M Γ p (.unsupported w) fs s e s') : False := by
  generalize ht : (Sem.unsupported w : Sem PySem.Fin) = t at h
  induction h <;> first | (cases ht; done) | (subst ht; simp_all)
theorem gs_step {M : Model} {P : Pt} {Γ : Ctx} {p : Pos} {s s' : Shared} {e : End} {g : Nat} {st : GenState} {k : GenStatus × Option (List (Code × Pos)) → Sem PySem.Fin} (o : Ok P s) (hg : s.gens[g]? = some st)
    (c : Runs M Γ p (k st.seen) [] (pat P s) e (pat P s')) : Runs M Γ p (.genState g k) [] (pat P s) e (pat P s') := by
  cases hp : P g with
  | none => exact .genState (pat_at hp hg) c
  | some gs =>
    obtain ⟨_, h2⟩ := o.st g gs hp
    rw [hg] at h2
    cases h2
    rw [seen_stk] at c
    exact .genState (by rw [pat_get, hg, hp]; rfl) c
theorem sim {M : Model} {P : Pt} {Γ : Ctx} {p : Pos} {t : Sem PySem.Fin} {fs : List Frame} {s s' : Shared} {e : End} (h : Runs M Γ p t fs s e s') :
    Ok P s → nog fs → Ok P s' ∧ nogE e ∧ Runs M Γ p t fs (pat P s) e (pat P s') := by
  induction h with
  | done => exact fun o _ => ⟨o, True.intro, .done⟩
  | raise => exact fun o _ => ⟨o, True.intro, .raise⟩
  | again hq _ ih => exact fun o n => let ⟨a, b, c⟩ := ih o n; ⟨a, b, .again hq c⟩
  | rule _ ih => exact fun o n => let ⟨a, b, c⟩ := ih o n; ⟨a, b, .rule c⟩
  | «at» _ ih => exact fun o n => let ⟨a, b, c⟩ := ih o n; ⟨a, b, .at c⟩
  | load ho _ ih => exact fun o n => let ⟨a, b, c⟩ := ih o n; ⟨a, b, .load ho c⟩
  | update ho _ ih => exact fun o n => let ⟨a, b, c⟩ := ih ⟨o.st, o.fr⟩ n; ⟨a, b, .update ho c⟩
  | loadIfAlive _ ih => exact fun o n => let ⟨a, b, c⟩ := ih o n; ⟨a, b, .loadIfAlive c⟩
  | point _ ih => exact fun o n => let ⟨a, b, c⟩ := ih o n; ⟨a, b, .point c⟩
  | alloc _ ih => exact fun o n => let ⟨a, b, c⟩ := ih ⟨o.st, o.fr⟩ n; ⟨a, b, .alloc c⟩
  | fresh _ ih => exact fun o n => let ⟨a, b, c⟩ := ih ⟨o.st, o.fr⟩ n; ⟨a, b, .fresh c⟩
  | ask _ ih => exact fun o n => let ⟨a, b, c⟩ := ih o n; ⟨a, b, .ask c⟩
  | choose hn _ ih => exact fun o n => let ⟨a, b, c⟩ := ih ⟨o.st, o.fr⟩ n; ⟨a, b, .choose hn c⟩
  | os _ ih => exact fun o n => let ⟨a, b, c⟩ := ih ⟨o.st, o.fr⟩ n; ⟨a, b, .os c⟩
  | handled _ ih => exact fun o n => let ⟨a, b, c⟩ := ih o n; ⟨a, b, .handled c⟩
  | genState hg _ ih =>
    intro o n
    obtain ⟨a, b, c⟩ := ih o n
    refine ⟨a, b, ?_⟩
    exact gs_step o hg c
  | stack _ ih => exact fun o n => let ⟨a, b, c⟩ := ih o n; ⟨a, b, .stack c⟩
  | thread _ ih => exact fun o n => let ⟨a, b, c⟩ := ih o n; ⟨a, b, .thread c⟩
  | newGen _ ih =>
    intro o n
    obtain ⟨a, b, c⟩ := ih o.push n
    rw [pat_push o] at c
    refine ⟨a, b, .newGen ?_⟩
    rw [pat_size]; exact c
  | call _ _ ih1 ih2 =>
    intro o n
    obtain ⟨a, _, c⟩ := ih1 o rfl
    obtain ⟨a2, b2, c2⟩ := ih2 a n
    exact ⟨a2, b2, .call c c2⟩
  | callSusp _ ih =>
    intro o n
    obtain ⟨a, b, c⟩ := ih o rfl
    exact ⟨a, nog_app b (nog_cons rfl), .callSusp c⟩
  | yield => exact fun o _ => ⟨o, rfl, .yield⟩
  | resumeFresh hg _ hq _ ih1 ih2 =>
    intro o n
    have hp := o.none_of hg rfl
    obtain ⟨a, b, c⟩ := ih1 (o.set hp True.intro) rfl
    obtain ⟨a2, b2, c2⟩ := ih2 (a.set hp (nogS_gen b)) n
    rw [← pat_set hp] at c c2
    exact ⟨a2, b2, .resumeFresh (pat_at hp hg) c hq c2⟩
  | @resumeSuspended Γ p g r l k s k₀ l₀ c₀ p₀ fs cl e₁ s₁ e s' hg h1 hq _ ih1 ih2 =>
    intro o n
    cases hp : P g with
    | none =>
      have hn : nog fs := o.fr g _ hp hg
      obtain ⟨a, b, c⟩ := ih1 (o.set hp True.intro) hn
      obtain ⟨a2, b2, c2⟩ := ih2 (a.set hp (nogS_gen b)) n
      rw [← pat_set hp] at c c2
      exact ⟨a2, b2, .resumeSuspended (pat_at hp hg) c hq c2⟩
    | some gs =>
      obtain ⟨h3, h2⟩ := o.st g gs hp
      rw [hg] at h2
      cases gs with
      | suspended k1 l1 c1 p1 fs1 cl1 =>
        have e := Option.some.inj h2
        injection e with e1
        rw [e1] at h1
        exact (no_unsup h1).elim
      | _ => cases h3
  | resumeJustStarted hg hv _ ih =>
    intro o n
    obtain ⟨a, b, c⟩ := ih o n
    exact ⟨a, b, .resumeJustStarted (pat_at (o.none_of hg rfl) hg) hv c⟩
  | resumeThrowFresh hg _ ih =>
    intro o n
    have hp := o.none_of hg rfl
    obtain ⟨a, b, c⟩ := ih (o.set hp True.intro) n
    rw [← pat_set hp] at c
    exact ⟨a, b, .resumeThrowFresh (pat_at hp hg) c⟩
  | resumeRunning hg _ ih =>
    intro o n
    obtain ⟨a, b, c⟩ := ih o n
    exact ⟨a, b, .resumeRunning (pat_at (o.none_of hg rfl) hg) c⟩
  | resumeFinished hg _ ih =>
    intro o n
    obtain ⟨a, b, c⟩ := ih o n
    exact ⟨a, b, .resumeFinished (pat_at (o.none_of hg rfl) hg) c⟩
  | segRet _ _ ih1 ih2 =>
    intro o n
    obtain ⟨a, _, c⟩ := ih1 o rfl
    obtain ⟨a2, b2, c2⟩ := ih2 a (nog_ret n)
    exact ⟨a2, b2, .segRet c c2⟩
  | segGen => exact fun _ n => by cases (show some _ = none from n)
  | segSuspOut hs _ ih =>
    intro o n
    obtain ⟨a, b, c⟩ := ih o rfl
    exact ⟨a, nog_app b n, .segSuspOut hs c⟩
  | segSuspGen hs => exact fun _ n => by rw [show splitAtGen _ = none from n] at hs; cases hs
/-- the same of what is wanted behind a term -/
theorem wp_fr {α : Type} (M : Model) (Γ : Ctx) (P : Pt) (t : Sem α) : ∀ (Q : α → Pos → Shared → Prop) (E : Value → Pos → Shared → Prop) (p : Pos) (s : Shared), Ok P s → wp M Γ t Q E p s →
    wp M Γ t (fun a p' s' => ∃ z, Ok P z ∧ s' = pat P z ∧ Q a p' z) (fun x p' s' => ∃ z, Ok P z ∧ s' = pat P z ∧ E x p' z) p (pat P s) := by
  induction t with
  | pure a => exact fun Q E p s o h => ⟨s, o, rfl, h⟩
  | raise e => exact fun Q E p s o h => ⟨s, o, rfl, h⟩
  | unsupported _ => exact fun Q E p s _ h => h
  | finish _ => exact fun Q E p s _ h => h
  | rule _ k ih => exact fun Q E p s o h => ih () Q E p s o h
  | «at» p' k ih => exact fun Q E p s o h => ih () Q E p' s o h
  | load a _ k ih => exact fun Q E p s o ⟨ob, ho, h⟩ => ⟨ob, ho, ih ob Q E p s o h⟩
  | update a _ f k ih => exact fun Q E p s o h => ⟨h.1, ih () Q E p { s with heap := s.heap.update a f } ⟨o.st, o.fr⟩ h.2⟩
  | loadIfAlive a k ih => exact fun Q E p s o h => ih _ Q E p s o h
  | point _ k ih => exact fun Q E p s o h => ih () Q E p s o h
  | register _ _ => exact fun Q E p s _ h => h
  | alloc ob k ih => exact fun Q E p s o h => ih s.heap.objs.size Q E p { s with heap := s.heap.push ob } ⟨o.st, o.fr⟩ h
  | fresh k ih => exact fun Q E p s o h => ih s.toks Q E p { s with toks := s.toks + 1 } ⟨o.st, o.fr⟩ h
  | ask k ih => exact fun Q E p s o h => ih _ Q E p s o h
  | choose src m k ih => exact fun Q E p s o h => ⟨h.1, ih (M.w.draws src (s.drawn.get src) % m) Q E p { s with drawn := s.drawn.bump src } ⟨o.st, o.fr⟩ h.2⟩
  | os q _ k ih => exact fun Q E p s o h => ih (Os.step s.os q).2 Q E p { s with os := (Os.step s.os q).1 } ⟨o.st, o.fr⟩ h
  | call c hd _ _ k ih =>
    intro Q E p s o h
    obtain ⟨r, s', hr, h⟩ := h
    obtain ⟨a, _, c'⟩ := sim hr o rfl
    exact ⟨r, pat P s', c', ih r Q E p s' a h⟩
  | handled own k ih => exact fun Q E p s o h => ih _ Q E p s o h
  | genState g k ih =>
    intro Q E p s o h
    obtain ⟨st, hs, h⟩ := h
    have h' := ih _ Q E p s o h
    cases hp : P g with
    | none => exact ⟨st, pat_at hp hs, h'⟩
    | some gs =>
      obtain ⟨_, h2⟩ := o.st g gs hp
      rw [hs] at h2
      cases h2
      rw [seen_stk] at h'
      exact ⟨gs, by rw [pat_get, hs, hp]; rfl, h'⟩
  | newGen c k ih =>
    intro Q E p s o h
    have h' := ih _ Q E p _ o.push h
    rw [pat_push o] at h'
    show wp M Γ (k (pat P s).gens.size) _ _ p _
    rw [pat_size]; exact h'
  | resume g r _ k ih =>
    intro Q E p s o h
    obtain ⟨res, s', hw, h⟩ := h
    suffices x : Ok P s' ∧ Wakes M Γ p g r (pat P s) res (pat P s') from ⟨res, pat P s', x.2, ih res Q E p s' x.1 h⟩
    cases hg : s.gens[g]? with
    | none =>
      unfold Wakes at hw
      rw [hg] at hw
      exact hw.elim
    | some st =>
      unfold Wakes at hw ⊢
      rw [hg] at hw
      cases st with
      | fresh c =>
        have hp := o.none_of hg rfl
        rw [pat_at hp hg]
        dsimp only at hw ⊢
        split at hw
        · obtain ⟨e₁, s₁, hr, hq, h1, rfl⟩ := hw
          obtain ⟨a, b, c'⟩ := sim hr (o.set hp True.intro) rfl
          rw [← pat_set hp] at c'
          exact ⟨a.set hp (nogS_gen b), e₁, _, c', hq, h1, (pat_set hp).symm⟩
        · obtain ⟨h1, rfl⟩ := hw
          exact ⟨o, h1, rfl⟩
        · obtain ⟨h1, rfl⟩ := hw
          exact ⟨o.set hp True.intro, h1, (pat_set hp).symm⟩
      | suspended k₀ l₀ c₀ p₀ fs cl =>
        cases hp : P g with
        | none =>
          rw [pat_at hp hg]
          dsimp only at hw ⊢
          obtain ⟨e₁, s₁, hr, hq, h1, rfl⟩ := hw
          obtain ⟨a, b, c'⟩ := sim hr (o.set hp True.intro) (o.fr g _ hp hg)
          rw [← pat_set hp] at c'
          exact ⟨a.set hp (nogS_gen b), e₁, _, c', hq, h1, (pat_set hp).symm⟩
        | some gs =>
          obtain ⟨h3, h2⟩ := o.st g gs hp
          rw [hg] at h2
          obtain ⟨e₁, s₁, hr, _⟩ := hw
          cases gs with
          | suspended k1 l1 c1 p1 fs1 cl1 =>
            have e := Option.some.inj h2
            injection e with e1
            rw [e1] at hr
            exact (no_unsup hr).elim
          | _ => cases h3
      | running =>
        rw [pat_at (o.none_of hg rfl) hg]
        dsimp only at hw ⊢
        obtain ⟨h1, rfl⟩ := hw
        exact ⟨o, h1, rfl⟩
      | finished =>
        rw [pat_at (o.none_of hg rfl) hg]
        dsimp only at hw ⊢
        obtain ⟨h1, rfl⟩ := hw
        exact ⟨o, h1, rfl⟩
  | yield _ _ _ _ => exact fun Q E p s _ h => h
  | stack k ih => exact fun Q E p s o h => ih _ Q E p s o h
  | fork _ _ => exact fun Q E p s _ h => h
  | thread k ih => exact fun Q E p s o h => ih _ Q E p s o h
  | await _ _ _ _ _ => exact fun Q E p s _ h => h
/-- all that sleep, so that they can't be woken -/
def calmS (s : Shared) : Shared := { s with gens := s.gens.map stk }
def calmP (s : Shared) : Pt := fun j => match s.gens[j]? with
  | some gs => if isSus gs = true then some gs else none
  | none => none
theorem calm_ok (s : Shared) : Ok (calmP s) (calmS s) := by
  refine ⟨fun j gs e => ?_, fun j x e h => ?_⟩
  · unfold calmP at e
    split at e
    · rename_i g hg
      split at e
      · rename_i hs
        cases e
        exact ⟨hs, by simp [calmS, hg]⟩
      · cases e
    · cases e
  · unfold calmP at e
    simp only [calmS, Array.getElem?_map] at h
    cases hg : s.gens[j]? with
    | none => rw [hg] at h; cases h
    | some g =>
      rw [hg] at h e
      cases h
      cases g with
      | suspended => cases e
      | _ => exact True.intro
theorem calm_pat (s : Shared) : pat (calmP s) (calmS s) = s := by
  obtain ⟨h, g, d, t, o⟩ := s
  unfold pat calmS
  congr 1
  refine Array.ext_getElem? fun j => ?_
  simp only [Array.getElem?_mapIdx, Array.getElem?_map]
  cases hg : g[j]? with
  | none => rfl
  | some x =>
    cases x <;> simp [calmP, hg, isSus, stk]
/-- the frame: code that runs well where nothing that sleeps can be woken leaves all that sleeps as it is -/
theorem frame {α : Type} {M : Model} {A : Around} {t : Sem α} {Q : α → Shared → Prop} {E : Value → Shared → Prop} {s : Shared} (h : wpAny M A t Q E (calmS s)) :
    wpAny M A t (fun a s' => ∃ z, Ok (calmP s) z ∧ s' = pat (calmP s) z ∧ Q a z) (fun x s' => ∃ z, Ok (calmP s) z ∧ s' = pat (calmP s) z ∧ E x z) s := fun Γ p hΓ => by
  have := wp_fr M Γ (calmP s) t _ _ p (calmS s) (calm_ok s) (h Γ p hΓ)
  rw [calm_pat] at this
  exact this
/-- one that sleeps is there as it was -/
theorem kept {s z : Shared} {g : Nat} {gs : GenState} (o : Ok (calmP s) z) (h : s.gens[g]? = some gs) (hs : isSus gs = true) : (pat (calmP s) z).gens[g]? = some gs := by
  have hp : calmP s g = some gs := by unfold calmP; rw [h]; exact if_pos hs
  obtain ⟨_, h2⟩ := o.st g gs hp
  rw [pat_get, h2, hp]; rfl
theorem allBare_calm {s : Shared} (h : ∀ y ∈ s.gens, y.bare = true) : ∀ y ∈ (calmS s).gens, y.bare = true := fun y hy => by
  obtain ⟨x, hx, rfl⟩ := Array.mem_map.mp hy
  rw [bare_stk]; exact h x hx
theorem allBare_pat {s z : Shared} (o : Ok (calmP s) z) (hz : ∀ y ∈ z.gens, y.bare = true) : ∀ y ∈ (pat (calmP s) z).gens, y.bare = true := fun y hy => by
  obtain ⟨j, hj⟩ := Array.mem_iff_getElem?.mp hy
  rw [pat_get] at hj
  cases e : z.gens[j]? with
  | none => rw [e] at hj; cases hj
  | some x =>
    rw [e] at hj
    have hx := hz x (Array.mem_of_getElem? e)
    cases hp : calmP s j with
    | none => rw [hp] at hj; cases hj; exact hx
    | some gs =>
      rw [hp] at hj
      cases hj
      obtain ⟨_, h2⟩ := o.st j gs hp
      rw [e] at h2
      cases h2
      rw [← bare_stk]; exact hx
end GFr

set_option Elab.async false
set_option linter.all false
set_option maxRecDepth 100000
set_option maxHeartbeats 1000000
/-! GenSeg: a for loop within a generator; runs leave the generators bare. -/
namespace GFr
open PySem
open Sem (wp)
abbrev AllB (gs : Array GenState) : Prop := ∀ y ∈ gs, y.bare = true
theorem allB_set {s : Shared} {g : Nat} {x : GenState} (h : AllB s.gens) (hx : x.bare = true) : AllB (s.setGen g x).gens := fun y hy => by
  rcases Array.mem_or_eq_of_mem_setIfInBounds hy with z | z
  · exact h y z
  · rw [z]; exact hx
theorem allB_push {gs : Array GenState} {x : GenState} (h : AllB gs) (hx : x.bare = true) : AllB (gs.push x) := fun y hy => by
  rcases Array.mem_push.mp hy with z | z
  · exact h y z
  · rw [z]; exact hx
theorem runs_bare {M : Model} {Γ : Ctx} {p : Pos} {t : Sem PySem.Fin} {fs : List Frame} {s s' : Shared} {e : End} (h : Runs M Γ p t fs s e s') : AllB s.gens → AllB s'.gens := by
  induction h with
  | call _ _ i1 i2 => exact fun h => i2 (i1 h)
  | resumeFresh _ _ hq _ i1 i2 => exact fun h => i2 (allB_set (i1 (allB_set h rfl)) (End.bare_of_quiet hq))
  | resumeSuspended _ _ hq _ i1 i2 => exact fun h => i2 (allB_set (i1 (allB_set h rfl)) (End.bare_of_quiet hq))
  | resumeThrowFresh _ _ ih => exact fun h => ih (allB_set h rfl)
  | newGen _ ih => exact fun h => ih (allB_push h rfl)
  | segRet _ _ i1 i2 => exact fun h => i2 (i1 h)
  | segGen _ _ i1 i2 => exact fun h => i2 (allB_set (i1 h) rfl)
  | segSuspGen _ _ hq _ i1 i2 => exact fun h => i2 (allB_set (i1 h) (End.bare_of_quiet hq))
  | _ => first | (intro h; exact h) | (rename_i ih; exact fun h => ih h)
theorem wakes_bare {M : Model} {Γ : Ctx} {p : Pos} {g : Nat} {r : Resume} {s s' : Shared} {res : GenResult} (h : Wakes M Γ p g r s res s') (hb : AllB s.gens) : AllB s'.gens := by
  unfold Wakes at h
  split at h
  · exact h.elim
  · split at h
    · obtain ⟨e₁, s₁, hr, hq, _, rfl⟩ := h
      exact allB_set (runs_bare hr (allB_set hb rfl)) (End.bare_of_quiet hq)
    · rw [h.2]; exact hb
    · rw [h.2]; exact allB_set hb rfl
  · obtain ⟨e₁, s₁, hr, hq, _, rfl⟩ := h
    exact allB_set (runs_bare hr (allB_set hb rfl)) (End.bare_of_quiet hq)
  · rw [h.2]; exact hb
  · rw [h.2]; exact hb
theorem wp_bare {α : Type} (M : Model) (Γ : Ctx) (t : Sem α) : ∀ (Q : α → Pos → Shared → Prop) (E : Value → Pos → Shared → Prop) (p : Pos) (s : Shared), AllB s.gens → wp M Γ t Q E p s →
    wp M Γ t (fun a p' s' => AllB s'.gens ∧ Q a p' s') (fun e p' s' => AllB s'.gens ∧ E e p' s') p s := by
  induction t with
  | load a _ k ih => exact fun Q E p s hb ⟨o, ho, h⟩ => ⟨o, ho, ih o Q E p s hb h⟩
  | update a _ f k ih => exact fun Q E p s hb h => ⟨h.1, ih () Q E p { s with heap := s.heap.update a f } hb h.2⟩
  | choose src m k ih => exact fun Q E p s hb h => ⟨h.1, ih (M.w.draws src (s.drawn.get src) % m) Q E p { s with drawn := s.drawn.bump src } hb h.2⟩
  | call c hd _ _ k ih => exact fun Q E p s hb ⟨r, s', hr, h⟩ => ⟨r, s', hr, ih r Q E p s' (runs_bare hr hb) h⟩
  | genState g k ih => exact fun Q E p s hb ⟨st, hs, h⟩ => ⟨st, hs, ih _ Q E p s hb h⟩
  | newGen c k ih => exact fun Q E p s hb h => ih s.gens.size Q E p { s with gens := s.gens.push (.fresh c) } (allB_push hb rfl) h
  | resume g r _ k ih => exact fun Q E p s hb ⟨res, s', hw, h⟩ => ⟨res, s', hw, ih res Q E p s' (wakes_bare hw hb) h⟩
  | _ => first
    | exact fun Q E p s hb h => ⟨hb, h⟩
    | exact fun Q E p s hb h => h
    | (rename_i ih; exact fun Q E p s hb h => ih _ Q E _ _ hb h)
/-- a run leaves bare what was bare -/
theorem wpAny_bare {α : Type} {M : Model} {A : Around} {s : Shared} {t : Sem α} {Q : α → Shared → Prop} {E : Value → Shared → Prop} (hb : AllB s.gens)
    (h : wpAny M A t (fun a s' => AllB s'.gens → Q a s') (fun e s' => AllB s'.gens → E e s') s) : wpAny M A t Q E s :=
  wpAny_mono (fun Γ p hΓ => wp_bare M Γ t _ _ p s hb (h Γ p hΓ) : wpAny M A t (fun a s' => AllB s'.gens ∧ (AllB s'.gens → Q a s')) (fun e s' => AllB s'.gens ∧ (AllB s'.gens → E e s')) s)
    (fun _ _ x => x.2 x.1) fun _ _ x => x.2 x.1

/-! ### a generator is asked for its next item: it sleeps again, or it has ended -/
/-- y goes on, if there is a turn left -/
def gos (M : Model) (A : Around) (R : GenEnd) (Y : Protocol) (y : GenState) : Nat → Resume → Shared → Prop
  | 0, _, _ => False
  | m + 1, r, s => y.Goes M A R Y m r s
section
variable {M : Model} {A : Around} {R : GenEnd} {Y : Protocol} {n g : Nat} {E : Value → Shared → Prop} {s : Shared} {gs : GenState}
theorem resumeS {r : Resume} {l : List Value} {α : Type} {k : GenResult → Sem α} {Q : α → Shared → Prop} (h0 : s.gens[g]? = some gs) (h1 : gs.Goes M A R Y n r (s.setGen g .running))
    (hR : ∀ x s₁, R n (s.setGen g .running) x s₁ → wpAny M A (k (End.ret x).result) Q E (s₁.setGen g .finished))
    (hY : ∀ v s₁ y, isSus y = true → Y (n - 1) (s.setGen g .running) v s₁ (gos M A R Y y n) → wpAny M A (k (.yielded v)) Q E (s₁.setGen g y)) :
    wpAny M A (.resume g r l k) Q E s := by
  intro Γ p hΓ
  have woken : ∀ c, (Γ.wake c p).Woken A := fun c => hΓ.wake c p
  have key : ∀ e₁ s₁, SegEnd R Y n (Seg.next M A R Y n) (s.setGen g .running) e₁ s₁ → e₁.quiet = true ∧ wp M Γ (k e₁.result) (fun a _ s' => Q a s') (fun e _ s' => E e s') p (s₁.setGen g e₁.genState) := by
    rintro (x | ⟨v, g₀, l₀, k₀, c₀, p₀, fs₀⟩) s₁ he
    · exact ⟨rfl, hR x s₁ he Γ p hΓ⟩
    · refine ⟨he.1, hY v s₁ (.suspended k₀ l₀ c₀ p₀ fs₀ _) rfl ?_ Γ p hΓ⟩
      have := he.2
      cases n <;> exact this
  rw [Sem.wp_resume]
  match gs, h0, h1 with
  | .fresh c, h0, h1 =>
    obtain ⟨rfl, hs⟩ := h1
    obtain ⟨e₁, s₁, hr, he⟩ := seg_iff.mp hs _ p rfl (woken c)
    exact ⟨_, _, by unfold Wakes; rw [h0]; exact ⟨e₁, s₁, hr, (key e₁ s₁ he).1, rfl, rfl⟩, (key e₁ s₁ he).2⟩
  | .suspended k₀ l₀ c₀ p₀ fs₀ cl, h0, h1 =>
    obtain ⟨e₁, s₁, hr, he⟩ := seg_iff.mp h1 _ p₀ rfl (woken c₀)
    exact ⟨_, _, by unfold Wakes; rw [h0]; exact ⟨e₁, s₁, hr, (key e₁ s₁ he).1, rfl, rfl⟩, (key e₁ s₁ he).2⟩
  | .running, _, h1 => exact h1.elim
  | .finished, _, h1 => exact h1.elim
end
section
variable {prog : Program} {w : World} {A : Around} {E : Value → Shared → Prop} {s : Shared}
theorem nextS {a : Addr} {g n : Nat} {gs : GenState} {P : Nat → Shared → Shared → Prop} {Y : Protocol} {Q : Option Value → Shared → Prop} (hh : A.handled = none) (hl : s.heap.NoLimit) (hroom : A.depth < recursionLimit) (hG : s.heap.IsGen a g) (h0 : s.gens[g]? = some gs)
    (h1 : gs.Goes (model prog w) A.in1 (fun n s₀ r s₁ => r = .ok (.ret .none) ∧ P n s₀ s₁) Y n (.send .none) (s.setGen g .running))
    (hY : ∀ v s₁ y, isSus y = true → Y (n - 1) (s.setGen g .running) v s₁ (gos (model prog w) A.in1 (fun n s₀ r s₁ => r = .ok (.ret .none) ∧ P n s₀ s₁) Y y n) → Q (some v) (s₁.setGen g y))
    (hP : ∀ s₁, P n (s.setGen g .running) s₁ → ∀ h', (∀ b o, s₁.heap.get? b = some o → h'.get? b = some o) → Q none { s₁.setGen g .finished with heap := h' }) : wpAny (model prog w) A (pyNext (.ref a)) Q E s := by
  unfold pyNext
  refine wpAny_bind (wpAny_attempt (wpAny_callSpecial?_slot hG.typeIs slot_gen_next (wpAny_call_entry slot_gen_next hG.typeIs entry_gen_next ?_ (args_gen_next _))))
  show wpAny _ A.in1 (Builtin.Generator.genWake (.ref a) (.send .none)) _ _ s
  unfold Builtin.Generator.genWake
  refine wpAny_bind (wpAny_holding (wpAny_genNumber hG (wpAny_bind (wpAny_genState h0 ?_))))
  cases gs with
  | running => exact h1.elim
  | finished => exact h1.elim
  | _ =>
    refine wpAny_bind (wpAny_roomToWake hl hroom ?_)
    show wpAny _ A.in1 (.resume g (.send .none) [] _) _ _ s
    refine resumeS h0 h1 (fun x s₁ hx => ?_) fun v s₁ y hy hv => wpAny_pure ⟨v, rfl, wpAny_pure (hY v s₁ y hy hv)⟩
    obtain ⟨rfl, hp⟩ := hx
    show wpAny _ A.in1 (newExc (.type "StopIteration") [] >>= _) _ _ _
    refine wpAny_bind ?_
    simp only [newExc, newTuple]
    refine wpAny_bind (wpAny_newObj_type ?_ (by size_fits))
    refine wpAny_bind (m := firstArgMember _ _) (wpAny_of_eq (a := Value.none) (by first | rfl | (simp only [firstArgMember]; rfl)) (wpAny_newObj_type ?_ (by size_fits)))
    simp only [raiseNew]
    refine wpAny_bind (wpAny_bind (wpAny_handled ?_))
    rw [show A.in1.handled = none from hh]
    refine wpAny_throw (wpAny_bind (wpAny_isInstance (T := "StopIteration") (b := true) ⟨_, Heap.get?_push_size _ rfl, rfl⟩ isSubtype_stop ?_))
    exact wpAny_pure (hP s₁ hp _ fun b o hb => Heap.get?_push_of_some _ (Heap.get?_push_of_some _ hb))
end
/-! ### for, within a generator, where nothing is raised -/
abbrev NoX : Value → Shared → Prop := fun _ _ => False
section
variable {prog : Program} {w : World} {A : Around} {R : GenEnd} {Y : Protocol} {n : Nat} {s₀ : Shared} {fs : List Frame} {s : Shared} {env : Env}
/-- what follows a turn -/
def turnK (target : Expr) (it : Value) (body : List Stmt) (env : Env) : Flow → Sem PySem.Fin := fun f => match f with
  | .next | .cont => .pure (.again (.forLoop target it body [] env))
  | .brk => .pure (.done .next)
  | .ret v => .pure (.done (.ret v))
def turnJ (env : Env) : Value → Sem PySem.Fin := fun e => (do noteFrame e env; theTreesLotGoes e : Sem Unit).wrap (fun _ => .raise e) .raise id id
theorem seg_forLoop {target : Expr} {it : Value} {body : List Stmt}
    (h : wpAny (model prog w) (A.over (.forLoop target it body [] env) fs) (pyNext it) (fun r s' => match r with
      | none => Seg (model prog w) A R Y n s₀ (.forLoop target it body [] env) (.pure (.again (.block [] env))) fs s'
      | some v => wpAny (model prog w) (A.over (.forLoop target it body [] env) fs) (letOwnedTupleGo target it v) (fun _ s1 => wpAny (model prog w) (A.over (.forLoop target it body [] env) fs) (assign target env v)
          (fun _ s2 => Seg (model prog w) A R Y n s₀ (.forLoop target it body [] env) ((execs body env).wrap (turnK target it body env) (turnJ env) id id) fs s2) NoX s1) NoX s') NoX s) :
    Seg (model prog w) A R Y n s₀ (.forLoop target it body [] env) ((model prog w).den (.forLoop target it body [] env)) fs s := by
  show Seg _ A R Y n s₀ _ ((forTurn target it body [] env).onRaise (fun x => do noteFrame x env; theTreesLotGoes x)) fs s
  unfold forTurn
  rw [Sem.onRaise_eq_wrap, Sem.bind_eq_wrap', Sem.wrap_wrap]
  refine seg_wrap (wpAny_standAt ?_)
  rw [Sem.bind_eq_wrap', Sem.wrap_wrap]
  refine seg_wrap (wpAny_onRaise (wpAny_mono h (fun r s' hr => ?_) fun _ _ x => x.elim))
  cases r with
  | none => exact hr
  | some v =>
    dsimp only at hr ⊢
    rw [Sem.bind_eq_wrap', Sem.wrap_wrap]
    refine seg_wrap (wpAny_mono hr (fun _ s1 h1 => ?_) fun _ _ x => x.elim)
    rw [Sem.bind_eq_wrap', Sem.wrap_wrap]
    refine seg_wrap (wpAny_mono h1 (fun _ s2 h2 => ?_) fun _ _ x => x.elim)
    rw [Sem.bind_eq_wrap', Sem.wrap_wrap]
    rw [Sem.wrap_congr (execs body env) _ _ (K' := turnK target it body env) (H' := turnJ env) (fun f => by cases f <;> rfl) (fun e => by
      first | exact Sem.bind_eq_wrap _ _ | (show (do noteFrame e env; theTreesLotGoes e : Sem Unit).bind (fun _ => .raise e) = _; rw [Sem.bind_eq_wrap]; rfl))]
    exact h2
end
section
variable {M : Model} {A : Around} {R : GenEnd} {Y : Protocol} {n : Nat} {s₀ : Shared} {c : Code} {fs : List Frame} {s : Shared} {env : Env} {K : Flow → Sem PySem.Fin} {J : Value → Sem PySem.Fin} {gd : Bool → Bool} {lv : List Value → List Value}
theorem seg_For {target iter : Expr} {body : List Stmt} {pos : Pos} (hs : ∀ x, foldedSetIterable iter env x = pure x := by intro _; rfl)
    (h : wpAny M (A.over c fs) (eval iter env) (fun x s1 => wpAny M (A.over c fs) (pyIter x) (fun it s2 => ∀ p, Seg M A R Y n s₀ (.forLoop target it body [] env) (M.den (.forLoop target it body [] env))
      (.ret (fun r => ((match r with | .ok f => (.pure f : Sem Flow) | .error e => .raise e).onRaise (L2.cameBack env)).wrap K J gd lv) none (gd false) (lv []) c p [] :: fs) s2) NoX s1) NoX s) :
    Seg M A R Y n s₀ c ((exec (.For target iter body [] pos) env).wrap K J gd lv) fs s := by
  rw [exec_For]
  rw [Sem.bind_eq_wrap', Sem.wrap_wrap]
  refine seg_wrap (wpAny_standAt ?_)
  rw [Sem.bind_eq_wrap', Sem.wrap_wrap]
  refine seg_wrap (wpAny_mono h (fun x s1 h1 => ?_) fun _ _ x => x.elim)
  rw [Sem.bind_eq_wrap', Sem.wrap_wrap]
  refine seg_wrap (wpAny_of_eq (hs x) ?_)
  rw [Sem.bind_eq_wrap', Sem.wrap_wrap]
  refine seg_wrap (wpAny_standAt ?_)
  rw [Sem.bind_eq_wrap', Sem.wrap_wrap]
  refine seg_wrap (wpAny_holding (wpAny_mono h1 (fun it s2 h2 => ?_) fun _ _ x => x.elim))
  exact seg_call h2
end
end GFr

set_option Elab.async false
set_option linter.all false
set_option maxRecDepth 100000
set_option maxHeartbeats 1000000
/-! GenEs: the generator that yields the sides of a ring, segment by segment. -/
namespace GFr
open PySem PySem.Spec PyProof.Rows L2 GenW
open Sem (wp)
/-- a list or a tuple of these values -/
def Rg (h : Heap) (p : Addr) (its : List Value) : Prop := h.IsList p its.toArray ∨ IsTup h p its.toArray
theorem Rg.at {h h' : Heap} {p : Addr} {its : List Value} (x : Rg h p its) (k : ∀ o, h.get? p = some o → h'.get? p = some o) : Rg h' p its := by
  rcases x with x | ⟨o, ho, r⟩
  · exact .inl (x.at k)
  · exact .inr ⟨o, k o ho, r⟩
/-- the frame of the generator -/
structure GF (base : Heap) (env : Env) (p : Addr) (its : List Value) (kv : Option Value) (s : Shared) : Prop where
  ns : ∃ m, s.heap.Ns env.locals m ∧ m "ring" = some (.ref p) ∧ m "k" = kv
  bk : ∀ b o, base.get? b = some o → s.heap.get? b = some o
  rg : Rg s.heap p its
structure GX (K : PySem.W.Frag) (mg : Str → Option Value) (base : Heap) (env : Env) : Prop where
  mod : Mod K mg base
  kind : env.scope.kind = .function
  glob : env.globals = mainGlobals
  blt : env.builtins = builtinsNs
  kr : env.kindOf "ring" = some .local
  kk : env.kindOf "k" = some .local
  kl : env.kindOf "len" = some .globalImplicit
  kg : env.kindOf "range" = some .globalImplicit
  ml : mg "len" = none
  mr : mg "range" = none
section
variable {prog : Program} {w : World} {A : Around} {E : Value → Shared → Prop} {K : PySem.W.Frag} {mg : Str → Option Value} {base : Heap} {env : Env} {p : Addr} {its : List Value} {kv : Option Value} {s : Shared} {Q : Value → Shared → Prop}
theorem GF.tok (F : GF base env p its kv s) (t : Nat) : GF base env p its kv { s with toks := t } := ⟨F.ns, F.bk, F.rg⟩
theorem ev_ring {pos : Pos} (X : GX K mg base env) (F : GF base env p its kv s) (h : Q (.ref p) s) : wpAny (model prog w) A (eval (.Name "ring" pos) env) Q E s := by
  obtain ⟨m, h1, h2, _⟩ := F.ns
  exact wpAny_Name (wpAny_loadName_local X.kind X.kr h1 h2 h) (by decide)
theorem ev_k {pos : Pos} {v : Value} (X : GX K mg base env) (F : GF base env p its (some v) s) (h : Q v s) : wpAny (model prog w) A (eval (.Name "k" pos) env) Q E s := by
  obtain ⟨m, h1, _, h2⟩ := F.ns
  exact wpAny_Name (wpAny_loadName_local X.kind X.kk h1 h2 h) (by decide)
theorem ev_blt {x : Str} {u : Value} {pos : Pos} (X : GX K mg base env) (F : GF base env p its kv s) (hk : env.kindOf x = some .globalImplicit) (hm : mg x = none) (hv : bootBuiltins x = some u) (h : Q u s) (hn : x ≠ "__name__" := by decide) (hd : (x == ("__debug__" : Str)) = false := by decide) :
    wpAny (model prog w) A (eval (.Name x pos) env) Q E s := by
  obtain ⟨mb, h1, h2⟩ := X.mod.blt
  exact Calls.Name_function_global X.kind hk (Calls.loadGlobal_builtin (by rw [X.glob]; exact X.mod.glob.keeps F.bk) hm (by rw [X.blt]; exact h1.keeps F.bk) ((h2 x hn).trans hv) h) hd
theorem rg_len (hr : Rg s.heap p its) (hz : its.length < 2 ^ 62) (h : ∀ t tk, Q (.int its.length t) { s with toks := tk }) : wpAny (model prog w) A (call (.builtin "len") [.ref p]) Q E s := by
  have hz' : ((its.toArray.size : Nat) : Int) < 2 ^ 63 := by rw [List.size_toArray]; omega
  have q : ∀ t tk, Q (.int its.toArray.size t) { s with toks := tk } := fun t tk => by rw [List.size_toArray]; exact h t tk
  rcases hr with hr | hr
  · exact Calls.call_len_list hr hz' (q _ _)
  · exact len_tuple hr hz' (q _ _)
theorem rg_item {value slice : Expr} {k : Nat} {u : Tok} {x : Value} (hr : Rg s.heap p its) (hz : its.length < 2 ^ 62) (hx : its[k]? = some x) (h : Q x s) (hs : subscripted slice false (.ref p) (.int (k : Int) u) = operate [.ref p, .int (k : Int) u] (getItem (.ref p) (.int (k : Int) u))) :
    wpAny (model prog w) A (subscriptTail value slice (.ref p) (.int (k : Int) u)) Q E s := by
  have hk : k < its.length := (List.getElem?_eq_some_iff.mp hx).1
  rcases hr with hr | hr
  · exact item_listR hr (by omega) (by omega) (by simpa using hx) h hs
  · exact subscriptTail_builtinR (x := x) hr.typeIs slot_tuple_getitem.lookup
      (getItem_tuple (j := k) (Q := fun r s' => r = x ∧ Q r s') hr (by omega) (by omega) (by rw [seqIndex_of (by omega) (by rw [List.size_toArray]; omega)]; simp) (by simpa using hx) ⟨rfl, h⟩) hs
theorem ev_len {p1 p2 p3 : Pos} (X : GX K mg base env) (F : GF base env p its kv s) (hz : its.length < 2 ^ 62) (h : ∀ t tk, Q (.int its.length t) { s with toks := tk })
    (he : starEach [.Name "ring" p2] env = (false, eval (.Name "ring" p2) env) :: starEach [] env := by rfl) :
    wpAny (model prog w) A (eval (.Call (.Name "len" p1) [.Name "ring" p2] [] p3) env) Q E s := by
  refine wpAny_Call_Name_kw (ev_blt X F X.kl X.ml boot_len ?_)
  refine PyProof.Rows.callWith_builtin1 ?_ he rfl
  rw [he]
  exact Calls.spliced_cons (ev_ring X F (Calls.spliced_nil (rg_len F.rg hz h)))
theorem ev_pair {p1 p2 p3 p4 p5 p6 p7 p8 p9 p10 p11 p12 p13 : Pos} {j1 j2 : Nat} {i : Nat} {t : Tok} {x y : Value} (X : GX K mg base env) (F : GF base env p its (some (.int (i : Int) t)) s) (hz : its.length < 2 ^ 62) (hx : its[i]? = some x) (hy : its[(i + 1) % its.length]? = some y)
    (h : ∀ tk, Q (.ref s.heap.objs.size) { s with heap := s.heap.push { cls := .type "tuple", data := .seq #[x, y] }, toks := tk }) :
    wpAny (model prog w) A (eval (.Tuple [.Subscript (.Name "ring" p1) (.Name "k" p2) p3,
      .Subscript (.Name "ring" p4) (.BinOp (.BinOp (.Name "k" p5) .Add (.Constant (.int 1) j1 p6) p7) .Mod (.Call (.Name "len" p8) [.Name "ring" p9] [] p10) p11) p12] j2 p13) env) Q E s := by
  have hi : i < its.length := (List.getElem?_eq_some_iff.mp hx).1
  refine wpAny_Tuple_spliced ?_
  refine Calls.spliced_cons (x := eval (.Subscript (.Name "ring" p1) (.Name "k" p2) p3) env) (rest := backTo p13 (starEach [_] env)) ?_
  refine Subscript_ (ev_ring X F (ev_k X F (rg_item F.rg hz hx ?_ rfl)))
  refine Calls.spliced_cons (x := eval (.Subscript _ _ p12) env) (rest := backTo p13 (starEach [] env)) ?_
  refine Subscript_ (ev_ring X F (wpAny_BinOp (wpAny_BinOp (ev_k X F (wpAny_Constant_int (add_int ?_))))))
  refine ev_len X (F.tok _) hz fun t tk => ?_
  have e : (((i : Int) + 1).fmod (its.length : Int)) = (((i + 1) % its.length : Nat) : Int) := by
    rw [Int.fmod_eq_emod_of_nonneg _ (by omega)]
    push_cast
    rfl
  refine mod_int' (by omega) ?_
  rw [e]
  exact rg_item F.rg hz hy (Calls.spliced_nil ⟨by show 2 ≤ _; decide, h _⟩) rfl
end
/-- all but the frame's dict and the iterator stays -/
def KeepE (L it : Addr) (s₀ s : Shared) : Prop := (∃ h tk, s = { s₀ with heap := h, toks := tk }) ∧ ∀ b o, b ≠ L → b ≠ it → s₀.heap.get? b = some o → s.heap.get? b = some o
theorem KeepE.refl {L it : Addr} {s : Shared} : KeepE L it s s := ⟨⟨s.heap, s.toks, rfl⟩, fun _ _ _ _ h => h⟩
theorem KeepE.step {L it : Addr} {s₀ s : Shared} {h : Heap} {tk : Nat} (x : KeepE L it s₀ s) (k : ∀ b o, b ≠ L → b ≠ it → s.heap.get? b = some o → h.get? b = some o) : KeepE L it s₀ { s with heap := h, toks := tk } := by
  obtain ⟨⟨h0, t0, e⟩, y⟩ := x
  subst e
  exact ⟨⟨h, tk, rfl⟩, fun b o h1 h2 q => k b o h1 h2 (y b o h1 h2 q)⟩
/-- it is there, and no cell -/
def Ob (h : Heap) (b : Addr) : Prop := ∃ o, h.get? b = some o ∧ ∀ v, o.data ≠ .cell v
/-- a side is yielded -/
def YE (base : Heap) (L it p : Addr) (its : List Value) : Protocol := fun n s₀ v s kap => ∃ (i : Nat) (t : Addr) (x y : Value), n + (i + 1) = its.length ∧ its[i]? = some x ∧ its[(i + 1) % its.length]? = some y ∧ v = .ref t ∧ s₀.heap.objs.size ≤ t ∧
  s.heap.get? t = some { cls := .type "tuple", data := .seq #[x, y] } ∧ KeepE L it s₀ s ∧ Ob s.heap L ∧ Ob s.heap it ∧ t ≠ L ∧ t ≠ it ∧
  ∀ s'', (∀ b o, (b = L ∨ b = it) → s.heap.get? b = some o → s''.heap.get? b = some o) → Rg s''.heap p its → (∀ b o, base.get? b = some o → s''.heap.get? b = some o) → kap (.send .none) s''
def RE (L it : Addr) : GenEnd := fun n s₀ r s => r = .ok (.ret .none) ∧ n = 0 ∧ KeepE L it s₀ s
section
variable {prog : Program} {w : World} {A : Around} {K : PySem.W.Frag} {mg : Str → Option Value} {base : Heap} {env : Env} {p it : Addr} {its : List Value}
theorem ns_keep {h h' : Heap} {L : Addr} {m : Str → Option Value} (x : h.Ns L m) (k : ∀ o, h.get? L = some o → h'.get? L = some o) : h'.Ns L m := by
  obtain ⟨o, es, ep, ho, r⟩ := x
  exact ⟨o, es, ep, k o ho, r⟩
theorem es_loop {p1 p2 p3 p4 p5 p6 p7 p8 p9 p10 p11 p12 p13 pk yp ep : Pos} {j1 j2 : Nat} {fr : List Frame} (X : GX K mg base env)
    (body : List Stmt) (hbody : body = [.Expr (.Yield (some (.Tuple [.Subscript (.Name "ring" p1) (.Name "k" p2) p3,
      .Subscript (.Name "ring" p4) (.BinOp (.BinOp (.Name "k" p5) .Add (.Constant (.int 1) j1 p6) p7) .Mod (.Call (.Name "len" p8) [.Name "ring" p9] [] p10) p11) p12] j2 p13)) yp) ep])
    (hh : (A.over (.forLoop (.Name "k" pk) (.ref it) body [] env) fr).handled = none) (hsp : splitAtGen fr = none) (hgd : fr.any Frame.guarded = false) (hco : env.scope.isCoroutine = false) (hi : interactive env = false)
    (hLi : env.locals ≠ it) (hpL : p ≠ env.locals) (hpi : p ≠ it) (hbL : base.get? env.locals = none) (hbi : base.get? it = none) (hz : its.length < 2 ^ 62)
    (hend : ∀ c s₀ s, KeepE env.locals it s₀ s → Seg (model prog w) A (RE env.locals it) (YE base env.locals it p its) 0 s₀ c (.pure (.done .next)) fr s) :
    ∀ (r i n : Nat) (s₀ s : Shared) (kv : Option Value), i + r = its.length → n + i = its.length → KeepE env.locals it s₀ s → s₀.heap.objs.size ≤ s.heap.objs.size → GF base env p its kv s → IsRangeIter s.heap it (0 + ((i : Nat) : Int) * 1) ((its.length : Int) - (i : Nat)) 1 →
      Seg (model prog w) A (RE env.locals it) (YE base env.locals it p its) n s₀ (.forLoop (.Name "k" pk) (.ref it) body [] env) ((model prog w).den (.forLoop (.Name "k" pk) (.ref it) body [] env)) fr s
  | 0, i, n, s₀, s, kv, hir, hni, hk, hsz0, F, hit => by
    have hn : n = 0 := by omega
    subst hn
    refine seg_forLoop (wpAny_pyNext_range_end hh hit (by omega) fun h' eb => ?_)
    refine seg_again rfl ?_
    exact hend _ s₀ _ (hk.step (tk := s.toks) fun b o _ h2 q => eb b o h2 q)
  | r + 1, i, n, s₀, s, kv, hir, hni, hk, hsz0, F, hit => by
    have hil : i < its.length := by omega
    obtain ⟨n, rfl⟩ : ∃ m, n = m + 1 := ⟨n - 1, by omega⟩
    have hx : its[i]? = some its[i] := List.getElem?_eq_getElem hil
    have hj : (i + 1) % its.length < its.length := Nat.mod_lt _ (by omega)
    have hy : its[(i + 1) % its.length]? = some its[(i + 1) % its.length] := List.getElem?_eq_getElem hj
    refine seg_forLoop (wpAny_pyNext_range_item hit (by omega) fun h' st' kk => ?_)
    obtain ⟨t, ht⟩ : ∃ t, t = s.toks := ⟨_, rfl⟩
    obtain ⟨tk, htk⟩ : ∃ t, t = s.toks + 1 := ⟨_, rfl⟩
    rw [← htk, ← ht]
    have k1 : ∀ b o, b ≠ it → s.heap.get? b = some o → h'.get? b = some o := fun b o hb e => kk.extBut b o hb e
    obtain ⟨m, hm, hm1, hm2⟩ := F.ns
    have hm' : h'.Ns env.locals m := ns_keep hm fun o q => k1 _ o hLi q
    refine wpAny_pure ?_
    refine wpAny_assign_Name (wpAny_storeName_local (s := { s with heap := h', toks := tk }) X.kk hm' (fun h'' hn'' sb => ?_) (by rw [X.kind]; rfl))
    have k2 : ∀ b o, b ≠ env.locals → h'.get? b = some o → h''.get? b = some o := fun b o hb e => (sb.2 b hb).trans e
    have F2 : GF base env p its (some (.int ((i : Nat) : Int) t)) { s with heap := h'', toks := tk + 1 } := by
      refine ⟨⟨_, hn'', ?_, ?_⟩, fun b o q => ?_, ?_⟩
      · show (if ("ring" : Str) = "k" then _ else m "ring") = _
        rw [if_neg (by decide)]; exact hm1
      · show (if ("k" : Str) = "k" then some _ else _) = _
        rw [if_pos rfl, Int.mul_one, Int.zero_add]
      · have hb1 : b ≠ env.locals := fun z => by rw [z, hbL] at q; cases q
        have hb2 : b ≠ it := fun z => by rw [z, hbi] at q; cases q
        exact k2 b o hb1 (k1 b o hb2 (F.bk b o q))
      · exact F.rg.at fun o q => k2 p o hpL (k1 p o hpi q)
    have st2 : IsRangeIter h'' it (0 + (((i + 1 : Nat) : Nat) : Int) * 1) ((its.length : Int) - ((i + 1 : Nat) : Nat)) 1 := by
      have e1 : (0 : Int) + ((i + 1 : Nat) : Int) * 1 = 0 + (i : Int) * 1 + 1 := by omega
      have e2 : (its.length : Int) - ((i + 1 : Nat) : Int) = (its.length : Int) - (i : Int) - 1 := by omega
      rw [e1, e2]
      exact k2 it _ (Ne.symm hLi) st'
    have hk2 : KeepE env.locals it s₀ { s with heap := h'', toks := tk + 1 } := hk.step fun b o h1 h2 q => k2 b o h1 (k1 b o h2 q)
    subst hbody
    refine seg_execs_cons (seg_Expr_Yield hsp rfl hgd ?_ hco hi)
    refine ev_pair X F2 hz hx hy fun tk2 => ?_
    intro kap hkap
    have hk3 : KeepE env.locals it s₀ { s with heap := h''.push { cls := .type "tuple", data := .seq #[its[i], its[(i + 1) % its.length]] }, toks := tk2 } := hk.step fun b o h1 h2 q => Heap.get?_push_of_some _ (k2 b o h1 (k1 b o h2 q))
    have oL : Ob (h''.push { cls := .type "tuple", data := .seq #[its[i], its[(i + 1) % its.length]] }) env.locals := by
      obtain ⟨m2, ⟨o, es, ep, q1, q2, _⟩, _⟩ := F2.ns
      exact ⟨o, Heap.get?_push_of_some _ q1, fun v z => by rw [q2] at z; cases z⟩
    have oi : Ob (h''.push { cls := .type "tuple", data := .seq #[its[i], its[(i + 1) % its.length]] }) it := ⟨_, Heap.get?_push_of_some _ st2, fun v z => by
      have z' : Data.fields _ = Data.cell v := z
      cases z'⟩
    have tL : h''.objs.size ≠ env.locals := by
      obtain ⟨m2, ⟨o, es, ep, q1, _⟩, _⟩ := F2.ns
      exact Nat.ne_of_gt (Heap.lt_size q1)
    have ti : h''.objs.size ≠ it := Nat.ne_of_gt (Heap.lt_size st2)
    have hsz : s₀.heap.objs.size ≤ h''.objs.size := by rw [sb.1]; show _ ≤ h'.objs.size; rw [kk.1]; exact hsz0
    refine ⟨i, h''.objs.size, _, _, by omega, hx, hy, rfl, hsz, Heap.get?_push_size _ rfl, hk3, oL, oi, tL, ti, fun s'' c1 cr c2 => hkap .none s'' ?_⟩
    refine seg_execs_nil (seg_again rfl ?_)
    have c3 : ∀ b o, (b = env.locals ∨ b = it) → h''.get? b = some o → s''.heap.get? b = some o := fun b o hb q => c1 b o hb (Heap.get?_push_of_some _ q)
    refine es_loop X _ rfl hh hsp hgd hco hi hLi hpL hpi hbL hbi hz hend r (i + 1) n s'' s'' (some (.int ((i : Nat) : Int) t)) (by omega) (by omega) KeepE.refl (Nat.le_refl _) ?_ (c3 it _ (.inr rfl) st2)
    obtain ⟨m2, q1, q2, q3⟩ := F2.ns
    exact ⟨⟨m2, ns_keep q1 fun o q => c3 _ o (.inl rfl) q, q2, q3⟩, c2, cr⟩
theorem es_start {p1 p2 p3 p4 p5 p6 p7 p8 p9 p10 p11 p12 p13 pk yp ep pr q1 q2 q3 pc pf : Pos} {j1 j2 : Nat} {s : Shared} {kv : Option Value} (X : GX K mg base env) (fb body : List Stmt) (hfb : fb = [.For (.Name "k" pk) (.Call (.Name "range" pr) [.Call (.Name "len" q1) [.Name "ring" q2] [] q3] [] pc) body [] pf])
    (hbody : body = [.Expr (.Yield (some (.Tuple [.Subscript (.Name "ring" p1) (.Name "k" p2) p3,
      .Subscript (.Name "ring" p4) (.BinOp (.BinOp (.Name "k" p5) .Add (.Constant (.int 1) j1 p6) p7) .Mod (.Call (.Name "len" p8) [.Name "ring" p9] [] p10) p11) p12] j2 p13)) yp) ep])
    (hh : (A.deeper env).handled = none) (hco : env.scope.isCoroutine = false) (hi : interactive env = false) (hLs : env.locals < s.heap.objs.size) (hps : p < s.heap.objs.size) (hpL : p ≠ env.locals) (hbL : base.get? env.locals = none) (hbs : base.objs.size ≤ s.heap.objs.size)
    (hit : s.heap.objs.size + 1 = it) (hz : its.length < 2 ^ 62) (F : GF base env p its kv s) :
    Seg (model prog w) A (RE env.locals it) (YE base env.locals it p its) its.length s (.func fb env) ((model prog w).den (.func fb env)) [] s := by
  subst hfb
  have hbi : base.get? it = none := by
    cases e : base.get? it with
    | none => rfl
    | some o => exact absurd (Nat.lt_of_lt_of_le (Heap.lt_size e) hbs) (by rw [← hit]; exact Nat.not_lt.mpr (Nat.le_succ _))
  refine seg_func (seg_execs_cons (seg_For (by intro _; rfl) ?_))
  rw [over_func]
  refine Call_ (ev_blt X F X.kg X.mr boot_range ?_)
  refine PyProof.Rows.callWith_type1 ?_ rfl rfl
  refine Calls.spliced_cons (x := eval (.Call (.Name "len" q1) [.Name "ring" q2] [] q3) env) (rest := backTo pc (starEach [] env)) (ev_len X F hz fun t tk => Calls.spliced_nil ?_)
  refine call_range_1 ?_
  refine wpAny_pyIter_range (IsRange.new ..) (small_one (by decide) (by decide) (by omega) (by omega)) ?_
  intro pp
  have hs2 : ∀ (o : Obj), (s.heap.push o).objs.size = it := fun o => by rw [Heap.size_push]; exact hit
  simp only [hs2]
  refine es_loop (fr := _ :: []) X body hbody (by rw [over_loop rfl rfl, over_func]; exact hh) rfl rfl hco hi (by rw [← hit]; exact Nat.ne_of_lt (Nat.lt_succ_of_lt hLs)) hpL (by rw [← hit]; exact Nat.ne_of_lt (Nat.lt_succ_of_lt hps)) hbL hbi hz (fun c s₀ s1 hk => ?_) its.length 0 its.length s _ kv (by omega) (by omega) ?_ ?_ ?_ ?_
  · refine seg_leaf (.ok .next) ?_
    exact seg_end (.ok (.ret .none)) ⟨rfl, rfl, hk⟩
  · exact KeepE.refl.step fun b o _ _ q => Heap.get?_push_of_some _ (Heap.get?_push_of_some _ q)
  · show _ ≤ ((s.heap.push _).push _).objs.size
    rw [Heap.size_push, Heap.size_push]; omega
  · obtain ⟨m, h1, h2, h3⟩ := F.ns
    have k : ∀ (o1 o2 : Obj) b o, s.heap.get? b = some o → ((s.heap.push o1).push o2).get? b = some o := fun o1 o2 b o q => Heap.get?_push_of_some _ (Heap.get?_push_of_some _ q)
    exact ⟨⟨m, ns_keep h1 fun o q => k _ _ _ o q, h2, h3⟩, fun b o q => k _ _ b o (F.bk b o q), F.rg.at fun o q => k _ _ p o q⟩
  · have e2 : ((its.length : Nat) : Int) - ((0 : Nat) : Int) = Builtin.Range.rangeSize 0 (its.length : Int) 1 := by rw [rangeSize_one]; split <;> omega
    have e1 : (0 : Int) + ((0 : Nat) : Int) * 1 = 0 := by simp
    rw [e1, e2]
    show Heap.get? _ it = some _
    rw [← hs2 { cls := .type "range", data := .fields #[.int 0 tk, .int (its.length : Int) t, .int 1 (tk + 1)] }]
    exact Heap.get?_push_size _ rfl
end
end GFr

set_option Elab.async false
set_option linter.all false
set_option maxRecDepth 100000
set_option maxHeartbeats 1000000
/-! GenFor: for .. in each_side(ring), the body by the readings of HandS. -/
namespace GFr
open PySem PySem.Spec PyProof.Rows L2 GenW
section
variable {X : Cx} {pins : List (Addr × Obj)} {σ : L2.St} {H : Hp} {s : Shared}
theorem inv_gens {G : Array GenState} (I : Inv X pins σ H s) (hG : AllBare G) : Inv X pins σ H { s with gens := G } :=
  ⟨I.ok, I.os, hG, I.base, I.loc, I.cell, I.free, I.freeC, I.pin, I.hok, I.len⟩
/-- the frame's dict and the iterator of a generator have turned -/
theorem inv_turn {G : Array GenState} {L it : Addr} {s₁ : Shared} (I : Inv X pins σ H s) (fL : FpOk X pins H L) (fi : FpOk X pins H it) (hk : ∀ b o, b ≠ L → b ≠ it → s.heap.get? b = some o → s₁.heap.get? b = some o) (hos : s₁.os = s.os) (hG : AllBare G) :
    Inv X pins σ H { s₁ with gens := G } := by
  have nL : ∀ b u, H b = some u → b ≠ L := fun b u e z => by rw [z, fL.1] at e; cases e
  have ni : ∀ b u, H b = some u → b ≠ it := fun b u e z => by rw [z, fi.1] at e; cases e
  have kk : ∀ b o, b ∉ [L, it] → s.heap.get? b = some o → s₁.heap.get? b = some o := fun b o hb q => hk b o (fun z => hb (by simp [z])) (fun z => hb (by simp [z])) q
  refine I.call' (ch := [L, it]) (s' := { s₁ with gens := G }) hos ⟨fun b o q n _ hx => kk b o hx q, fun b o q n _ hx => ⟨o.slots, kk b o hx q⟩, fun b o q n hx => n, fun b o q hx => ⟨o, kk b o hx q⟩, fun b xs q => q, fun b o u q => q, fun b ps q => ⟨#[], by rw [q]; simp⟩⟩ (fun b u q => ?_) hG fun b hb => ?_
  · refine (I.hok b u q).stay (fun c v hc y => hk c v ?_ ?_ y) (fun _ y => y) fun _ _ y => y
    · rcases hc with z | z
      · rw [z]; exact nL b u q
      · exact nL c _ z
    · rcases hc with z | z
      · rw [z]; exact ni b u q
      · exact ni c _ z
  · have e : b = L ∨ b = it := by simpa using hb
    rcases e with z | z
    · rw [z]; exact ⟨fL.2.2.2.1, fL.2.1, fL.2.2.2.2.1, fL.2.2.2.2.2⟩
    · rw [z]; exact ⟨fi.2.2.2.1, fi.2.1, fi.2.2.2.2.1, fi.2.2.2.2.2⟩
/-- .. and a tuple is laid -/
theorem inv_turnT {G : Array GenState} {L it t : Addr} {s₁ : Shared} {xs : List V} {us : List Value} (I : Inv X pins σ H s) (fL : FpOk X pins H L) (fi : FpOk X pins H it) (hk : ∀ b o, b ≠ L → b ≠ it → s.heap.get? b = some o → s₁.heap.get? b = some o) (hos : s₁.os = s.os) (hG : AllBare G)
    (hn : s.heap.objs.size ≤ t) (ht : s₁.heap.get? t = some { cls := .type "tuple", data := .seq us.toArray }) (r : Vals xs us) (hz : xs.length ≤ sizeLine) : Inv X pins σ (upd H t (.tup xs)) { s₁ with gens := G } := by
  have nL : ∀ b u, H b = some u → b ≠ L := fun b u e z => by rw [z, fL.1] at e; cases e
  have ni : ∀ b u, H b = some u → b ≠ it := fun b u e z => by rw [z, fi.1] at e; cases e
  have nt : H t = none := I.hok.fresh hn
  have lt : ∀ b o, s.heap.get? b = some o → b ≠ t := fun b o q z => by
    rw [z] at q
    exact Nat.lt_irrefl _ (Nat.lt_of_lt_of_le (Heap.lt_size q) hn)
  have kk : ∀ b o, b ∉ [L, it] → s.heap.get? b = some o → s₁.heap.get? b = some o := fun b o hb q => hk b o (fun z => hb (by simp [z])) (fun z => hb (by simp [z])) q
  have up : ∀ b u, H b = some u → upd H t (.tup xs) b = some u := fun b u q => by rw [upd_ne (ne_of_none q nt)]; exact q
  refine I.call' (ch := [L, it]) (s' := { s₁ with gens := G }) hos ⟨fun b o q n _ hx => kk b o hx q, fun b o q n _ hx => ⟨o.slots, kk b o hx q⟩, fun b o q n hx => by rw [upd_ne (lt b o q)]; exact n, fun b o q hx => ⟨o, kk b o hx q⟩, fun b xs q => up b _ q, fun b o u q => up b _ q, fun b ps q => ⟨#[], by rw [up b _ q]; simp⟩⟩ (fun b u q => ?_) hG fun b hb => ?_
  · by_cases hb : b = t
    · subst hb
      rw [upd_same] at q
      cases q
      exact ⟨hz, us, r, ⟨_, ht, rfl, _, rfl⟩⟩
    · rw [upd_ne hb] at q
      refine (I.hok b u q).stay (fun c v hc y => hk c v ?_ ?_ y) (fun c y => up c _ y) fun c _ y => up c _ y
      · rcases hc with z | z
        · rw [z]; exact nL b u q
        · exact nL c _ z
      · rcases hc with z | z
        · rw [z]; exact ni b u q
        · exact ni c _ z
  · have e : b = L ∨ b = it := by simpa using hb
    rcases e with z | z
    · rw [z]; exact ⟨fL.2.2.2.1, fL.2.1, fL.2.2.2.2.1, fL.2.2.2.2.2⟩
    · rw [z]; exact ⟨fi.2.2.2.1, fi.2.1, fi.2.2.2.2.1, fi.2.2.2.2.2⟩
/-- a part that HandS reads, run while generators sleep -/
theorem run_calm {α : Type} {M : Model} {A : Around} {t : Sem α} {Q : α → Shared → Prop} {Q' : α → Shared → Prop} (I : Inv X pins σ H s) (h : ∀ z, Inv X pins σ H z → z.heap = s.heap → wpAny M A t Q (fun _ _ => False) z)
    (hQ : ∀ a z G, Q a z → (AllBare z.gens → AllBare G) → (∀ (g : Nat) (gs : GenState), s.gens[g]? = some gs → isSus gs = true → G[g]? = some gs) → Q' a { z with gens := G }) :
    wpAny M A t Q' (fun _ _ => False) s := by
  have hc : wpAny M A t Q (fun _ _ => False) (calmS s) := h _ (inv_gens I (allBare_calm I.bare)) rfl
  refine wpAny_mono (frame hc) (fun a s' hz => ?_) fun a s' hz => ?_
  · obtain ⟨z, o, rfl, q⟩ := hz
    exact hQ a z (pat (calmP s) z).gens q (fun hb => allBare_pat o hb) fun g gs h1 h2 => kept o h1 h2
  · obtain ⟨_, _, _, z⟩ := hz
    exact z
end
def Sq2 (K : PySem.W.Frag) (H : Hp) (p : Addr) (xs : List V) : Prop := SqL K H p xs ∨ SqT K H p xs
/-- the sides of the list or tuple at p -/
def ItEs (K : PySem.W.Frag) (p : Addr) (as : List Addr) : It :=
  ⟨fun i H => Sq2 K H p (as.map V.ref) ∧ i < as.length, fun i H v H' => ∃ (T : Addr) (x y : Addr), v = .ref T ∧ H T = none ∧ H' = upd H T (.tup [.ref x, .ref y]) ∧ as[i]? = some x ∧ as[(i + 1) % as.length]? = some y, fun i H => Sq2 K H p (as.map V.ref) ∧ as.length ≤ i⟩
theorem vals_refs : ∀ {as : List Addr} {us : List Value}, Vals (as.map V.ref) us → us = as.map Value.ref
  | [], _, r => by cases r; rfl
  | a :: as, _, r => by
    cases r with
    | cons r1 r2 =>
      cases (show _ = Value.ref a from r1)
      rw [vals_refs r2]; rfl
theorem refs_vals : ∀ as : List Addr, Vals (as.map V.ref) (as.map Value.ref)
  | [] => .nil
  | a :: as => .cons rfl (refs_vals as)
theorem rg_of {X : Cx} {pins : List (Addr × Obj)} {σ : L2.St} {H : Hp} {s : Shared} {p : Addr} {as : List Addr} (I : Inv X pins σ H s) (h : Sq2 X.K H p (as.map V.ref)) : Rg s.heap p (as.map Value.ref) ∧ as.length ≤ sizeLine := by
  rcases h with h | h
  · obtain ⟨its, r, pl, hz⟩ := I.list h
    rw [vals_refs r] at pl
    exact ⟨.inl pl.isList, by simpa using hz⟩
  · obtain ⟨its, r, pl, hz⟩ := I.tuple h
    rw [vals_refs r] at pl
    exact ⟨.inr pl, by simpa using hz⟩
/-- what is known of the def each_side -/
structure EsD (K : PySem.W.Frag) (mg : Str → Option Value) (f : Addr) (fd : FuncData) (fb yb : List Stmt) (pk : Pos) : Prop where
  fb_ : ∃ pr q1 q2 q3 pc pf : Pos, fb = [.For (.Name "k" pk) (.Call (.Name "range" pr) [.Call (.Name "len" q1) [.Name "ring" q2] [] q3] [] pc) yb [] pf]
  yb_ : ∃ (p1 p2 p3 p4 p5 p6 p7 p8 p9 p10 p11 p12 p13 yp ep : Pos) (j1 j2 : Nat), yb = [.Expr (.Yield (some (.Tuple [.Subscript (.Name "ring" p1) (.Name "k" p2) p3,
      .Subscript (.Name "ring" p4) (.BinOp (.BinOp (.Name "k" p5) .Add (.Constant (.int 1) j1 p6) p7) .Mod (.Call (.Name "len" p8) [.Name "ring" p9] [] p10) p11) p12] j2 p13)) yp) ep]
  F : ∃ (params : Arguments) (scope : Scope), FunD K "each_side" "each_side" params fb scope [] [] f fd ∧ GScope ["ring", "k"] ["ring"] scope ∧ scope.names.lookup ("ring" : Str) = some .local ∧ scope.names.lookup ("k" : Str) = some .local ∧ scope.names.lookup ("len" : Str) = some .globalImplicit ∧ scope.names.lookup ("range" : Str) = some .globalImplicit
  b : Binds K fd ["ring"] []
  mgf : mg "each_side" = some (.ref f)
  ml : mg "len" = none
  mr : mg "range" = none
/-- a generator that has not begun -/
structure EsM (X : Cx) (pins : List (Addr × Obj)) (H : Hp) (p : Addr) (fb : List Stmt) (a : Addr) (g : Nat) (env : Env) (s : Shared) : Prop where
  isg : s.heap.IsGen a g
  gs : s.gens[g]? = some (.fresh (.func fb env))
  fa : FpOk X pins H a
  fL : FpOk X pins H env.locals
  x : GX X.K X.mg X.base env
  co : env.scope.isCoroutine = false
  it : interactive env = false
  lt : env.locals < s.heap.objs.size
  bL : X.base.get? env.locals = none
  ns : ∃ m, s.heap.Ns env.locals m ∧ m "ring" = some (.ref p)
  aL : a ≠ env.locals
section
variable {X : Cx} {pins : List (Addr × Obj)} {σ : L2.St} {H : Hp} {s : Shared}
theorem made_es {f p : Addr} {fd : FuncData} {fb yb : List Stmt} {pk : Pos} {k : Nat} {E : Value → Shared → Prop} {Q : Value → Shared → Prop} (D : EsD X.K X.mg f fd fb yb pk) (hr : Room k X.A) (I : Inv X pins σ H s)
    (h : ∀ a g env s', Inv X pins σ H s' → EsM X pins H p fb a g env s' → Q (.ref a) s') : wpAny (model X.prog X.w) X.A (call (.ref f) [.ref p]) Q E s := by
  obtain ⟨params, scope, F, S, kr, kk, kl, kg⟩ := D.F
  obtain ⟨oc, od, dV, kV, doc, pm, an, cdv, ct, osl, rfl, lk, hcd, _, _⟩ := F.ex
  have hkind : ∀ y ∈ (["ring"] : List Str).zip [Value.ref p], scope.names.lookup y.1 = some .local ∨ (scope.names.lookup y.1 = some .cell ∧ ((cellsFrom (s.heap.objs.size + 1) scope.names []).lookup y.1).isSome = true) := fun y hy => by
    have e : y = (("ring" : Str), Value.ref p) := by simpa using hy
    subst e
    exact .inl kr
  refine wpAny_call (codeAny_call_generator hr.depth (I.kIn _ _ lk) rfl S.co S.gen rfl (PySem.W.codeRec_of I.kIn hcd) (D.b s [.ref p] I.kIn rfl _ _ _ _ ?_))
  refine wpAny_newFunctionEnv_cells S.kind hkind fun env he s1 x => ?_
  subst he
  have kp1 := x.toInCall.keep
  refine ⟨I.nolimit.keeps kp1, ?_⟩
  obtain ⟨h1, tk, es1, _⟩ := x.done
  have ns1 := x.toInCall.ns
  have fr1 := x.toInCall.fresh
  subst es1
  have lt1 : s.heap.objs.size < h1.objs.size := ns1.lt
  have kp2 : ∀ (o' : Obj) b o, s.heap.get? b = some o → (h1.push o').get? b = some o := fun o' b o q => Heap.get?_push_of_some _ (kp1 b o q)
  show Q (.ref h1.objs.size) _
  refine h h1.objs.size s.gens.size (envOfC "each_side" scope s.heap.objs.size f cdv) _ ?_ ?_
  · refine I.call' (ch := []) rfl (Un.kept (kp2 _)) (I.hok.kept (kp2 _)) (AllBare.push I.bare rfl) fun b z => by simp at z
  · have young : ∀ b, s.heap.objs.size ≤ b → FpOk X pins H b := fun b hb => I.fpOk hb (I.hok.fresh hb)
    refine ⟨⟨_, _, _, Heap.get?_push_size _ rfl, rfl, rfl, rfl⟩, Array.getElem?_push_size .., young _ (Nat.le_of_lt lt1), young _ (Nat.le_refl _), ⟨I.ok.mod, S.kind, rfl, rfl, kr, kk, kl, kg, D.ml, D.mr⟩, S.co, ?_, ?_, ?_, ?_, ?_⟩
    · unfold interactive
      show (scope.kind == .module && _) = false
      rw [S.kind]; rfl
    · show s.heap.objs.size < (h1.push _).objs.size
      rw [Heap.size_push]; exact Nat.lt_succ_of_lt lt1
    · cases e : X.base.get? s.heap.objs.size with
      | none => exact e
      | some o => exact absurd (Nat.lt_of_lt_of_le (Heap.lt_size (I.bk _ _ e)) (Nat.le_refl _)) (Nat.lt_irrefl _)
    · refine ⟨_, ns_keep ns1 fun o q => Heap.get?_push_of_some _ q, ?_⟩
      exact bindL_get (P := ["ring"]) (vs := [.ref p]) (i := 0) (by decide) rfl rfl kr
    · exact Nat.ne_of_gt lt1
end
def forB : List Stmt → List Stmt
  | (.For _ _ b _ _) :: _ => b
  | _ => []
def forP : List Stmt → Pos
  | (.For (.Name _ p) _ _ _ _) :: _ => p
  | _ => ⟨0, 0, 0, 0⟩
def itEs (K : PySem.W.Frag) (vs : List V) (H : Hp) (RI : It → Hp → Prop) : Prop := ∃ (p : Addr) (as : List Addr), vs = [.ref p] ∧ RI (ItEs K p as) H
def iEs (K : PySem.W.Frag) (ta : TA) : TI := fun σ H RI => ta σ H fun vs H1 => itEs K vs H1 RI
theorem fpH {X : Cx} {pins : List (Addr × Obj)} {H H' : Hp} {b : Addr} (f : FpOk X pins H b) (h : H' b = none) : FpOk X pins H' b := ⟨h, f.2⟩
theorem setGen_twice {s : Shared} {h : Heap} {tk g : Nat} {x y : GenState} : ({ s.setGen g x with heap := h, toks := tk } : Shared).setGen g y = { ({ s with heap := h, toks := tk } : Shared) with gens := (s.gens.setIfInBounds g y) } := by
  unfold Shared.setGen
  simp
theorem ps_forEs {X : Cx} {tg e : Expr} {body fb yb : List Stmt} {f : Addr} {fd : FuncData} {pk pn pc pos : Pos} {ta : TA} {g : TG} {tb : TS} {k : Nat} (D : EsD X.K X.mg f fd fb yb pk) (hr : Room k X.A) (kp : PySem.W.keepIn X.K (.ref f) = true) (hg : Gl X "each_side") (hc : X.calm = true)
    (ha : PA X.nox [e] ta) (hgt : PG X.nox tg g) (hbd : PSs X.nox body tb) (he : starEach [e] X.env = (false, eval e X.env) :: starEach [] X.env := by rfl) : PS X.nox (.For tg (.Call (.Name "each_side" pn) [e] [] pc) body [] pos) (tFor (iEs X.K ta) g tb) := by
  refine ⟨fun pins s σ H D0 I h => ?_⟩
  refine wpAny_For ?_ (by intro _; rfl)
  refine wpAny_Call_Name_kw (ld_glob I hg D.mgf ?_)
  refine PySem.W.callWith_K (h₀ := X.base) I.ok.mod.kin kp (thn (ha.run pc pins s σ H _ I h) fun us s1 ⟨vs, H1, I1, r1, q1⟩ => ⟨I1.kIn, ?_⟩) he rfl
  obtain ⟨p, as, rfl, W, ⟨m0, w0⟩, turn⟩ := q1
  obtain ⟨u, rfl, rx⟩ := vals1 r1
  obtain rfl : u = Value.ref p := rx
  refine made_es (X := X.nox) D hr I1 fun a gn env s2 I2 M => ?_
  refine wpAny_pyIter_gen M.isg ?_
  have sq0 : Sq2 X.K H1 p (as.map V.ref) := by rcases turn 0 m0 σ H1 w0 with ⟨⟨q, _⟩, _⟩ | ⟨⟨q, _⟩, _⟩ <;> exact q
  obtain ⟨rg0, hz⟩ := rg_of (X := X.nox) I2 sq0
  have hz2 : (as.map Value.ref).length < 2 ^ 62 := by
    rw [List.length_map]
    exact Nat.lt_of_le_of_lt hz (by decide)
  obtain ⟨it, hit⟩ : ∃ it, s2.heap.objs.size + 1 = it := ⟨_, rfl⟩
  have hh : X.A.handled = none := I.ok.hd hc
  obtain ⟨mN, ns1, ns2⟩ := M.ns
  have hps : p < s2.heap.objs.size := by
    rcases rg0 with ⟨o, ho, _⟩ | ⟨o, ho, _⟩ <;> exact Heap.lt_size ho
  have hpL : p ≠ env.locals := fun z => by
    obtain ⟨o, es, ep, q1, q2, _⟩ := ns1
    rw [← z] at q1
    rcases rg0 with ⟨o', ho, _, n, hd⟩ | ⟨o', ho, _, n, hd⟩ <;> (rw [q1] at ho; cases ho; rw [q2] at hd; cases hd)
  obtain ⟨pr, q1, q2, q3, pc2, pf, hfb⟩ := D.fb_
  obtain ⟨p1, p2, p3, p4, p5, p6, p7, p8, p9, p10, p11, p12, p13, yp, ep, j1, j2, hyb⟩ := D.yb_
  have st0 : GenState.Goes (model X.prog X.w) X.A.in1 (RE env.locals it) (YE X.base env.locals it p (as.map Value.ref)) as.length (.fresh (.func fb env)) (.send .none) (s2.setGen gn .running) := by
    have := es_start (prog := X.prog) (w := X.w) (A := X.A.in1) (s := s2.setGen gn .running) (it := it) (its := as.map Value.ref) (kv := mN "k") M.x fb yb hfb hyb hh M.co M.it M.lt hps hpL M.bL (Nat.le_trans I2.ok.bsz I2.sz) hit hz2 ⟨⟨mN, ns1, ns2, rfl⟩, I2.bk, rg0⟩
    rw [List.length_map] at this
    exact ⟨rfl, this⟩
  have fit : FpOk X.nox pins H1 it := I2.fpOk (by rw [← hit]; exact Nat.le_succ _) (I2.hok.fresh (by rw [← hit]; exact Nat.le_succ _))
  have hai : a ≠ it := fun z => by
    obtain ⟨o, _, _, ho, _⟩ := M.isg
    have := Heap.lt_size ho
    rw [z, ← hit] at this
    exact Nat.lt_irrefl _ (Nat.lt_of_succ_lt this)
  refine codeAny_forLoop_any (fun n s' => ∃ i σ' H' gs, Inv X.nox pins σ' H' s' ∧ s'.heap.IsGen a gn ∧ s'.gens[gn]? = some gs ∧ FpOk X.nox pins H' a ∧ FpOk X.nox pins H' env.locals ∧ FpOk X.nox pins H' it ∧
    GenState.Goes (model X.prog X.w) X.A.in1 (RE env.locals it) (YE X.base env.locals it p (as.map Value.ref)) (as.length - i) gs (.send .none) (s'.setGen gn .running) ∧ i ≤ as.length ∧ W i n σ' H') ?_ m0 ⟨0, σ, H1, _, I2, M.isg, M.gs, M.fa, M.fL, fit, st0, Nat.zero_le _, w0⟩
  rintro n s3 ⟨i, σ3, H3, gs, I3, hIG, hgs, fa, fL, fi, hgo, hle, w3⟩
  have hpi : p ≠ it := by rw [← hit]; exact Nat.ne_of_lt (Nat.lt_succ_of_lt hps)
  have hbi : X.base.get? it = none := by
    cases e : X.base.get? it with
    | none => rfl
    | some o => exact absurd (Nat.lt_of_lt_of_le (Heap.lt_size e) (Nat.le_trans I2.ok.bsz I2.sz)) (by rw [← hit]; exact Nat.not_lt.mpr (Nat.le_succ _))
  have bne : ∀ b o, X.base.get? b = some o → b ≠ env.locals ∧ b ≠ it := fun b o q => ⟨(fun z => by rw [z, M.bL] at q; cases q), (fun z => by rw [z, hbi] at q; cases q)⟩
  rcases turn i n σ3 H3 w3 with ⟨⟨sq, stop⟩, qn⟩ | ⟨⟨sq, go⟩, N, hN, step⟩
  · have h0 : as.length - i = 0 := Nat.sub_eq_zero_of_le stop
    rw [h0] at hgo
    refine wpAny_mono (E := fun _ _ => False) ?_ (fun _ _ z => z) (fun _ _ z => z.elim)
    refine wpAny_bare I3.bare ?_
    refine nextS (P := fun n s₀ s => n = 0 ∧ KeepE env.locals it s₀ s) hh I3.nolimit hr.depth hIG hgs hgo (fun v s₁ y hy hYE => ?_) (fun s₁ hp h' ext hb => ?_)
    · obtain ⟨i', t, xv, yv, e1, hx, hy', rfl, hsz, ht, ⟨_, kpp⟩, oL, oi, tL, ti, hkap⟩ := hYE
      have := hkap s₁ (fun b o _ q => q) ((rg_of (X := X.nox) I3 sq).1.at fun o q => kpp p o hpL hpi q) (fun b o q => kpp b o (bne b o q).1 (bne b o q).2 (I3.bk b o q))
      exact (show False from this).elim
    · obtain ⟨_, ⟨h1, tk1, es⟩, kpp⟩ := hp
      refine wpAny_execs_nil ⟨σ3, H3, ?_, qn⟩
      have := inv_turn (X := X.nox) (s₁ := { s₁ with heap := h' }) (G := ({ s₁.setGen gn .finished with heap := h' } : Shared).gens) I3 fL fi (fun b o h1 h2 q => ext b o (kpp b o h1 h2 q)) (by rw [es]; rfl) hb
      exact this
  · obtain ⟨m, hm⟩ : ∃ m, as.length - i = m + 1 := ⟨as.length - i - 1, by have : i < as.length := go; omega⟩
    rw [hm] at hgo
    refine wpAny_mono (E := fun _ _ => False) ?_ (fun _ _ z => z) (fun _ _ z => z.elim)
    refine wpAny_bare I3.bare ?_
    refine nextS (P := fun n s₀ s => n = 0 ∧ KeepE env.locals it s₀ s) hh I3.nolimit hr.depth hIG hgs hgo (fun v s₁ y hy hYE hb => ?_) (fun s₁ hp => by cases hp.1)
    obtain ⟨i', t, xv, yv, e1, hx, hy', rfl, hsz, ht, ⟨⟨h1, tk1, es⟩, kpp⟩, oL, oi, tL, ti, hkap⟩ := hYE
    have hii : i' = i := by
      have e2 : m + 1 - 1 + (i' + 1) = (as.map Value.ref).length := e1
      rw [List.length_map] at e2
      omega
    subst hii
    rw [List.getElem?_map] at hx hy'
    rw [List.length_map] at hy'
    obtain ⟨ax, hax, rfl⟩ := Option.map_eq_some_iff.mp hx
    obtain ⟨ay, hay, rfl⟩ := Option.map_eq_some_iff.mp hy'
    have htn : H3 t = none := I3.hok.fresh hsz
    have I4 : Inv X.nox pins σ3 (upd H3 t (.tup [.ref ax, .ref ay])) (s₁.setGen gn y) := inv_turnT (X := X.nox) (s₁ := s₁) (G := (s₁.setGen gn y).gens) (us := [.ref ax, .ref ay]) I3 fL fi kpp (by rw [es]; rfl) hb hsz ht (.cons rfl (.cons rfl .nil)) (by show 2 ≤ sizeLine; decide)
    obtain ⟨oa, na, qa, ha1, ha2, ha3, ha4⟩ := hIG
    have ha1' : s₁.heap.get? a = some oa := kpp a oa M.aL hai ha1
    have hat : a ≠ t := fun z => by
      rw [z] at ha1
      exact Nat.lt_irrefl _ (Nat.lt_of_lt_of_le (Heap.lt_size ha1) hsz)
    have f4 : ∀ b, FpOk X.nox pins H3 b → b ≠ t → FpOk X.nox pins (upd H3 t (.tup [.ref ax, .ref ay])) b := fun b fb hb => fpH fb (by rw [upd_ne hb]; exact fb.1)
    refine go_of (n := "generator") ha1' ha2 ha3 (by decide) ?_
    have hf : ∀ b ∈ [a, env.locals, it], FpOk X.nox pins (upd H3 t (.tup [.ref ax, .ref ay])) b := fun b hb => by
      have e : b = a ∨ b = env.locals ∨ b = it := by simpa using hb
      rcases e with z | z | z
      · rw [z]; exact f4 _ fa hat
      · rw [z]; exact f4 _ fL (Ne.symm tL)
      · rw [z]; exact f4 _ fi (Ne.symm ti)
    have hob : ∀ b ∈ [a, env.locals, it], ∃ o, (s₁.setGen gn y).heap.get? b = some o ∧ ∀ v, o.data ≠ .cell v := fun b hb => by
      have e : b = a ∨ b = env.locals ∨ b = it := by simpa using hb
      rcases e with z | z | z
      · rw [z]; exact ⟨oa, ha1', fun v z => by rw [ha3] at z; cases z⟩
      · rw [z]; exact oL
      · rw [z]; exact oi
    have I5 := I4.pinned hf hob
    have gy : (s₁.setGen gn y).gens[gn]? = some y := by
      have hl : gn < s3.gens.size := (Array.getElem?_eq_some_iff.mp hgs).1
      rw [es]
      simp [Shared.setGen, hl]
    refine wpAny_mono (E := fun _ _ => False) ?_ (fun _ _ z => z) (fun _ _ z => z.elim)
    refine run_calm I5 (fun z Iz _ => hgt.run _ z σ3 _ (.ref t) (.ref t) _ Iz rfl (step (.ref t) _ ⟨t, ax, ay, rfl, htn, rfl, hax, hay⟩)) fun _ z6 G6 q6 hb6 hk6 => ?_
    obtain ⟨σ6, H6, I6, q6⟩ := q6
    have I6' := inv_gens I6 (hb6 I6.bare)
    refine wpAny_mono (E := fun _ _ => False) ?_ (fun _ _ z => z) (fun _ _ z => z.elim)
    refine run_calm I6' (fun z Iz _ => hbd.run _ z σ6 H6 _ Iz q6) fun fl z7 G7 q7 hb7 hk7 => ?_
    have again : ∀ {σ7 : L2.St} {H7 : Hp}, Inv X.nox (pins ++ pinsAt [a, env.locals, it] (s₁.setGen gn y).heap) σ7 H7 z7 → N σ7 H7 → ∃ m', m' < n ∧ ∃ i σ' H' gs, Inv X.nox pins σ' H' { z7 with gens := G7 } ∧ z7.heap.IsGen a gn ∧ G7[gn]? = some gs ∧ FpOk X.nox pins H' a ∧ FpOk X.nox pins H' env.locals ∧ FpOk X.nox pins H' it ∧
        GenState.Goes (model X.prog X.w) X.A.in1 (RE env.locals it) (YE X.base env.locals it p (as.map Value.ref)) (as.length - i) gs (.send .none) (({ z7 with gens := G7 } : Shared).setGen gn .running) ∧ i ≤ as.length ∧ W i m' σ' H' := fun {σ7 H7} I7 n7 => by
      obtain ⟨m', hm', w7⟩ := hN σ7 H7 n7
      have pin : ∀ b ∈ [a, env.locals, it], ∀ o, s₁.heap.get? b = some o → z7.heap.get? b = some o ∧ H7 b = none := fun b hb o q => by
        have := I7.pin (b, o) (List.mem_append_right _ (List.mem_append_right _ (mem_pinsAt hb q)))
        exact ⟨this.1, this.2.1⟩
      have sq7 : Sq2 X.K H7 p (as.map V.ref) := by rcases turn (i' + 1) m' σ7 H7 w7 with ⟨⟨q, _⟩, _⟩ | ⟨⟨q, _⟩, _⟩ <;> exact q
      obtain ⟨oL0, hoL, _⟩ := oL
      obtain ⟨oi0, hoi, _⟩ := oi
      refine ⟨m', hm', i' + 1, σ7, H7, y, inv_gens I7.unpinned (hb7 I7.bare), ⟨oa, na, qa, (pin a (by simp) oa ha1').1, ha2, ha3, ha4⟩, hk7 gn y (hk6 gn y gy hy) hy, fpH fa (pin a (by simp) oa ha1').2, fpH fL (pin _ (by simp) _ hoL).2, fpH fi (pin _ (by simp) _ hoi).2, ?_, go, w7⟩
      have hgo2 := hkap (({ z7 with gens := G7 } : Shared).setGen gn .running) (fun b o hb q => (pin b (by rcases hb with z | z <;> simp [z]) o q).1) (rg_of (X := X.nox) I7 sq7).1 (fun b o q => I7.bk b o q)
      have e3 : as.length - (i' + 1) = m := by omega
      rw [e3]
      exact hgo2
    cases fl with
    | next => obtain ⟨σ7, H7, I7, n7⟩ := q7; exact again I7 n7
    | cont => obtain ⟨σ7, H7, I7, n7⟩ := q7; exact again I7 n7
    | brk => obtain ⟨σ7, H7, I7, q7⟩ := q7; exact ⟨σ7, H7, inv_gens I7.unpinned (hb7 I7.bare), q7⟩
    | ret v => obtain ⟨x7, σ7, H7, I7, r7, q7⟩ := q7; exact ⟨x7, σ7, H7, inv_gens I7.unpinned (hb7 I7.bare), r7, q7⟩
end GFr

set_option Elab.async false
set_option linter.all false
set_option maxRecDepth 100000
set_option maxHeartbeats 2000000
/-! MirG: for a, b in each_side(ring), in worlds. -/
namespace Mr
open PySem PySem.Spec PyProof.Rows L2 GFr
theorem gIEs {K : PySem.W.Frag} {t : TA} {σ : L2.St} {H : Hp} {RI : It → Hp → Prop} (h : t σ H fun vs H1 => itEs K vs H1 RI) : iEs K t σ H RI := h
section
variable {α τ ρ : Type} {r : R α} {K : PySem.W.Frag} {G H : Hp} {O : Own} {v : V} {xs : List α} {s0 : τ} {res : Fl τ ρ} {g : TG} {tb : TS} {D : Ends} {σ : L2.St}
/-- it relates references only -/
def RfR (r : R α) : Prop := ∀ G v x, r.rel G v x → ∃ a, v = V.ref a
theorem rf_P2 {β γ : Type} {r0 : R β} {r1 : R γ} : RfR (rP2 K r0 r1) := fun G v x ⟨p, _, _, e, _⟩ => ⟨p, e⟩
theorem al_refs (hr : RfR r) : ∀ {vs : List V} {xs : List α}, Al r G vs xs → ∃ as : List Addr, vs = as.map V.ref
  | [], [], _ => ⟨[], rfl⟩
  | _ :: _, _ :: _, h => by
    obtain ⟨a, rfl⟩ := hr _ _ _ h.1
    obtain ⟨as, rfl⟩ := al_refs hr h.2
    exact ⟨a :: as, rfl⟩
  | [], _ :: _, h => h.elim
  | _ :: _, [], h => h.elim
theorem walk_es {p : Addr} {as : List Addr} : Walk (ItEs K p as) as.length (fun H => Sq2 K H p (as.map V.ref)) (YPair (fun i => (as.map V.ref)[i]?) (fun i => (as.map V.ref)[(i + 1) % as.length]?)) := by
  refine ⟨fun i H hi q => ⟨q, hi⟩, fun H q => ⟨q, Nat.le_refl _⟩, fun i H v H' _ q y => ?_⟩
  obtain ⟨T, x, y, h1, h2, h3, h4, h5⟩ := y
  exact ⟨T, .ref x, .ref y, h1, h2, h3, by dsimp only; rw [List.getElem?_map, h4]; rfl, by dsimp only; rw [List.getElem?_map, h5]; rfl⟩
theorem lp_Es {f : τ → α × α → Option (Bf τ ρ)} {i1 i2 : Nat} (hr : RfR r) (S : Sub G O H) (h : (rQ K r).rel G v xs) (hm : forL f (sidesM xs) s0 = some res) (I : τ → L2.St → Hp → Prop) (h0 : I s0 σ H) (hG : ∀ s σ H, I s σ H → Ext G H)
    (hs : ∀ (i : Nat) (x y : α) (s : τ) (b : Bf τ ρ), f s (x, y) = some b → conL f ((sidesM xs).drop (i + 1)) b = some res → ∀ w1 w2 σ H H', I s σ H → (∀ G O, Sub G O H → Sub G O H') → r.rel G w1 x → r.rel G w2 y →
      tb { D with nx := PvL f (sidesM xs) res I (i + 1), ct := PvL f (sidesM xs) res I (i + 1), bk := D.nx } ((σ.set i1 (some w1)).set i2 (some w2)) H')
    (hd : ∀ s σ H, res = .nx s → I s σ H → D.nx σ H) :
    itEs K [v] H (LpW (gTup K 2 (gCons (gName i1) (gCons (gName i2) gNil))) tb D σ) := by
  obtain ⟨p, vs, rfl, hq, ha⟩ := h
  obtain ⟨as, rfl⟩ := al_refs hr ha
  have hl := ha.len
  rw [List.length_map] at hl
  refine ⟨p, as, rfl, lp_it walk_es (by rw [sidesM_length, hl]) hm I h0 (fun s σ H hI => hq.imp (sqL_up (hG s σ H hI)) (sqT_up (hG s σ H hI))) (fun i z s b hx hb hr' w σ H H' hI hY => ?_) hd⟩
  obtain ⟨x, y⟩ := z
  obtain ⟨hx1, hx2⟩ := sidesM_get xs hx
  obtain ⟨T, w1, w2, rfl, hT, rfl, hw1, hw2⟩ := hY
  dsimp only at hw1 hw2
  rw [hl] at hw2
  exact ⟨T, _, rfl, .inl (.inl upd_same), rfl, _, _, rfl, _, _, rfl, rfl, hs i x y s b hb hr' w1 w2 σ H _ hI (fun G O S => S.junk hT) (ha.at hx1 hw1) (ha.at hx2 hw2)⟩
end
end Mr

set_option Elab.async false
set_option linter.all false
set_option maxRecDepth 100000
set_option maxHeartbeats 1000000
/-! GenList2: for, within a generator def that a list drains (the layer GS of HandS). -/
namespace GFr
open PySem PySem.Spec PyProof.Rows L2 GenW
def tGFor (wi : TI) (g : TG) (tb : TGn) : TGn := fun D ys σ H => wi σ H fun J H1 => ∃ W : Nat → Nat → List V → L2.St → Hp → Prop, (∃ m, W 0 m ys σ H1) ∧ ∀ i m ys σ H, W i m ys σ H →
  (J.stop i H ∧ D.nx ys σ H) ∨ (J.go i H ∧ ∃ N : List V → L2.St → Hp → Prop, (∀ ys' σ' H', N ys' σ' H' → ∃ m', m' < m ∧ W (i + 1) m' ys' σ' H') ∧ ∀ x H', J.yld i H x H' → g x σ H' fun σ2 H2 => tb { D with nx := N, ct := N, bk := D.nx } ys σ2 H2)
theorem gs_for {X : Cx} {tg iter : Expr} {body : List Stmt} {pos : Pos} {wi : TI} {g : TG} {tb : TGn} (hp : PassesOwn (model X.prog X.w) X.A X.env X.xe) (hc : X.calm = true) (hi : PI X.nox tg iter wi) (hg : PG X.nox tg g) (hb : GSs X body tb)
    (hs : ∀ x, foldedSetIterable iter X.env x = pure x := by intro _; rfl) : GS X (.For tg iter body [] pos) (tGFor wi g tb) := by
  refine ⟨fun A S ip R n ys s₀ c fs K J gd lv s σ H D gc hn k hI ht => ?_⟩
  obtain ⟨acc, cc, r, I⟩ := hI
  refine seg_For hs ?_
  rw [gc.over]
  refine wpAny_mono (hi.run _ s σ H _ (I.wish _) ht) (fun v s1 h1 => wpAny_mono h1 (fun itv s2 h2 => ?_) (fun _ _ z => z.elim)) (fun _ _ z => z.elim)
  obtain ⟨it, fp, tn, J0, H2, rfl, I2, T, st2, f2, W, ⟨m0, w0⟩, turn⟩ := h2
  intro p
  have gl := fun (kk : Result → Sem PySem.Fin) => gc_loop (k := kk) (c' := .forLoop tg (.ref it) body [] X.env) (l := lv []) (kp := []) (p := p) gc rfl rfl
  have hne : ∀ b ∈ fp, b ≠ S := fun b hb z => (f2 b hb).2.2.2.2.2 (S, lstObj acc cc) (List.mem_append_right _ List.mem_cons_self) z.symm
  have stat : ∀ {acc' : Array Value} {cc' : Nat} {H' : Hp}, (∀ b ∈ fp, H' b = none) → ∀ b ∈ fp, FpOk X.nox ((S, lstObj acc' cc') :: ip) H' b := fun {acc' cc' H'} hn b hb => by
    obtain ⟨_, q1, q2, q3, q4, q5⟩ := f2 b hb
    refine ⟨hn b hb, q1, q2, q3, q4, fun q hq => ?_⟩
    rcases List.mem_append.mp hq with z | z
    · exact q5 q (List.mem_append_left _ z)
    · rcases List.mem_cons.mp z with z | z
      · rw [z]; exact Ne.symm (hne b hb)
      · exact q5 q (List.mem_append_right _ (List.mem_cons_of_mem _ z))
  have out : ∀ (n : Nat) (s₀ : Shared) (x : Value) (s' : Shared), X.xe x s' → Seg (model X.prog X.w) A R (GY X S) n s₀ (.forLoop tg (.ref it) body [] X.env) (turnJ X.env x)
      (.ret (fun r => ((match r with | .ok f => (.pure f : Sem Flow) | .error e => .raise e).onRaise (cameBack X.env)).wrap K J gd lv) none (gd false) (lv []) c p [] :: fs) s' := fun n s₀ x s' hx => by
    unfold turnJ
    refine seg_wrap ?_
    rw [(gl _).over]
    refine wpAny_bind (wpAny_mono (hp x s' hx) (fun _ s'' hcb => wpAny_theTreesLotGoes ?_) fun y s'' hcb => ?_)
    · exact seg_leaf (.error x) (seg_cameBack gc k hcb)
    · exact seg_leaf (.error y) (seg_cameBack gc k hcb)
  have loop : ∀ (m i n : Nat) (ys : List V) (s₀ s : Shared) (σ : L2.St) (H : Hp), n + ys.length = sizeLine → W i m ys σ H → GI X S ip ys σ H s → tn i s.heap → (∀ b ∈ fp, H b = none) →
      Seg (model X.prog X.w) A R (GY X S) n s₀ (.forLoop tg (.ref it) body [] X.env) ((model X.prog X.w).den (.forLoop tg (.ref it) body [] X.env))
        (.ret (fun r => ((match r with | .ok f => (.pure f : Sem Flow) | .error e => .raise e).onRaise (cameBack X.env)).wrap K J gd lv) none (gd false) (lv []) c p [] :: fs) s := by
    intro m
    induction m using Nat.strongRecOn with
    | ind m ih =>
      intro i n ys s₀ s σ H hn w hI st hfr
      obtain ⟨acc, cc, r, I⟩ := hI
      refine seg_forLoop ?_
      rw [(gl _).over]
      rcases turn i m ys σ H w with ⟨stop, qn⟩ | ⟨go, N, hN, step⟩
      · refine wpAny_mono (T.done X.nox rfl rfl rfl hc i _ s σ H (fun _ _ => False) (I.wish _) (stat hfr) st stop) (fun rr s4 ⟨hr, I4⟩ => ?_) (fun _ _ z => z.elim)
        subst hr
        refine seg_again rfl ?_
        exact seg_leaf (.ok .next) (k.ok n ys s₀ s4 .next hn ⟨σ, H, ⟨acc, cc, r, I4.unwish⟩, qn⟩)
      · refine wpAny_mono (T.item X.nox rfl rfl rfl hc i _ s σ H (fun _ _ => False) (I.wish _) (stat hfr) st go) (fun rr s4 ⟨u, hr, h4⟩ => ?_) (fun _ _ z => z.elim)
        subst hr
        refine wpAny_mono h4 (fun _ s5 ⟨x, H5, I5, r5, y5, st5, fr5⟩ => ?_) (fun _ _ z => z.elim)
        have I5' := I5.pinned (stat fr5) (T.obj _ _ st5)
        refine wpAny_mono (hg.run _ s5 σ H5 x u _ I5' r5 (step x H5 y5)) (fun _ s6 ⟨σ6, H6, I6, q6⟩ => ?_) (fun _ _ z => z.elim)
        have hip : ∀ q ∈ ip ++ pinsAt fp s5.heap, q.1 ≠ S := fun q hq => by
          rcases List.mem_append.mp hq with z | z
          · exact gc.ip q z
          · exact hne q.1 (of_pinsAt z).1
        have G0 := gl (fun r => ((match r with | .ok f => (.pure f : Sem Flow) | .error e => .raise e).onRaise (cameBack X.env)).wrap K J gd lv)
        refine hb.run A S (ip ++ pinsAt fp s5.heap) R n ys s₀ _ _ _ _ id id s6 σ6 H6 _ ⟨G0.pn, hip, G0.apart, G0.over, G0.split, G0.guard, rfl⟩ hn ⟨fun n' ys' s₀' s7 f hn' hsp => ?_, fun n' s₀' e s7 hx => out n' s₀' e s7 hx⟩ ⟨acc, cc, r, I6.unwish⟩ q6
        have back : ∀ {σ7 : L2.St} {H7 : Hp}, GI X S (ip ++ pinsAt fp s5.heap) ys' σ7 H7 s7 → GI X S ip ys' σ7 H7 s7 ∧ tn (i + 1) s7.heap ∧ ∀ b ∈ fp, H7 b = none := fun {σ7 H7} hI7 => by
          obtain ⟨acc7, cc7, r7, I7⟩ := hI7
          have pin : ∀ b ∈ fp, ∀ o, s5.heap.get? b = some o → s7.heap.get? b = some o ∧ H7 b = none := fun b hb o q => by
            have := I7.pin (b, o) (List.mem_append_right _ (List.mem_cons_of_mem _ (List.mem_append_right _ (mem_pinsAt hb q))))
            exact ⟨this.1, this.2.1⟩
          refine ⟨⟨acc7, cc7, r7, I7.pins_of fun q hq => I7.pin q (List.mem_append_right _ ?_)⟩, T.keep _ _ _ st5 fun b hb o e => (pin b hb o e).1, fun b hb => ?_⟩
          · rcases List.mem_cons.mp hq with z | z
            · rw [z]; exact List.mem_cons_self
            · exact List.mem_cons_of_mem _ (List.mem_append_left _ z)
          · obtain ⟨o, e, _⟩ := T.obj _ _ st5 b hb
            exact (pin b hb o e).2
        have again : ∀ {σ7 : L2.St} {H7 : Hp}, GI X S (ip ++ pinsAt fp s5.heap) ys' σ7 H7 s7 → N ys' σ7 H7 → Seg (model X.prog X.w) A R (GY X S) n' s₀' (.forLoop tg (.ref it) body [] X.env) (.pure (.again (.forLoop tg (.ref it) body [] X.env)))
            (.ret (fun r => ((match r with | .ok f => (.pure f : Sem Flow) | .error e => .raise e).onRaise (cameBack X.env)).wrap K J gd lv) none (gd false) (lv []) c p [] :: fs) s7 := fun {σ7 H7} hI7 n7 => by
          obtain ⟨m', hm', w7⟩ := hN ys' σ7 H7 n7
          obtain ⟨b1, b2, b3⟩ := back hI7
          exact seg_again rfl (ih m' hm' (i + 1) n' ys' s₀' s7 σ7 H7 hn' w7 b1 b2 b3)
        cases f with
        | next => obtain ⟨σ7, H7, I7, n7⟩ := hsp; exact again I7 n7
        | cont => obtain ⟨σ7, H7, I7, n7⟩ := hsp; exact again I7 n7
        | brk =>
          obtain ⟨σ7, H7, I7, q7⟩ := hsp
          exact seg_leaf (.ok .next) (k.ok n' ys' s₀' s7 .next hn' ⟨σ7, H7, (back I7).1, q7⟩)
        | ret v =>
          obtain ⟨x7, σ7, H7, I7, r7, q7⟩ := hsp
          exact seg_leaf (.ok (.ret v)) (k.ok n' ys' s₀' s7 (.ret v) hn' ⟨x7, σ7, H7, (back I7).1, r7, q7⟩)
  exact loop m0 0 n ys s₀ s2 σ H2 hn w0 ⟨acc, cc, r, I2.unwish⟩ st2 fun b hb => (f2 b hb).1
end GFr

set_option Elab.async false
set_option linter.all false
set_option maxRecDepth 100000
set_option maxHeartbeats 2000000
/-! MirL: list(each_side(tuple)), in worlds. -/
namespace Mr
open PySem PySem.Spec PyProof.Rows L2 GFr
theorem FunD_gok {P : Program} {w : World} {K : PySem.W.Frag} {mg : Str → Option Value} {base : Heap} {x qual : Str} {params : Arguments} {body : List Stmt} {scope : Scope} {dvs : List V} {kws : List (Str × V)} {f : Addr} {fd : FuncData}
    {N ps : List Str} {k : Nat} {sp : SpG} (F : FunD K x qual params body scope dvs kws f fd) (S : GScope N ps scope) (len : ∀ vs H Q E, sp vs H Q E → vs.length = ps.length)
    (hbody : ∀ (cdv : Value) (A : Around) (outer : List Env) (s : Shared) (H : Hp) (vs : List V) (Q : List V → Hp → Prop) (E : XK) (pn : List (Addr × Obj)), Room k (A.deeper (envOfC qual scope s.heap.objs.size f cdv)) → sp vs H Q E →
      ∃ t, GSs (gcxOf P w K mg base N qual scope f cdv A outer s H E pn) body t ∧ t { nx := fun ys _ H' => Q ys H', rt := fun ys v H' => v = .non ∧ Q ys H' } [] (start N vs) H) : GFn P w K mg base (k + 1) f fd ps sp := by
  obtain ⟨oc, od, dV, kV, doc, pm, an, cdv, ct, osl, rfl, lk, hcd, _, _⟩ := F.ex
  exact gfn_of lk hcd S len fun A outer s H vs Q E pn hr hsp => hbody cdv A outer s H vs Q E pn hr hsp
def spEs (K : PySem.W.Frag) : SpG := fun vs H Q _ => ∃ (α : Type) (r : R α) (G : Hp) (O : Own) (v : V) (xs : List α), vs = [v] ∧ Sub G O H ∧ (rT K r).rel G v xs ∧ xs.length ≤ 100000 ∧ ∀ G' H' ys, Ext G G' → Sub G' O H' → Al (rP2 K r r) G' ys (sidesM xs) → Q ys H'
/-- the body's reading -/
abbrev tEs (K : PySem.W.Frag) : TGn := tGThen (tGFor (iRng1 (tCons (tCB (rLenM K) (tCons (tVar 0) tNil)) tNil)) (gName 1)
  (tGThen (tGYield (tTup (tCons (tOp (rIxT K) (tVar 0) (tVar 1)) (tCons (tOp (rIxT K) (tVar 0) (tOp (rI (fun _ j => 0 < j) fun i j => .int (i % j)) (tOp (rI0 fun i j => .int (i + j)) (tVar 1) (tC (.int 1))) (tCB (rLenM K) (tCons (tVar 0) tNil)))) tNil)))) tG0)) tG0
def LpG (g : TG) (tb : TGn) (D : GEnds) (ys : List V) (σ : L2.St) (J : It) (H : Hp) : Prop := ∃ W : Nat → Nat → List V → L2.St → Hp → Prop, (∃ m, W 0 m ys σ H) ∧ ∀ i m ys σ H, W i m ys σ H →
  (J.stop i H ∧ D.nx ys σ H) ∨ (J.go i H ∧ ∃ N : List V → L2.St → Hp → Prop, (∀ ys' σ' H', N ys' σ' H' → ∃ m', m' < m ∧ W (i + 1) m' ys' σ' H') ∧ ∀ x H', J.yld i H x H' → g x σ H' fun σ2 H2 => tb { D with nx := N, ct := N, bk := D.nx } ys σ2 H2)
theorem gGFor {wi : TI} {g : TG} {tb u : TGn} {D : GEnds} {ys : List V} {σ : L2.St} {H : Hp} (h : wi σ H (LpG g tb { D with nx := fun ys' σ' H' => u D ys' σ' H' } ys σ)) : tGThen (tGFor wi g tb) u D ys σ H := h
theorem gGYield {te : TE} {u : TGn} {D : GEnds} {ys : List V} {σ : L2.St} {H : Hp} (hl : ys.length < sizeLine) (h : te σ H fun x H1 => u D (ys ++ [x]) σ H1) : tGThen (tGYield te) u D ys σ H := ⟨hl, h⟩
theorem gG0 {D : GEnds} {ys : List V} {σ : L2.St} {H : Hp} (h : D.nx ys σ H) : tG0 D ys σ H := h
theorem run_es {K : PySem.W.Frag} {α : Type} {r : R α} {G H : Hp} {O : Own} {v : V} {xs : List α} {Q : List V → Hp → Prop} {D : GEnds} {σ1 : Option V} (S : Sub G O H) (h : (rT K r).rel G v xs) (hl : xs.length ≤ 100000)
    (hD : ∀ ys σ H, Q ys H → D.nx ys σ H) (q : ∀ G' H' ys, Ext G G' → Sub G' O H' → Al (rP2 K r r) G' ys (sidesM xs) → Q ys H') : tEs K D [] [some v, σ1] H := by
  refine gGFor ?_
  refine gIR ?_
  refine gCons' ?_
  refine gCB ?_
  refine gCons' ?_
  refine gV rfl ?_
  refine gNil' ?_
  refine q_lenT S h ?_
  refine gNil' ?_
  refine ⟨_, rfl, by omega, by omega, fun i m ys σ H => ∃ G' σ1, Ext G G' ∧ Sub G' O H ∧ Al (rP2 K r r) G' ys ((sidesM xs).take i) ∧ σ = [some v, σ1] ∧ i + m = xs.length, ⟨xs.length, G, σ1, .refl _, S, True.intro, rfl, by omega⟩, fun i m ys σ H hI => ?_⟩
  obtain ⟨G', σ1, e, S1, a, rfl, hm⟩ := hI
  have sl := sidesM_length xs
  by_cases hi : i < xs.length
  · refine .inr ⟨by show i < (xs.length : Int).toNat; omega, _, fun ys' σ' H' (hN : ∃ G' σ1, Ext G G' ∧ Sub G' O H' ∧ Al (rP2 K r r) G' ys' ((sidesM xs).take (i + 1)) ∧ σ' = [some v, σ1]) => ?_, fun x H' hy => ?_⟩
    · obtain ⟨G2, s2, z1, z2, z3, z4⟩ := hN
      exact ⟨m - 1, by omega, G2, s2, z1, z2, z3, z4, by omega⟩
    · obtain ⟨rfl, rfl⟩ := hy
      have al := a.len
      rw [List.length_take, sl] at al
      show tGThen _ _ _ _ [some v, some (V.int (0 + (i : Nat)))] _
      refine gGYield (szl (by omega)) ?_
      have h' := R.up e h
      have g1 : getM xs (0 + (i : Nat)) = some xs[i] := by
        unfold getM ixM
        rw [if_pos (by omega), if_pos (by omega)]
        show xs[(0 + (i : Int)).toNat]? = _
        rw [show (0 + (i : Int)).toNat = i by omega]
        exact List.getElem?_eq_getElem hi
      have j2 : (i + 1) % xs.length < xs.length := Nat.mod_lt _ (by omega)
      have g2 : getM xs (((0 : Int) + (i : Nat) + 1) % (xs.length : Int)) = some xs[(i + 1) % xs.length] := by
        have e1 : ((0 : Int) + (i : Nat) + 1) % (xs.length : Int) = (((i + 1) % xs.length : Nat) : Int) := by
          rw [Int.natCast_emod]; congr 1; omega
        rw [e1]
        unfold getM ixM
        rw [if_pos (by omega), if_pos (by omega)]
        show xs[(((i + 1) % xs.length : Nat) : Int).toNat]? = _
        rw [Int.toNat_natCast]
        exact List.getElem?_eq_getElem j2
      refine gTup' ?_
      refine gCons' ?_
      refine gOp ?_
      refine gV rfl ?_
      refine gV rfl ?_
      refine q_ixT S1 h' g1 fun w1 hw1 => ?_
      refine gCons' ?_
      refine gOp ?_
      refine gV rfl ?_
      refine gOp ?_
      refine gOp ?_
      refine gV rfl ?_
      refine gC ?_
      refine ⟨_, _, rfl, rfl, ?_⟩
      refine gCB ?_
      refine gCons' ?_
      refine gV rfl ?_
      refine gNil' ?_
      refine q_lenT S1 h' ?_
      refine ⟨_, _, rfl, rfl, by omega, ?_⟩
      refine q_ixT S1 h' g2 fun w2 hw2 => ?_
      refine gNil' ?_
      refine ⟨sz2, fun p hp => ?_⟩
      have ex := S1.extNew hp (.tup [w1, w2])
      refine ⟨_, _, e.trans ex, S1.new hp, ?_, rfl⟩
      have hs : (sidesM xs)[i]? = some (xs[i], xs[(i + 1) % xs.length]) := by
        have := sidesM_get xs (List.getElem?_eq_getElem (by omega : i < (sidesM xs).length))
        rw [List.getElem?_eq_getElem (by omega : i < (sidesM xs).length)]
        rw [List.getElem?_eq_getElem hi, List.getElem?_eq_getElem j2] at this
        rw [← Prod.eta (sidesM xs)[i], ← Option.some.inj this.1, ← Option.some.inj this.2]
      rw [List.take_add_one, hs]
      refine (a.up ex).app ⟨?_, True.intro⟩
      exact ⟨p, w1, w2, rfl, .inl (.inl upd_same), R.up ex hw1, R.up ex hw2⟩
  · refine .inl ⟨by show (xs.length : Int).toNat ≤ i; omega, ?_⟩
    refine hD _ _ _ (q _ _ _ e S1 ?_)
    rw [List.take_of_length_le (by omega)] at a
    exact a
def mkDr (out : List V) (H : Hp) (Q : VK) : Prop := ∀ p, H p = none → Q (.ref p) (upd H p (.lst out))
theorem q_listEs {K : PySem.W.Frag} {α : Type} {r : R α} {G H : Hp} {O : Own} {v : V} {xs : List α} {ys : List (α × α)} {Q : VK} {E : XK} (S : Sub G O H) (h : (rT K r).rel G v xs) (e : sdM xs = some ys)
    (q : ∀ w G' H', Ext G G' → Sub G' O H' → (rM (rP2 K r r)).rel G' w ys → Q w H') : spEs K [v] H (fun out H2 => mkDr out H2 Q) E := by
  obtain ⟨c, rfl⟩ := sdM_some e
  refine ⟨α, r, G, O, v, xs, rfl, S, h, c, fun G' H' ys e1 S1 a p hp => ?_⟩
  have ex := S1.extNew hp (.lst ys)
  exact q _ _ _ (e1.trans ex) (S1.new hp) ⟨p, ys, rfl, upd_same, a.up ex⟩
theorem gListEs {K : PySem.W.Frag} {t : TA} {E : XK} {σ : L2.St} {H : Hp} {Q : VK} (h : t σ H fun vs H1 => spEs K (vs ++ []) H1 (fun out H2 => mkDr out H2 Q) E) : tListG (tCallG (spEs K) [] E t) σ H Q := h
theorem pe_listEs {X : Cx} {f : Addr} {fd : FuncData} {p p2 pos pos' : Pos} {e : Expr} {es : List Expr} {t : TA} {n : Nat} {K : PySem.W.Frag} (hr : Room n X.A) (hn : 4 ≤ n) (F : GFn X.prog X.w X.K X.mg X.base 1 f fd ["ring"] (spEs K)) (hg2 : Gl X "each_side") (hm : X.mg "each_side" = some (.ref f)) (hk : PySem.W.keepIn X.K (.ref f) = true) (hb : Binds X.K fd ["ring"] [])
    (hg : Gl X "list") (hmg : X.mg "list" = none) (ha : PA X (e :: es) t) (he : starEach (e :: es) X.env = (false, eval e X.env) :: starEach es X.env := by rfl) (hpl : (backTo pos' (starEach es X.env)).any (·.1) = false := by rfl)
    (he2 : starEach [.Call (.Name "each_side" p) (e :: es) [] pos'] X.env = (false, eval (.Call (.Name "each_side" p) (e :: es) [] pos') X.env) :: starEach [] X.env := by rfl) :
    PE X (.Call (.Name "list" p2) [.Call (.Name "each_side" p) (e :: es) [] pos'] [] pos) (tListG (tCallG (spEs K) [] (fun _ _ _ => False) t)) :=
  pe_listG (E := fun _ _ _ => False) (pgen_call F (hr.mono (by omega)) hg2 hm hk hb .nil ha (by decide) he hpl) (fun _ _ _ _ _ _ _ h => by obtain ⟨_, _, _, _, _, _, _, _, _, _, _, _, z⟩ := h; exact z.elim) (fun _ _ _ z => z.elim) (hr.mono (by omega)) hg hmg rfl (by decide) (by decide) he2
end Mr

set_option linter.all false
/-! InkP: texts of '#' and '.', as lists of bools. -/
namespace Mr
abbrev Ink := List Bool
def fndF : Ink → Nat → Int
  | [], _ => -1
  | b :: l, i => if b then (i : Int) else fndF l (i + 1)
def rfnF : Ink → Nat → Int → Int
  | [], _, a => a
  | b :: l, i, a => rfnF l (i + 1) (if b then (i : Int) else a)
def fndI (b : Ink) : Int := fndF b 0
def rfnI (b : Ink) : Int := rfnF b 0 (-1)
def lstI (b : Ink) : Ink := b.dropWhile (!·)
def rstI (b : Ink) : Ink := (b.reverse.dropWhile (!·)).reverse
def fndM (b : Ink) : Option Int := if b.length ≤ 4 then some (fndI b) else none
def rfnM (b : Ink) : Option Int := if b.length ≤ 4 then some (rfnI b) else none
def lstM (b : Ink) : Option Ink := if b.length ≤ 4 then some (lstI b) else none
def rstM (b : Ink) : Option Ink := if b.length ≤ 4 then some (rstI b) else none
def lenI (b : Ink) : Option Int := if b.length ≤ 100000 then some (b.length : Int) else none
def cutI (b : Ink) (lo hi : Option Int) : Option Ink := if b.length ≤ 100000 then some (cutM b lo hi) else none
def getI (b : Ink) (i : Int) : Option Ink := if b.length ≤ 100000 then (getM b i).bind fun x => some [x] else none
def joinI (xs : List Ink) : Option Ink := if xs.flatten.length ≤ 100000 then some xs.flatten else none
def allI : Nat → List Ink
  | 0 => [[]]
  | n + 1 => (allI n).map (false :: ·) ++ (allI n).map (true :: ·)
def inks4 : List Ink := allI 0 ++ allI 1 ++ allI 2 ++ allI 3 ++ allI 4
theorem mem4I (b : Ink) (h : b.length ≤ 4) : b ∈ inks4 := by
  match b, h with
  | [], _ => decide +kernel
  | [a], _ => cases a <;> decide +kernel
  | [a, b], _ => cases a <;> cases b <;> decide +kernel
  | [a, b, c], _ => cases a <;> cases b <;> cases c <;> decide +kernel
  | [a, b, c, d], _ => cases a <;> cases b <;> cases c <;> cases d <;> decide +kernel
end Mr

set_option Elab.async false
set_option linter.all false
set_option maxRecDepth 100000
set_option maxHeartbeats 2000000
/-! MirS: texts of '#' and '.'. -/
namespace Mr
open PySem PySem.Spec PyProof.Rows L2
def e_Ink (bs : Ink) : Str := ⟨(bs.map fun b => if b then 35 else 46).toArray⟩
theorem inkL_inj : ∀ x y : Ink, (x.map fun b => if b then 35 else 46 : List Nat) = (y.map fun b => if b then 35 else 46) → x = y
  | [], [], _ => rfl
  | [], _ :: _, h => by cases h
  | _ :: _, [], h => by cases h
  | a :: x, b :: y, h => by
    rw [List.map_cons, List.map_cons] at h
    injection h with h1 h2
    rw [inkL_inj x y h2]
    congr 1
    cases a <;> cases b <;> first | rfl | (exfalso; revert h1; decide)
theorem e_Ink_inj : ∀ x y, e_Ink x = e_Ink y → x = y := fun x y h => by
  unfold e_Ink at h
  injection h with h
  exact inkL_inj x y (by simpa using congrArg Array.toList h)
theorem e_Ink_len (b : Ink) : (e_Ink b).length = b.length := by simp [e_Ink, Str.length]
theorem e_Ink_ok : ∀ x, PyData.strOk (e_Ink x) = true := fun x => by
  unfold PyData.strOk e_Ink
  simp
theorem pe_strI {X : Cx} {x : Str} {b : Ink} {j : Nat} {pos : Pos} (h : x = e_Ink b) : PE X (.Constant (.str x) j pos) (tC (.str (e_Ink b))) := h ▸ pe_str
theorem find_ink : ∀ b ∈ inks4, Txt.find (e_Ink b) (e_Ink [true]) = fndI b := by decide +kernel
theorem rfind_ink : ∀ b ∈ inks4, Txt.rfind (e_Ink b) (e_Ink [true]) = rfnI b := by decide +kernel
theorem lst_ink : ∀ b ∈ inks4, Txt.lstripChars (e_Ink b) (e_Ink [false]) = e_Ink (lstI b) := by decide +kernel
theorem rst_ink : ∀ b ∈ inks4, Txt.rstripChars (e_Ink b) (e_Ink [false]) = e_Ink (rstI b) := by decide +kernel
/-! ### rules -/
section
variable {X : Cx} {σ : L2.St} {H : Hp} {Q : VK}
def rFind : V → List V → Hp → VK → Prop := fun x xs H Q => ∃ a b, x = .str a ∧ xs = [.str b] ∧ Q (.int (Txt.find a b)) H
def rRfind : V → List V → Hp → VK → Prop := fun x xs H Q => ∃ a b, x = .str a ∧ xs = [.str b] ∧ Q (.int (Txt.rfind a b)) H
def rLst : V → List V → Hp → VK → Prop := fun x xs H Q => ∃ a b, x = .str a ∧ xs = [.str b] ∧ a.length ≤ sizeLine ∧ Q (.str (Txt.lstripChars a b)) H
def rRst : V → List V → Hp → VK → Prop := fun x xs H Q => ∃ a b, x = .str a ∧ xs = [.str b] ∧ a.length ≤ sizeLine ∧ Q (.str (Txt.rstripChars a b)) H
def rJoin (K : PySem.W.Frag) : V → List V → Hp → VK → Prop := fun x xs H Q => ∃ a p, ∃ ys : List Str, x = .str a ∧ xs = [.ref p] ∧ (SqL K H p (ys.map V.str) ∨ SqT K H p (ys.map V.str)) ∧
      (ys.map (·.length)).sum + ys.length * a.length ≤ 16777216 ∧ Q (.str (Txt.join a ys)) H
def rLenS : List V → Hp → VK → Prop := fun xs H Q => ∃ z, xs = [.str z] ∧ z.length ≤ sizeLine ∧ Q (.int z.length) H
theorem mt_findI : MtR X "str.find" rFind := mt_find
theorem mt_rfindI : MtR X "str.rfind" rRfind := mt_rfind
theorem mt_lstI : MtR X "str.lstrip" rLst := mt_lstripChars
theorem mt_rstI : MtR X "str.rstrip" rRst := mt_rstripChars
theorem mt_joinI {K : PySem.W.Frag} (h : X.K = K) : MtR X "str.join" (rJoin K) := by subst h; exact mt_join
theorem call_lenS : CallR X (.builtin "len") rLenS := call_len_str
theorem gM1 {r : V → List V → Hp → VK → Prop} {to te : TE} (h : to σ H fun x H1 => (∃ a, x = .str a) ∧ te σ H1 fun y H2 => r x [y] H2 Q) : tM1 r to te σ H Q := h
theorem ifS {α : Type} {c : Prop} [Decidable c] {a b : α} (h : (if c then some a else none) = some b) : c ∧ a = b := by
  by_cases k : c
  · rw [if_pos k] at h; exact ⟨k, Option.some.inj h⟩
  · rw [if_neg k] at h; cases h
theorem q_findI {b : Ink} {i : Int} (e : fndM b = some i) (q : Q (.int i) H) : rFind (.str (e_Ink b)) [.str (e_Ink [true])] H Q := by
  obtain ⟨c, rfl⟩ := ifS e
  exact ⟨_, _, rfl, rfl, by rw [find_ink b (mem4I b c)]; exact q⟩
theorem q_rfindI {b : Ink} {i : Int} (e : rfnM b = some i) (q : Q (.int i) H) : rRfind (.str (e_Ink b)) [.str (e_Ink [true])] H Q := by
  obtain ⟨c, rfl⟩ := ifS e
  exact ⟨_, _, rfl, rfl, by rw [rfind_ink b (mem4I b c)]; exact q⟩
theorem q_lstI {b z : Ink} (e : lstM b = some z) (q : Q (.str (e_Ink z)) H) : rLst (.str (e_Ink b)) [.str (e_Ink [false])] H Q := by
  obtain ⟨c, rfl⟩ := ifS e
  exact ⟨_, _, rfl, rfl, by rw [e_Ink_len]; exact sz (by omega), by rw [lst_ink b (mem4I b c)]; exact q⟩
theorem q_rstI {b z : Ink} (e : rstM b = some z) (q : Q (.str (e_Ink z)) H) : rRst (.str (e_Ink b)) [.str (e_Ink [false])] H Q := by
  obtain ⟨c, rfl⟩ := ifS e
  exact ⟨_, _, rfl, rfl, by rw [e_Ink_len]; exact sz (by omega), by rw [rst_ink b (mem4I b c)]; exact q⟩
theorem q_lenI {b : Ink} {n : Int} (e : lenI b = some n) (q : Q (.int n) H) : rLenS [.str (e_Ink b)] H Q := by
  obtain ⟨c, rfl⟩ := ifS e
  exact ⟨_, rfl, by rw [e_Ink_len]; exact sz c, by rw [e_Ink_len]; exact q⟩
theorem q_slI {b z : Ink} {lo hi : Option Int} (e : cutI b lo hi = some z) (q : Q (.str (e_Ink z)) H) : rSlS (.str (e_Ink b)) lo hi H Q := by
  obtain ⟨c, rfl⟩ := ifS e
  refine ⟨_, rfl, by rw [e_Ink_len]; exact sz c, ?_⟩
  have e1 : ∀ n d o, HT.sIx n d o = slIx n d o := fun n d o => by cases o <;> rfl
  have e2 : cutS (e_Ink b) lo hi = e_Ink (cutM b lo hi) := by
    unfold cutS cutM
    rw [e1, e1, e_Ink_len]
    unfold e_Ink
    simp [List.map_take, List.map_drop]
  rw [e2]; exact q
theorem q_ixI {b z : Ink} {i : Int} (e : getI b i = some z) (q : Q (.str (e_Ink z)) H) : rIxS (.str (e_Ink b)) (.int i) H Q := by
  unfold getI at e
  by_cases k : b.length ≤ 100000
  · rw [if_pos k] at e
    obtain ⟨x, e1, e2⟩ := bindS e
    cases e2
    refine ⟨_, i, if x then 35 else 46, rfl, rfl, by rw [e_Ink_len]; exact sz k, ?_, q⟩
    unfold getM at e1
    obtain ⟨j, e3, e4⟩ := bindS e1
    show (ixN (e_Ink b).cps.toList.length i).bind _ = _
    have el : (e_Ink b).cps.toList.length = b.length := by simp [e_Ink]
    rw [el, ← ix_eq, e3]
    show (e_Ink b).cps.toList[j]? = _
    simp [e_Ink, e4]
  · rw [if_neg k] at e; cases e
def rInS : R2 := fun x y H Q => ∃ (c : Nat) (z : Str), x = .str ⟨#[c]⟩ ∧ y = .str z ∧ Q (.bl (decide (c ∈ z.cps.toList))) H
def rNiS : R2 := fun x y H Q => ∃ (c : Nat) (z : Str), x = .str ⟨#[c]⟩ ∧ y = .str z ∧ Q (.bl (!decide (c ∈ z.cps.toList))) H
theorem op_inS : OpR X (compareOp .In) rInS := op_in_sign
theorem op_niS : OpR X (compareOp .NotIn) rNiS := op_notIn_sign
theorem q_inI {b : Ink} (q : Q (.bl (decide (true ∈ b))) H) : rInS (.str (e_Ink [true])) (.str (e_Ink b)) H Q := by
  refine ⟨35, e_Ink b, rfl, rfl, ?_⟩
  have : decide (35 ∈ (e_Ink b).cps.toList) = decide (true ∈ b) := by
    apply decide_eq_decide.mpr
    simp [e_Ink]
  rw [this]; exact q
theorem q_niI {b : Ink} (q : Q (.bl (!decide (true ∈ b))) H) : rNiS (.str (e_Ink [true])) (.str (e_Ink b)) H Q := by
  obtain ⟨c, z, h1, h2, h3⟩ := q_inI (b := b) (H := H) (Q := fun v H => ∃ k, v = V.bl k ∧ Q (.bl (!k)) H) ⟨_, rfl, q⟩
  obtain ⟨k, h4, h5⟩ := h3
  cases h4
  exact ⟨c, z, h1, h2, h5⟩
end
theorem glue_ink : ∀ (xs : List Ink) (acc : Ink), xs.foldl (fun (acc : Array Nat) p => acc ++ (e_Ink []).cps ++ (e_Ink p).cps) (e_Ink acc).cps = (e_Ink (acc ++ xs.flatten)).cps
  | [], acc => by simp
  | x :: xs, acc => by
    rw [List.foldl_cons]
    have e : (e_Ink acc).cps ++ (e_Ink []).cps ++ (e_Ink x).cps = (e_Ink (acc ++ x)).cps := by
      simp [e_Ink]
    rw [e, glue_ink xs (acc ++ x)]
    simp
theorem join_ink (xs : List Ink) : Txt.join (e_Ink []) (xs.map e_Ink) = e_Ink xs.flatten := by
  unfold Txt.join PySem.Builtin.Str.glued
  cases xs with
  | nil => rfl
  | cons x xs =>
    have := glue_ink xs x
    simp only [List.map_cons, List.drop_one, List.tail_cons, List.headD_cons, List.foldl_map, List.flatten_cons]
    rw [this]
theorem al_ink {G : Hp} : ∀ {vs : List V} {xs : List Ink}, Al (rEn e_Ink) G vs xs → vs = (xs.map e_Ink).map V.str
  | [], [], _ => rfl
  | v :: vs, x :: xs, h => by
    have h1 : v = V.str (e_Ink x) := h.1
    rw [h1, al_ink h.2]; rfl
  | [], _ :: _, h => h.elim
  | _ :: _, [], h => h.elim
theorem q_joinI {K : PySem.W.Frag} {G H : Hp} {O : Own} {v : V} {xs : List Ink} {z : Ink} {Q : VK} (S : Sub G O H) (h : (rM (rEn e_Ink)).rel G v xs) (e : joinI xs = some z) (q : Q (.str (e_Ink z)) H) : rJoin K (.str (e_Ink [])) [v] H Q := by
  obtain ⟨c, rfl⟩ := ifS e
  obtain ⟨p, vs, rfl, hp, ha⟩ := h
  have hv := al_ink ha
  subst hv
  refine ⟨_, p, xs.map e_Ink, rfl, rfl, .inl (sqL_up S.ext (.inl (.inl hp))), ?_, ?_⟩
  · have e1 : ((xs.map e_Ink).map (·.length)).sum = xs.flatten.length := by
      rw [List.length_flatten, List.map_map]
      congr 1
      apply List.map_congr_left
      intro a _
      exact e_Ink_len a
    rw [e1, e_Ink_len]
    show xs.flatten.length + (xs.map e_Ink).length * 0 ≤ _
    omega
  · rw [join_ink]; exact q
/-! ### None or an int -/
def dOI {K : PySem.W.Frag} : RD K (Option Int) := ⟨rO rInt, fun x => match x with
    | none => .none
    | some y => (dInt (K := K)).enc y, 2, fun _ => true,
  fun x h => by
    cases x with
    | none => rfl
    | some y => rfl,
  fun x => by
    cases x with
    | none => simp [PyData.depth]
    | some y => exact Nat.le_succ_of_le ((dInt (K := K)).dpt y),
  fun {H v x} h => by
    cases x with
    | none => cases (show v = .non from h); exact .non
    | some y => exact (dInt (K := K)).dp h.2,
  fun x y => by
    cases x with
    | none =>
      cases y with
      | none => rfl
      | some y => rfl
    | some x =>
      cases y with
      | none => rfl
      | some y =>
        show PyData.eqv ((dInt (K := K)).enc x) ((dInt (K := K)).enc y) = _
        rw [(dInt (K := K)).eqv]
        by_cases e : x = y
        · subst e; simp
        · simp [e]⟩
theorem okOI {K : PySem.W.Frag} : ∀ x, (dOI (K := K)).ok x = true := fun _ => rfl
end Mr

set_option linter.all false
set_option maxRecDepth 100000
set_option synthInstance.maxSize 4000
set_option synthInstance.maxHeartbeats 400000
namespace Mr
def m_count_of (start1 : (Int × Int)) (stop1 : (Int × Int)) (x1 : Int) (y1 : Int) : Option Int :=
  Option.bind (if (decide (start1.2 ≤ stop1.2)) then (some (start1, stop1)) else (some (stop1, start1))) fun x2 =>
  if ((decide (x2.1.2 > y1)) || (decide (x2.2.2 < (y1 + (1 : Int))))) then (some (0 : Int))
  else (Option.bind (mulM ((2 : Int) * x2.1.1) (x2.2.2 - x2.1.2)) fun x3 =>
  Option.bind (mulM (x2.2.1 - x2.1.1) ((((2 : Int) * y1) + (1 : Int)) - ((2 : Int) * x2.1.2))) fun x4 =>
  Option.bind (mulM (((2 : Int) * x1) + (1 : Int)) (x2.2.2 - x2.1.2)) fun x5 =>
  if (decide ((x3 + x4) ≤ x5)) then (some (0 : Int))
  else (some (if (decide (stop1.2 > start1.2)) then (1 : Int) else (-(1 : Int)))))

def m_winding_b2 (x1 : Int) (y1 : Int) : (Int) → ((Int × Int) × (Int × Int)) → Option (Int) := fun s x => match s, x with
  | total4, (x3, x4) => Option.bind (m_count_of x3 x4 x1 y1) fun r1 =>
  some (total4 + r1)
def m_winding_b1 (x1 : Int) (y1 : Int) : (Int) → (List (Int × Int)) → Option (Int) := fun total2 x2 => Option.bind (folM (m_winding_b2 x1 y1) (sidesM x2) total2) fun total3 =>
  some total3
def m_winding (rings1 : (List (List (Int × Int)))) (x1 : Int) (y1 : Int) : Option Int :=
  Option.bind (folM (m_winding_b1 x1 y1) rings1 (0 : Int)) fun total1 =>
  some total1

def m_ink_of_c2 (rings1 : (List (List (Int × Int)))) (x1 : Int) : ((List Ink)) → Int → Option ((List Ink)) := fun acc2 x3 => Option.bind (Option.bind (m_winding rings1 x3 x1) fun r3 =>
  if (!decide (r3 = (0 : Int))) then (some ([true] : Ink)) else (some ([false] : Ink))) fun x4 =>
  Option.bind (appM acc2 x4) fun acc3 =>
  some acc3
def m_ink_of_b1 (rings1 : (List (List (Int × Int)))) : ((List Ink)) → Int → Option ((List Ink)) := fun found2 x1 => Option.bind (rngM (4 : Int)) fun xs2 =>
  Option.bind (folM (m_ink_of_c2 rings1 x1) xs2 ([] : (List Ink))) fun acc1 =>
  Option.bind (joinI acc1) fun k5 =>
  Option.bind (appM found2 k5) fun found3 =>
  some found3
def m_ink_of (rings1 : (List (List (Int × Int)))) : Option (List Ink) :=
  Option.bind (rngM (4 : Int)) fun xs1 =>
  Option.bind (folM (m_ink_of_b1 rings1) xs1 ([] : List Ink)) fun found1 =>
  some found1

def m_leftmost (ink1 : (List Ink)) (row1 : Int) : Option (Option Int) :=
  Option.bind (getM ink1 row1) fun x1 =>
  Option.bind (fndM x1) fun k1 =>
  Option.bind (if (decide (k1 < (0 : Int))) then (some (none : (Option Int))) else (some (some k1))) fun x2 =>
  some x2

def m_rightmost (ink1 : (List Ink)) (row1 : Int) : Option (Option Int) :=
  Option.bind (getM ink1 row1) fun x1 =>
  Option.bind (rfnM x1) fun k1 =>
  Option.bind (if (decide (k1 < (0 : Int))) then (some (none : (Option Int))) else (some (some k1))) fun x2 =>
  some x2

def m_step_of_c1 : ((List Int)) → Ink → Option ((List Int)) := fun acc2 x1 => Option.bind (rfnM x1) fun k3 =>
  Option.bind (appM acc2 k3) fun acc3 =>
  some acc3
def m_step_of (ink1 : (List Ink)) : Option Int :=
  Option.bind (folM (m_step_of_c1) ink1 ([] : (List Int))) fun acc1 =>
  Option.bind (maxM acc1) fun x2 =>
  some (x2 + (1 : Int))

def m_blanks (left1 : (List Ink)) (right1 : (List Ink)) (row1 : Int) (gap1 : Int) : Option (Option Int) :=
  Option.bind (m_rightmost left1 row1) fun r1 =>
  Option.bind (m_leftmost right1 row1) fun r2 =>
  if ((r1.isNone) || (r2.isNone)) then (some (none : (Option Int)))
  else (Option.bind (m_step_of left1) fun r3 =>
  Option.bind (r2) fun j1 =>
  Option.bind (r1) fun j2 =>
  some (some ((((r3 + gap1) + j1) - j2) - (1 : Int))))

def m_law_bag_b1 : (Int) → (Int × Int) → Option (Int) := fun s x => match s, x with
  | mixed2, (k3, x4) => some ((((mixed2 * (16807 : Int)) + (x4 % (2147483629 : Int))) + ((13 : Int) * k3)) % (2147483647 : Int))
def m_law_bag (script1 : (List Int)) (at1 : Int) : Option (List Int) :=
  Option.bind (if (decide (at1 < (script1.length : Int))) then (Option.bind (getM script1 at1) fun x1 =>
  some (if x1 < 0 then -x1 else x1)) else (some (0 : Int))) fun x2 =>
  Option.bind (folM (m_law_bag_b1) (enumM (cutM script1 none (some (63 : Int)))) ((1009 : Int) + ((77 : Int) * at1))) fun mixed1 =>
  some ([(if (decide (x2 ≥ ((10 : Int) ^ (18 : Int).toNat))) then x2 else (0 : Int)), mixed1, (0 : Int)] : List Int)

def m_law_draw (bag_here1 : (List Int)) (many1 : Int) : Option (Int × (List Int)) :=
  Option.bind (getM bag_here1 (0 : Int)) fun x1 =>
  if (decide (x1 > (0 : Int))) then (Option.bind (getM bag_here1 (0 : Int)) fun x2 =>
  Option.bind (modM x2 many1) fun x3 =>
  Option.bind (getM bag_here1 (0 : Int)) fun x4 =>
  Option.bind (fdivM x4 many1) fun x5 =>
  Option.bind (setM bag_here1 (0 : Int) x5) fun bag_here2 =>
  some (x3, bag_here2))
  else (Option.bind (getM bag_here1 (2 : Int)) fun x6 =>
  Option.bind (setM bag_here1 (2 : Int) (x6 + (1 : Int))) fun bag_here3 =>
  Option.bind (getM bag_here3 (1 : Int)) fun x7 =>
  Option.bind (getM bag_here3 (2 : Int)) fun x8 =>
  Option.bind (setM bag_here3 (1 : Int) ((((x7 * (48271 : Int)) + ((11 : Int) * x8)) + (7 : Int)) % (2147483647 : Int))) fun bag_here4 =>
  Option.bind (getM bag_here4 (1 : Int)) fun x9 =>
  Option.bind (getM bag_here4 (2 : Int)) fun x10 =>
  Option.bind (modM ((((x9 * (69621 : Int)) + ((4099 : Int) * x10)) % (2147483629 : Int)) / (128 : Int)) many1) fun x11 =>
  some (x11, bag_here4))

def m_law_number (thing1 : Int) : Option Bool :=
  some (true && (!false))

def m_law_ring_b1 : ((List Int) × (List Int)) → Int → Option ((List Int) × (List Int)) := fun s x1 => match s with
  | (bag_here4, spots2) => Option.bind (getM spots2 (-(1 : Int))) fun x2 =>
  Option.bind (m_law_draw bag_here4 (24 : Int)) fun (r2, bag_here5) =>
  Option.bind (appM spots2 (((x2 + (1 : Int)) + r2) % (25 : Int))) fun spots3 =>
  some (bag_here5, spots3)
def m_law_ring_c2 (spots1 : (List Int)) : ((List Int)) → Int → Option ((List Int)) := fun acc2 x5 => Option.bind (getM spots1 (-(1 : Int))) fun x6 =>
  Option.bind (getM spots1 (0 : Int)) fun x7 =>
  if (!decide (x5 ∈ ([x6, x7] : List Int))) then (Option.bind (appM acc2 x5) fun acc3 =>
  some acc3)
  else (some acc2)
def m_law_ring_c3 : ((List (Int × Int))) → Int → Option ((List (Int × Int))) := fun acc5 x9 => Option.bind (appM acc5 ((x9 / (5 : Int)), (x9 - ((x9 / (5 : Int)) * (5 : Int))))) fun acc6 =>
  some acc6
def m_law_ring (bag_here1 : (List Int)) (many1 : Int) : Option ((List (Int × Int)) × (List Int)) :=
  Option.bind (m_law_draw bag_here1 (25 : Int)) fun (r1, bag_here2) =>
  Option.bind (rngM (many1 - (2 : Int))) fun xs1 =>
  Option.bind (folM (m_law_ring_b1) xs1 (bag_here2, ([r1] : List Int))) fun (bag_here3, spots1) =>
  Option.bind (rngM (25 : Int)) fun xs2 =>
  Option.bind (folM (m_law_ring_c2 spots1) xs2 ([] : (List Int))) fun acc1 =>
  Option.bind (m_law_draw bag_here3 (acc1.length : Int)) fun (r3, bag_here6) =>
  Option.bind (getM acc1 r3) fun x8 =>
  Option.bind (appM spots1 x8) fun spots4 =>
  Option.bind (folM (m_law_ring_c3) spots4 ([] : (List (Int × Int)))) fun acc4 =>
  some (acc4, bag_here6)

def m_law_rings_b1 : ((List Int) × (List (List (Int × Int)))) → Int → Option ((List Int) × (List (List (Int × Int)))) := fun s x1 => match s with
  | (bag_here4, found2) => Option.bind (m_law_draw bag_here4 (6 : Int)) fun (r2, bag_here5) =>
  Option.bind (m_law_ring bag_here5 ((3 : Int) + r2)) fun (r3, bag_here6) =>
  Option.bind (appM found2 r3) fun found3 =>
  some (bag_here6, found3)
def m_law_rings (bag_here1 : (List Int)) : Option ((List (List (Int × Int))) × (List Int)) :=
  Option.bind (m_law_draw bag_here1 (3 : Int)) fun (r1, bag_here2) =>
  Option.bind (rngM ((1 : Int) + r1)) fun xs1 =>
  Option.bind (folM (m_law_rings_b1) xs1 (bag_here2, ([] : List (List (Int × Int))))) fun (bag_here3, found1) =>
  some (found1, bag_here3)

def m_law_turn (start1 : (Int × Int)) (stop1 : (Int × Int)) (x1 : Int) (y1 : Int) : Option Int :=
  Option.bind (mulM (stop1.1 - start1.1) ((((2 : Int) * y1) + (1 : Int)) - ((2 : Int) * start1.2))) fun x2 =>
  Option.bind (mulM (stop1.2 - start1.2) ((((2 : Int) * x1) + (1 : Int)) - ((2 : Int) * start1.1))) fun x3 =>
  Option.bind (if (decide ((x2 - x3) = (0 : Int))) then (some (start1.2 - stop1.2))
  else (some (x2 - x3))) fun found1 =>
  some ((if (decide (found1 > (0 : Int))) then (1 : Int) else 0) - (if (decide (found1 < (0 : Int))) then (1 : Int) else 0))

def m_law_winding_b2 (x1 : Int) (y1 : Int) (x2 : (List (Int × Int))) : (Int) → Int → Option (Int) := fun total4 x3 => Option.bind (getM x2 (0 : Int)) fun x4 =>
  Option.bind (getM x2 x3) fun x5 =>
  Option.bind (m_law_turn x4 x5 x1 y1) fun r1 =>
  Option.bind (getM x2 x3) fun x6 =>
  Option.bind (getM x2 (x3 + (1 : Int))) fun x7 =>
  Option.bind (m_law_turn x6 x7 x1 y1) fun r2 =>
  Option.bind (getM x2 (x3 + (1 : Int))) fun x8 =>
  Option.bind (getM x2 (0 : Int)) fun x9 =>
  Option.bind (m_law_turn x8 x9 x1 y1) fun r3 =>
  Option.bind (if (decide (([r2, r3] : List Int) = ([r1, r1] : List Int))) then (some (total4 + r1))
  else (some total4)) fun total5 =>
  some total5
def m_law_winding_b1 (x1 : Int) (y1 : Int) : (Int) → (List (Int × Int)) → Option (Int) := fun total2 x2 => Option.bind (rng2M (1 : Int) ((x2.length : Int) - (1 : Int))) fun xs1 =>
  Option.bind (folM (m_law_winding_b2 x1 y1 x2) xs1 total2) fun total3 =>
  some total3
def m_law_winding (rings_here1 : (List (List (Int × Int)))) (x1 : Int) (y1 : Int) : Option Int :=
  Option.bind (folM (m_law_winding_b1 x1 y1) rings_here1 (0 : Int)) fun total1 =>
  some total1

def m_law_ink_c2 (rings_here1 : (List (List (Int × Int)))) (x1 : Int) : ((List Ink)) → Int → Option ((List Ink)) := fun acc2 x3 => Option.bind (Option.bind (m_law_winding rings_here1 x3 x1) fun r3 =>
  if (!decide (r3 = (0 : Int))) then (some ([true] : Ink)) else (some ([false] : Ink))) fun x4 =>
  Option.bind (appM acc2 x4) fun acc3 =>
  some acc3
def m_law_ink_b1 (rings_here1 : (List (List (Int × Int)))) : ((List Ink)) → Int → Option ((List Ink)) := fun found2 x1 => Option.bind (rngM (4 : Int)) fun xs2 =>
  Option.bind (folM (m_law_ink_c2 rings_here1 x1) xs2 ([] : (List Ink))) fun acc1 =>
  Option.bind (joinI acc1) fun k5 =>
  Option.bind (appM found2 k5) fun found3 =>
  some found3
def m_law_ink (rings_here1 : (List (List (Int × Int)))) : Option (List Ink) :=
  Option.bind (rngM (4 : Int)) fun xs1 =>
  Option.bind (folM (m_law_ink_b1 rings_here1) xs1 ([] : List Ink)) fun found1 =>
  some found1

def m_law_blanks_c1 : ((List Int)) → Ink → Option ((List Int)) := fun acc2 x1 => Option.bind (rfnM x1) fun k3 =>
  Option.bind (appM acc2 k3) fun acc3 =>
  some acc3
def m_law_blanks (left1 : (List Ink)) (right1 : (List Ink)) (row1 : Int) (gap1 : Int) : Option (Option Int) :=
  Option.bind (folM (m_law_blanks_c1) left1 ([] : (List Int))) fun acc1 =>
  Option.bind (maxM acc1) fun x2 =>
  Option.bind (getM left1 row1) fun x3 =>
  Option.bind (cutI x3 none (some (x2 + (1 : Int)))) fun k4 =>
  Option.bind (getM right1 row1) fun x4 =>
  if ((!decide (true ∈ k4)) || (!decide (true ∈ x4))) then (some (none : (Option Int)))
  else (Option.bind (lenI k4) fun k5 =>
  Option.bind (rstM k4) fun k6 =>
  Option.bind (lenI k6) fun k7 =>
  Option.bind (lenI x4) fun k8 =>
  Option.bind (lstM x4) fun k9 =>
  Option.bind (lenI k9) fun k10 =>
  some (some ((((k5 - k7) + gap1) + k8) - k10)))

def m_law_ink_stands_c2 (due1 : (List Ink)) (x2 : Int) : ((List Int)) → Int → Option ((List Int)) := fun acc2 x4 => Option.bind (getM due1 x2) fun x5 =>
  Option.bind (getI x5 x4) fun k8 =>
  if (decide (k8 = ([true] : Ink))) then (Option.bind (appM acc2 x4) fun acc3 =>
  some acc3)
  else (some acc2)
def m_law_ink_stands_c3 : ((List Int)) → Int → Option ((List Int)) := fun acc5 x11 => Option.bind (appM acc5 (x11 + (1 : Int))) fun acc6 =>
  some acc6
def m_law_ink_stands_c4 : ((List Int)) → Int → Option ((List Int)) := fun acc8 x25 => Option.bind (appM acc8 (x25 + (1 : Int))) fun acc9 =>
  some acc9
def m_law_ink_stands_b1 (told1 : (List Ink)) (due1 : (List Ink)) : ((List Int)) → Int → Option (Bf ((List Int)) Bool) := fun far2 x2 => Option.bind (rngM (4 : Int)) fun xs2 =>
  Option.bind (folM (m_law_ink_stands_c2 due1 x2) xs2 ([] : (List Int))) fun acc1 =>
  Option.bind (m_leftmost told1 x2) fun r9 =>
  Option.bind (m_rightmost told1 x2) fun r10 =>
  if (decide (acc1 = ([] : (List Int)))) then (Option.bind (Option.bind (getM ([r9, r10] : List (Option Int)) (0 : Int)) fun x6 =>
  if (!x6.isNone) then some true else (Option.bind (getM ([r9, r10] : List (Option Int)) (1 : Int)) fun x7 =>
  some (!x7.isNone))) fun x8 =>
  if x8 then (some (Bf.rt false))
  else (Option.bind (folM (m_law_ink_stands_c3) acc1 ([] : (List Int))) fun acc4 =>
  Option.bind (catM far2 acc4) fun z1 =>
  some (Bf.go z1)))
  else (Option.bind (Option.bind (getM acc1 (0 : Int)) fun x12 =>
  Option.bind (getM acc1 (-(1 : Int))) fun x13 =>
  if (!decide (([r9, r10] : List (Option Int)) = ([(some x12), (some x13)] : List (Option Int)))) then some true else (Option.bind (getM ([r9, r10] : List (Option Int)) (0 : Int)) fun x15 =>
  Option.bind (x15) fun j2 =>
  Option.bind (m_law_number j2) fun r12 =>
  if (!r12) then some true else (Option.bind (getM ([r9, r10] : List (Option Int)) (1 : Int)) fun x17 =>
  Option.bind (x17) fun j4 =>
  Option.bind (m_law_number j4) fun r14 =>
  some (!r14)))) fun x18 =>
  if x18 then (some (Bf.rt false))
  else (Option.bind (folM (m_law_ink_stands_c4) acc1 ([] : (List Int))) fun acc7 =>
  Option.bind (catM far2 acc7) fun z2 =>
  some (Bf.go z2)))
def m_law_ink_stands (told1 : (List Ink)) (due1 : (List Ink)) : Option Bool :=
  Option.bind (if (!true) then some true else (if (!decide (told1 = due1)) then some true else (Option.bind (m_step_of told1) fun r3 =>
  Option.bind (m_law_number r3) fun r4 =>
  some (!r4)))) fun x1 =>
  if x1 then (some false)
  else (Option.bind (rngM (4 : Int)) fun xs1 =>
  Option.bind (forL (m_law_ink_stands_b1 told1 due1) xs1 ([(0 : Int)] : List Int)) fun res => match res with
  | Fl.rt r => some r
  | Fl.nx far1 => Option.bind (m_step_of told1) fun r19 =>
  Option.bind (maxM far1) fun x26 =>
  some (decide (r19 = x26)))

def m_law_blanks_stand_b2 (left1 : (List Ink)) (right1 : (List Ink)) (x1 : Int) : (Unit) → Int → Option (Bf (Unit) Bool) := fun _ x2 => Option.bind (m_blanks left1 right1 x1 x2) fun r1 =>
  Option.bind (m_law_blanks left1 right1 x1 x2) fun r2 =>
  if (r2.isNone) then (if (!r1.isNone) then (some (Bf.rt false))
  else (some (Bf.go ())))
  else (Option.bind (Option.bind (r1) fun j2 =>
  Option.bind (m_law_number j2) fun r4 =>
  if (!r4) then some true else (some (!decide (r1 = r2)))) fun x3 =>
  if x3 then (some (Bf.rt false))
  else (some (Bf.go ())))
def m_law_blanks_stand_b1 (left1 : (List Ink)) (right1 : (List Ink)) : (Unit) → Int → Option (Bf (Unit) Bool) := fun _ x1 => Option.bind (rngM (3 : Int)) fun xs2 =>
  Option.bind (forL (m_law_blanks_stand_b2 left1 right1 x1) xs2 ()) fun res => match res with
  | Fl.rt r => some (Bf.rt r)
  | Fl.nx _ => some (Bf.go ())
def m_law_blanks_stand (left1 : (List Ink)) (right1 : (List Ink)) : Option Bool :=
  Option.bind (rngM (4 : Int)) fun xs1 =>
  Option.bind (forL (m_law_blanks_stand_b1 left1 right1) xs1 ()) fun res => match res with
  | Fl.rt r => some r
  | Fl.nx _ => some true

def m_law_c3 : ((List (List (Int × Int)))) → (List (Int × Int)) → Option ((List (List (Int × Int)))) := fun acc2 x4 => Option.bind (appM acc2 x4) fun acc3 =>
  some acc3
def m_law_c4 : ((List (List (Int × Int)))) → (List (Int × Int)) → Option ((List (List (Int × Int)))) := fun acc5 x6 => Option.bind (appM acc5 x6) fun acc6 =>
  some acc6
def m_law_b2 : ((List Int) × (List (List Ink))) → Int → Option (Bf ((List Int) × (List (List Ink))) Bool) := fun s x2 => match s with
  | (bag_here2, inks2) => Option.bind (Option.bind (m_law_draw bag_here2 (8 : Int)) fun (r2, bag_here3) =>
  if (decide (r2 > (0 : Int))) then (Option.bind (m_law_rings bag_here3) fun (r3, bag_here4) =>
  some (r3, bag_here4)) else (some (([] : List (List (Int × Int))), bag_here3))) fun (x3, bag_here5) =>
  Option.bind (folM (m_law_c3) x3 ([] : (List (List (Int × Int))))) fun acc1 =>
  Option.bind (m_ink_of x3) fun r6 =>
  Option.bind (Option.bind (m_law_ink acc1) fun r9 =>
  Option.bind (m_law_ink_stands r6 r9) fun r10 =>
  if (!r10) then some true else (some (!decide (x3 = acc1)))) fun x5 =>
  if x5 then (some (Bf.rt false))
  else (Option.bind (folM (m_law_c4) x3 ([] : (List (List (Int × Int))))) fun acc4 =>
  Option.bind (m_ink_of acc4) fun r15 =>
  if (!decide (r15 = r6)) then (some (Bf.rt false))
  else (Option.bind (appM inks2 r6) fun inks3 =>
  some (Bf.go (bag_here5, inks3))))
def m_law_b6 (x7 : (List Ink)) : (Unit) → (List Ink) → Option (Bf (Unit) Bool) := fun _ x8 => Option.bind (m_law_blanks_stand x7 x8) fun r17 =>
  if (!r17) then (some (Bf.rt false))
  else (some (Bf.go ()))
def m_law_b5 (inks1 : (List (List Ink))) : (Unit) → (List Ink) → Option (Bf (Unit) Bool) := fun _ x7 => Option.bind (forL (m_law_b6 x7) inks1 ()) fun res => match res with
  | Fl.rt r => some (Bf.rt r)
  | Fl.nx _ => some (Bf.go ())
def m_law_b1 (script1 : (List Int)) : (Unit) → Int → Option (Bf (Unit) Bool) := fun _ x1 => Option.bind (m_law_bag script1 x1) fun r1 =>
  Option.bind (rngM (2 : Int)) fun xs2 =>
  Option.bind (forL (m_law_b2) xs2 (r1, ([] : List (List Ink)))) fun res => match res with
  | Fl.rt r => some (Bf.rt r)
  | Fl.nx (bag_here1, inks1) => Option.bind (forL (m_law_b5 inks1) inks1 ()) fun res => match res with
  | Fl.rt r => some (Bf.rt r)
  | Fl.nx _ => some (Bf.go ())
def m_law (script1 : (List Int)) : Option Bool :=
  Option.bind (rngM (if (if (script1.length : Int) < (4 : Int) then (script1.length : Int) else (4 : Int)) > (1 : Int) then (if (script1.length : Int) < (4 : Int) then (script1.length : Int) else (4 : Int)) else (1 : Int))) fun xs1 =>
  Option.bind (forL (m_law_b1 script1) xs1 ()) fun res => match res with
  | Fl.rt r => some r
  | Fl.nx _ => some true
end Mr

set_option Elab.async false
set_option linter.all false
set_option maxRecDepth 100000
set_option maxHeartbeats 4000000
set_option synthInstance.maxSize 4000
set_option synthInstance.maxHeartbeats 400000
namespace Mr
open PySem PySem.Spec PyProof.Rows L2
def top (i : Nat) : Stmt := PySem.Challenge.pw_pressalike_k02_inks_by_rows.main.body.getD i (.Pass ⟨0, 0, 0, 0⟩)
abbrev s_each_side : Stmt := top 2
abbrev s_count_of : Stmt := top 3
abbrev s_winding : Stmt := top 4
abbrev s_ink_of : Stmt := top 6
abbrev s_leftmost : Stmt := top 7
abbrev s_rightmost : Stmt := top 8
abbrev s_step_of : Stmt := top 9
abbrev s_blanks : Stmt := top 10
abbrev s_law_bag : Stmt := top 12
abbrev s_law_draw : Stmt := top 13
abbrev s_law_number : Stmt := top 14
abbrev s_law_ring : Stmt := top 15
abbrev s_law_rings : Stmt := top 16
abbrev s_law_turn : Stmt := top 17
abbrev s_law_winding : Stmt := top 18
abbrev s_law_ink : Stmt := top 19
abbrev s_law_blanks : Stmt := top 20
abbrev s_law_ink_stands : Stmt := top 21
abbrev s_law_blanks_stand : Stmt := top 22
abbrev s_law : Stmt := top 23
structure Tx (K : PySem.W.Frag) (mg : Str → Option Value) where
  fd_each_side : FuncData
  F_each_side : FunD K "each_side" "each_side" (defArgs s_each_side) (defBody s_each_side) (defScope s_each_side) [] [] (He.fAd K ("each_side", none)) fd_each_side
  g_each_side : mg "each_side" = some (.ref (He.fAd K ("each_side", none)))
  b_each_side : Binds K fd_each_side ["ring"] []
  fd_count_of : FuncData
  F_count_of : FunD K "count_of" "count_of" (defArgs s_count_of) (defBody s_count_of) (defScope s_count_of) [] [] (He.fAd K ("count_of", none)) fd_count_of
  g_count_of : mg "count_of" = some (.ref (He.fAd K ("count_of", none)))
  b_count_of : Binds K fd_count_of ["start", "stop", "x", "y"] []
  fd_winding : FuncData
  F_winding : FunD K "winding" "winding" (defArgs s_winding) (defBody s_winding) (defScope s_winding) [] [] (He.fAd K ("winding", none)) fd_winding
  g_winding : mg "winding" = some (.ref (He.fAd K ("winding", none)))
  b_winding : Binds K fd_winding ["rings", "x", "y"] []
  fd_ink_of : FuncData
  F_ink_of : FunD K "ink_of" "ink_of" (defArgs s_ink_of) (defBody s_ink_of) (defScope s_ink_of) [] [] (He.fAd K ("ink_of", none)) fd_ink_of
  g_ink_of : mg "ink_of" = some (.ref (He.fAd K ("ink_of", none)))
  b_ink_of : Binds K fd_ink_of ["rings"] []
  fd_leftmost : FuncData
  F_leftmost : FunD K "leftmost" "leftmost" (defArgs s_leftmost) (defBody s_leftmost) (defScope s_leftmost) [] [] (He.fAd K ("leftmost", none)) fd_leftmost
  g_leftmost : mg "leftmost" = some (.ref (He.fAd K ("leftmost", none)))
  b_leftmost : Binds K fd_leftmost ["ink", "row"] []
  fd_rightmost : FuncData
  F_rightmost : FunD K "rightmost" "rightmost" (defArgs s_rightmost) (defBody s_rightmost) (defScope s_rightmost) [] [] (He.fAd K ("rightmost", none)) fd_rightmost
  g_rightmost : mg "rightmost" = some (.ref (He.fAd K ("rightmost", none)))
  b_rightmost : Binds K fd_rightmost ["ink", "row"] []
  fd_step_of : FuncData
  F_step_of : FunD K "step_of" "step_of" (defArgs s_step_of) (defBody s_step_of) (defScope s_step_of) [] [] (He.fAd K ("step_of", none)) fd_step_of
  g_step_of : mg "step_of" = some (.ref (He.fAd K ("step_of", none)))
  b_step_of : Binds K fd_step_of ["ink"] []
  fd_blanks : FuncData
  F_blanks : FunD K "blanks" "blanks" (defArgs s_blanks) (defBody s_blanks) (defScope s_blanks) [] [] (He.fAd K ("blanks", none)) fd_blanks
  g_blanks : mg "blanks" = some (.ref (He.fAd K ("blanks", none)))
  b_blanks : Binds K fd_blanks ["left", "right", "row", "gap"] []
  fd_law_bag : FuncData
  F_law_bag : FunD K "_law_bag" "_law_bag" (defArgs s_law_bag) (defBody s_law_bag) (defScope s_law_bag) [] [] (He.fAd K ("_law_bag", none)) fd_law_bag
  g_law_bag : mg "_law_bag" = some (.ref (He.fAd K ("_law_bag", none)))
  b_law_bag : Binds K fd_law_bag ["_law_script", "_law_at"] []
  fd_law_draw : FuncData
  F_law_draw : FunD K "_law_draw" "_law_draw" (defArgs s_law_draw) (defBody s_law_draw) (defScope s_law_draw) [] [] (He.fAd K ("_law_draw", none)) fd_law_draw
  g_law_draw : mg "_law_draw" = some (.ref (He.fAd K ("_law_draw", none)))
  b_law_draw : Binds K fd_law_draw ["_law_bag_here", "_law_many"] []
  fd_law_number : FuncData
  F_law_number : FunD K "_law_number" "_law_number" (defArgs s_law_number) (defBody s_law_number) (defScope s_law_number) [] [] (He.fAd K ("_law_number", none)) fd_law_number
  g_law_number : mg "_law_number" = some (.ref (He.fAd K ("_law_number", none)))
  b_law_number : Binds K fd_law_number ["_law_thing"] []
  fd_law_ring : FuncData
  F_law_ring : FunD K "_law_ring" "_law_ring" (defArgs s_law_ring) (defBody s_law_ring) (defScope s_law_ring) [] [] (He.fAd K ("_law_ring", none)) fd_law_ring
  g_law_ring : mg "_law_ring" = some (.ref (He.fAd K ("_law_ring", none)))
  b_law_ring : Binds K fd_law_ring ["_law_bag_here", "_law_many"] []
  fd_law_rings : FuncData
  F_law_rings : FunD K "_law_rings" "_law_rings" (defArgs s_law_rings) (defBody s_law_rings) (defScope s_law_rings) [] [] (He.fAd K ("_law_rings", none)) fd_law_rings
  g_law_rings : mg "_law_rings" = some (.ref (He.fAd K ("_law_rings", none)))
  b_law_rings : Binds K fd_law_rings ["_law_bag_here"] []
  fd_law_turn : FuncData
  F_law_turn : FunD K "_law_turn" "_law_turn" (defArgs s_law_turn) (defBody s_law_turn) (defScope s_law_turn) [] [] (He.fAd K ("_law_turn", none)) fd_law_turn
  g_law_turn : mg "_law_turn" = some (.ref (He.fAd K ("_law_turn", none)))
  b_law_turn : Binds K fd_law_turn ["_law_start", "_law_stop", "_law_x", "_law_y"] []
  fd_law_winding : FuncData
  F_law_winding : FunD K "_law_winding" "_law_winding" (defArgs s_law_winding) (defBody s_law_winding) (defScope s_law_winding) [] [] (He.fAd K ("_law_winding", none)) fd_law_winding
  g_law_winding : mg "_law_winding" = some (.ref (He.fAd K ("_law_winding", none)))
  b_law_winding : Binds K fd_law_winding ["_law_rings_here", "_law_x", "_law_y"] []
  fd_law_ink : FuncData
  F_law_ink : FunD K "_law_ink" "_law_ink" (defArgs s_law_ink) (defBody s_law_ink) (defScope s_law_ink) [] [] (He.fAd K ("_law_ink", none)) fd_law_ink
  g_law_ink : mg "_law_ink" = some (.ref (He.fAd K ("_law_ink", none)))
  b_law_ink : Binds K fd_law_ink ["_law_rings_here"] []
  fd_law_blanks : FuncData
  F_law_blanks : FunD K "_law_blanks" "_law_blanks" (defArgs s_law_blanks) (defBody s_law_blanks) (defScope s_law_blanks) [] [] (He.fAd K ("_law_blanks", none)) fd_law_blanks
  g_law_blanks : mg "_law_blanks" = some (.ref (He.fAd K ("_law_blanks", none)))
  b_law_blanks : Binds K fd_law_blanks ["_law_left", "_law_right", "_law_row", "_law_gap"] []
  fd_law_ink_stands : FuncData
  F_law_ink_stands : FunD K "_law_ink_stands" "_law_ink_stands" (defArgs s_law_ink_stands) (defBody s_law_ink_stands) (defScope s_law_ink_stands) [] [] (He.fAd K ("_law_ink_stands", none)) fd_law_ink_stands
  g_law_ink_stands : mg "_law_ink_stands" = some (.ref (He.fAd K ("_law_ink_stands", none)))
  b_law_ink_stands : Binds K fd_law_ink_stands ["_law_told", "_law_due"] []
  fd_law_blanks_stand : FuncData
  F_law_blanks_stand : FunD K "_law_blanks_stand" "_law_blanks_stand" (defArgs s_law_blanks_stand) (defBody s_law_blanks_stand) (defScope s_law_blanks_stand) [] [] (He.fAd K ("_law_blanks_stand", none)) fd_law_blanks_stand
  g_law_blanks_stand : mg "_law_blanks_stand" = some (.ref (He.fAd K ("_law_blanks_stand", none)))
  b_law_blanks_stand : Binds K fd_law_blanks_stand ["_law_left", "_law_right"] []
  fd_law : FuncData
  F_law : FunD K "law" "law" (defArgs s_law) (defBody s_law) (defScope s_law) [] [] (He.fAd K ("law", none)) fd_law
  g_law : mg "law" = some (.ref (He.fAd K ("law", none)))
  b_law : Binds K fd_law ["_law_script"] []
  z_abs : mg "abs" = none
  z_bool : mg "bool" = none
  z_enumerate : mg "enumerate" = none
  z_int : mg "int" = none
  z_isinstance : mg "isinstance" = none
  z_len : mg "len" = none
  z_list : mg "list" = none
  z_max : mg "max" = none
  z_min : mg "min" = none
  z_range : mg "range" = none
  z_tuple : mg "tuple" = none
  c_GRID : ∃ t, mg "GRID" = some (.int 4 t)
theorem es_D {K : PySem.W.Frag} {mg : Str → Option Value} (T : Tx K mg) : GFr.EsD K mg (He.fAd K ("each_side", none)) T.fd_each_side (defBody s_each_side) (GFr.forB (defBody s_each_side)) (GFr.forP (defBody s_each_side)) :=
  ⟨⟨_, _, _, _, _, _, rfl⟩, ⟨_, _, _, _, _, _, _, _, _, _, _, _, _, _, _, _, _, rfl⟩, ⟨_, _, T.F_each_side, ⟨rfl, rfl, rfl, by decide +kernel, rfl, by decide +kernel, by decide +kernel⟩, rfl, rfl, rfl, rfl⟩, T.b_each_side, T.g_each_side, T.z_len, T.z_range⟩
def sp_count_of (K : PySem.W.Frag) : Sp := fun vs H Q _ => ∃ (G : Hp) (O : Own) (v1 : V) (start1 : (Int × Int)) (v2 : V) (stop1 : (Int × Int)) (x1 : Int) (y1 : Int), vs = [v1, v2, (V.int x1), (V.int y1)] ∧ Sub G (O) H ∧ R.rel (rP2 K rInt rInt) G v1 start1 ∧ R.rel (rP2 K rInt rInt) G v2 stop1 ∧ ∃ res, m_count_of start1 stop1 x1 y1 = some res ∧
  ∀ (G' H' : Hp), Ext G G' → Sub G' (O) H' → Q (V.int res) H'
def sp_winding (K : PySem.W.Frag) : Sp := fun vs H Q _ => ∃ (G : Hp) (O : Own) (v1 : V) (rings1 : (List (List (Int × Int)))) (x1 : Int) (y1 : Int), vs = [v1, (V.int x1), (V.int y1)] ∧ Sub G (O) H ∧ R.rel (rQ K (rQ K (rP2 K rInt rInt))) G v1 rings1 ∧ ∃ res, m_winding rings1 x1 y1 = some res ∧
  ∀ (G' H' : Hp), Ext G G' → Sub G' (O) H' → Q (V.int res) H'
def sp_ink_of (K : PySem.W.Frag) : Sp := fun vs H Q _ => ∃ (G : Hp) (O : Own) (v1 : V) (rings1 : (List (List (Int × Int)))), vs = [v1] ∧ Sub G (O) H ∧ R.rel (rQ K (rQ K (rP2 K rInt rInt))) G v1 rings1 ∧ ∃ res, m_ink_of rings1 = some res ∧
  ∀ (v : V) (G' H' : Hp), Ext G G' → Sub G' (O) H' → R.rel (rT K (rEn e_Ink)) G' v res → Q v H'
def sp_leftmost (K : PySem.W.Frag) : Sp := fun vs H Q _ => ∃ (G : Hp) (O : Own) (v1 : V) (ink1 : (List Ink)) (row1 : Int), vs = [v1, (V.int row1)] ∧ Sub G (O) H ∧ R.rel (rT K (rEn e_Ink)) G v1 ink1 ∧ ∃ res, m_leftmost ink1 row1 = some res ∧
  ∀ (v : V) (G' H' : Hp), Ext G G' → Sub G' (O) H' → R.rel (rO rInt) G' v res → Q v H'
def sp_rightmost (K : PySem.W.Frag) : Sp := fun vs H Q _ => ∃ (G : Hp) (O : Own) (v1 : V) (ink1 : (List Ink)) (row1 : Int), vs = [v1, (V.int row1)] ∧ Sub G (O) H ∧ R.rel (rT K (rEn e_Ink)) G v1 ink1 ∧ ∃ res, m_rightmost ink1 row1 = some res ∧
  ∀ (v : V) (G' H' : Hp), Ext G G' → Sub G' (O) H' → R.rel (rO rInt) G' v res → Q v H'
def sp_step_of (K : PySem.W.Frag) : Sp := fun vs H Q _ => ∃ (G : Hp) (O : Own) (v1 : V) (ink1 : (List Ink)), vs = [v1] ∧ Sub G (O) H ∧ R.rel (rT K (rEn e_Ink)) G v1 ink1 ∧ ∃ res, m_step_of ink1 = some res ∧
  ∀ (G' H' : Hp), Ext G G' → Sub G' (O) H' → Q (V.int res) H'
def sp_blanks (K : PySem.W.Frag) : Sp := fun vs H Q _ => ∃ (G : Hp) (O : Own) (v1 : V) (left1 : (List Ink)) (v2 : V) (right1 : (List Ink)) (row1 : Int) (gap1 : Int), vs = [v1, v2, (V.int row1), (V.int gap1)] ∧ Sub G (O) H ∧ R.rel (rT K (rEn e_Ink)) G v1 left1 ∧ R.rel (rT K (rEn e_Ink)) G v2 right1 ∧ ∃ res, m_blanks left1 right1 row1 gap1 = some res ∧
  ∀ (v : V) (G' H' : Hp), Ext G G' → Sub G' (O) H' → R.rel (rO rInt) G' v res → Q v H'
def sp_law_bag (K : PySem.W.Frag) : Sp := fun vs H Q _ => ∃ (G : Hp) (O : Own) (v1 : V) (script1 : (List Int)) (at1 : Int), vs = [v1, (V.int at1)] ∧ Sub G (O) H ∧ R.rel (rL K rInt) G v1 script1 ∧ ∃ res, m_law_bag script1 at1 = some res ∧
  ∀ (p : Addr) (w : List V) (G' H' : Hp), Ext G G' → Sub G' ((p, HO.lst w) :: O) H' → Al rInt G' w res → Q (V.ref p) H'
def sp_law_draw (K : PySem.W.Frag) : Sp := fun vs H Q _ => ∃ (G : Hp) (O : Own) (a1 : Addr) (w1 : List V) (bag_here1 : List Int) (many1 : Int), vs = [V.ref a1, (V.int many1)] ∧ Sub G ((a1, HO.lst w1) :: O) H ∧ Al rInt G w1 bag_here1 ∧ ∃ res, m_law_draw bag_here1 many1 = some res ∧
  ∀ (G' H' : Hp) (w'0 : List V), Ext G G' → Sub G' ((a1, HO.lst w'0) :: O) H' → Al rInt G' w'0 res.2 → Q (V.int res.1) H'
def sp_law_number (K : PySem.W.Frag) : Sp := fun vs H Q _ => ∃ (G : Hp) (O : Own) (thing1 : Int), vs = [(V.int thing1)] ∧ Sub G (O) H ∧ ∃ res, m_law_number thing1 = some res ∧
  ∀ (G' H' : Hp), Ext G G' → Sub G' (O) H' → Q (V.bl res) H'
def sp_law_ring (K : PySem.W.Frag) : Sp := fun vs H Q _ => ∃ (G : Hp) (O : Own) (a1 : Addr) (w1 : List V) (bag_here1 : List Int) (many1 : Int), vs = [V.ref a1, (V.int many1)] ∧ Sub G ((a1, HO.lst w1) :: O) H ∧ Al rInt G w1 bag_here1 ∧ ∃ res, m_law_ring bag_here1 many1 = some res ∧
  ∀ (v : V) (G' H' : Hp) (w'0 : List V), Ext G G' → Sub G' ((a1, HO.lst w'0) :: O) H' → R.rel (rM (rP2 K rInt rInt)) G' v res.1 → Al rInt G' w'0 res.2 → Q v H'
def sp_law_rings (K : PySem.W.Frag) : Sp := fun vs H Q _ => ∃ (G : Hp) (O : Own) (a1 : Addr) (w1 : List V) (bag_here1 : List Int), vs = [V.ref a1] ∧ Sub G ((a1, HO.lst w1) :: O) H ∧ Al rInt G w1 bag_here1 ∧ ∃ res, m_law_rings bag_here1 = some res ∧
  ∀ (v : V) (G' H' : Hp) (w'0 : List V), Ext G G' → Sub G' ((a1, HO.lst w'0) :: O) H' → R.rel (rM (rM (rP2 K rInt rInt))) G' v res.1 → Al rInt G' w'0 res.2 → Q v H'
def sp_law_turn (K : PySem.W.Frag) : Sp := fun vs H Q _ => ∃ (G : Hp) (O : Own) (v1 : V) (start1 : (Int × Int)) (v2 : V) (stop1 : (Int × Int)) (x1 : Int) (y1 : Int), vs = [v1, v2, (V.int x1), (V.int y1)] ∧ Sub G (O) H ∧ R.rel (rP2 K rInt rInt) G v1 start1 ∧ R.rel (rP2 K rInt rInt) G v2 stop1 ∧ ∃ res, m_law_turn start1 stop1 x1 y1 = some res ∧
  ∀ (G' H' : Hp), Ext G G' → Sub G' (O) H' → Q (V.int res) H'
def sp_law_winding (K : PySem.W.Frag) : Sp := fun vs H Q _ => ∃ (G : Hp) (O : Own) (v1 : V) (rings_here1 : (List (List (Int × Int)))) (x1 : Int) (y1 : Int), vs = [v1, (V.int x1), (V.int y1)] ∧ Sub G (O) H ∧ R.rel (rM (rM (rP2 K rInt rInt))) G v1 rings_here1 ∧ ∃ res, m_law_winding rings_here1 x1 y1 = some res ∧
  ∀ (G' H' : Hp), Ext G G' → Sub G' (O) H' → Q (V.int res) H'
def sp_law_ink (K : PySem.W.Frag) : Sp := fun vs H Q _ => ∃ (G : Hp) (O : Own) (v1 : V) (rings_here1 : (List (List (Int × Int)))), vs = [v1] ∧ Sub G (O) H ∧ R.rel (rM (rM (rP2 K rInt rInt))) G v1 rings_here1 ∧ ∃ res, m_law_ink rings_here1 = some res ∧
  ∀ (v : V) (G' H' : Hp), Ext G G' → Sub G' (O) H' → R.rel (rT K (rEn e_Ink)) G' v res → Q v H'
def sp_law_blanks (K : PySem.W.Frag) : Sp := fun vs H Q _ => ∃ (G : Hp) (O : Own) (v1 : V) (left1 : (List Ink)) (v2 : V) (right1 : (List Ink)) (row1 : Int) (gap1 : Int), vs = [v1, v2, (V.int row1), (V.int gap1)] ∧ Sub G (O) H ∧ R.rel (rT K (rEn e_Ink)) G v1 left1 ∧ R.rel (rT K (rEn e_Ink)) G v2 right1 ∧ ∃ res, m_law_blanks left1 right1 row1 gap1 = some res ∧
  ∀ (v : V) (G' H' : Hp), Ext G G' → Sub G' (O) H' → R.rel (rO rInt) G' v res → Q v H'
def sp_law_ink_stands (K : PySem.W.Frag) : Sp := fun vs H Q _ => ∃ (G : Hp) (O : Own) (v1 : V) (told1 : (List Ink)) (v2 : V) (due1 : (List Ink)), vs = [v1, v2] ∧ Sub G (O) H ∧ R.rel (rT K (rEn e_Ink)) G v1 told1 ∧ R.rel (rT K (rEn e_Ink)) G v2 due1 ∧ ∃ res, m_law_ink_stands told1 due1 = some res ∧
  ∀ (G' H' : Hp), Ext G G' → Sub G' (O) H' → Q (V.bl res) H'
def sp_law_blanks_stand (K : PySem.W.Frag) : Sp := fun vs H Q _ => ∃ (G : Hp) (O : Own) (v1 : V) (left1 : (List Ink)) (v2 : V) (right1 : (List Ink)), vs = [v1, v2] ∧ Sub G (O) H ∧ R.rel (rT K (rEn e_Ink)) G v1 left1 ∧ R.rel (rT K (rEn e_Ink)) G v2 right1 ∧ ∃ res, m_law_blanks_stand left1 right1 = some res ∧
  ∀ (G' H' : Hp), Ext G G' → Sub G' (O) H' → Q (V.bl res) H'
def sp_law (K : PySem.W.Frag) : Sp := fun vs H Q _ => ∃ (G : Hp) (O : Own) (v1 : V) (script1 : (List Int)), vs = [v1] ∧ Sub G (O) H ∧ R.rel (rL K rInt) G v1 script1 ∧ ∃ res, m_law script1 = some res ∧
  ∀ (G' H' : Hp), Ext G G' → Sub G' (O) H' → Q (V.bl res) H'
end Mr

set_option Elab.async false
set_option linter.all false
set_option maxRecDepth 100000
set_option maxHeartbeats 4000000
set_option synthInstance.maxSize 4000
set_option synthInstance.maxHeartbeats 400000
namespace Mr
open PySem PySem.Spec PyProof.Rows L2 GFr
section
variable {P : Program} {w : World} {K : PySem.W.Frag} {mg : Str → Option Value} {base : Heap}
theorem sc_count_of : FnScope ["start", "stop", "x", "y", "upper", "lower", "height", "doubled"] ["start", "stop", "x", "y"] (defScope s_count_of) := ⟨rfl, rfl, rfl, by decide +kernel, rfl, by decide +kernel, by decide +kernel⟩
theorem ok_count_of (T : Tx K mg) : FnOk P w K mg base CX0 1 (He.fAd K ("count_of", none)) T.fd_count_of ["start", "stop", "x", "y"] (sp_count_of K) := by
  refine T.F_count_of.ok sc_count_of (fun vs H Q E h => ?_) (fun cdv A outer s H0 vs Q E hr h => ?_)
  · obtain ⟨G, O, v1, start1, v2, stop1, x1, y1, rfl, _⟩ := h
    rfl
  · obtain ⟨G0, O, v1, start1, v2, stop1, x1, y1, rfl, S0, h1, h2, res, hm, q⟩ := h
    refine ⟨_, PSs.nox (pss_cons (ps_asg (pe_cut (pe_ifExp (pt_cmpR op_le (pe_ix ix_tup (pv 0) pe_int (fun _ _ => rfl)) (pe_ix ix_tup (pv 1) pe_int (fun _ _ => rfl)) (nomark _)) (pe_tup (pa_cons (pv 0) (pa_cons (pv 1) pa_nil))) (pe_tup (pa_cons (pv 1) (pa_cons (pv 0) pa_nil))))) (pg_tup rfl (pgs_cons (pg_name (i := 4) sc_count_of.nd rfl (.inl rfl)) (pgs_cons (pg_name (i := 5) sc_count_of.nd rfl (.inl rfl)) pgs_nil))))
      (pss_cons (ps_if (pt_cut (PW.pt (pw_or (pt_cmpR op_gt (pe_ix ix_tup (pv 4) pe_int (fun _ _ => rfl)) (pv 3) (nomark _)) (pw_or1 (pt_cmpR op_lt (pe_ix ix_tup (pv 5) pe_int (fun _ _ => rfl)) (pe_op op_add (pv 3) pe_int) (nomark _)))))) (pss_one (ps_ret pe_int)) pss_nil)
      (pss_cons (ps_set (i := 6) sc_count_of.nd rfl (.inl rfl) (pe_op op_sub (pe_ix ix_tup (pv 5) pe_int (fun _ _ => rfl)) (pe_ix ix_tup (pv 4) pe_int (fun _ _ => rfl))))
      (pss_cons (ps_set (i := 7) sc_count_of.nd rfl (.inl rfl) (pe_op op_add (pe_op op_mul (pe_op op_mul pe_int (pe_ix ix_tup (pv 4) pe_int (fun _ _ => rfl))) (pv 6)) (pe_op op_mul (pe_op op_sub (pe_ix ix_tup (pv 5) pe_int (fun _ _ => rfl)) (pe_ix ix_tup (pv 4) pe_int (fun _ _ => rfl))) (pe_op op_sub (pe_op op_add (pe_op op_mul pe_int (pv 3)) pe_int) (pe_op op_mul pe_int (pe_ix ix_tup (pv 4) pe_int (fun _ _ => rfl)))))))
      (pss_cons (ps_if (pt_cmpR op_le (pv 7) (pe_op op_mul (pe_op op_add (pe_op op_mul pe_int (pv 2)) pe_int) (pv 6)) (nomark _)) (pss_one (ps_ret pe_int)) pss_nil)
      (pss_one (ps_ret (pe_cut (pe_ifExp (pt_cmpR op_gt (pe_ix ix_tup (pv 1) pe_int (fun _ _ => rfl)) (pe_ix ix_tup (pv 0) pe_int (fun _ _ => rfl)) (nomark _)) pe_int (pe_un un_neg pe_int)))))))))), ?_⟩
    have E0 := Ext.refl G0
    have hm0 : (Option.bind (if (decide (start1.2 ≤ stop1.2)) then (some (start1, stop1)) else (some (stop1, start1))) fun x2 =>
  if ((decide (x2.1.2 > y1)) || (decide (x2.2.2 < (y1 + (1 : Int))))) then (some (0 : Int))
  else (Option.bind (mulM ((2 : Int) * x2.1.1) (x2.2.2 - x2.1.2)) fun x3 =>
  Option.bind (mulM (x2.2.1 - x2.1.1) ((((2 : Int) * y1) + (1 : Int)) - ((2 : Int) * x2.1.2))) fun x4 =>
  Option.bind (mulM (((2 : Int) * x1) + (1 : Int)) (x2.2.2 - x2.1.2)) fun x5 =>
  if (decide ((x3 + x4) ≤ x5)) then (some (0 : Int))
  else (some (if (decide (stop1.2 > start1.2)) then (1 : Int) else (-(1 : Int)))))) = some res := hm
    refine gS_Asg ?_
    obtain ⟨x2, hq1, hm1⟩ := bindS hm0
    refine gCE (fun (v : V) (H : Hp) => ∃ (G : Hp), Ext G0 G ∧ Sub G (O) H ∧ R.rel (rP2 K (rP2 K rInt rInt) (rP2 K rInt rInt)) G v x2) ?_ ?_
    · skip
      refine gIf ?_
      refine gTest ?_
      refine gOp ?_
      refine gOp ?_
      refine gV rfl ?_
      refine gC ?_
      refine q_p2_1 S0 h1 (fun v7 h11 => ?_)
      obtain rfl := (show v7 = (V.int start1.2) from h11)
      refine gOp ?_
      refine gV rfl ?_
      refine gC ?_
      refine q_p2_1 S0 h2 (fun v8 h12 => ?_)
      obtain rfl := (show v8 = (V.int stop1.2) from h12)
      refine ⟨_, _, rfl, rfl, ?_⟩
      refine ⟨(decide (start1.2 ≤ stop1.2)), rfl, ?_⟩
      refine ite2 (fun c1 => ?_) (fun c1 => ?_)
      · skip
        have hm2 := (if_pos c1).symm.trans hq1
        refine gTup' ?_
        refine gCons' ?_
        refine gV rfl ?_
        refine gCons' ?_
        refine gV rfl ?_
        refine gNil' ?_
        refine q_tup2 (K := K) S0 (show R.rel (rP2 K rInt rInt) G0 v1 start1 from h1) (show R.rel (rP2 K rInt rInt) G0 v2 stop1 from h2) (fun v9 G3 H3 e3 S3 h13 => ?_)
        have h14 := R.up e3 h1
        have h15 := R.up e3 h2
        have E3 := E0.trans e3
        cases hm2
        exact ⟨G3, e3, S3, h13⟩
      · skip
        have hm3 := (if_neg c1).symm.trans hq1
        refine gTup' ?_
        refine gCons' ?_
        refine gV rfl ?_
        refine gCons' ?_
        refine gV rfl ?_
        refine gNil' ?_
        refine q_tup2 (K := K) S0 (show R.rel (rP2 K rInt rInt) G0 v2 stop1 from h2) (show R.rel (rP2 K rInt rInt) G0 v1 start1 from h1) (fun v10 G4 H4 e4 S4 h16 => ?_)
        have h17 := R.up e4 h1
        have h18 := R.up e4 h2
        have E4 := E0.trans e4
        cases hm3
        exact ⟨G4, e4, S4, h16⟩
    · intro v11 H5 hJ
      obtain ⟨G5, e5, S5, h19⟩ := hJ
      have h20 := R.up e5 h1
      have h21 := R.up e5 h2
      have E5 := E0.trans e5
      refine q_gt2 S5 h19 (fun v12 v13 h22 h23 => ?_)
      refine gS_IfS ?_
      refine gCT (fun (b : Bool) (H : Hp) => ∃ (G : Hp), Ext G5 G ∧ Sub G (O) H ∧ b = ((decide (x2.1.2 > y1)) || (decide (x2.2.2 < (y1 + (1 : Int)))))) ?_ ?_
      · skip
        refine gOr ?_
        refine gTest ?_
        refine gOp ?_
        refine gOp ?_
        refine gV rfl ?_
        refine gC ?_
        refine q_p2_1 S5 h22 (fun v16 h26 => ?_)
        obtain rfl := (show v16 = (V.int x2.1.2) from h26)
        refine gV rfl ?_
        refine ⟨_, _, rfl, rfl, ?_⟩
        refine ⟨(decide (x2.1.2 > y1)), rfl, ?_⟩
        refine ite2 (fun c2 => ?_) (fun c2 => ?_)
        · skip
          exact ⟨G5, (Ext.refl _), S5, (by rw [c2, Bool.true_or])⟩
        · skip
          refine gTest ?_
          refine gOp ?_
          refine gOp ?_
          refine gV rfl ?_
          refine gC ?_
          refine q_p2_1 S5 h23 (fun v17 h27 => ?_)
          obtain rfl := (show v17 = (V.int x2.2.2) from h27)
          refine gOp ?_
          refine gV rfl ?_
          refine gC ?_
          refine ⟨_, _, rfl, rfl, ?_⟩
          refine ⟨_, _, rfl, rfl, ?_⟩
          refine ⟨(decide (x2.2.2 < (y1 + (1 : Int)))), rfl, ?_⟩
          exact ⟨G5, (Ext.refl _), S5, (by rw [ne_false c2, Bool.false_or])⟩
      · intro b1 H6 hJ
        obtain ⟨G6, e6, S6, rfl⟩ := hJ
        have h28 := R.up e6 h20
        have h29 := R.up e6 h21
        have h30 := R.up e6 h22
        have h31 := R.up e6 h23
        have E6 := E5.trans e6
        refine ite2 (fun c3 => ?_) (fun c3 => ?_)
        · skip
          have hm4 := (if_pos c3).symm.trans hm1
          refine gRet ?_
          refine gC ?_
          cases hm4
          exact q G6 H6 E6 S6
        · skip
          have hm5 := (if_neg c3).symm.trans hm1
          refine gNext ?_
          refine gE ?_
          refine gS_AsgN ?_
          refine gOp ?_
          refine gOp ?_
          refine gV rfl ?_
          refine gC ?_
          refine q_p2_1 S6 h31 (fun v18 h32 => ?_)
          obtain rfl := (show v18 = (V.int x2.2.2) from h32)
          refine gOp ?_
          refine gV rfl ?_
          refine gC ?_
          refine q_p2_1 S6 h30 (fun v19 h33 => ?_)
          obtain rfl := (show v19 = (V.int x2.1.2) from h33)
          refine ⟨_, _, rfl, rfl, ?_⟩
          refine gS_AsgN ?_
          refine gOp ?_
          refine gOp ?_
          refine gOp ?_
          refine gC ?_
          refine gOp ?_
          refine gV rfl ?_
          refine gC ?_
          refine q_p2_0 S6 h30 (fun v20 h34 => ?_)
          obtain rfl := (show v20 = (V.int x2.1.1) from h34)
          refine ⟨_, _, rfl, rfl, .inl ⟨by decide, by decide⟩, ?_⟩
          refine gV rfl ?_
          obtain ⟨x3, hq2, hm6⟩ := bindS hm5
          refine q_mul hq2 ?_
          refine gOp ?_
          refine gOp ?_
          refine gOp ?_
          refine gV rfl ?_
          refine gC ?_
          refine q_p2_0 S6 h31 (fun v21 h35 => ?_)
          obtain rfl := (show v21 = (V.int x2.2.1) from h35)
          refine gOp ?_
          refine gV rfl ?_
          refine gC ?_
          refine q_p2_0 S6 h30 (fun v22 h36 => ?_)
          obtain rfl := (show v22 = (V.int x2.1.1) from h36)
          refine ⟨_, _, rfl, rfl, ?_⟩
          refine gOp ?_
          refine gOp ?_
          refine gOp ?_
          refine gC ?_
          refine gV rfl ?_
          refine ⟨_, _, rfl, rfl, .inl ⟨by decide, by decide⟩, ?_⟩
          refine gC ?_
          refine ⟨_, _, rfl, rfl, ?_⟩
          refine gOp ?_
          refine gC ?_
          refine gOp ?_
          refine gV rfl ?_
          refine gC ?_
          refine q_p2_1 S6 h30 (fun v23 h37 => ?_)
          obtain rfl := (show v23 = (V.int x2.1.2) from h37)
          refine ⟨_, _, rfl, rfl, .inl ⟨by decide, by decide⟩, ?_⟩
          refine ⟨_, _, rfl, rfl, ?_⟩
          obtain ⟨x4, hq3, hm7⟩ := bindS hm6
          refine q_mul hq3 ?_
          refine ⟨_, _, rfl, rfl, ?_⟩
          refine gS_IfS ?_
          refine gTest ?_
          refine gOp ?_
          refine gV rfl ?_
          refine gOp ?_
          refine gOp ?_
          refine gOp ?_
          refine gC ?_
          refine gV rfl ?_
          refine ⟨_, _, rfl, rfl, .inl ⟨by decide, by decide⟩, ?_⟩
          refine gC ?_
          refine ⟨_, _, rfl, rfl, ?_⟩
          refine gV rfl ?_
          obtain ⟨x5, hq4, hm8⟩ := bindS hm7
          refine q_mul hq4 ?_
          refine ⟨_, _, rfl, rfl, ?_⟩
          refine ⟨(decide ((x3 + x4) ≤ x5)), rfl, ?_⟩
          refine ite2 (fun c4 => ?_) (fun c4 => ?_)
          · skip
            have hm9 := (if_pos c4).symm.trans hm8
            refine gRet ?_
            refine gC ?_
            cases hm9
            exact q G6 H6 E6 S6
          · skip
            have hm10 := (if_neg c4).symm.trans hm8
            refine gNext ?_
            refine gE ?_
            refine gRet ?_
            refine gCE (fun (v : V) (H : Hp) => ∃ (G : Hp), Ext G6 G ∧ Sub G (O) H ∧ v = (V.int (if (decide (stop1.2 > start1.2)) then (1 : Int) else (-(1 : Int))))) ?_ ?_
            · skip
              refine gIf ?_
              refine gTest ?_
              refine gOp ?_
              refine gOp ?_
              refine gV rfl ?_
              refine gC ?_
              refine q_p2_1 S6 h29 (fun v26 h40 => ?_)
              obtain rfl := (show v26 = (V.int stop1.2) from h40)
              refine gOp ?_
              refine gV rfl ?_
              refine gC ?_
              refine q_p2_1 S6 h28 (fun v27 h41 => ?_)
              obtain rfl := (show v27 = (V.int start1.2) from h41)
              refine ⟨_, _, rfl, rfl, ?_⟩
              refine ⟨(decide (stop1.2 > start1.2)), rfl, ?_⟩
              refine ite2 (fun c5 => ?_) (fun c5 => ?_)
              · skip
                refine gC ?_
                exact ⟨G6, (Ext.refl _), S6, congrArg V.int (if_pos c5).symm⟩
              · skip
                refine gUn ?_
                refine gC ?_
                refine ⟨_, rfl, ?_⟩
                exact ⟨G6, (Ext.refl _), S6, congrArg V.int (if_neg c5).symm⟩
            · intro v28 H7 hJ
              obtain ⟨G7, e7, S7, rfl⟩ := hJ
              have h43 := R.up e7 h28
              have h44 := R.up e7 h29
              have h45 := R.up e7 h30
              have h46 := R.up e7 h31
              have E7 := E6.trans e7
              cases hm10
              exact q G7 H7 E7 S7
end
end Mr

set_option Elab.async false
set_option linter.all false
set_option maxRecDepth 100000
set_option maxHeartbeats 4000000
set_option synthInstance.maxSize 4000
set_option synthInstance.maxHeartbeats 400000
namespace Mr
open PySem PySem.Spec PyProof.Rows L2 GFr
section
variable {P : Program} {w : World} {K : PySem.W.Frag} {mg : Str → Option Value} {base : Heap}
theorem sc_winding : FnScope ["rings", "x", "y", "total", "ring", "start", "stop"] ["rings", "x", "y"] (defScope s_winding) := ⟨rfl, rfl, rfl, by decide +kernel, rfl, by decide +kernel, by decide +kernel⟩
theorem ok_winding (T : Tx K mg) : FnOk P w K mg base CX0 2 (He.fAd K ("winding", none)) T.fd_winding ["rings", "x", "y"] (sp_winding K) := by
  have G_count_of := ok_count_of (P := P) (w := w) (base := base) T
  refine T.F_winding.ok sc_winding (fun vs H Q E h => ?_) (fun cdv A outer s H0 vs Q E hr h => ?_)
  · obtain ⟨G, O, v1, rings1, x1, y1, rfl, _⟩ := h
    rfl
  · obtain ⟨G0, O, v1, rings1, x1, y1, rfl, S0, h1, res, hm, q⟩ := h
    refine ⟨_, PSs.nox (pss_cons (ps_set (i := 3) sc_winding.nd rfl (.inl rfl) pe_int)
      (pss_cons (ps_cut (ps_for PassesOwn.never rfl (pi_Q (pv 0)) (pg_name (i := 4) sc_winding.nd rfl (.inl rfl))
      (pss_one (ps_cut (ps_forEs (es_D T) hr T.F_each_side.kp (by rfl) rfl (pa_cons (pv 4) pa_nil) (pg_tup rfl (pgs_cons (pg_name (i := 5) sc_winding.nd rfl (.inl rfl)) (pgs_cons (pg_name (i := 6) sc_winding.nd rfl (.inl rfl)) pgs_nil)))
      (pss_one (ps_aug (i := 3) sc_winding.nd rfl (.inl rfl) (pe_call G_count_of (hr.mono (by decide)) (by rfl) T.g_count_of T.F_count_of.kp T.b_count_of .nil pass0 (pa_cons (pv 5) (pa_cons (pv 6) (pa_cons (pv 1) (pa_cons (pv 2) pa_nil))))) ip_add)))))))
      (pss_one (ps_ret (pv 3))))), ?_⟩
    have E0 := Ext.refl G0
    have hm0 : (Option.bind (folM (m_winding_b1 x1 y1) rings1 (0 : Int)) fun total1 =>
  some total1) = some res := hm
    refine gS_AsgN ?_
    refine gC ?_
    obtain ⟨total1, hl1, hm1⟩ := bindS hm0
    refine gS_CS (fun (σ : L2.St) (H : Hp) => ∃ (G : Hp) (y2 : Option V) (y3 : Option V) (y4 : Option V), Ext G0 G ∧ Sub G (O) H ∧ σ = [some v1, some (V.int x1), some (V.int y1), some (V.int total1), y2, y3, y4]) ?_ ?_
    · skip
      refine gFor ?_
      refine gIQ ?_
      refine gV rfl ?_
      refine lp_Q (r := (rQ K (rP2 K rInt rInt))) S0 h1 (fol_for Empty hl1) (fun (s : Int) (σ : L2.St) (H : Hp) => ∃ (G : Hp) (y2 : Option V) (y3 : Option V) (y4 : Option V), Ext G0 G ∧ Sub G (O) H ∧ σ = [some v1, some (V.int x1), some (V.int y1), some (V.int s), y2, y3, y4]) ⟨G0, _, _, _, (Ext.refl _), S0, rfl⟩ ?_ ?_ ?_
      · intro s σ H hI
        obtain ⟨G, k1, k2, k3, ie, iS, _⟩ := hI
        exact ie.trans iS.ext
      · intro i1 x2 total2 b1 hb1 hr1 v2 σ1 H1 hI1 h2
        obtain ⟨s2, hb2, hb3⟩ := goF_some hb1
        subst hb3
        obtain ⟨G1, y5, y6, y7, e1, S1, rfl⟩ := hI1
        have h3 := R.up e1 h1
        have h4 := R.up e1 h1
        have E1 := E0.trans e1
        have h5 := R.up e1 h2
        have hm2 : (Option.bind (folM (m_winding_b2 x1 y1) (sidesM x2) total2) fun total3 =>   some total3) = some s2 := hb2
        obtain ⟨total3, hl2, hm3⟩ := bindS hm2
        refine gCS (fun (σ : L2.St) (H : Hp) => ∃ (G : Hp) (y8 : Option V) (y9 : Option V), Ext G1 G ∧ Sub G (O) H ∧ σ = [some v1, some (V.int x1), some (V.int y1), some (V.int total3), some v2, y8, y9]) ?_ ?_
        · skip
          refine gFor ?_
          refine gIEs ?_
          refine gCons' ?_
          refine gV rfl ?_
          refine gNil' ?_
          refine lp_Es (r := (rP2 K rInt rInt)) rf_P2 S1 h5 (fol_for Empty hl2) (fun (s : Int) (σ : L2.St) (H : Hp) => ∃ (G : Hp) (y8 : Option V) (y9 : Option V), Ext G1 G ∧ Sub G (O) H ∧ σ = [some v1, some (V.int x1), some (V.int y1), some (V.int s), some v2, y8, y9]) ⟨G1, _, _, (Ext.refl _), S1, rfl⟩ ?_ ?_ ?_
          · intro s σ H hI
            obtain ⟨G, k4, k5, ie, iS, _⟩ := hI
            exact ie.trans iS.ext
          · intro i2 x3 x4 total4 b2 hb4 hr2 v3 v4 σ2 H2 H3 hI2 hS1 h6 h7
            obtain ⟨s4, hb5, hb6⟩ := goF_some hb4
            subst hb6
            obtain ⟨G2, y10, y11, e2, S2, rfl⟩ := hI2
            have h8 := R.up e2 h3
            have h9 := R.up e2 h5
            have h10 := R.up e2 h4
            have h11 := R.up e2 h5
            have E2 := E1.trans e2
            have S3 := hS1 _ _ S2
            have h12 := R.up e2 h6
            have h13 := R.up e2 h7
            have hm4 : (Option.bind (m_count_of x3 x4 x1 y1) fun r1 =>   some (total4 + r1)) = some s4 := hb5
            refine gAug rfl ?_
            refine gCall ?_
            refine gCons' ?_
            refine gV rfl ?_
            refine gCons' ?_
            refine gV rfl ?_
            refine gCons' ?_
            refine gV rfl ?_
            refine gCons' ?_
            refine gV rfl ?_
            refine gNil' ?_
            obtain ⟨r1, hq1, hm5⟩ := bindS hm4
            refine ⟨G2, (O), v3, x3, v4, x4, x1, y1, rfl, S3, h12, h13, r1, hq1, fun G3 H4 e3 S4 => ?_⟩
            have h14 := R.up e3 h8
            have h15 := R.up e3 h9
            have h16 := R.up e3 h12
            have h17 := R.up e3 h13
            have h18 := R.up e3 h10
            have h19 := R.up e3 h11
            have E3 := E2.trans e3
            refine ⟨_, _, rfl, rfl, ?_⟩
            cases hm5
            exact ⟨_, ⟨G3, _, _, (e2.trans e3), S4, rfl⟩, hr2⟩
          · intro s σ H h1 h2
            cases h1
            obtain ⟨G, k4, k5, ie, irest⟩ := h2
            exact ⟨G, k4, k5, (ie), irest⟩
        · intro σ3 H5 hJ1
          obtain ⟨G4, y12, y13, e4, S5, rfl⟩ := hJ1
          have h20 := R.up e4 h3
          have h21 := R.up e4 h5
          have h22 := R.up e4 h4
          have E4 := E1.trans e4
          cases hm3
          exact ⟨_, ⟨G4, _, _, _, (e1.trans e4), S5, rfl⟩, hr1⟩
      · intro s σ H h1 h2
        cases h1
        obtain ⟨G, k1, k2, k3, ie, irest⟩ := h2
        exact ⟨G, k1, k2, k3, (ie), irest⟩
    · intro σ4 H6 hJ2
      obtain ⟨G5, y14, y15, y16, e5, S6, rfl⟩ := hJ2
      have h23 := R.up e5 h1
      have E5 := E0.trans e5
      refine gRet ?_
      refine gV rfl ?_
      cases hm1
      exact q G5 H6 E5 S6
end
end Mr

set_option Elab.async false
set_option linter.all false
set_option maxRecDepth 100000
set_option maxHeartbeats 4000000
set_option synthInstance.maxSize 4000
set_option synthInstance.maxHeartbeats 400000
namespace Mr
open PySem PySem.Spec PyProof.Rows L2 GFr
section
variable {P : Program} {w : World} {K : PySem.W.Frag} {mg : Str → Option Value} {base : Heap}
theorem sc_ink_of : FnScope ["rings", "found", "y", "x"] ["rings"] (defScope s_ink_of) := ⟨rfl, rfl, rfl, by decide +kernel, rfl, by decide +kernel, by decide +kernel⟩
theorem ok_ink_of (T : Tx K mg) : FnOk P w K mg base CX0 3 (He.fAd K ("ink_of", none)) T.fd_ink_of ["rings"] (sp_ink_of K) := by
  have G_winding := ok_winding (P := P) (w := w) (base := base) T
  obtain ⟨tk_GRID, c_GRID⟩ := T.c_GRID
  refine T.F_ink_of.ok sc_ink_of (fun vs H Q E h => ?_) (fun cdv A outer s H0 vs Q E hr h => ?_)
  · obtain ⟨G, O, v1, rings1, rfl, _⟩ := h
    rfl
  · obtain ⟨G0, O, v1, rings1, rfl, S0, h1, res, hm, q⟩ := h
    refine ⟨_, PSs.nox (pss_cons (ps_set (i := 1) sc_ink_of.nd rfl (.inl rfl) (pe_lst pa_nil))
      (pss_cons (ps_cut (ps_for PassesOwn.never rfl (pi_range1 (by rfl) T.z_range (pa_cons (pe_glob (v := (V.int (4 : Int))) (by rfl) c_GRID ⟨_, rfl⟩) pa_nil)) (pg_name (i := 2) sc_ink_of.nd rfl (.inr rfl))
      (pss_one (ps_expr (pe_bm PySem.F.plainAttrs_list PySem.F.slot_list_append PySem.F.type_list_append mt_append (pv 1) (pa_cons (pe_m1 PySem.F.slot_str_join PySem.F.type_str_join (mt_joinI (K := K) rfl) (pe_strI (b := ([] : Ink)) (by decide +kernel)) (pe_lc (own := [("x", 3)]) (g := gName 3) (by rfl) sc_ink_of.nd (pi_range1 (by rfl) T.z_range (pa_cons (pe_glob (v := (V.int (4 : Int))) (by rfl) c_GRID ⟨_, rfl⟩) pa_nil)) (blkOk_by (own := [("x", 3)]) (N := ["rings", "found", "y", "x"]) (sc := defScope s_ink_of) (by decide +kernel)) (fun _ _ _ _ _ => (pg_name (i := 3) sc_ink_of.nd rfl (.inl rfl))) (fun _ _ _ _ _ => pts_nil) (fun _ _ _ _ _ => (pe_cut (pe_ifExp (pt_cmpR op_neI (pe_call G_winding (hr.mono (by decide)) (by rfl) T.g_winding T.F_winding.kp T.b_winding .nil pass0 (pa_cons (pv 0) (pa_cons (pv 3) (pa_cons (pv 2) pa_nil)))) pe_int (nomark _)) (pe_strI (b := ([true] : Ink)) (by decide +kernel)) (pe_strI (b := ([false] : Ink)) (by decide +kernel))))))) pa_nil))))))
      (pss_one (ps_ret (pe_callTy (r := rTupOf K) call_tupOf (by rfl) T.z_tuple boot_tuple (pa_cons (pv 1) pa_nil)))))), ?_⟩
    have E0 := Ext.refl G0
    have hm0 : (Option.bind (rngM (4 : Int)) fun xs1 =>
  Option.bind (folM (m_ink_of_b1 rings1) xs1 ([] : List Ink)) fun found1 =>
  some found1) = some res := hm
    refine gS_AsgN ?_
    refine gLst ?_
    refine gNil' ?_
    have h2 : Al (rEn e_Ink) G0 [] [] := True.intro
    refine q_lst S0 h2 (by show 0 ≤ 100000; decide) (fun a1 H1 w1 S1 h3 => ?_)
    obtain ⟨xs1, hq1, hm1⟩ := bindS hm0
    obtain ⟨found1, hl1, hm2⟩ := bindS hm1
    refine gS_CS (fun (σ : L2.St) (H : Hp) => ∃ (G : Hp) (w2 : List V) (y1 : Option V) (y2 : Option V), Ext G0 G ∧ Sub G ((a1, HO.lst w2) :: O) H ∧ σ = [some v1, some (V.ref a1), y1, y2] ∧ Al (rEn e_Ink) G w2 found1) ?_ ?_
    · skip
      refine gFor ?_
      refine gIR ?_
      refine gCons' ?_
      refine gC ?_
      refine gNil' ?_
      refine lp_R hq1 (fol_for Empty hl1) (fun (s : (List Ink)) (σ : L2.St) (H : Hp) => ∃ (G : Hp) (w2 : List V) (y1 : Option V) (y2 : Option V), Ext G0 G ∧ Sub G ((a1, HO.lst w2) :: O) H ∧ σ = [some v1, some (V.ref a1), y1, y2] ∧ Al (rEn e_Ink) G w2 s) ⟨G0, w1, _, _, (Ext.refl _), S1, rfl, h3⟩ ?_ ?_
      · intro i1 x1 found2 b1 hb1 hr1 σ1 H2 hI1
        obtain ⟨s2, hb2, hb3⟩ := goF_some hb1
        subst hb3
        obtain ⟨G1, w3, y3, y4, e1, S2, rfl, h5⟩ := hI1
        have h6 := R.up e1 h1
        have E1 := E0.trans e1
        have hm3 : (Option.bind (rngM (4 : Int)) fun xs2 =>   Option.bind (folM (m_ink_of_c2 rings1 x1) xs2 ([] : (List Ink))) fun acc1 =>   Option.bind (joinI acc1) fun k5 =>   Option.bind (appM found2 k5) fun found3 =>   some found3) = some s2 := hb2
        refine gDrop ?_
        refine gBM ?_
        refine gV rfl ?_
        refine ⟨.inl ⟨rfl, _, .inl (.inl S2.head)⟩, ?_⟩
        refine gCons' ?_
        refine gM1 ?_
        refine gC ?_
        refine ⟨⟨_, rfl⟩, ?_⟩
        refine gLc ?_
        refine gIR ?_
        refine gCons' ?_
        refine gC ?_
        refine gNil' ?_
        obtain ⟨xs2, hq2, hm4⟩ := bindS hm3
        obtain ⟨acc1, hq6, hm10⟩ := bindS hm4
        refine lc_R hq2 hq6 (fun (D : Addr) (s : (List Ink)) (H : Hp) => ∃ (G : Hp) (w4 : List V), Ext G1 G ∧ Sub G ((D, HO.lst w4) :: (a1, HO.lst w3) :: O) H ∧ Al (rEn e_Ink) G w4 s) ?_ ?_ ?_
        · intro D1 nD1
          exact ⟨G1, [], Ext.refl _, S2.newOwn nD1, True.intro⟩
        · intro D2 i2 x3 acc2 s4 hb4 hr2 H6 hI2
          obtain ⟨G5, w5, e5, S6, h15⟩ := hI2
          have h16 := R.up e5 h6
          have h17 := Al.up e5 h5
          have E5 := E1.trans e5
          refine ⟨rfl, ?_⟩
          have hm11 : (Option.bind (Option.bind (m_winding rings1 x3 x1) fun r3 =>   if (!decide (r3 = (0 : Int))) then (some ([true] : Ink)) else (some ([false] : Ink))) fun x4 =>   Option.bind (appM acc2 x4) fun acc3 =>   some acc3) = some s4 := hb4
          refine gYes ?_
          refine iteT ?_
          obtain ⟨x4, hq8, hm13⟩ := bindS hm11
          refine gCE (fun (v : V) (H : Hp) => ∃ (G : Hp), Ext G5 G ∧ Sub G ((D2, HO.lst w5) :: (a1, HO.lst w3) :: O) H ∧ v = (V.str (e_Ink x4))) ?_ ?_
          · skip
            refine gIf ?_
            refine gTest ?_
            refine gOp ?_
            refine gCall ?_
            refine gCons' ?_
            refine gV rfl ?_
            refine gCons' ?_
            refine gV rfl ?_
            refine gCons' ?_
            refine gV rfl ?_
            refine gNil' ?_
            obtain ⟨r4, hq9, hm14⟩ := bindS hq8
            refine ⟨G5, ((D2, HO.lst w5) :: (a1, HO.lst w3) :: O), v1, rings1, x3, x1, rfl, S6, h16, r4, hq9, fun G7 H8 e7 S8 => ?_⟩
            have h21 := R.up e7 h16
            have h22 := Al.up e7 h17
            have h23 := Al.up e7 h15
            have E7 := E5.trans e7
            refine gC ?_
            refine ⟨_, _, rfl, rfl, ?_⟩
            refine ⟨(!decide (r4 = (0 : Int))), rfl, ?_⟩
            refine ite2 (fun c2 => ?_) (fun c2 => ?_)
            · skip
              have hm15 := (if_pos c2).symm.trans hm14
              refine gC ?_
              cases hm15
              exact ⟨G7, e7, S8, rfl⟩
            · skip
              have hm16 := (if_neg c2).symm.trans hm14
              refine gC ?_
              cases hm16
              exact ⟨G7, e7, S8, rfl⟩
          · intro v5 H9 hJ
            obtain ⟨G8, e8, S9, rfl⟩ := hJ
            have h25 := R.up e8 h16
            have h26 := Al.up e8 h17
            have h27 := Al.up e8 h15
            have E8 := E5.trans e8
            obtain ⟨acc3, hq10, hm17⟩ := bindS hm13
            refine q_lcEl S9 h27 (show R.rel (rEn e_Ink) G8 (V.str (e_Ink x4)) x4 from rfl) hq10 (fun H10 w6 S10 h28 => ?_)
            cases hm17
            exact ⟨_, ⟨G8, w6, (e5.trans e8), S10, h28⟩, hr2⟩
        · intro D3 H11 hI3
          obtain ⟨G9, w7, e9, S11, h29⟩ := hI3
          have h30 := R.up e9 h6
          have h31 := Al.up e9 h5
          have E9 := E1.trans e9
          obtain ⟨G10, e10, S12, h32⟩ := frz_M S11 h29
          have h33 := R.up e10 h30
          have h34 := Al.up e10 h31
          have E10 := E9.trans e10
          obtain ⟨k5, hq11, hm18⟩ := bindS hm10
          refine q_joinI S12 h32 hq11 ?_
          refine gNil' ?_
          obtain ⟨found3, hq12, hm19⟩ := bindS hm18
          refine q_app S12 h34 (show R.rel (rEn e_Ink) G10 (V.str (e_Ink k5)) k5 from rfl) hq12 (fun H12 w8 S13 h35 => ?_)
          cases hm19
          exact ⟨_, ⟨G10, w8, _, _, ((e1.trans e9).trans e10), S13, rfl, h35⟩, hr1⟩
      · intro s σ H h1 h2
        cases h1
        obtain ⟨G, k1, k2, k3, ie, irest⟩ := h2
        exact ⟨G, k1, k2, k3, (ie), irest⟩
    · intro σ2 H13 hJ1
      obtain ⟨G11, w9, y5, y6, e11, S14, rfl, h36⟩ := hJ1
      have h37 := R.up e11 h1
      have E11 := E0.trans e11
      refine gRet ?_
      refine gCB ?_
      refine gCons' ?_
      refine gV rfl ?_
      refine gNil' ?_
      refine q_tupO S14 h36 (fun v6 G12 H14 e12 S15 h38 => ?_)
      have h39 := R.up e12 h37
      have h40 := Al.up e12 h36
      have E12 := E11.trans e12
      have S16 := S15.tail
      cases hm2
      exact q v6 G12 H14 E12 S16 h38
end
end Mr

set_option Elab.async false
set_option linter.all false
set_option maxRecDepth 100000
set_option maxHeartbeats 4000000
set_option synthInstance.maxSize 4000
set_option synthInstance.maxHeartbeats 400000
namespace Mr
open PySem PySem.Spec PyProof.Rows L2 GFr
section
variable {P : Program} {w : World} {K : PySem.W.Frag} {mg : Str → Option Value} {base : Heap}
theorem sc_leftmost : FnScope ["ink", "row", "place"] ["ink", "row"] (defScope s_leftmost) := ⟨rfl, rfl, rfl, by decide +kernel, rfl, by decide +kernel, by decide +kernel⟩
theorem ok_leftmost (T : Tx K mg) : FnOk P w K mg base CX0 1 (He.fAd K ("leftmost", none)) T.fd_leftmost ["ink", "row"] (sp_leftmost K) := by
  refine T.F_leftmost.ok sc_leftmost (fun vs H Q E h => ?_) (fun cdv A outer s H0 vs Q E hr h => ?_)
  · obtain ⟨G, O, v1, ink1, row1, rfl, _⟩ := h
    rfl
  · obtain ⟨G0, O, v1, ink1, row1, rfl, S0, h1, res, hm, q⟩ := h
    refine ⟨_, PSs.nox (pss_cons (ps_set (i := 2) sc_leftmost.nd rfl (.inl rfl) (pe_m1 PySem.F.slot_str_find PySem.F.type_str_find mt_findI (pe_ix ix_tup (pv 0) (pv 1) (fun _ _ => rfl)) (pe_strI (b := ([true] : Ink)) (by decide +kernel))))
      (pss_one (ps_ret (pe_cut (pe_ifExp (pt_cmpR op_lt (pv 2) pe_int (nomark _)) pe_non (pv 2)))))), ?_⟩
    have E0 := Ext.refl G0
    have hm0 : (Option.bind (getM ink1 row1) fun x1 =>
  Option.bind (fndM x1) fun k1 =>
  Option.bind (if (decide (k1 < (0 : Int))) then (some (none : (Option Int))) else (some (some k1))) fun x2 =>
  some x2) = some res := hm
    refine gS_AsgN ?_
    refine gM1 ?_
    refine gOp ?_
    refine gV rfl ?_
    refine gV rfl ?_
    obtain ⟨x1, hq1, hm1⟩ := bindS hm0
    refine q_ixT S0 h1 hq1 (fun v2 h2 => ?_)
    obtain rfl := (show v2 = (V.str (e_Ink x1)) from h2)
    refine ⟨⟨_, rfl⟩, ?_⟩
    refine gC ?_
    obtain ⟨k1, hq2, hm2⟩ := bindS hm1
    refine q_findI hq2 ?_
    refine gRet ?_
    obtain ⟨x2, hq3, hm3⟩ := bindS hm2
    refine gCE (fun (v : V) (H : Hp) => ∃ (G : Hp), Ext G0 G ∧ Sub G (O) H ∧ R.rel (rO rInt) G v x2) ?_ ?_
    · skip
      refine gIf ?_
      refine gTest ?_
      refine gOp ?_
      refine gV rfl ?_
      refine gC ?_
      refine ⟨_, _, rfl, rfl, ?_⟩
      refine ⟨(decide (k1 < (0 : Int))), rfl, ?_⟩
      refine ite2 (fun c1 => ?_) (fun c1 => ?_)
      · skip
        have hm4 := (if_pos c1).symm.trans hq3
        refine gC ?_
        cases hm4
        exact ⟨G0, (Ext.refl _), S0, (rO_none : R.rel (rO rInt) G0 V.non none)⟩
      · skip
        have hm5 := (if_neg c1).symm.trans hq3
        refine gV rfl ?_
        cases hm5
        exact ⟨G0, (Ext.refl _), S0, (rO_some (by intro z; cases z) (show R.rel rInt G0 (V.int k1) k1 from rfl))⟩
    · intro v3 H1 hJ
      obtain ⟨G1, e1, S1, h3⟩ := hJ
      have h4 := R.up e1 h1
      have E1 := E0.trans e1
      cases hm3
      exact q v3 G1 H1 E1 S1 h3
end
end Mr

set_option Elab.async false
set_option linter.all false
set_option maxRecDepth 100000
set_option maxHeartbeats 4000000
set_option synthInstance.maxSize 4000
set_option synthInstance.maxHeartbeats 400000
namespace Mr
open PySem PySem.Spec PyProof.Rows L2 GFr
section
variable {P : Program} {w : World} {K : PySem.W.Frag} {mg : Str → Option Value} {base : Heap}
theorem sc_rightmost : FnScope ["ink", "row", "place"] ["ink", "row"] (defScope s_rightmost) := ⟨rfl, rfl, rfl, by decide +kernel, rfl, by decide +kernel, by decide +kernel⟩
theorem ok_rightmost (T : Tx K mg) : FnOk P w K mg base CX0 1 (He.fAd K ("rightmost", none)) T.fd_rightmost ["ink", "row"] (sp_rightmost K) := by
  refine T.F_rightmost.ok sc_rightmost (fun vs H Q E h => ?_) (fun cdv A outer s H0 vs Q E hr h => ?_)
  · obtain ⟨G, O, v1, ink1, row1, rfl, _⟩ := h
    rfl
  · obtain ⟨G0, O, v1, ink1, row1, rfl, S0, h1, res, hm, q⟩ := h
    refine ⟨_, PSs.nox (pss_cons (ps_set (i := 2) sc_rightmost.nd rfl (.inl rfl) (pe_m1 PySem.F.slot_str_rfind PySem.F.type_str_rfind mt_rfindI (pe_ix ix_tup (pv 0) (pv 1) (fun _ _ => rfl)) (pe_strI (b := ([true] : Ink)) (by decide +kernel))))
      (pss_one (ps_ret (pe_cut (pe_ifExp (pt_cmpR op_lt (pv 2) pe_int (nomark _)) pe_non (pv 2)))))), ?_⟩
    have E0 := Ext.refl G0
    have hm0 : (Option.bind (getM ink1 row1) fun x1 =>
  Option.bind (rfnM x1) fun k1 =>
  Option.bind (if (decide (k1 < (0 : Int))) then (some (none : (Option Int))) else (some (some k1))) fun x2 =>
  some x2) = some res := hm
    refine gS_AsgN ?_
    refine gM1 ?_
    refine gOp ?_
    refine gV rfl ?_
    refine gV rfl ?_
    obtain ⟨x1, hq1, hm1⟩ := bindS hm0
    refine q_ixT S0 h1 hq1 (fun v2 h2 => ?_)
    obtain rfl := (show v2 = (V.str (e_Ink x1)) from h2)
    refine ⟨⟨_, rfl⟩, ?_⟩
    refine gC ?_
    obtain ⟨k1, hq2, hm2⟩ := bindS hm1
    refine q_rfindI hq2 ?_
    refine gRet ?_
    obtain ⟨x2, hq3, hm3⟩ := bindS hm2
    refine gCE (fun (v : V) (H : Hp) => ∃ (G : Hp), Ext G0 G ∧ Sub G (O) H ∧ R.rel (rO rInt) G v x2) ?_ ?_
    · skip
      refine gIf ?_
      refine gTest ?_
      refine gOp ?_
      refine gV rfl ?_
      refine gC ?_
      refine ⟨_, _, rfl, rfl, ?_⟩
      refine ⟨(decide (k1 < (0 : Int))), rfl, ?_⟩
      refine ite2 (fun c1 => ?_) (fun c1 => ?_)
      · skip
        have hm4 := (if_pos c1).symm.trans hq3
        refine gC ?_
        cases hm4
        exact ⟨G0, (Ext.refl _), S0, (rO_none : R.rel (rO rInt) G0 V.non none)⟩
      · skip
        have hm5 := (if_neg c1).symm.trans hq3
        refine gV rfl ?_
        cases hm5
        exact ⟨G0, (Ext.refl _), S0, (rO_some (by intro z; cases z) (show R.rel rInt G0 (V.int k1) k1 from rfl))⟩
    · intro v3 H1 hJ
      obtain ⟨G1, e1, S1, h3⟩ := hJ
      have h4 := R.up e1 h1
      have E1 := E0.trans e1
      cases hm3
      exact q v3 G1 H1 E1 S1 h3
end
end Mr

set_option Elab.async false
set_option linter.all false
set_option maxRecDepth 100000
set_option maxHeartbeats 4000000
set_option synthInstance.maxSize 4000
set_option synthInstance.maxHeartbeats 400000
namespace Mr
open PySem PySem.Spec PyProof.Rows L2 GFr
section
variable {P : Program} {w : World} {K : PySem.W.Frag} {mg : Str → Option Value} {base : Heap}
theorem sc_step_of : FnScope ["ink", "cells"] ["ink"] (defScope s_step_of) := ⟨rfl, rfl, rfl, by decide +kernel, rfl, by decide +kernel, by decide +kernel⟩
theorem ok_step_of (T : Tx K mg) : FnOk P w K mg base CX0 1 (He.fAd K ("step_of", none)) T.fd_step_of ["ink"] (sp_step_of K) := by
  refine T.F_step_of.ok sc_step_of (fun vs H Q E h => ?_) (fun cdv A outer s H0 vs Q E hr h => ?_)
  · obtain ⟨G, O, v1, ink1, rfl, _⟩ := h
    rfl
  · obtain ⟨G0, O, v1, ink1, rfl, S0, h1, res, hm, q⟩ := h
    refine ⟨_, PSs.nox (pss_one (ps_ret (pe_op op_add (pe_callB (r := rMax K) (cr_max rfl) (by rfl) T.z_max boot_max (pa_cons (pe_lc (own := [("cells", 1)]) (g := gName 1) (by rfl) sc_step_of.nd (pi_tup (pv 0)) (blkOk_by (own := [("cells", 1)]) (N := ["ink", "cells"]) (sc := defScope s_step_of) (by decide +kernel)) (fun _ _ _ _ _ => (pg_name (i := 1) sc_step_of.nd rfl (.inl rfl))) (fun _ _ _ _ _ => pts_nil) (fun _ _ _ _ _ => (pe_m1 PySem.F.slot_str_rfind PySem.F.type_str_rfind mt_rfindI (pv 1) (pe_strI (b := ([true] : Ink)) (by decide +kernel))))) pa_nil)) pe_int))), ?_⟩
    have E0 := Ext.refl G0
    have hm0 : (Option.bind (folM (m_step_of_c1) ink1 ([] : (List Int))) fun acc1 =>
  Option.bind (maxM acc1) fun x2 =>
  some (x2 + (1 : Int))) = some res := hm
    refine gRet ?_
    refine gOp ?_
    refine gCB ?_
    refine gCons' ?_
    refine gLc ?_
    refine gIT ?_
    refine gV rfl ?_
    obtain ⟨acc1, hq2, hm2⟩ := bindS hm0
    refine lc_T (r := (rEn e_Ink)) S0 h1 hq2 (fun (D : Addr) (s : (List Int)) (H : Hp) => ∃ (G : Hp) (w1 : List V), Ext G0 G ∧ Sub G ((D, HO.lst w1) :: O) H ∧ Al rInt G w1 s) ?_ ?_ ?_ ?_
    · intro D1 nD1
      exact ⟨G0, [], Ext.refl _, S0.newOwn nD1, True.intro⟩
    · intro D s H hI
      obtain ⟨G, k2, ie, iS, _⟩ := hI
      exact ie.trans iS.ext
    · intro D2 i1 x1 acc2 s2 hb1 hr1 v2 H1 hI1 h2
      obtain ⟨G1, w2, e1, S1, h3⟩ := hI1
      have h4 := R.up e1 h1
      have E1 := E0.trans e1
      obtain rfl := (show v2 = (V.str (e_Ink x1)) from h2)
      refine ⟨rfl, ?_⟩
      have hm3 : (Option.bind (rfnM x1) fun k3 =>   Option.bind (appM acc2 k3) fun acc3 =>   some acc3) = some s2 := hb1
      refine gYes ?_
      refine iteT ?_
      refine gM1 ?_
      refine gV rfl ?_
      refine ⟨⟨_, rfl⟩, ?_⟩
      refine gC ?_
      obtain ⟨k3, hq3, hm4⟩ := bindS hm3
      refine q_rfindI hq3 ?_
      obtain ⟨acc3, hq4, hm5⟩ := bindS hm4
      refine q_lcEl S1 h3 (show R.rel rInt G1 (V.int k3) k3 from rfl) hq4 (fun H2 w3 S2 h5 => ?_)
      cases hm5
      exact ⟨_, ⟨G1, w3, e1, S2, h5⟩, hr1⟩
    · intro D3 H3 hI2
      obtain ⟨G2, w4, e2, S3, h6⟩ := hI2
      have h7 := R.up e2 h1
      have E2 := E0.trans e2
      refine gNil' ?_
      obtain ⟨G3, e3, S4, h8⟩ := frz_M S3 h6
      have h9 := R.up e3 h7
      have E3 := E2.trans e3
      obtain ⟨x2, hq5, hm6⟩ := bindS hm2
      refine q_max S4 (rM_L (K := K) h8) hq5 ?_
      refine gC ?_
      refine ⟨_, _, rfl, rfl, ?_⟩
      cases hm6
      exact q G3 H3 E3 S4
end
end Mr

set_option Elab.async false
set_option linter.all false
set_option maxRecDepth 100000
set_option maxHeartbeats 4000000
set_option synthInstance.maxSize 4000
set_option synthInstance.maxHeartbeats 400000
namespace Mr
open PySem PySem.Spec PyProof.Rows L2 GFr
section
variable {P : Program} {w : World} {K : PySem.W.Frag} {mg : Str → Option Value} {base : Heap}
theorem sc_blanks : FnScope ["left", "right", "row", "gap", "last", "first"] ["left", "right", "row", "gap"] (defScope s_blanks) := ⟨rfl, rfl, rfl, by decide +kernel, rfl, by decide +kernel, by decide +kernel⟩
theorem ok_blanks (T : Tx K mg) : FnOk P w K mg base CX0 2 (He.fAd K ("blanks", none)) T.fd_blanks ["left", "right", "row", "gap"] (sp_blanks K) := by
  have G_leftmost := ok_leftmost (P := P) (w := w) (base := base) T
  have G_rightmost := ok_rightmost (P := P) (w := w) (base := base) T
  have G_step_of := ok_step_of (P := P) (w := w) (base := base) T
  refine T.F_blanks.ok sc_blanks (fun vs H Q E h => ?_) (fun cdv A outer s H0 vs Q E hr h => ?_)
  · obtain ⟨G, O, v1, left1, v2, right1, row1, gap1, rfl, _⟩ := h
    rfl
  · obtain ⟨G0, O, v1, left1, v2, right1, row1, gap1, rfl, S0, h1, h2, res, hm, q⟩ := h
    refine ⟨_, PSs.nox (pss_cons (ps_par (i := 4) (j := 5) (by rfl) sc_blanks.nd rfl rfl (by decide) rfl rfl (pa_cons (pe_call G_rightmost (hr.mono (by decide)) (by rfl) T.g_rightmost T.F_rightmost.kp T.b_rightmost .nil pass0 (pa_cons (pv 0) (pa_cons (pv 2) pa_nil))) (pa_cons (pe_call G_leftmost (hr.mono (by decide)) (by rfl) T.g_leftmost T.F_leftmost.kp T.b_leftmost .nil pass0 (pa_cons (pv 1) (pa_cons (pv 2) pa_nil))) pa_nil)) (by rfl))
      (pss_cons (ps_if (pt_cut (PW.pt (pw_or (pt_cmpR op_isNon (pv 4) pe_non (nomark _)) (pw_or1 (pt_cmpR op_isNon (pv 5) pe_non (nomark _)))))) (pss_one (ps_ret pe_non)) pss_nil)
      (pss_one (ps_ret (pe_op op_sub (pe_op op_sub (pe_op op_add (pe_op op_add (pe_call G_step_of (hr.mono (by decide)) (by rfl) T.g_step_of T.F_step_of.kp T.b_step_of .nil pass0 (pa_cons (pv 0) pa_nil)) (pv 3)) (pv 5)) (pv 4)) pe_int))))), ?_⟩
    have E0 := Ext.refl G0
    have hm0 : (Option.bind (m_rightmost left1 row1) fun r1 =>
  Option.bind (m_leftmost right1 row1) fun r2 =>
  if ((r1.isNone) || (r2.isNone)) then (some (none : (Option Int)))
  else (Option.bind (m_step_of left1) fun r3 =>
  Option.bind (r2) fun j1 =>
  Option.bind (r1) fun j2 =>
  some (some ((((r3 + gap1) + j1) - j2) - (1 : Int))))) = some res := hm
    refine gS_Par ?_
    refine gCons' ?_
    refine gCall ?_
    refine gCons' ?_
    refine gV rfl ?_
    refine gCons' ?_
    refine gV rfl ?_
    refine gNil' ?_
    obtain ⟨r1, hq1, hm1⟩ := bindS hm0
    refine ⟨G0, (O), v1, left1, row1, rfl, S0, h1, r1, hq1, fun v3 G1 H1 e1 S1 h3 => ?_⟩
    have h4 := R.up e1 h1
    have h5 := R.up e1 h2
    have E1 := E0.trans e1
    refine gCons' ?_
    refine gCall ?_
    refine gCons' ?_
    refine gV rfl ?_
    refine gCons' ?_
    refine gV rfl ?_
    refine gNil' ?_
    obtain ⟨r2, hq2, hm2⟩ := bindS hm1
    refine ⟨G1, (O), v2, right1, row1, rfl, S1, h5, r2, hq2, fun v4 G2 H2 e2 S2 h6 => ?_⟩
    have h7 := R.up e2 h4
    have h8 := R.up e2 h5
    have h9 := R.up e2 h3
    have E2 := E1.trans e2
    refine gNil' ?_
    refine ⟨_, _, rfl, ?_⟩
    refine gS_IfS ?_
    refine gCT (fun (b : Bool) (H : Hp) => ∃ (G : Hp), Ext G2 G ∧ Sub G (O) H ∧ b = ((r1.isNone) || (r2.isNone))) ?_ ?_
    · skip
      refine gOr ?_
      refine gTest ?_
      refine gOp ?_
      refine gV rfl ?_
      refine gC ?_
      refine q_isNon h9 ?_
      refine ⟨(r1.isNone), rfl, ?_⟩
      refine ite2 (fun c1 => ?_) (fun c1 => ?_)
      · skip
        exact ⟨G2, (Ext.refl _), S2, (by rw [c1, Bool.true_or])⟩
      · skip
        refine gTest ?_
        refine gOp ?_
        refine gV rfl ?_
        refine gC ?_
        refine q_isNon h6 ?_
        refine ⟨(r2.isNone), rfl, ?_⟩
        exact ⟨G2, (Ext.refl _), S2, (by rw [ne_false c1, Bool.false_or])⟩
    · intro b1 H3 hJ
      obtain ⟨G3, e3, S3, rfl⟩ := hJ
      have h10 := R.up e3 h7
      have h11 := R.up e3 h8
      have h12 := R.up e3 h9
      have h13 := R.up e3 h6
      have E3 := E2.trans e3
      refine ite2 (fun c2 => ?_) (fun c2 => ?_)
      · skip
        have hm3 := (if_pos c2).symm.trans hm2
        refine gRet ?_
        refine gC ?_
        cases hm3
        exact q V.non G3 H3 E3 S3 (rO_none : R.rel (rO rInt) G3 V.non none)
      · skip
        have hm4 := (if_neg c2).symm.trans hm2
        refine gNext ?_
        refine gE ?_
        refine gRet ?_
        refine gOp ?_
        refine gOp ?_
        refine gOp ?_
        refine gOp ?_
        refine gCall ?_
        refine gCons' ?_
        refine gV rfl ?_
        refine gNil' ?_
        obtain ⟨r3, hq3, hm5⟩ := bindS hm4
        refine ⟨G3, (O), v1, left1, rfl, S3, h10, r3, hq3, fun G4 H4 e4 S4 => ?_⟩
        have h14 := R.up e4 h10
        have h15 := R.up e4 h11
        have h16 := R.up e4 h12
        have h17 := R.up e4 h13
        have E4 := E3.trans e4
        refine gV rfl ?_
        refine ⟨_, _, rfl, rfl, ?_⟩
        refine gV rfl ?_
        obtain ⟨j1, hq4, hm6⟩ := bindS hm5
        have h18 := rO_get h17 hq4
        obtain rfl := (show v4 = (V.int j1) from h18)
        refine ⟨_, _, rfl, rfl, ?_⟩
        refine gV rfl ?_
        obtain ⟨j2, hq5, hm7⟩ := bindS hm6
        have h19 := rO_get h16 hq5
        obtain rfl := (show v3 = (V.int j2) from h19)
        refine ⟨_, _, rfl, rfl, ?_⟩
        refine gC ?_
        refine ⟨_, _, rfl, rfl, ?_⟩
        cases hm7
        exact q (V.int ((((r3 + gap1) + j1) - j2) - (1 : Int))) G4 H4 E4 S4 (rO_some (by intro z; cases z) (show R.rel rInt G4 (V.int ((((r3 + gap1) + j1) - j2) - (1 : Int))) ((((r3 + gap1) + j1) - j2) - (1 : Int)) from rfl))
end
end Mr

set_option Elab.async false
set_option linter.all false
set_option maxRecDepth 100000
set_option maxHeartbeats 4000000
set_option synthInstance.maxSize 4000
set_option synthInstance.maxHeartbeats 400000
namespace Mr
open PySem PySem.Spec PyProof.Rows L2 GFr
section
variable {P : Program} {w : World} {K : PySem.W.Frag} {mg : Str → Option Value} {base : Heap}
theorem sc_law_bag : FnScope ["_law_script", "_law_at", "_law_great", "_law_mixed", "_law_place", "_law_cell"] ["_law_script", "_law_at"] (defScope s_law_bag) := ⟨rfl, rfl, rfl, by decide +kernel, rfl, by decide +kernel, by decide +kernel⟩
theorem ok_law_bag (T : Tx K mg) : FnOk P w K mg base CX0 1 (He.fAd K ("_law_bag", none)) T.fd_law_bag ["_law_script", "_law_at"] (sp_law_bag K) := by
  refine T.F_law_bag.ok sc_law_bag (fun vs H Q E h => ?_) (fun cdv A outer s H0 vs Q E hr h => ?_)
  · obtain ⟨G, O, v1, script1, at1, rfl, _⟩ := h
    rfl
  · obtain ⟨G0, O, v1, script1, at1, rfl, S0, h1, res, hm, q⟩ := h
    refine ⟨_, PSs.nox (pss_cons (ps_set (i := 2) sc_law_bag.nd rfl (.inl rfl) (pe_cut (pe_ifExp (pt_cmpR op_lt (pv 1) (pe_callB (r := rLenM K) call_lenM (by rfl) T.z_len boot_len (pa_cons (pv 0) pa_nil)) (nomark _)) (pe_callB call_abs (by rfl) T.z_abs boot_abs (pa_cons (pe_callTy call_int1 (by rfl) T.z_int boot_int (pa_cons (pe_ix ix_list (pv 0) (pv 1) (fun _ _ => rfl)) pa_nil)) pa_nil)) pe_int)))
      (pss_cons (ps_set (i := 3) sc_law_bag.nd rfl (.inl rfl) (pe_op op_add pe_int (pe_op op_mul pe_int (pv 1))))
      (pss_cons (ps_cut (ps_for PassesOwn.never rfl (pi_enumQ (by rfl) T.z_enumerate (pa_cons (pe_slice sl_list (pv 0) po_none (po_some pe_int)) pa_nil)) (pg_tup rfl (pgs_cons (pg_name (i := 4) sc_law_bag.nd rfl (.inl rfl)) (pgs_cons (pg_name (i := 5) sc_law_bag.nd rfl (.inl rfl)) pgs_nil)))
      (pss_one (ps_set (i := 3) sc_law_bag.nd rfl (.inl rfl) (pe_op op_mod (pe_callTy call_int1 (by rfl) T.z_int boot_int (pa_cons (pe_op op_add (pe_op op_add (pe_op op_mul (pv 3) pe_int) (pe_op op_mod (pe_callTy call_int1 (by rfl) T.z_int boot_int (pa_cons (pv 5) pa_nil)) pe_int)) (pe_op op_mul pe_int (pv 4))) pa_nil)) pe_int)))))
      (pss_one (ps_ret (pe_lst (pa_cons (pe_cut (pe_ifExp (pt_cmpR op_ge (pv 2) (pe_op op_pow pe_int pe_int) (nomark _)) (pv 2) pe_int)) (pa_cons (pv 3) (pa_cons pe_int pa_nil))))))))), ?_⟩
    have E0 := Ext.refl G0
    have hm0 : (Option.bind (if (decide (at1 < (script1.length : Int))) then (Option.bind (getM script1 at1) fun x1 =>
  some (if x1 < 0 then -x1 else x1)) else (some (0 : Int))) fun x2 =>
  Option.bind (folM (m_law_bag_b1) (enumM (cutM script1 none (some (63 : Int)))) ((1009 : Int) + ((77 : Int) * at1))) fun mixed1 =>
  some ([(if (decide (x2 ≥ ((10 : Int) ^ (18 : Int).toNat))) then x2 else (0 : Int)), mixed1, (0 : Int)] : List Int)) = some res := hm
    refine gS_AsgN ?_
    obtain ⟨x2, hq2, hm2⟩ := bindS hm0
    refine gCE (fun (v : V) (H : Hp) => ∃ (G : Hp), Ext G0 G ∧ Sub G (O) H ∧ v = (V.int x2)) ?_ ?_
    · skip
      refine gIf ?_
      refine gTest ?_
      refine gOp ?_
      refine gV rfl ?_
      refine gCB ?_
      refine gCons' ?_
      refine gV rfl ?_
      refine gNil' ?_
      refine q_lenL (y := V.non) S0 h1 ?_
      refine ⟨_, _, rfl, rfl, ?_⟩
      refine ⟨(decide (at1 < (script1.length : Int))), rfl, ?_⟩
      refine ite2 (fun c1 => ?_) (fun c1 => ?_)
      · skip
        have hm3 := (if_pos c1).symm.trans hq2
        refine gCB ?_
        refine gCons' ?_
        refine gCB ?_
        refine gCons' ?_
        refine gOp ?_
        refine gV rfl ?_
        refine gV rfl ?_
        obtain ⟨x3, hq3, hm4⟩ := bindS hm3
        refine q_ixL S0 h1 hq3 (fun v3 h3 => ?_)
        obtain rfl := (show v3 = (V.int x3) from h3)
        refine gNil' ?_
        refine .inl ⟨_, rfl, ?_⟩
        refine gNil' ?_
        refine ⟨_, rfl, ?_⟩
        cases hm4
        exact ⟨G0, (Ext.refl _), S0, rfl⟩
      · skip
        have hm5 := (if_neg c1).symm.trans hq2
        refine gC ?_
        cases hm5
        exact ⟨G0, (Ext.refl _), S0, rfl⟩
    · intro v4 H1 hJ
      obtain ⟨G1, e1, S1, rfl⟩ := hJ
      have h5 := R.up e1 h1
      have E1 := E0.trans e1
      refine gS_AsgN ?_
      refine gOp ?_
      refine gC ?_
      refine gOp ?_
      refine gC ?_
      refine gV rfl ?_
      refine ⟨_, _, rfl, rfl, .inl ⟨by decide, by decide⟩, ?_⟩
      refine ⟨_, _, rfl, rfl, ?_⟩
      obtain ⟨mixed1, hl1, hm6⟩ := bindS hm2
      refine gS_CS (fun (σ : L2.St) (H : Hp) => ∃ (G : Hp) (y1 : Option V) (y2 : Option V), Ext G1 G ∧ Sub G (O) H ∧ σ = [some v1, some (V.int at1), some (V.int x2), some (V.int mixed1), y1, y2]) ?_ ?_
      · skip
        refine gFor ?_
        refine gIE ?_
        refine gCons' ?_
        refine gSl ?_
        refine gV rfl ?_
        refine gNoPart ?_
        refine gPart ?_
        refine gC ?_
        refine ⟨_, rfl, ?_⟩
        refine q_slM S1 h5 (fun v5 G2 H2 e2 S2 h6 => ?_)
        have h7 := R.up e2 h5
        have E2 := E1.trans e2
        refine gNil' ?_
        refine lp_EQ (r := rInt) S2 (rM_Q (K := K) h6) (fol_for Empty hl1) (fun (s : Int) (σ : L2.St) (H : Hp) => ∃ (G : Hp) (y1 : Option V) (y2 : Option V), Ext G2 G ∧ Sub G (O) H ∧ σ = [some v1, some (V.int at1), some (V.int x2), some (V.int s), y1, y2]) ⟨G2, _, _, (Ext.refl _), S2, rfl⟩ ?_ ?_ ?_
        · intro s σ H hI
          obtain ⟨G, k1, k2, ie, iS, _⟩ := hI
          exact ie.trans iS.ext
        · intro i1 x4 mixed2 b1 hb1 hr1 v6 σ1 H3 H4 hI1 hS1 h8
          obtain ⟨s2, hb2, hb3⟩ := goF_some hb1
          subst hb3
          obtain ⟨G3, y3, y4, e3, S3, rfl⟩ := hI1
          have h9 := R.up e3 h7
          have h10 := R.up e3 h6
          have E3 := E2.trans e3
          have S4 := hS1 _ _ S3
          generalize ((i1 : Nat) : Int) = k3 at hb2 ⊢
          obtain rfl := (show v6 = (V.int x4) from h8)
          have hm7 : (some ((((mixed2 * (16807 : Int)) + (x4 % (2147483629 : Int))) + ((13 : Int) * k3)) % (2147483647 : Int))) = some s2 := hb2
          refine gAsgN ?_
          refine gOp ?_
          refine gCB ?_
          refine gCons' ?_
          refine gOp ?_
          refine gOp ?_
          refine gOp ?_
          refine gV rfl ?_
          refine gC ?_
          refine ⟨_, _, rfl, rfl, .inr ⟨by decide, by decide⟩, ?_⟩
          refine gOp ?_
          refine gCB ?_
          refine gCons' ?_
          refine gV rfl ?_
          refine gNil' ?_
          refine .inl ⟨_, rfl, ?_⟩
          refine gC ?_
          refine ⟨_, _, rfl, rfl, (by show (0 : Int) < 2147483629; decide), ?_⟩
          refine ⟨_, _, rfl, rfl, ?_⟩
          refine gOp ?_
          refine gC ?_
          refine gV rfl ?_
          refine ⟨_, _, rfl, rfl, .inl ⟨by decide, by decide⟩, ?_⟩
          refine ⟨_, _, rfl, rfl, ?_⟩
          refine gNil' ?_
          refine .inl ⟨_, rfl, ?_⟩
          refine gC ?_
          refine ⟨_, _, rfl, rfl, (by show (0 : Int) < 2147483647; decide), ?_⟩
          cases hm7
          exact ⟨_, ⟨G3, _, _, e3, S4, rfl⟩, hr1⟩
        · intro s σ H h1 h2
          cases h1
          obtain ⟨G, k1, k2, ie, irest⟩ := h2
          exact ⟨G, k1, k2, (e2.trans ie), irest⟩
      · intro σ2 H5 hJ1
        obtain ⟨G4, y5, y6, e4, S5, rfl⟩ := hJ1
        have h11 := R.up e4 h5
        have E4 := E1.trans e4
        refine gRet ?_
        refine gLst ?_
        refine gCons' ?_
        refine gCE (fun (v : V) (H : Hp) => ∃ (G : Hp), Ext G4 G ∧ Sub G (O) H ∧ v = (V.int (if (decide (x2 ≥ ((10 : Int) ^ (18 : Int).toNat))) then x2 else (0 : Int)))) ?_ ?_
        · skip
          refine gIf ?_
          refine gTest ?_
          refine gOp ?_
          refine gV rfl ?_
          refine gOp ?_
          refine gC ?_
          refine gC ?_
          refine ⟨_, _, rfl, rfl, ⟨by decide, by decide, by decide⟩, ?_⟩
          refine ⟨_, _, rfl, rfl, ?_⟩
          refine ⟨(decide (x2 ≥ ((10 : Int) ^ (18 : Int).toNat))), rfl, ?_⟩
          refine ite2 (fun c2 => ?_) (fun c2 => ?_)
          · skip
            refine gV rfl ?_
            exact ⟨G4, (Ext.refl _), S5, congrArg V.int (if_pos c2).symm⟩
          · skip
            refine gC ?_
            exact ⟨G4, (Ext.refl _), S5, congrArg V.int (if_neg c2).symm⟩
        · intro v7 H6 hJ
          obtain ⟨G5, e5, S6, rfl⟩ := hJ
          have h13 := R.up e5 h11
          have E5 := E4.trans e5
          refine gCons' ?_
          refine gV rfl ?_
          refine gCons' ?_
          refine gC ?_
          refine gNil' ?_
          have h14 : Al rInt G5 [(V.int (if (decide (x2 ≥ ((10 : Int) ^ (18 : Int).toNat))) then x2 else (0 : Int))), (V.int mixed1), (V.int (0 : Int))] [(if (decide (x2 ≥ ((10 : Int) ^ (18 : Int).toNat))) then x2 else (0 : Int)), mixed1, (0 : Int)] := ⟨rfl, rfl, rfl, True.intro⟩
          refine q_lst S6 h14 (by show 3 ≤ 100000; decide) (fun a1 H7 w1 S7 h15 => ?_)
          cases hm6
          exact q a1 w1 G5 H7 E5 S7 h15
end
end Mr

set_option Elab.async false
set_option linter.all false
set_option maxRecDepth 100000
set_option maxHeartbeats 4000000
set_option synthInstance.maxSize 4000
set_option synthInstance.maxHeartbeats 400000
namespace Mr
open PySem PySem.Spec PyProof.Rows L2 GFr
section
variable {P : Program} {w : World} {K : PySem.W.Frag} {mg : Str → Option Value} {base : Heap}
theorem sc_law_draw : FnScope ["_law_bag_here", "_law_many", "_law_digit"] ["_law_bag_here", "_law_many"] (defScope s_law_draw) := ⟨rfl, rfl, rfl, by decide +kernel, rfl, by decide +kernel, by decide +kernel⟩
theorem ok_law_draw (T : Tx K mg) : FnOk P w K mg base CX0 1 (He.fAd K ("_law_draw", none)) T.fd_law_draw ["_law_bag_here", "_law_many"] (sp_law_draw K) := by
  refine T.F_law_draw.ok sc_law_draw (fun vs H Q E h => ?_) (fun cdv A outer s H0 vs Q E hr h => ?_)
  · obtain ⟨G, O, a1, w1, bag_here1, many1, rfl, _⟩ := h
    rfl
  · obtain ⟨G0, O, a1, w1, bag_here1, many1, rfl, S0, h1, res, hm, q⟩ := h
    refine ⟨_, PSs.nox (pss_cons (ps_if (pt_cmpR op_gt (pe_ix ix_list (pv 0) pe_int (fun _ _ => rfl)) pe_int (nomark _)) (pss_cons (ps_set (i := 2) sc_law_draw.nd rfl (.inl rfl) (pe_op op_mod (pe_callTy call_int1 (by rfl) T.z_int boot_int (pa_cons (pe_ix ix_list (pv 0) pe_int (fun _ _ => rfl)) pa_nil)) (pv 1)))
      (pss_cons (ps_asg (pe_op op_fdivW (pe_ix ix_list (pv 0) pe_int (fun _ _ => rfl)) (pv 1)) (pg_sub (pv 0) pe_int set_list))
      (pss_one (ps_ret (pv 2))))) pss_nil)
      (pss_cons (ps_asg (pe_op op_add (pe_ix ix_list (pv 0) pe_int (fun _ _ => rfl)) pe_int) (pg_sub (pv 0) pe_int set_list))
      (pss_cons (ps_asg (pe_op op_mod (pe_callTy call_int1 (by rfl) T.z_int boot_int (pa_cons (pe_op op_add (pe_op op_add (pe_op op_mul (pe_ix ix_list (pv 0) pe_int (fun _ _ => rfl)) pe_int) (pe_op op_mul pe_int (pe_ix ix_list (pv 0) pe_int (fun _ _ => rfl)))) pe_int) pa_nil)) pe_int) (pg_sub (pv 0) pe_int set_list))
      (pss_one (ps_ret (pe_op op_mod (pe_op op_fdivW (pe_callTy call_int1 (by rfl) T.z_int boot_int (pa_cons (pe_op op_mod (pe_callTy call_int1 (by rfl) T.z_int boot_int (pa_cons (pe_op op_add (pe_op op_mul (pe_ix ix_list (pv 0) pe_int (fun _ _ => rfl)) pe_int) (pe_op op_mul pe_int (pe_ix ix_list (pv 0) pe_int (fun _ _ => rfl)))) pa_nil)) pe_int) pa_nil)) pe_int) (pv 1))))))), ?_⟩
    have E0 := Ext.refl G0
    have hm0 : (Option.bind (getM bag_here1 (0 : Int)) fun x1 =>
  if (decide (x1 > (0 : Int))) then (Option.bind (getM bag_here1 (0 : Int)) fun x2 =>
  Option.bind (modM x2 many1) fun x3 =>
  Option.bind (getM bag_here1 (0 : Int)) fun x4 =>
  Option.bind (fdivM x4 many1) fun x5 =>
  Option.bind (setM bag_here1 (0 : Int) x5) fun bag_here2 =>
  some (x3, bag_here2))
  else (Option.bind (getM bag_here1 (2 : Int)) fun x6 =>
  Option.bind (setM bag_here1 (2 : Int) (x6 + (1 : Int))) fun bag_here3 =>
  Option.bind (getM bag_here3 (1 : Int)) fun x7 =>
  Option.bind (getM bag_here3 (2 : Int)) fun x8 =>
  Option.bind (setM bag_here3 (1 : Int) ((((x7 * (48271 : Int)) + ((11 : Int) * x8)) + (7 : Int)) % (2147483647 : Int))) fun bag_here4 =>
  Option.bind (getM bag_here4 (1 : Int)) fun x9 =>
  Option.bind (getM bag_here4 (2 : Int)) fun x10 =>
  Option.bind (modM ((((x9 * (69621 : Int)) + ((4099 : Int) * x10)) % (2147483629 : Int)) / (128 : Int)) many1) fun x11 =>
  some (x11, bag_here4))) = some res := hm
    refine gS_IfS ?_
    refine gTest ?_
    refine gOp ?_
    refine gOp ?_
    refine gV rfl ?_
    refine gC ?_
    obtain ⟨x1, hq1, hm1⟩ := bindS hm0
    refine q_ixO S0 h1 hq1 (fun v1 h2 => ?_)
    obtain rfl := (show v1 = (V.int x1) from h2)
    refine gC ?_
    refine ⟨_, _, rfl, rfl, ?_⟩
    refine ⟨(decide (x1 > (0 : Int))), rfl, ?_⟩
    refine ite2 (fun c1 => ?_) (fun c1 => ?_)
    · skip
      have hm2 := (if_pos c1).symm.trans hm1
      refine gS_AsgN ?_
      refine gOp ?_
      refine gCB ?_
      refine gCons' ?_
      refine gOp ?_
      refine gV rfl ?_
      refine gC ?_
      obtain ⟨x2, hq2, hm3⟩ := bindS hm2
      refine q_ixO S0 h1 hq2 (fun v2 h3 => ?_)
      obtain rfl := (show v2 = (V.int x2) from h3)
      refine gNil' ?_
      refine .inl ⟨_, rfl, ?_⟩
      refine gV rfl ?_
      obtain ⟨x3, hq3, hm4⟩ := bindS hm3
      refine q_mod hq3 ?_
      refine gS_Asg ?_
      refine gOp ?_
      refine gOp ?_
      refine gV rfl ?_
      refine gC ?_
      obtain ⟨x4, hq4, hm5⟩ := bindS hm4
      refine q_ixO S0 h1 hq4 (fun v3 h4 => ?_)
      obtain rfl := (show v3 = (V.int x4) from h4)
      refine gV rfl ?_
      obtain ⟨x5, hq5, hm6⟩ := bindS hm5
      refine q_fdiv hq5 ?_
      refine gSub' ?_
      refine gV rfl ?_
      refine gC ?_
      obtain ⟨bag_here2, hq6, hm7⟩ := bindS hm6
      refine q_setL S0 h1 (show R.rel rInt G0 (V.int x5) x5 from rfl) hq6 (fun H1 w2 S1 h5 => ?_)
      refine gRet ?_
      refine gV rfl ?_
      cases hm7
      exact q G0 H1 w2 E0 S1 h5
    · skip
      have hm8 := (if_neg c1).symm.trans hm1
      refine gNext ?_
      refine gE ?_
      refine gS_Asg ?_
      refine gOp ?_
      refine gOp ?_
      refine gV rfl ?_
      refine gC ?_
      obtain ⟨x6, hq7, hm9⟩ := bindS hm8
      refine q_ixO S0 h1 hq7 (fun v4 h6 => ?_)
      obtain rfl := (show v4 = (V.int x6) from h6)
      refine gC ?_
      refine ⟨_, _, rfl, rfl, ?_⟩
      refine gSub' ?_
      refine gV rfl ?_
      refine gC ?_
      obtain ⟨bag_here3, hq8, hm10⟩ := bindS hm9
      refine q_setL S0 h1 (show R.rel rInt G0 (V.int (x6 + (1 : Int))) (x6 + (1 : Int)) from rfl) hq8 (fun H2 w3 S2 h7 => ?_)
      refine gS_Asg ?_
      refine gOp ?_
      refine gCB ?_
      refine gCons' ?_
      refine gOp ?_
      refine gOp ?_
      refine gOp ?_
      refine gOp ?_
      refine gV rfl ?_
      refine gC ?_
      obtain ⟨x7, hq9, hm11⟩ := bindS hm10
      refine q_ixO S2 h7 hq9 (fun v5 h8 => ?_)
      obtain rfl := (show v5 = (V.int x7) from h8)
      refine gC ?_
      refine ⟨_, _, rfl, rfl, .inr ⟨by decide, by decide⟩, ?_⟩
      refine gOp ?_
      refine gC ?_
      refine gOp ?_
      refine gV rfl ?_
      refine gC ?_
      obtain ⟨x8, hq10, hm12⟩ := bindS hm11
      refine q_ixO S2 h7 hq10 (fun v6 h9 => ?_)
      obtain rfl := (show v6 = (V.int x8) from h9)
      refine ⟨_, _, rfl, rfl, .inl ⟨by decide, by decide⟩, ?_⟩
      refine ⟨_, _, rfl, rfl, ?_⟩
      refine gC ?_
      refine ⟨_, _, rfl, rfl, ?_⟩
      refine gNil' ?_
      refine .inl ⟨_, rfl, ?_⟩
      refine gC ?_
      refine ⟨_, _, rfl, rfl, (by show (0 : Int) < 2147483647; decide), ?_⟩
      refine gSub' ?_
      refine gV rfl ?_
      refine gC ?_
      obtain ⟨bag_here4, hq11, hm13⟩ := bindS hm12
      refine q_setL S2 h7 (show R.rel rInt G0 (V.int ((((x7 * (48271 : Int)) + ((11 : Int) * x8)) + (7 : Int)) % (2147483647 : Int))) ((((x7 * (48271 : Int)) + ((11 : Int) * x8)) + (7 : Int)) % (2147483647 : Int)) from rfl) hq11 (fun H3 w4 S3 h10 => ?_)
      refine gRet ?_
      refine gOp ?_
      refine gOp ?_
      refine gCB ?_
      refine gCons' ?_
      refine gOp ?_
      refine gCB ?_
      refine gCons' ?_
      refine gOp ?_
      refine gOp ?_
      refine gOp ?_
      refine gV rfl ?_
      refine gC ?_
      obtain ⟨x9, hq12, hm14⟩ := bindS hm13
      refine q_ixO S3 h10 hq12 (fun v7 h11 => ?_)
      obtain rfl := (show v7 = (V.int x9) from h11)
      refine gC ?_
      refine ⟨_, _, rfl, rfl, .inr ⟨by decide, by decide⟩, ?_⟩
      refine gOp ?_
      refine gC ?_
      refine gOp ?_
      refine gV rfl ?_
      refine gC ?_
      obtain ⟨x10, hq13, hm15⟩ := bindS hm14
      refine q_ixO S3 h10 hq13 (fun v8 h12 => ?_)
      obtain rfl := (show v8 = (V.int x10) from h12)
      refine ⟨_, _, rfl, rfl, .inl ⟨by decide, by decide⟩, ?_⟩
      refine ⟨_, _, rfl, rfl, ?_⟩
      refine gNil' ?_
      refine .inl ⟨_, rfl, ?_⟩
      refine gC ?_
      refine ⟨_, _, rfl, rfl, (by show (0 : Int) < 2147483629; decide), ?_⟩
      refine gNil' ?_
      refine .inl ⟨_, rfl, ?_⟩
      refine gC ?_
      refine ⟨_, _, rfl, rfl, ⟨by decide, by decide⟩, ?_⟩
      refine gV rfl ?_
      obtain ⟨x11, hq14, hm16⟩ := bindS hm15
      refine q_mod hq14 ?_
      cases hm16
      exact q G0 H3 w4 E0 S3 h10
end
end Mr

set_option Elab.async false
set_option linter.all false
set_option maxRecDepth 100000
set_option maxHeartbeats 4000000
set_option synthInstance.maxSize 4000
set_option synthInstance.maxHeartbeats 400000
namespace Mr
open PySem PySem.Spec PyProof.Rows L2 GFr
section
variable {P : Program} {w : World} {K : PySem.W.Frag} {mg : Str → Option Value} {base : Heap}
theorem sc_law_number : FnScope ["_law_thing"] ["_law_thing"] (defScope s_law_number) := ⟨rfl, rfl, rfl, by decide +kernel, rfl, by decide +kernel, by decide +kernel⟩
theorem ok_law_number (T : Tx K mg) : FnOk P w K mg base CX0 1 (He.fAd K ("_law_number", none)) T.fd_law_number ["_law_thing"] (sp_law_number K) := by
  refine T.F_law_number.ok sc_law_number (fun vs H Q E h => ?_) (fun cdv A outer s H0 vs Q E hr h => ?_)
  · obtain ⟨G, O, thing1, rfl, _⟩ := h
    rfl
  · obtain ⟨G0, O, thing1, rfl, S0, res, hm, q⟩ := h
    refine ⟨_, PSs.nox (pss_one (ps_ret (pe_cut (pe_and (pe_callB (r := rIsi K) call_isi (by rfl) T.z_isinstance boot_isinstance (pa_cons (pv 0) (pa_cons (pe_bltn (v := .ty "int") (by rfl) T.z_int boot_int rfl) pa_nil))) (pe_one (pe_not (pe_callB (r := rIsi K) call_isi (by rfl) T.z_isinstance boot_isinstance (pa_cons (pv 0) (pa_cons (pe_bltn (v := .ty "bool") (by rfl) T.z_bool boot_bool rfl) pa_nil))))))))), ?_⟩
    have E0 := Ext.refl G0
    have hm0 : (some (true && (!false))) = some res := hm
    refine gRet ?_
    refine gCE (fun (b : V) (H : Hp) => ∃ (G : Hp), Ext G0 G ∧ Sub G (O) H ∧ b = V.bl (true && (!false))) ?_ ?_
    · skip
      refine gAndV ?_
      refine gCB ?_
      refine gCons' ?_
      refine gV rfl ?_
      refine gCons' ?_
      refine gC ?_
      refine gNil' ?_
      refine q_isi (ty_I _) (by decide +kernel : kitB "int" "int" = some true) ?_
      refine ⟨true, rfl, ?_⟩
      refine ite2 (fun c1 => ?_) (fun c1 => ?_)
      · skip
        refine gNotV ?_
        refine gCB ?_
        refine gCons' ?_
        refine gV rfl ?_
        refine gCons' ?_
        refine gC ?_
        refine gNil' ?_
        refine q_isi (ty_I _) (by decide +kernel : kitB "int" "bool" = some false) ?_
        refine ⟨_, rfl, ?_⟩
        exact ⟨G0, (Ext.refl _), S0, congrArg V.bl (by rw [c1, Bool.true_and])⟩
      · skip
        exact ⟨G0, (Ext.refl _), S0, congrArg V.bl (by rw [ne_false c1, Bool.false_and])⟩
    · intro b1 H1 hJ
      obtain ⟨G1, e1, S1, rfl⟩ := hJ
      have E1 := E0.trans e1
      cases hm0
      exact q G1 H1 E1 S1
end
end Mr

set_option Elab.async false
set_option linter.all false
set_option maxRecDepth 100000
set_option maxHeartbeats 4000000
set_option synthInstance.maxSize 4000
set_option synthInstance.maxHeartbeats 400000
namespace Mr
open PySem PySem.Spec PyProof.Rows L2 GFr
section
variable {P : Program} {w : World} {K : PySem.W.Frag} {mg : Str → Option Value} {base : Heap}
theorem sc_law_ring : FnScope ["_law_bag_here", "_law_many", "_law_spots", "_law_turn_here", "_law_left", "_law_spot"] ["_law_bag_here", "_law_many"] (defScope s_law_ring) := ⟨rfl, rfl, rfl, by decide +kernel, rfl, by decide +kernel, by decide +kernel⟩
theorem ok_law_ring (T : Tx K mg) : FnOk P w K mg base CX0 2 (He.fAd K ("_law_ring", none)) T.fd_law_ring ["_law_bag_here", "_law_many"] (sp_law_ring K) := by
  have G_law_draw := ok_law_draw (P := P) (w := w) (base := base) T
  refine T.F_law_ring.ok sc_law_ring (fun vs H Q E h => ?_) (fun cdv A outer s H0 vs Q E hr h => ?_)
  · obtain ⟨G, O, a1, w1, bag_here1, many1, rfl, _⟩ := h
    rfl
  · obtain ⟨G0, O, a1, w1, bag_here1, many1, rfl, S0, h1, res, hm, q⟩ := h
    refine ⟨_, PSs.nox (pss_cons (ps_set (i := 2) sc_law_ring.nd rfl (.inr rfl) (pe_lst (pa_cons (pe_call G_law_draw (hr.mono (by decide)) (by rfl) T.g_law_draw T.F_law_draw.kp T.b_law_draw .nil pass0 (pa_cons (pv 0) (pa_cons pe_int pa_nil))) pa_nil)))
      (pss_cons (ps_cut (ps_for PassesOwn.never rfl (pi_range1 (by rfl) T.z_range (pa_cons (pe_op op_sub (pv 1) pe_int) pa_nil)) (pg_name (i := 3) sc_law_ring.nd rfl (.inl rfl))
      (pss_one (ps_expr (pe_bm PySem.F.plainAttrs_list PySem.F.slot_list_append PySem.F.type_list_append mt_append (pv 2) (pa_cons (pe_op op_mod (pe_callTy call_int1 (by rfl) T.z_int boot_int (pa_cons (pe_op op_add (pe_op op_add (pe_ix ix_list (pv 2) (pe_un un_neg pe_int) (fun _ _ => rfl)) pe_int) (pe_call G_law_draw (hr.mono (by decide)) (by rfl) T.g_law_draw T.F_law_draw.kp T.b_law_draw .nil pass0 (pa_cons (pv 0) (pa_cons pe_int pa_nil)))) pa_nil)) pe_int) pa_nil))))))
      (pss_cons (ps_setLc (i := 4) (own := [("_law_spot", 5)]) (g := gName 5) (by rfl) sc_law_ring.nd rfl rfl (sw_true rfl rfl rfl (by decide +kernel)) (pi_range1 (by rfl) T.z_range (pa_cons pe_int pa_nil)) (blkOk_by (own := [("_law_spot", 5)]) (N := ["_law_bag_here", "_law_many", "_law_spots", "_law_turn_here", "_law_left", "_law_spot"]) (sc := defScope s_law_ring) (by decide +kernel)) (fun _ _ _ _ _ => (pg_name (i := 5) sc_law_ring.nd rfl (.inl rfl))) (fun _ _ _ _ _ => (pts_one (pt_cmpR (op_notInDK (K := K) rfl (un65 hr)) (pv 5) (pe_lst (pa_cons (pe_ix (ix_listK (K := K) rfl) (pv 2) (pe_un un_neg pe_int) (fun _ _ => rfl)) (pa_cons (pe_ix (ix_listK (K := K) rfl) (pv 2) pe_int (fun _ _ => rfl)) pa_nil))) (by with_unfolding_all rfl)))) (fun _ _ _ _ _ => (pv 5)))
      (pss_cons (ps_expr (pe_bm PySem.F.plainAttrs_list PySem.F.slot_list_append PySem.F.type_list_append mt_append (pv 2) (pa_cons (pe_ix ix_list (pv 4) (pe_call G_law_draw (hr.mono (by decide)) (by rfl) T.g_law_draw T.F_law_draw.kp T.b_law_draw .nil pass0 (pa_cons (pv 0) (pa_cons (pe_callB (r := rLenM K) call_lenM (by rfl) T.z_len boot_len (pa_cons (pv 4) pa_nil)) pa_nil))) (fun _ _ => rfl)) pa_nil)))
      (pss_one (ps_ret (pe_lc (own := [("_law_spot", 5)]) (g := gName 5) (by rfl) sc_law_ring.nd (pi_list (pv 2)) (blkOk_by (own := [("_law_spot", 5)]) (N := ["_law_bag_here", "_law_many", "_law_spots", "_law_turn_here", "_law_left", "_law_spot"]) (sc := defScope s_law_ring) (by decide +kernel)) (fun _ _ _ _ _ => (pg_name (i := 5) sc_law_ring.nd rfl (.inl rfl))) (fun _ _ _ _ _ => pts_nil) (fun _ _ _ _ _ => (pe_tup (pa_cons (pe_op op_fdivW (pv 5) pe_int) (pa_cons (pe_op op_sub (pv 5) (pe_op op_mul (pe_op op_fdivW (pv 5) pe_int) pe_int)) pa_nil))))))))))), ?_⟩
    have E0 := Ext.refl G0
    have hm0 : (Option.bind (m_law_draw bag_here1 (25 : Int)) fun (r1, bag_here2) =>
  Option.bind (rngM (many1 - (2 : Int))) fun xs1 =>
  Option.bind (folM (m_law_ring_b1) xs1 (bag_here2, ([r1] : List Int))) fun (bag_here3, spots1) =>
  Option.bind (rngM (25 : Int)) fun xs2 =>
  Option.bind (folM (m_law_ring_c2 spots1) xs2 ([] : (List Int))) fun acc1 =>
  Option.bind (m_law_draw bag_here3 (acc1.length : Int)) fun (r3, bag_here6) =>
  Option.bind (getM acc1 r3) fun x8 =>
  Option.bind (appM spots1 x8) fun spots4 =>
  Option.bind (folM (m_law_ring_c3) spots4 ([] : (List (Int × Int)))) fun acc4 =>
  some (acc4, bag_here6)) = some res := hm
    refine gS_AsgN ?_
    refine gLst ?_
    refine gCons' ?_
    refine gCall ?_
    refine gCons' ?_
    refine gV rfl ?_
    refine gCons' ?_
    refine gC ?_
    refine gNil' ?_
    obtain ⟨⟨r1, bag_here2⟩, hq1, hm1⟩ := bindS hm0
    dsimp only at hm1
    refine ⟨G0, (O), a1, w1, bag_here1, (25 : Int), rfl, S0, h1, (r1, bag_here2), hq1, fun G1 H1 w2 e1 S1 h2 => ?_⟩
    have E1 := E0.trans e1
    refine gNil' ?_
    have h3 : Al rInt G1 [(V.int r1)] [r1] := ⟨rfl, True.intro⟩
    refine q_lst S1 h3 (by show 1 ≤ 100000; decide) (fun a2 H2 w3 S2 h4 => ?_)
    obtain ⟨xs1, hq2, hm2⟩ := bindS hm1
    obtain ⟨⟨bag_here3, spots1⟩, hl1, hm3⟩ := bindS hm2
    dsimp only at hm3
    refine gS_CS (fun (σ : L2.St) (H : Hp) => ∃ (G : Hp) (w4 : List V) (w5 : List V) (y1 : Option V) (y2 : Option V) (y3 : Option V), Ext G1 G ∧ Sub G ((a1, HO.lst w4) :: (a2, HO.lst w5) :: O) H ∧ σ = [some (V.ref a1), some (V.int many1), some (V.ref a2), y1, y2, y3] ∧ Al rInt G w4 bag_here3 ∧ Al rInt G w5 spots1) ?_ ?_
    · skip
      refine gFor ?_
      refine gIR ?_
      refine gCons' ?_
      refine gOp ?_
      refine gV rfl ?_
      refine gC ?_
      refine ⟨_, _, rfl, rfl, ?_⟩
      refine gNil' ?_
      have S3 : Sub G1 ((a1, HO.lst w2) :: (a2, HO.lst w3) :: O) H2 := S2.front 1 rfl rfl
      refine lp_R hq2 (fol_for Empty hl1) (fun (s : (List Int) × (List Int)) (σ : L2.St) (H : Hp) => ∃ (G : Hp) (w4 : List V) (w5 : List V) (y1 : Option V) (y2 : Option V) (y3 : Option V), Ext G1 G ∧ Sub G ((a1, HO.lst w4) :: (a2, HO.lst w5) :: O) H ∧ σ = [some (V.ref a1), some (V.int many1), some (V.ref a2), y1, y2, y3] ∧ Al rInt G w4 s.1 ∧ Al rInt G w5 s.2) ⟨G1, w2, w3, _, _, _, (Ext.refl _), S3, rfl, h2, h4⟩ ?_ ?_
      · intro i1 x1 s1 b1 hb1 hr1 σ1 H3 hI1
        obtain ⟨s2, hb2, hb3⟩ := goF_some hb1
        subst hb3
        obtain ⟨bag_here4, spots2⟩ := s1
        obtain ⟨G2, w6, w7, y4, y5, y6, e2, S4, rfl, h6, h7⟩ := hI1
        have E2 := E1.trans e2
        have hm4 : (Option.bind (getM spots2 (-(1 : Int))) fun x2 =>   Option.bind (m_law_draw bag_here4 (24 : Int)) fun (r2, bag_here5) =>   Option.bind (appM spots2 (((x2 + (1 : Int)) + r2) % (25 : Int))) fun spots3 =>   some (bag_here5, spots3)) = some s2 := hb2
        refine gDrop ?_
        refine gBM ?_
        refine gV rfl ?_
        have S5 : Sub G2 ((a2, HO.lst w7) :: (a1, HO.lst w6) :: O) H3 := S4.front 1 rfl rfl
        refine ⟨.inl ⟨rfl, _, .inl (.inl S5.head)⟩, ?_⟩
        refine gCons' ?_
        refine gOp ?_
        refine gCB ?_
        refine gCons' ?_
        refine gOp ?_
        refine gOp ?_
        refine gOp ?_
        refine gV rfl ?_
        refine gUn ?_
        refine gC ?_
        refine ⟨_, rfl, ?_⟩
        obtain ⟨x2, hq3, hm5⟩ := bindS hm4
        refine q_ixO S5 h7 hq3 (fun v2 h8 => ?_)
        obtain rfl := (show v2 = (V.int x2) from h8)
        refine gC ?_
        refine ⟨_, _, rfl, rfl, ?_⟩
        refine gCall ?_
        refine gCons' ?_
        refine gV rfl ?_
        refine gCons' ?_
        refine gC ?_
        refine gNil' ?_
        have S6 : Sub G2 ((a1, HO.lst w6) :: (a2, HO.lst w7) :: O) H3 := S5.front 1 rfl rfl
        obtain ⟨⟨r2, bag_here5⟩, hq4, hm6⟩ := bindS hm5
        dsimp only at hm6
        refine ⟨G2, ((a2, HO.lst w7) :: O), a1, w6, bag_here4, (24 : Int), rfl, S6, h6, (r2, bag_here5), hq4, fun G3 H4 w8 e3 S7 h9 => ?_⟩
        have h10 := Al.up e3 h7
        have E3 := E2.trans e3
        refine ⟨_, _, rfl, rfl, ?_⟩
        refine gNil' ?_
        refine .inl ⟨_, rfl, ?_⟩
        refine gC ?_
        refine ⟨_, _, rfl, rfl, (by show (0 : Int) < 25; decide), ?_⟩
        refine gNil' ?_
        obtain ⟨spots3, hq5, hm7⟩ := bindS hm6
        have S8 : Sub G3 ((a2, HO.lst w7) :: (a1, HO.lst w8) :: O) H4 := S7.front 1 rfl rfl
        refine q_app S8 h10 (show R.rel rInt G3 (V.int (((x2 + (1 : Int)) + r2) % (25 : Int))) (((x2 + (1 : Int)) + r2) % (25 : Int)) from rfl) hq5 (fun H5 w9 S9 h11 => ?_)
        have S10 : Sub G3 ((a1, HO.lst w8) :: (a2, HO.lst w9) :: O) H5 := S9.front 1 rfl rfl
        cases hm7
        exact ⟨(bag_here5, spots3), ⟨G3, w8, w9, _, _, _, (e2.trans e3), S10, rfl, h9, h11⟩, hr1⟩
      · intro s σ H h1 h2
        cases h1
        obtain ⟨G, k1, k2, k3, k4, k5, ie, irest⟩ := h2
        exact ⟨G, k1, k2, k3, k4, k5, (ie), irest⟩
    · intro σ2 H6 hJ1
      obtain ⟨G4, w10, w11, y7, y8, y9, e4, S11, rfl, h12, h13⟩ := hJ1
      have E4 := E1.trans e4
      refine gS_AsgN ?_
      refine gLc ?_
      refine gIR ?_
      refine gCons' ?_
      refine gC ?_
      refine gNil' ?_
      obtain ⟨xs2, hq6, hm8⟩ := bindS hm3
      obtain ⟨acc1, hq9, hm11⟩ := bindS hm8
      refine lc_R hq6 hq9 (fun (D : Addr) (s : (List Int)) (H : Hp) => ∃ (G : Hp) (w13 : List V), Ext G4 G ∧ Sub G ((D, HO.lst w13) :: (a1, HO.lst w10) :: (a2, HO.lst w11) :: O) H ∧ Al rInt G w13 s) ?_ ?_ ?_
      · intro D1 nD1
        exact ⟨G4, [], Ext.refl _, S11.newOwn nD1, True.intro⟩
      · intro D2 i2 x5 acc2 s4 hb4 hr2 H8 hI2
        obtain ⟨G6, w14, e6, S15, h22⟩ := hI2
        have h23 := Al.up e6 h12
        have h24 := Al.up e6 h13
        have E6 := E4.trans e6
        refine ⟨rfl, ?_⟩
        have hm12 : (Option.bind (getM spots1 (-(1 : Int))) fun x6 =>   Option.bind (getM spots1 (0 : Int)) fun x7 =>   if (!decide (x5 ∈ ([x6, x7] : List Int))) then (Option.bind (appM acc2 x5) fun acc3 =>   some acc3)   else (some acc2)) = some s4 := hb4
        refine gTest ?_
        refine gOp ?_
        refine gV rfl ?_
        refine gLst ?_
        refine gCons' ?_
        refine gOp ?_
        refine gV rfl ?_
        refine gUn ?_
        refine gC ?_
        refine ⟨_, rfl, ?_⟩
        obtain ⟨x6, hq10, hm13⟩ := bindS hm12
        have S16 : Sub G6 ((a2, HO.lst w11) :: (D2, HO.lst w14) :: (a1, HO.lst w10) :: O) H8 := S15.front 2 rfl rfl
        refine q_ixO S16 h24 hq10 (fun v6 h25 => ?_)
        obtain rfl := (show v6 = (V.int x6) from h25)
        refine gCons' ?_
        refine gOp ?_
        refine gV rfl ?_
        refine gC ?_
        obtain ⟨x7, hq11, hm14⟩ := bindS hm13
        refine q_ixO S16 h24 hq11 (fun v7 h26 => ?_)
        obtain rfl := (show v7 = (V.int x7) from h26)
        refine gNil' ?_
        have h27 : Al rInt G6 [(V.int x6), (V.int x7)] [x6, x7] := ⟨rfl, rfl, True.intro⟩
        refine q_lst S16 h27 (by show 2 ≤ 100000; decide) (fun a4 H9 w15 S17 h28 => ?_)
        obtain ⟨G7, e7, S18, h29⟩ := frz_M S17 h28
        have h30 := Al.up e7 h23
        have h31 := Al.up e7 h24
        have h32 := Al.up e7 h22
        have E7 := E6.trans e7
        refine q_niD (dInt (K := K)) (by show 2 ≤ 64; decide) (show R.rel rInt H9 (V.int x5) x5 from rfl) (R.up S18.ext h29) (okI _) (ok_all okI _) ?_
        refine ⟨(!decide (x5 ∈ ([x6, x7] : List Int))), rfl, ?_⟩
        refine ite2 (fun c1 => ?_) (fun c1 => ?_)
        · skip
          have hm15 := (if_pos c1).symm.trans hm14
          refine gV rfl ?_
          obtain ⟨acc3, hq12, hm16⟩ := bindS hm15
          have S19 : Sub G7 ((D2, HO.lst w14) :: (a2, HO.lst w11) :: (a1, HO.lst w10) :: O) H9 := S18.front 1 rfl rfl
          refine q_lcEl S19 h32 (show R.rel rInt G7 (V.int x5) x5 from rfl) hq12 (fun H10 w16 S20 h33 => ?_)
          have S21 : Sub G7 ((a2, HO.lst w11) :: (D2, HO.lst w16) :: (a1, HO.lst w10) :: O) H10 := S20.front 1 rfl rfl
          have S22 : Sub G7 ((a1, HO.lst w10) :: (a2, HO.lst w11) :: (D2, HO.lst w16) :: O) H10 := S21.front 2 rfl rfl
          have S23 : Sub G7 ((D2, HO.lst w16) :: (a1, HO.lst w10) :: (a2, HO.lst w11) :: O) H10 := S22.front 2 rfl rfl
          cases hm16
          exact ⟨_, ⟨G7, w16, (e6.trans e7), S23, h33⟩, hr2⟩
        · skip
          have hm17 := (if_neg c1).symm.trans hm14
          have S24 : Sub G7 ((a1, HO.lst w10) :: (a2, HO.lst w11) :: (D2, HO.lst w14) :: O) H9 := S18.front 2 rfl rfl
          have S25 : Sub G7 ((D2, HO.lst w14) :: (a1, HO.lst w10) :: (a2, HO.lst w11) :: O) H9 := S24.front 2 rfl rfl
          cases hm17
          exact ⟨_, ⟨G7, w14, (e6.trans e7), S25, h32⟩, hr2⟩
      · intro D3 H11 hI3
        obtain ⟨G8, w17, e8, S26, h34⟩ := hI3
        have h35 := Al.up e8 h12
        have h36 := Al.up e8 h13
        have E8 := E4.trans e8
        refine gS_Drop ?_
        refine gBM ?_
        refine gV rfl ?_
        have S27 : Sub G8 ((a2, HO.lst w11) :: (D3, HO.lst w17) :: (a1, HO.lst w10) :: O) H11 := S26.front 2 rfl rfl
        refine ⟨.inl ⟨rfl, _, .inl (.inl S27.head)⟩, ?_⟩
        refine gCons' ?_
        refine gOp ?_
        refine gV rfl ?_
        refine gCall ?_
        refine gCons' ?_
        refine gV rfl ?_
        refine gCons' ?_
        refine gCB ?_
        refine gCons' ?_
        refine gV rfl ?_
        refine gNil' ?_
        have S28 : Sub G8 ((D3, HO.lst w17) :: (a2, HO.lst w11) :: (a1, HO.lst w10) :: O) H11 := S27.front 1 rfl rfl
        refine q_lenO S28 h34 ?_
        refine gNil' ?_
        have S29 : Sub G8 ((a1, HO.lst w10) :: (D3, HO.lst w17) :: (a2, HO.lst w11) :: O) H11 := S28.front 2 rfl rfl
        obtain ⟨⟨r3, bag_here6⟩, hq13, hm18⟩ := bindS hm11
        dsimp only at hm18
        refine ⟨G8, ((D3, HO.lst w17) :: (a2, HO.lst w11) :: O), a1, w10, bag_here3, (acc1.length : Int), rfl, S29, h35, (r3, bag_here6), hq13, fun G9 H12 w18 e9 S30 h37 => ?_⟩
        have h38 := Al.up e9 h36
        have h39 := Al.up e9 h34
        have E9 := E8.trans e9
        obtain ⟨x8, hq14, hm19⟩ := bindS hm18
        have S31 : Sub G9 ((D3, HO.lst w17) :: (a1, HO.lst w18) :: (a2, HO.lst w11) :: O) H12 := S30.front 1 rfl rfl
        refine q_ixO S31 h39 hq14 (fun v8 h40 => ?_)
        obtain rfl := (show v8 = (V.int x8) from h40)
        refine gNil' ?_
        obtain ⟨spots4, hq15, hm20⟩ := bindS hm19
        have S32 : Sub G9 ((a2, HO.lst w11) :: (D3, HO.lst w17) :: (a1, HO.lst w18) :: O) H12 := S31.front 2 rfl rfl
        refine q_app S32 h38 (show R.rel rInt G9 (V.int x8) x8 from rfl) hq15 (fun H13 w19 S33 h41 => ?_)
        refine gRet ?_
        refine gLc ?_
        refine gIL ?_
        refine gV rfl ?_
        obtain ⟨G10, e10, S34, h42⟩ := frz_M S33 h41
        have h43 := Al.up e10 h37
        have h44 := Al.up e10 h39
        have E10 := E9.trans e10
        obtain ⟨acc4, hq16, hm21⟩ := bindS hm20
        refine lc_L (r := rInt) S34 (rM_L (K := K) h42) hq16 (fun (D : Addr) (s : (List (Int × Int))) (H : Hp) => ∃ (G : Hp) (w20 : List V), Ext G10 G ∧ Sub G ((D, HO.lst w20) :: (D3, HO.lst w17) :: (a1, HO.lst w18) :: O) H ∧ Al (rP2 K rInt rInt) G w20 s) ?_ ?_ ?_ ?_
        · intro D4 nD2
          exact ⟨G10, [], Ext.refl _, S34.newOwn nD2, True.intro⟩
        · intro D s H hI
          obtain ⟨G, k7, ie, iS, _⟩ := hI
          exact ie.trans iS.ext
        · intro D5 i3 x9 acc5 s6 hb5 hr3 v10 H15 hI4 h50
          obtain ⟨G12, w21, e12, S36, h51⟩ := hI4
          have h52 := Al.up e12 h43
          have h53 := R.up e12 h42
          have h54 := Al.up e12 h44
          have h55 := R.up e12 (rM_L (K := K) h42)
          have E12 := E10.trans e12
          obtain rfl := (show v10 = (V.int x9) from h50)
          refine ⟨rfl, ?_⟩
          have hm22 : (Option.bind (appM acc5 ((x9 / (5 : Int)), (x9 - ((x9 / (5 : Int)) * (5 : Int))))) fun acc6 =>   some acc6) = some s6 := hb5
          refine gYes ?_
          refine iteT ?_
          refine gTup' ?_
          refine gCons' ?_
          refine gOp ?_
          refine gV rfl ?_
          refine gC ?_
          refine ⟨_, _, rfl, rfl, ⟨by decide, by decide⟩, ?_⟩
          refine gCons' ?_
          refine gOp ?_
          refine gV rfl ?_
          refine gOp ?_
          refine gOp ?_
          refine gV rfl ?_
          refine gC ?_
          refine ⟨_, _, rfl, rfl, ⟨by decide, by decide⟩, ?_⟩
          refine gC ?_
          refine ⟨_, _, rfl, rfl, .inr ⟨by decide, by decide⟩, ?_⟩
          refine ⟨_, _, rfl, rfl, ?_⟩
          refine gNil' ?_
          refine q_tup2 (K := K) S36 (show R.rel rInt G12 (V.int (x9 / (5 : Int))) (x9 / (5 : Int)) from rfl) (show R.rel rInt G12 (V.int (x9 - ((x9 / (5 : Int)) * (5 : Int)))) (x9 - ((x9 / (5 : Int)) * (5 : Int))) from rfl) (fun v11 G13 H16 e13 S37 h56 => ?_)
          have h57 := Al.up e13 h52
          have h58 := R.up e13 h53
          have h59 := Al.up e13 h54
          have h60 := R.up e13 h55
          have h61 := Al.up e13 h51
          have E13 := E12.trans e13
          obtain ⟨acc6, hq17, hm23⟩ := bindS hm22
          refine q_lcEl S37 h61 (show R.rel (rP2 K rInt rInt) G13 v11 ((x9 / (5 : Int)), (x9 - ((x9 / (5 : Int)) * (5 : Int)))) from h56) hq17 (fun H17 w22 S38 h62 => ?_)
          cases hm23
          exact ⟨_, ⟨G13, w22, (e12.trans e13), S38, h62⟩, hr3⟩
        · intro D6 H18 hI5
          obtain ⟨G14, w23, e14, S39, h63⟩ := hI5
          have h64 := Al.up e14 h43
          have h65 := R.up e14 h42
          have h66 := Al.up e14 h44
          have E14 := E10.trans e14
          obtain ⟨G15, e15, S40, h67⟩ := frz_M S39 h63
          have h68 := Al.up e15 h64
          have h69 := R.up e15 h65
          have h70 := Al.up e15 h66
          have E15 := E14.trans e15
          have S41 := S40.tail
          cases hm21
          exact q (V.ref D6) G15 H18 w18 E15 S41 h67 h68
end
end Mr

set_option Elab.async false
set_option linter.all false
set_option maxRecDepth 100000
set_option maxHeartbeats 4000000
set_option synthInstance.maxSize 4000
set_option synthInstance.maxHeartbeats 400000
namespace Mr
open PySem PySem.Spec PyProof.Rows L2 GFr
section
variable {P : Program} {w : World} {K : PySem.W.Frag} {mg : Str → Option Value} {base : Heap}
theorem sc_law_rings : FnScope ["_law_bag_here", "_law_found", "_law_turn_here"] ["_law_bag_here"] (defScope s_law_rings) := ⟨rfl, rfl, rfl, by decide +kernel, rfl, by decide +kernel, by decide +kernel⟩
theorem ok_law_rings (T : Tx K mg) : FnOk P w K mg base CX0 3 (He.fAd K ("_law_rings", none)) T.fd_law_rings ["_law_bag_here"] (sp_law_rings K) := by
  have G_law_draw := ok_law_draw (P := P) (w := w) (base := base) T
  have G_law_ring := ok_law_ring (P := P) (w := w) (base := base) T
  refine T.F_law_rings.ok sc_law_rings (fun vs H Q E h => ?_) (fun cdv A outer s H0 vs Q E hr h => ?_)
  · obtain ⟨G, O, a1, w1, bag_here1, rfl, _⟩ := h
    rfl
  · obtain ⟨G0, O, a1, w1, bag_here1, rfl, S0, h1, res, hm, q⟩ := h
    refine ⟨_, PSs.nox (pss_cons (ps_set (i := 1) sc_law_rings.nd rfl (.inl rfl) (pe_lst pa_nil))
      (pss_cons (ps_cut (ps_for PassesOwn.never rfl (pi_range1 (by rfl) T.z_range (pa_cons (pe_op op_add pe_int (pe_call G_law_draw (hr.mono (by decide)) (by rfl) T.g_law_draw T.F_law_draw.kp T.b_law_draw .nil pass0 (pa_cons (pv 0) (pa_cons pe_int pa_nil)))) pa_nil)) (pg_name (i := 2) sc_law_rings.nd rfl (.inl rfl))
      (pss_one (ps_expr (pe_bm PySem.F.plainAttrs_list PySem.F.slot_list_append PySem.F.type_list_append mt_append (pv 1) (pa_cons (pe_call G_law_ring (hr.mono (by decide)) (by rfl) T.g_law_ring T.F_law_ring.kp T.b_law_ring .nil pass0 (pa_cons (pv 0) (pa_cons (pe_op op_add pe_int (pe_call G_law_draw (hr.mono (by decide)) (by rfl) T.g_law_draw T.F_law_draw.kp T.b_law_draw .nil pass0 (pa_cons (pv 0) (pa_cons pe_int pa_nil)))) pa_nil))) pa_nil))))))
      (pss_one (ps_ret (pv 1))))), ?_⟩
    have E0 := Ext.refl G0
    have hm0 : (Option.bind (m_law_draw bag_here1 (3 : Int)) fun (r1, bag_here2) =>
  Option.bind (rngM ((1 : Int) + r1)) fun xs1 =>
  Option.bind (folM (m_law_rings_b1) xs1 (bag_here2, ([] : List (List (Int × Int))))) fun (bag_here3, found1) =>
  some (found1, bag_here3)) = some res := hm
    refine gS_AsgN ?_
    refine gLst ?_
    refine gNil' ?_
    have h2 : Al (rM (rP2 K rInt rInt)) G0 [] [] := True.intro
    refine q_lst S0 h2 (by show 0 ≤ 100000; decide) (fun a2 H1 w2 S1 h3 => ?_)
    obtain ⟨⟨r1, bag_here2⟩, hq1, hm1⟩ := bindS hm0
    dsimp only at hm1
    obtain ⟨xs1, hq2, hm2⟩ := bindS hm1
    obtain ⟨⟨bag_here3, found1⟩, hl1, hm3⟩ := bindS hm2
    dsimp only at hm3
    refine gS_CS (fun (σ : L2.St) (H : Hp) => ∃ (G : Hp) (w4 : List V) (w5 : List V) (y1 : Option V), Ext G0 G ∧ Sub G ((a1, HO.lst w4) :: (a2, HO.lst w5) :: O) H ∧ σ = [some (V.ref a1), some (V.ref a2), y1] ∧ Al rInt G w4 bag_here3 ∧ Al (rM (rP2 K rInt rInt)) G w5 found1) ?_ ?_
    · skip
      refine gFor ?_
      refine gIR ?_
      refine gCons' ?_
      refine gOp ?_
      refine gC ?_
      refine gCall ?_
      refine gCons' ?_
      refine gV rfl ?_
      refine gCons' ?_
      refine gC ?_
      refine gNil' ?_
      have S2 : Sub G0 ((a1, HO.lst w1) :: (a2, HO.lst w2) :: O) H1 := S1.front 1 rfl rfl
      refine ⟨G0, ((a2, HO.lst w2) :: O), a1, w1, bag_here1, (3 : Int), rfl, S2, h1, (r1, bag_here2), hq1, fun G1 H2 w3 e1 S3 h4 => ?_⟩
      have h5 := Al.up e1 h3
      have E1 := E0.trans e1
      refine ⟨_, _, rfl, rfl, ?_⟩
      refine gNil' ?_
      refine lp_R hq2 (fol_for Empty hl1) (fun (s : (List Int) × (List (List (Int × Int)))) (σ : L2.St) (H : Hp) => ∃ (G : Hp) (w4 : List V) (w5 : List V) (y1 : Option V), Ext G1 G ∧ Sub G ((a1, HO.lst w4) :: (a2, HO.lst w5) :: O) H ∧ σ = [some (V.ref a1), some (V.ref a2), y1] ∧ Al rInt G w4 s.1 ∧ Al (rM (rP2 K rInt rInt)) G w5 s.2) ⟨G1, w3, w2, _, (Ext.refl _), S3, rfl, h4, h5⟩ ?_ ?_
      · intro i1 x1 s1 b1 hb1 hr1 σ1 H3 hI1
        obtain ⟨s2, hb2, hb3⟩ := goF_some hb1
        subst hb3
        obtain ⟨bag_here4, found2⟩ := s1
        obtain ⟨G2, w6, w7, y2, e2, S4, rfl, h7, h8⟩ := hI1
        have E2 := E1.trans e2
        have hm4 : (Option.bind (m_law_draw bag_here4 (6 : Int)) fun (r2, bag_here5) =>   Option.bind (m_law_ring bag_here5 ((3 : Int) + r2)) fun (r3, bag_here6) =>   Option.bind (appM found2 r3) fun found3 =>   some (bag_here6, found3)) = some s2 := hb2
        refine gDrop ?_
        refine gBM ?_
        refine gV rfl ?_
        have S5 : Sub G2 ((a2, HO.lst w7) :: (a1, HO.lst w6) :: O) H3 := S4.front 1 rfl rfl
        refine ⟨.inl ⟨rfl, _, .inl (.inl S5.head)⟩, ?_⟩
        refine gCons' ?_
        refine gCall ?_
        refine gCons' ?_
        refine gV rfl ?_
        refine gCons' ?_
        refine gOp ?_
        refine gC ?_
        refine gCall ?_
        refine gCons' ?_
        refine gV rfl ?_
        refine gCons' ?_
        refine gC ?_
        refine gNil' ?_
        have S6 : Sub G2 ((a1, HO.lst w6) :: (a2, HO.lst w7) :: O) H3 := S5.front 1 rfl rfl
        obtain ⟨⟨r2, bag_here5⟩, hq3, hm5⟩ := bindS hm4
        dsimp only at hm5
        refine ⟨G2, ((a2, HO.lst w7) :: O), a1, w6, bag_here4, (6 : Int), rfl, S6, h7, (r2, bag_here5), hq3, fun G3 H4 w8 e3 S7 h9 => ?_⟩
        have h10 := Al.up e3 h8
        have h11 := Al.up e3 h7
        have E3 := E2.trans e3
        refine ⟨_, _, rfl, rfl, ?_⟩
        refine gNil' ?_
        obtain ⟨⟨r3, bag_here6⟩, hq4, hm6⟩ := bindS hm5
        dsimp only at hm6
        refine ⟨G3, ((a2, HO.lst w7) :: O), a1, w8, bag_here5, ((3 : Int) + r2), rfl, S7, h9, (r3, bag_here6), hq4, fun v2 G4 H5 w9 e4 S8 h12 h13 => ?_⟩
        have h14 := Al.up e4 h10
        have E4 := E3.trans e4
        refine gNil' ?_
        obtain ⟨found3, hq5, hm7⟩ := bindS hm6
        have S9 : Sub G4 ((a2, HO.lst w7) :: (a1, HO.lst w9) :: O) H5 := S8.front 1 rfl rfl
        refine q_app S9 h14 (show R.rel (rM (rP2 K rInt rInt)) G4 v2 r3 from h12) hq5 (fun H6 w10 S10 h15 => ?_)
        have S11 : Sub G4 ((a1, HO.lst w9) :: (a2, HO.lst w10) :: O) H6 := S10.front 1 rfl rfl
        cases hm7
        exact ⟨(bag_here6, found3), ⟨G4, w9, w10, _, ((e2.trans e3).trans e4), S11, rfl, h13, h15⟩, hr1⟩
      · intro s σ H h1 h2
        cases h1
        obtain ⟨G, k1, k2, k3, ie, irest⟩ := h2
        exact ⟨G, k1, k2, k3, (e1.trans ie), irest⟩
    · intro σ2 H7 hJ1
      obtain ⟨G5, w11, w12, y3, e5, S12, rfl, h16, h17⟩ := hJ1
      have E5 := E0.trans e5
      refine gRet ?_
      refine gV rfl ?_
      have S13 : Sub G5 ((a2, HO.lst w12) :: (a1, HO.lst w11) :: O) H7 := S12.front 1 rfl rfl
      obtain ⟨G6, e6, S14, h18⟩ := frz_M S13 h17
      have h19 := Al.up e6 h16
      have E6 := E5.trans e6
      cases hm3
      exact q (V.ref a2) G6 H7 w11 E6 S14 h18 h19
end
end Mr

set_option Elab.async false
set_option linter.all false
set_option maxRecDepth 100000
set_option maxHeartbeats 4000000
set_option synthInstance.maxSize 4000
set_option synthInstance.maxHeartbeats 400000
namespace Mr
open PySem PySem.Spec PyProof.Rows L2 GFr
section
variable {P : Program} {w : World} {K : PySem.W.Frag} {mg : Str → Option Value} {base : Heap}
theorem sc_law_turn : FnScope ["_law_start", "_law_stop", "_law_x", "_law_y", "_law_found"] ["_law_start", "_law_stop", "_law_x", "_law_y"] (defScope s_law_turn) := ⟨rfl, rfl, rfl, by decide +kernel, rfl, by decide +kernel, by decide +kernel⟩
theorem ok_law_turn (T : Tx K mg) : FnOk P w K mg base CX0 1 (He.fAd K ("_law_turn", none)) T.fd_law_turn ["_law_start", "_law_stop", "_law_x", "_law_y"] (sp_law_turn K) := by
  refine T.F_law_turn.ok sc_law_turn (fun vs H Q E h => ?_) (fun cdv A outer s H0 vs Q E hr h => ?_)
  · obtain ⟨G, O, v1, start1, v2, stop1, x1, y1, rfl, _⟩ := h
    rfl
  · obtain ⟨G0, O, v1, start1, v2, stop1, x1, y1, rfl, S0, h1, h2, res, hm, q⟩ := h
    refine ⟨_, PSs.nox (pss_cons (ps_set (i := 4) sc_law_turn.nd rfl (.inl rfl) (pe_op op_sub (pe_op op_mul (pe_op op_sub (pe_ix ix_tup (pv 1) pe_int (fun _ _ => rfl)) (pe_ix ix_tup (pv 0) pe_int (fun _ _ => rfl))) (pe_op op_sub (pe_op op_add (pe_op op_mul pe_int (pv 3)) pe_int) (pe_op op_mul pe_int (pe_ix ix_tup (pv 0) pe_int (fun _ _ => rfl))))) (pe_op op_mul (pe_op op_sub (pe_ix ix_tup (pv 1) pe_int (fun _ _ => rfl)) (pe_ix ix_tup (pv 0) pe_int (fun _ _ => rfl))) (pe_op op_sub (pe_op op_add (pe_op op_mul pe_int (pv 2)) pe_int) (pe_op op_mul pe_int (pe_ix ix_tup (pv 0) pe_int (fun _ _ => rfl)))))))
      (pss_cons (ps_cut (ps_if (pt_cmpR op_eqI (pv 4) pe_int (nomark _)) (pss_one (ps_set (i := 4) sc_law_turn.nd rfl (.inl rfl) (pe_op op_sub (pe_ix ix_tup (pv 0) pe_int (fun _ _ => rfl)) (pe_ix ix_tup (pv 1) pe_int (fun _ _ => rfl))))) pss_nil))
      (pss_one (ps_ret (pe_op op_sub (pe_callTy call_int1 (by rfl) T.z_int boot_int (pa_cons (pe_cmpR op_gt (pv 4) pe_int (nomark _)) pa_nil)) (pe_callTy call_int1 (by rfl) T.z_int boot_int (pa_cons (pe_cmpR op_lt (pv 4) pe_int (nomark _)) pa_nil))))))), ?_⟩
    have E0 := Ext.refl G0
    have hm0 : (Option.bind (mulM (stop1.1 - start1.1) ((((2 : Int) * y1) + (1 : Int)) - ((2 : Int) * start1.2))) fun x2 =>
  Option.bind (mulM (stop1.2 - start1.2) ((((2 : Int) * x1) + (1 : Int)) - ((2 : Int) * start1.1))) fun x3 =>
  Option.bind (if (decide ((x2 - x3) = (0 : Int))) then (some (start1.2 - stop1.2))
  else (some (x2 - x3))) fun found1 =>
  some ((if (decide (found1 > (0 : Int))) then (1 : Int) else 0) - (if (decide (found1 < (0 : Int))) then (1 : Int) else 0))) = some res := hm
    refine gS_AsgN ?_
    refine gOp ?_
    refine gOp ?_
    refine gOp ?_
    refine gOp ?_
    refine gV rfl ?_
    refine gC ?_
    refine q_p2_0 S0 h2 (fun v3 h3 => ?_)
    obtain rfl := (show v3 = (V.int stop1.1) from h3)
    refine gOp ?_
    refine gV rfl ?_
    refine gC ?_
    refine q_p2_0 S0 h1 (fun v4 h4 => ?_)
    obtain rfl := (show v4 = (V.int start1.1) from h4)
    refine ⟨_, _, rfl, rfl, ?_⟩
    refine gOp ?_
    refine gOp ?_
    refine gOp ?_
    refine gC ?_
    refine gV rfl ?_
    refine ⟨_, _, rfl, rfl, .inl ⟨by decide, by decide⟩, ?_⟩
    refine gC ?_
    refine ⟨_, _, rfl, rfl, ?_⟩
    refine gOp ?_
    refine gC ?_
    refine gOp ?_
    refine gV rfl ?_
    refine gC ?_
    refine q_p2_1 S0 h1 (fun v5 h5 => ?_)
    obtain rfl := (show v5 = (V.int start1.2) from h5)
    refine ⟨_, _, rfl, rfl, .inl ⟨by decide, by decide⟩, ?_⟩
    refine ⟨_, _, rfl, rfl, ?_⟩
    obtain ⟨x2, hq1, hm1⟩ := bindS hm0
    refine q_mul hq1 ?_
    refine gOp ?_
    refine gOp ?_
    refine gOp ?_
    refine gV rfl ?_
    refine gC ?_
    refine q_p2_1 S0 h2 (fun v6 h6 => ?_)
    obtain rfl := (show v6 = (V.int stop1.2) from h6)
    refine gOp ?_
    refine gV rfl ?_
    refine gC ?_
    refine q_p2_1 S0 h1 (fun v7 h7 => ?_)
    obtain rfl := (show v7 = (V.int start1.2) from h7)
    refine ⟨_, _, rfl, rfl, ?_⟩
    refine gOp ?_
    refine gOp ?_
    refine gOp ?_
    refine gC ?_
    refine gV rfl ?_
    refine ⟨_, _, rfl, rfl, .inl ⟨by decide, by decide⟩, ?_⟩
    refine gC ?_
    refine ⟨_, _, rfl, rfl, ?_⟩
    refine gOp ?_
    refine gC ?_
    refine gOp ?_
    refine gV rfl ?_
    refine gC ?_
    refine q_p2_0 S0 h1 (fun v8 h8 => ?_)
    obtain rfl := (show v8 = (V.int start1.1) from h8)
    refine ⟨_, _, rfl, rfl, .inl ⟨by decide, by decide⟩, ?_⟩
    refine ⟨_, _, rfl, rfl, ?_⟩
    obtain ⟨x3, hq2, hm2⟩ := bindS hm1
    refine q_mul hq2 ?_
    refine ⟨_, _, rfl, rfl, ?_⟩
    obtain ⟨found1, hq3, hm3⟩ := bindS hm2
    refine gS_CS (fun (σ : L2.St) (H : Hp) => ∃ (G : Hp), Ext G0 G ∧ Sub G (O) H ∧ σ = [some v1, some v2, some (V.int x1), some (V.int y1), some (V.int found1)]) ?_ ?_
    · skip
      refine gIfS ?_
      refine gTest ?_
      refine gOp ?_
      refine gV rfl ?_
      refine gC ?_
      refine ⟨_, _, rfl, rfl, ?_⟩
      refine ⟨(decide ((x2 - x3) = (0 : Int))), rfl, ?_⟩
      refine ite2 (fun c1 => ?_) (fun c1 => ?_)
      · skip
        have hm4 := (if_pos c1).symm.trans hq3
        refine gAsgN ?_
        refine gOp ?_
        refine gOp ?_
        refine gV rfl ?_
        refine gC ?_
        refine q_p2_1 S0 h1 (fun v11 h11 => ?_)
        obtain rfl := (show v11 = (V.int start1.2) from h11)
        refine gOp ?_
        refine gV rfl ?_
        refine gC ?_
        refine q_p2_1 S0 h2 (fun v12 h12 => ?_)
        obtain rfl := (show v12 = (V.int stop1.2) from h12)
        refine ⟨_, _, rfl, rfl, ?_⟩
        cases hm4
        exact ⟨G0, (Ext.refl _), S0, rfl⟩
      · skip
        have hm5 := (if_neg c1).symm.trans hq3
        refine gNext ?_
        cases hm5
        exact ⟨G0, (Ext.refl _), S0, rfl⟩
    · intro σ1 H1 hJ1
      obtain ⟨G1, e1, S1, rfl⟩ := hJ1
      have h13 := R.up e1 h1
      have h14 := R.up e1 h2
      have E1 := E0.trans e1
      refine gRet ?_
      refine gOp ?_
      refine gCB ?_
      refine gCons' ?_
      refine gOp ?_
      refine gV rfl ?_
      refine gC ?_
      refine ⟨_, _, rfl, rfl, ?_⟩
      refine gNil' ?_
      refine .inr ⟨_, rfl, ?_⟩
      refine gCB ?_
      refine gCons' ?_
      refine gOp ?_
      refine gV rfl ?_
      refine gC ?_
      refine ⟨_, _, rfl, rfl, ?_⟩
      refine gNil' ?_
      refine .inr ⟨_, rfl, ?_⟩
      refine ⟨_, _, rfl, rfl, ?_⟩
      cases hm3
      exact q G1 H1 E1 S1
end
end Mr

set_option Elab.async false
set_option linter.all false
set_option maxRecDepth 100000
set_option maxHeartbeats 4000000
set_option synthInstance.maxSize 4000
set_option synthInstance.maxHeartbeats 400000
namespace Mr
open PySem PySem.Spec PyProof.Rows L2 GFr
section
variable {P : Program} {w : World} {K : PySem.W.Frag} {mg : Str → Option Value} {base : Heap}
theorem sc_law_winding : FnScope ["_law_rings_here", "_law_x", "_law_y", "_law_total", "_law_ring_here", "_law_k", "_law_turn_here", "_law_others"] ["_law_rings_here", "_law_x", "_law_y"] (defScope s_law_winding) := ⟨rfl, rfl, rfl, by decide +kernel, rfl, by decide +kernel, by decide +kernel⟩
theorem ok_law_winding (T : Tx K mg) : FnOk P w K mg base CX0 2 (He.fAd K ("_law_winding", none)) T.fd_law_winding ["_law_rings_here", "_law_x", "_law_y"] (sp_law_winding K) := by
  have G_law_turn := ok_law_turn (P := P) (w := w) (base := base) T
  refine T.F_law_winding.ok sc_law_winding (fun vs H Q E h => ?_) (fun cdv A outer s H0 vs Q E hr h => ?_)
  · obtain ⟨G, O, v1, rings_here1, x1, y1, rfl, _⟩ := h
    rfl
  · obtain ⟨G0, O, v1, rings_here1, x1, y1, rfl, S0, h1, res, hm, q⟩ := h
    refine ⟨_, PSs.nox (pss_cons (ps_set (i := 3) sc_law_winding.nd rfl (.inl rfl) pe_int)
      (pss_cons (ps_cut (ps_for PassesOwn.never rfl (pi_list (pv 0)) (pg_name (i := 4) sc_law_winding.nd rfl (.inl rfl))
      (pss_one (ps_cut (ps_for PassesOwn.never rfl (pi_range2 (by rfl) T.z_range (pa_cons pe_int (pa_cons (pe_op op_sub (pe_callB (r := rLenM K) call_lenM (by rfl) T.z_len boot_len (pa_cons (pv 4) pa_nil)) pe_int) pa_nil))) (pg_name (i := 5) sc_law_winding.nd rfl (.inl rfl))
      (pss_cons (ps_set (i := 6) sc_law_winding.nd rfl (.inl rfl) (pe_call G_law_turn (hr.mono (by decide)) (by rfl) T.g_law_turn T.F_law_turn.kp T.b_law_turn .nil pass0 (pa_cons (pe_ix ix_list (pv 4) pe_int (fun _ _ => rfl)) (pa_cons (pe_ix ix_list (pv 4) (pv 5) (fun _ _ => rfl)) (pa_cons (pv 1) (pa_cons (pv 2) pa_nil))))))
      (pss_cons (ps_set (i := 7) sc_law_winding.nd rfl (.inl rfl) (pe_lst (pa_cons (pe_call G_law_turn (hr.mono (by decide)) (by rfl) T.g_law_turn T.F_law_turn.kp T.b_law_turn .nil pass0 (pa_cons (pe_ix ix_list (pv 4) (pv 5) (fun _ _ => rfl)) (pa_cons (pe_ix ix_list (pv 4) (pe_op op_add (pv 5) pe_int) (fun _ _ => rfl)) (pa_cons (pv 1) (pa_cons (pv 2) pa_nil))))) (pa_cons (pe_call G_law_turn (hr.mono (by decide)) (by rfl) T.g_law_turn T.F_law_turn.kp T.b_law_turn .nil pass0 (pa_cons (pe_ix ix_list (pv 4) (pe_op op_add (pv 5) pe_int) (fun _ _ => rfl)) (pa_cons (pe_ix ix_list (pv 4) pe_int (fun _ _ => rfl)) (pa_cons (pv 1) (pa_cons (pv 2) pa_nil))))) pa_nil))))
      (pss_one (ps_cut (ps_if (pt_cmpR (op_eqD hr.units) (pv 7) (pe_lst (pa_cons (pv 6) (pa_cons (pv 6) pa_nil))) (nomark _)) (pss_one (ps_aug (i := 3) sc_law_winding.nd rfl (.inl rfl) (pv 6) ip_add)) pss_nil))))))))))
      (pss_one (ps_ret (pv 3))))), ?_⟩
    have E0 := Ext.refl G0
    have hm0 : (Option.bind (folM (m_law_winding_b1 x1 y1) rings_here1 (0 : Int)) fun total1 =>
  some total1) = some res := hm
    refine gS_AsgN ?_
    refine gC ?_
    obtain ⟨total1, hl1, hm1⟩ := bindS hm0
    refine gS_CS (fun (σ : L2.St) (H : Hp) => ∃ (G : Hp) (y2 : Option V) (y3 : Option V) (y4 : Option V) (y5 : Option V), Ext G0 G ∧ Sub G (O) H ∧ σ = [some v1, some (V.int x1), some (V.int y1), some (V.int total1), y2, y3, y4, y5]) ?_ ?_
    · skip
      refine gFor ?_
      refine gIL ?_
      refine gV rfl ?_
      refine lp_L (r := (rM (rP2 K rInt rInt))) S0 (rM_L (K := K) h1) (fol_for Empty hl1) (fun (s : Int) (σ : L2.St) (H : Hp) => ∃ (G : Hp) (y2 : Option V) (y3 : Option V) (y4 : Option V) (y5 : Option V), Ext G0 G ∧ Sub G (O) H ∧ σ = [some v1, some (V.int x1), some (V.int y1), some (V.int s), y2, y3, y4, y5]) ⟨G0, _, _, _, _, (Ext.refl _), S0, rfl⟩ ?_ ?_ ?_
      · intro s σ H hI
        obtain ⟨G, k1, k2, k3, k4, ie, iS, _⟩ := hI
        exact ie.trans iS.ext
      · intro i1 x2 total2 b1 hb1 hr1 v2 σ1 H1 hI1 h2
        obtain ⟨s2, hb2, hb3⟩ := goF_some hb1
        subst hb3
        obtain ⟨G1, y6, y7, y8, y9, e1, S1, rfl⟩ := hI1
        have h3 := R.up e1 h1
        have h4 := R.up e1 (rM_L (K := K) h1)
        have E1 := E0.trans e1
        have h5 := R.up e1 h2
        have hm2 : (Option.bind (rng2M (1 : Int) ((x2.length : Int) - (1 : Int))) fun xs1 =>   Option.bind (folM (m_law_winding_b2 x1 y1 x2) xs1 total2) fun total3 =>   some total3) = some s2 := hb2
        obtain ⟨xs1, hq1, hm3⟩ := bindS hm2
        obtain ⟨total3, hl2, hm4⟩ := bindS hm3
        refine gCS (fun (σ : L2.St) (H : Hp) => ∃ (G : Hp) (y10 : Option V) (y11 : Option V) (y12 : Option V), Ext G1 G ∧ Sub G (O) H ∧ σ = [some v1, some (V.int x1), some (V.int y1), some (V.int total3), some v2, y10, y11, y12]) ?_ ?_
        · skip
          refine gFor ?_
          refine gIR2 ?_
          refine gCons' ?_
          refine gC ?_
          refine gCons' ?_
          refine gOp ?_
          refine gCB ?_
          refine gCons' ?_
          refine gV rfl ?_
          refine gNil' ?_
          refine q_lenL (y := V.non) S1 (rM_L (K := K) h5) ?_
          refine gC ?_
          refine ⟨_, _, rfl, rfl, ?_⟩
          refine gNil' ?_
          refine lp_R2 hq1 (fol_for Empty hl2) (fun (s : Int) (σ : L2.St) (H : Hp) => ∃ (G : Hp) (y10 : Option V) (y11 : Option V) (y12 : Option V), Ext G1 G ∧ Sub G (O) H ∧ σ = [some v1, some (V.int x1), some (V.int y1), some (V.int s), some v2, y10, y11, y12]) ⟨G1, _, _, _, (Ext.refl _), S1, rfl⟩ ?_ ?_
          · intro i2 x3 total4 b2 hb4 hr2 σ2 H2 hI2
            obtain ⟨s4, hb5, hb6⟩ := goF_some hb4
            subst hb6
            obtain ⟨G2, y13, y14, y15, e2, S2, rfl⟩ := hI2
            have h7 := R.up e2 h3
            have h8 := R.up e2 h5
            have h9 := R.up e2 h4
            have E2 := E1.trans e2
            have hm5 : (Option.bind (getM x2 (0 : Int)) fun x4 =>   Option.bind (getM x2 x3) fun x5 =>   Option.bind (m_law_turn x4 x5 x1 y1) fun r1 =>   Option.bind (getM x2 x3) fun x6 =>   Option.bind (getM x2 (x3 + (1 : Int))) fun x7 =>   Option.bind (m_law_turn x6 x7 x1 y1) fun r2 =>   Option.bind (getM x2 (x3 + (1 : Int))) fun x8 =>   Option.bind (getM x2 (0 : Int)) fun x9 =>   Option.bind (m_law_turn x8 x9 x1 y1) fun r3 =>   Option.bind (if (decide (([r2, r3] : List Int) = ([r1, r1] : List Int))) then (some (total4 + r1))   else (some total4)) fun total5 =>   some total5) = some s4 := hb5
            refine gS_AsgN ?_
            refine gCall ?_
            refine gCons' ?_
            refine gOp ?_
            refine gV rfl ?_
            refine gC ?_
            obtain ⟨x4, hq2, hm6⟩ := bindS hm5
            refine q_ixL S2 (rM_L (K := K) h8) hq2 (fun v4 h10 => ?_)
            refine gCons' ?_
            refine gOp ?_
            refine gV rfl ?_
            refine gV rfl ?_
            obtain ⟨x5, hq3, hm7⟩ := bindS hm6
            refine q_ixL S2 (rM_L (K := K) h8) hq3 (fun v5 h11 => ?_)
            refine gCons' ?_
            refine gV rfl ?_
            refine gCons' ?_
            refine gV rfl ?_
            refine gNil' ?_
            obtain ⟨r1, hq4, hm8⟩ := bindS hm7
            refine ⟨G2, (O), v4, x4, v5, x5, x1, y1, rfl, S2, h10, h11, r1, hq4, fun G3 H3 e3 S3 => ?_⟩
            have h12 := R.up e3 h7
            have h13 := R.up e3 h8
            have h14 := R.up e3 h9
            have E3 := E2.trans e3
            refine gS_AsgN ?_
            refine gLst ?_
            refine gCons' ?_
            refine gCall ?_
            refine gCons' ?_
            refine gOp ?_
            refine gV rfl ?_
            refine gV rfl ?_
            obtain ⟨x6, hq5, hm9⟩ := bindS hm8
            refine q_ixL S3 (rM_L (K := K) h13) hq5 (fun v6 h15 => ?_)
            refine gCons' ?_
            refine gOp ?_
            refine gV rfl ?_
            refine gOp ?_
            refine gV rfl ?_
            refine gC ?_
            refine ⟨_, _, rfl, rfl, ?_⟩
            obtain ⟨x7, hq6, hm10⟩ := bindS hm9
            refine q_ixL S3 (rM_L (K := K) h13) hq6 (fun v7 h16 => ?_)
            refine gCons' ?_
            refine gV rfl ?_
            refine gCons' ?_
            refine gV rfl ?_
            refine gNil' ?_
            obtain ⟨r2, hq7, hm11⟩ := bindS hm10
            refine ⟨G3, (O), v6, x6, v7, x7, x1, y1, rfl, S3, h15, h16, r2, hq7, fun G4 H4 e4 S4 => ?_⟩
            have h17 := R.up e4 h12
            have h18 := R.up e4 h13
            have h19 := R.up e4 h14
            have E4 := E3.trans e4
            refine gCons' ?_
            refine gCall ?_
            refine gCons' ?_
            refine gOp ?_
            refine gV rfl ?_
            refine gOp ?_
            refine gV rfl ?_
            refine gC ?_
            refine ⟨_, _, rfl, rfl, ?_⟩
            obtain ⟨x8, hq8, hm12⟩ := bindS hm11
            refine q_ixL S4 (rM_L (K := K) h18) hq8 (fun v8 h20 => ?_)
            refine gCons' ?_
            refine gOp ?_
            refine gV rfl ?_
            refine gC ?_
            obtain ⟨x9, hq9, hm13⟩ := bindS hm12
            refine q_ixL S4 (rM_L (K := K) h18) hq9 (fun v9 h21 => ?_)
            refine gCons' ?_
            refine gV rfl ?_
            refine gCons' ?_
            refine gV rfl ?_
            refine gNil' ?_
            obtain ⟨r3, hq10, hm14⟩ := bindS hm13
            refine ⟨G4, (O), v8, x8, v9, x9, x1, y1, rfl, S4, h20, h21, r3, hq10, fun G5 H5 e5 S5 => ?_⟩
            have h22 := R.up e5 h17
            have h23 := R.up e5 h18
            have h24 := R.up e5 h19
            have E5 := E4.trans e5
            refine gNil' ?_
            have h25 : Al rInt G5 [(V.int r2), (V.int r3)] [r2, r3] := ⟨rfl, rfl, True.intro⟩
            refine q_lst S5 h25 (by show 2 ≤ 100000; decide) (fun a1 H6 w1 S6 h26 => ?_)
            obtain ⟨total5, hq11, hm15⟩ := bindS hm14
            refine gCS (fun (σ : L2.St) (H : Hp) => ∃ (G : Hp), Ext G5 G ∧ Sub G ((a1, HO.lst w1) :: O) H ∧ σ = [some v1, some (V.int x1), some (V.int y1), some (V.int total5), some v2, some (V.int x3), some (V.int r1), some (V.ref a1)]) ?_ ?_
            · skip
              refine gIfS ?_
              refine gTest ?_
              refine gOp ?_
              refine gV rfl ?_
              refine gLst ?_
              refine gCons' ?_
              refine gV rfl ?_
              refine gCons' ?_
              refine gV rfl ?_
              refine gNil' ?_
              have h31 : Al rInt G5 [(V.int r1), (V.int r1)] [r1, r1] := ⟨rfl, rfl, True.intro⟩
              refine q_lst S6 h31 (by show 2 ≤ 100000; decide) (fun a3 H8 w3 S10 h32 => ?_)
              have S11 : Sub G5 ((a1, HO.lst w1) :: (a3, HO.lst w3) :: O) H8 := S10.front 1 rfl rfl
              have h33 := rM_own S11 h26
              have S12 : Sub G5 ((a3, HO.lst w3) :: (a1, HO.lst w1) :: O) H8 := S11.front 1 rfl rfl
              have h34 := rM_own S12 h32
              refine q_eqD (dM (dInt (K := K))) (by show 2 ≤ 64; decide) h33 h34 ((okM okI) _) ((okM okI) _) ?_
              refine ⟨(decide (([r2, r3] : List Int) = ([r1, r1] : List Int))), rfl, ?_⟩
              refine ite2 (fun c1 => ?_) (fun c1 => ?_)
              · skip
                have hm16 := (if_pos c1).symm.trans hq11
                refine gAug rfl ?_
                refine gV rfl ?_
                refine ⟨_, _, rfl, rfl, ?_⟩
                have S13 := S12.tail
                cases hm16
                exact ⟨G5, (Ext.refl _), S13, rfl⟩
              · skip
                have hm17 := (if_neg c1).symm.trans hq11
                refine gNext ?_
                have S14 := S12.tail
                cases hm17
                exact ⟨G5, (Ext.refl _), S14, rfl⟩
            · intro σ3 H9 hJ1
              obtain ⟨G6, e6, S15, rfl⟩ := hJ1
              have h35 := R.up e6 h22
              have h36 := R.up e6 h23
              have h37 := Al.up e6 h26
              have h38 := R.up e6 h24
              have E6 := E5.trans e6
              have S16 := S15.tail
              cases hm15
              exact ⟨_, ⟨G6, _, _, _, ((((e2.trans e3).trans e4).trans e5).trans e6), S16, rfl⟩, hr2⟩
          · intro s σ H h1 h2
            cases h1
            obtain ⟨G, k5, k6, k7, ie, irest⟩ := h2
            exact ⟨G, k5, k6, k7, (ie), irest⟩
        · intro σ4 H10 hJ2
          obtain ⟨G7, y16, y17, y18, e7, S17, rfl⟩ := hJ2
          have h39 := R.up e7 h3
          have h40 := R.up e7 h5
          have h41 := R.up e7 h4
          have E7 := E1.trans e7
          cases hm4
          exact ⟨_, ⟨G7, _, _, _, _, (e1.trans e7), S17, rfl⟩, hr1⟩
      · intro s σ H h1 h2
        cases h1
        obtain ⟨G, k1, k2, k3, k4, ie, irest⟩ := h2
        exact ⟨G, k1, k2, k3, k4, (ie), irest⟩
    · intro σ5 H11 hJ3
      obtain ⟨G8, y19, y20, y21, y22, e8, S18, rfl⟩ := hJ3
      have h42 := R.up e8 h1
      have E8 := E0.trans e8
      refine gRet ?_
      refine gV rfl ?_
      cases hm1
      exact q G8 H11 E8 S18
end
end Mr

set_option Elab.async false
set_option linter.all false
set_option maxRecDepth 100000
set_option maxHeartbeats 4000000
set_option synthInstance.maxSize 4000
set_option synthInstance.maxHeartbeats 400000
namespace Mr
open PySem PySem.Spec PyProof.Rows L2 GFr
section
variable {P : Program} {w : World} {K : PySem.W.Frag} {mg : Str → Option Value} {base : Heap}
theorem sc_law_ink : FnScope ["_law_rings_here", "_law_found", "_law_y", "_law_x"] ["_law_rings_here"] (defScope s_law_ink) := ⟨rfl, rfl, rfl, by decide +kernel, rfl, by decide +kernel, by decide +kernel⟩
theorem ok_law_ink (T : Tx K mg) : FnOk P w K mg base CX0 3 (He.fAd K ("_law_ink", none)) T.fd_law_ink ["_law_rings_here"] (sp_law_ink K) := by
  have G_law_winding := ok_law_winding (P := P) (w := w) (base := base) T
  refine T.F_law_ink.ok sc_law_ink (fun vs H Q E h => ?_) (fun cdv A outer s H0 vs Q E hr h => ?_)
  · obtain ⟨G, O, v1, rings_here1, rfl, _⟩ := h
    rfl
  · obtain ⟨G0, O, v1, rings_here1, rfl, S0, h1, res, hm, q⟩ := h
    refine ⟨_, PSs.nox (pss_cons (ps_set (i := 1) sc_law_ink.nd rfl (.inl rfl) (pe_lst pa_nil))
      (pss_cons (ps_cut (ps_for PassesOwn.never rfl (pi_range1 (by rfl) T.z_range (pa_cons pe_int pa_nil)) (pg_name (i := 2) sc_law_ink.nd rfl (.inr rfl))
      (pss_one (ps_expr (pe_bm PySem.F.plainAttrs_list PySem.F.slot_list_append PySem.F.type_list_append mt_append (pv 1) (pa_cons (pe_m1 PySem.F.slot_str_join PySem.F.type_str_join (mt_joinI (K := K) rfl) (pe_strI (b := ([] : Ink)) (by decide +kernel)) (pe_lc (own := [("_law_x", 3)]) (g := gName 3) (by rfl) sc_law_ink.nd (pi_range1 (by rfl) T.z_range (pa_cons pe_int pa_nil)) (blkOk_by (own := [("_law_x", 3)]) (N := ["_law_rings_here", "_law_found", "_law_y", "_law_x"]) (sc := defScope s_law_ink) (by decide +kernel)) (fun _ _ _ _ _ => (pg_name (i := 3) sc_law_ink.nd rfl (.inl rfl))) (fun _ _ _ _ _ => pts_nil) (fun _ _ _ _ _ => (pe_cut (pe_ifExp (pt_cmpR op_neI (pe_call G_law_winding (hr.mono (by decide)) (by rfl) T.g_law_winding T.F_law_winding.kp T.b_law_winding .nil pass0 (pa_cons (pv 0) (pa_cons (pv 3) (pa_cons (pv 2) pa_nil)))) pe_int (nomark _)) (pe_strI (b := ([true] : Ink)) (by decide +kernel)) (pe_strI (b := ([false] : Ink)) (by decide +kernel))))))) pa_nil))))))
      (pss_one (ps_ret (pe_callTy (r := rTupOf K) call_tupOf (by rfl) T.z_tuple boot_tuple (pa_cons (pv 1) pa_nil)))))), ?_⟩
    have E0 := Ext.refl G0
    have hm0 : (Option.bind (rngM (4 : Int)) fun xs1 =>
  Option.bind (folM (m_law_ink_b1 rings_here1) xs1 ([] : List Ink)) fun found1 =>
  some found1) = some res := hm
    refine gS_AsgN ?_
    refine gLst ?_
    refine gNil' ?_
    have h2 : Al (rEn e_Ink) G0 [] [] := True.intro
    refine q_lst S0 h2 (by show 0 ≤ 100000; decide) (fun a1 H1 w1 S1 h3 => ?_)
    obtain ⟨xs1, hq1, hm1⟩ := bindS hm0
    obtain ⟨found1, hl1, hm2⟩ := bindS hm1
    refine gS_CS (fun (σ : L2.St) (H : Hp) => ∃ (G : Hp) (w2 : List V) (y1 : Option V) (y2 : Option V), Ext G0 G ∧ Sub G ((a1, HO.lst w2) :: O) H ∧ σ = [some v1, some (V.ref a1), y1, y2] ∧ Al (rEn e_Ink) G w2 found1) ?_ ?_
    · skip
      refine gFor ?_
      refine gIR ?_
      refine gCons' ?_
      refine gC ?_
      refine gNil' ?_
      refine lp_R hq1 (fol_for Empty hl1) (fun (s : (List Ink)) (σ : L2.St) (H : Hp) => ∃ (G : Hp) (w2 : List V) (y1 : Option V) (y2 : Option V), Ext G0 G ∧ Sub G ((a1, HO.lst w2) :: O) H ∧ σ = [some v1, some (V.ref a1), y1, y2] ∧ Al (rEn e_Ink) G w2 s) ⟨G0, w1, _, _, (Ext.refl _), S1, rfl, h3⟩ ?_ ?_
      · intro i1 x1 found2 b1 hb1 hr1 σ1 H2 hI1
        obtain ⟨s2, hb2, hb3⟩ := goF_some hb1
        subst hb3
        obtain ⟨G1, w3, y3, y4, e1, S2, rfl, h5⟩ := hI1
        have h6 := R.up e1 h1
        have E1 := E0.trans e1
        have hm3 : (Option.bind (rngM (4 : Int)) fun xs2 =>   Option.bind (folM (m_law_ink_c2 rings_here1 x1) xs2 ([] : (List Ink))) fun acc1 =>   Option.bind (joinI acc1) fun k5 =>   Option.bind (appM found2 k5) fun found3 =>   some found3) = some s2 := hb2
        refine gDrop ?_
        refine gBM ?_
        refine gV rfl ?_
        refine ⟨.inl ⟨rfl, _, .inl (.inl S2.head)⟩, ?_⟩
        refine gCons' ?_
        refine gM1 ?_
        refine gC ?_
        refine ⟨⟨_, rfl⟩, ?_⟩
        refine gLc ?_
        refine gIR ?_
        refine gCons' ?_
        refine gC ?_
        refine gNil' ?_
        obtain ⟨xs2, hq2, hm4⟩ := bindS hm3
        obtain ⟨acc1, hq6, hm10⟩ := bindS hm4
        refine lc_R hq2 hq6 (fun (D : Addr) (s : (List Ink)) (H : Hp) => ∃ (G : Hp) (w4 : List V), Ext G1 G ∧ Sub G ((D, HO.lst w4) :: (a1, HO.lst w3) :: O) H ∧ Al (rEn e_Ink) G w4 s) ?_ ?_ ?_
        · intro D1 nD1
          exact ⟨G1, [], Ext.refl _, S2.newOwn nD1, True.intro⟩
        · intro D2 i2 x3 acc2 s4 hb4 hr2 H6 hI2
          obtain ⟨G5, w5, e5, S6, h15⟩ := hI2
          have h16 := R.up e5 h6
          have h17 := Al.up e5 h5
          have E5 := E1.trans e5
          refine ⟨rfl, ?_⟩
          have hm11 : (Option.bind (Option.bind (m_law_winding rings_here1 x3 x1) fun r3 =>   if (!decide (r3 = (0 : Int))) then (some ([true] : Ink)) else (some ([false] : Ink))) fun x4 =>   Option.bind (appM acc2 x4) fun acc3 =>   some acc3) = some s4 := hb4
          refine gYes ?_
          refine iteT ?_
          obtain ⟨x4, hq8, hm13⟩ := bindS hm11
          refine gCE (fun (v : V) (H : Hp) => ∃ (G : Hp), Ext G5 G ∧ Sub G ((D2, HO.lst w5) :: (a1, HO.lst w3) :: O) H ∧ v = (V.str (e_Ink x4))) ?_ ?_
          · skip
            refine gIf ?_
            refine gTest ?_
            refine gOp ?_
            refine gCall ?_
            refine gCons' ?_
            refine gV rfl ?_
            refine gCons' ?_
            refine gV rfl ?_
            refine gCons' ?_
            refine gV rfl ?_
            refine gNil' ?_
            obtain ⟨r4, hq9, hm14⟩ := bindS hq8
            refine ⟨G5, ((D2, HO.lst w5) :: (a1, HO.lst w3) :: O), v1, rings_here1, x3, x1, rfl, S6, h16, r4, hq9, fun G7 H8 e7 S8 => ?_⟩
            have h21 := R.up e7 h16
            have h22 := Al.up e7 h17
            have h23 := Al.up e7 h15
            have E7 := E5.trans e7
            refine gC ?_
            refine ⟨_, _, rfl, rfl, ?_⟩
            refine ⟨(!decide (r4 = (0 : Int))), rfl, ?_⟩
            refine ite2 (fun c2 => ?_) (fun c2 => ?_)
            · skip
              have hm15 := (if_pos c2).symm.trans hm14
              refine gC ?_
              cases hm15
              exact ⟨G7, e7, S8, rfl⟩
            · skip
              have hm16 := (if_neg c2).symm.trans hm14
              refine gC ?_
              cases hm16
              exact ⟨G7, e7, S8, rfl⟩
          · intro v5 H9 hJ
            obtain ⟨G8, e8, S9, rfl⟩ := hJ
            have h25 := R.up e8 h16
            have h26 := Al.up e8 h17
            have h27 := Al.up e8 h15
            have E8 := E5.trans e8
            obtain ⟨acc3, hq10, hm17⟩ := bindS hm13
            refine q_lcEl S9 h27 (show R.rel (rEn e_Ink) G8 (V.str (e_Ink x4)) x4 from rfl) hq10 (fun H10 w6 S10 h28 => ?_)
            cases hm17
            exact ⟨_, ⟨G8, w6, (e5.trans e8), S10, h28⟩, hr2⟩
        · intro D3 H11 hI3
          obtain ⟨G9, w7, e9, S11, h29⟩ := hI3
          have h30 := R.up e9 h6
          have h31 := Al.up e9 h5
          have E9 := E1.trans e9
          obtain ⟨G10, e10, S12, h32⟩ := frz_M S11 h29
          have h33 := R.up e10 h30
          have h34 := Al.up e10 h31
          have E10 := E9.trans e10
          obtain ⟨k5, hq11, hm18⟩ := bindS hm10
          refine q_joinI S12 h32 hq11 ?_
          refine gNil' ?_
          obtain ⟨found3, hq12, hm19⟩ := bindS hm18
          refine q_app S12 h34 (show R.rel (rEn e_Ink) G10 (V.str (e_Ink k5)) k5 from rfl) hq12 (fun H12 w8 S13 h35 => ?_)
          cases hm19
          exact ⟨_, ⟨G10, w8, _, _, ((e1.trans e9).trans e10), S13, rfl, h35⟩, hr1⟩
      · intro s σ H h1 h2
        cases h1
        obtain ⟨G, k1, k2, k3, ie, irest⟩ := h2
        exact ⟨G, k1, k2, k3, (ie), irest⟩
    · intro σ2 H13 hJ1
      obtain ⟨G11, w9, y5, y6, e11, S14, rfl, h36⟩ := hJ1
      have h37 := R.up e11 h1
      have E11 := E0.trans e11
      refine gRet ?_
      refine gCB ?_
      refine gCons' ?_
      refine gV rfl ?_
      refine gNil' ?_
      refine q_tupO S14 h36 (fun v6 G12 H14 e12 S15 h38 => ?_)
      have h39 := R.up e12 h37
      have h40 := Al.up e12 h36
      have E12 := E11.trans e12
      have S16 := S15.tail
      cases hm2
      exact q v6 G12 H14 E12 S16 h38
end
end Mr

set_option Elab.async false
set_option linter.all false
set_option maxRecDepth 100000
set_option maxHeartbeats 4000000
set_option synthInstance.maxSize 4000
set_option synthInstance.maxHeartbeats 400000
namespace Mr
open PySem PySem.Spec PyProof.Rows L2 GFr
section
variable {P : Program} {w : World} {K : PySem.W.Frag} {mg : Str → Option Value} {base : Heap}
theorem sc_law_blanks : FnScope ["_law_left", "_law_right", "_law_row", "_law_gap", "_law_step", "_law_cells", "_law_before", "_law_behind"] ["_law_left", "_law_right", "_law_row", "_law_gap"] (defScope s_law_blanks) := ⟨rfl, rfl, rfl, by decide +kernel, rfl, by decide +kernel, by decide +kernel⟩
theorem ok_law_blanks (T : Tx K mg) : FnOk P w K mg base CX0 1 (He.fAd K ("_law_blanks", none)) T.fd_law_blanks ["_law_left", "_law_right", "_law_row", "_law_gap"] (sp_law_blanks K) := by
  refine T.F_law_blanks.ok sc_law_blanks (fun vs H Q E h => ?_) (fun cdv A outer s H0 vs Q E hr h => ?_)
  · obtain ⟨G, O, v1, left1, v2, right1, row1, gap1, rfl, _⟩ := h
    rfl
  · obtain ⟨G0, O, v1, left1, v2, right1, row1, gap1, rfl, S0, h1, h2, res, hm, q⟩ := h
    refine ⟨_, PSs.nox (pss_cons (ps_set (i := 4) sc_law_blanks.nd rfl (.inl rfl) (pe_op op_add (pe_callB (r := rMax K) (cr_max rfl) (by rfl) T.z_max boot_max (pa_cons (pe_lc (own := [("_law_cells", 5)]) (g := gName 5) (by rfl) sc_law_blanks.nd (pi_tup (pv 0)) (blkOk_by (own := [("_law_cells", 5)]) (N := ["_law_left", "_law_right", "_law_row", "_law_gap", "_law_step", "_law_cells", "_law_before", "_law_behind"]) (sc := defScope s_law_blanks) (by decide +kernel)) (fun _ _ _ _ _ => (pg_name (i := 5) sc_law_blanks.nd rfl (.inl rfl))) (fun _ _ _ _ _ => pts_nil) (fun _ _ _ _ _ => (pe_m1 PySem.F.slot_str_rfind PySem.F.type_str_rfind mt_rfindI (pv 5) (pe_strI (b := ([true] : Ink)) (by decide +kernel))))) pa_nil)) pe_int))
      (pss_cons (ps_par (i := 6) (j := 7) (by rfl) sc_law_blanks.nd rfl rfl (by decide) rfl rfl (pa_cons (pe_slice sl_str (pe_ix ix_tup (pv 0) (pv 2) (fun _ _ => rfl)) po_none (po_some (pv 4))) (pa_cons (pe_ix ix_tup (pv 1) (pv 2) (fun _ _ => rfl)) pa_nil)) (by rfl))
      (pss_cons (ps_if (pt_cut (PW.pt (pw_or (pt_cmpR op_niS (pe_strI (b := ([true] : Ink)) (by decide +kernel)) (pv 6) (by with_unfolding_all rfl)) (pw_or1 (pt_cmpR op_niS (pe_strI (b := ([true] : Ink)) (by decide +kernel)) (pv 7) (by with_unfolding_all rfl)))))) (pss_one (ps_ret pe_non)) pss_nil)
      (pss_one (ps_ret (pe_op op_sub (pe_op op_add (pe_op op_add (pe_op op_sub (pe_callB (r := rLenS) call_lenS (by rfl) T.z_len boot_len (pa_cons (pv 6) pa_nil)) (pe_callB (r := rLenS) call_lenS (by rfl) T.z_len boot_len (pa_cons (pe_m1 PySem.F.slot_str_rstrip PySem.F.type_str_rstrip mt_rstI (pv 6) (pe_strI (b := ([false] : Ink)) (by decide +kernel))) pa_nil))) (pv 3)) (pe_callB (r := rLenS) call_lenS (by rfl) T.z_len boot_len (pa_cons (pv 7) pa_nil))) (pe_callB (r := rLenS) call_lenS (by rfl) T.z_len boot_len (pa_cons (pe_m1 PySem.F.slot_str_lstrip PySem.F.type_str_lstrip mt_lstI (pv 7) (pe_strI (b := ([false] : Ink)) (by decide +kernel))) pa_nil)))))))), ?_⟩
    have E0 := Ext.refl G0
    have hm0 : (Option.bind (folM (m_law_blanks_c1) left1 ([] : (List Int))) fun acc1 =>
  Option.bind (maxM acc1) fun x2 =>
  Option.bind (getM left1 row1) fun x3 =>
  Option.bind (cutI x3 none (some (x2 + (1 : Int)))) fun k4 =>
  Option.bind (getM right1 row1) fun x4 =>
  if ((!decide (true ∈ k4)) || (!decide (true ∈ x4))) then (some (none : (Option Int)))
  else (Option.bind (lenI k4) fun k5 =>
  Option.bind (rstM k4) fun k6 =>
  Option.bind (lenI k6) fun k7 =>
  Option.bind (lenI x4) fun k8 =>
  Option.bind (lstM x4) fun k9 =>
  Option.bind (lenI k9) fun k10 =>
  some (some ((((k5 - k7) + gap1) + k8) - k10)))) = some res := hm
    refine gS_AsgN ?_
    refine gOp ?_
    refine gCB ?_
    refine gCons' ?_
    refine gLc ?_
    refine gIT ?_
    refine gV rfl ?_
    obtain ⟨acc1, hq2, hm2⟩ := bindS hm0
    refine lc_T (r := (rEn e_Ink)) S0 h1 hq2 (fun (D : Addr) (s : (List Int)) (H : Hp) => ∃ (G : Hp) (w1 : List V), Ext G0 G ∧ Sub G ((D, HO.lst w1) :: O) H ∧ Al rInt G w1 s) ?_ ?_ ?_ ?_
    · intro D1 nD1
      exact ⟨G0, [], Ext.refl _, S0.newOwn nD1, True.intro⟩
    · intro D s H hI
      obtain ⟨G, k2, ie, iS, _⟩ := hI
      exact ie.trans iS.ext
    · intro D2 i1 x1 acc2 s2 hb1 hr1 v3 H1 hI1 h3
      obtain ⟨G1, w2, e1, S1, h4⟩ := hI1
      have h5 := R.up e1 h1
      have h6 := R.up e1 h2
      have E1 := E0.trans e1
      obtain rfl := (show v3 = (V.str (e_Ink x1)) from h3)
      refine ⟨rfl, ?_⟩
      have hm3 : (Option.bind (rfnM x1) fun k3 =>   Option.bind (appM acc2 k3) fun acc3 =>   some acc3) = some s2 := hb1
      refine gYes ?_
      refine iteT ?_
      refine gM1 ?_
      refine gV rfl ?_
      refine ⟨⟨_, rfl⟩, ?_⟩
      refine gC ?_
      obtain ⟨k3, hq3, hm4⟩ := bindS hm3
      refine q_rfindI hq3 ?_
      obtain ⟨acc3, hq4, hm5⟩ := bindS hm4
      refine q_lcEl S1 h4 (show R.rel rInt G1 (V.int k3) k3 from rfl) hq4 (fun H2 w3 S2 h7 => ?_)
      cases hm5
      exact ⟨_, ⟨G1, w3, e1, S2, h7⟩, hr1⟩
    · intro D3 H3 hI2
      obtain ⟨G2, w4, e2, S3, h8⟩ := hI2
      have h9 := R.up e2 h1
      have h10 := R.up e2 h2
      have E2 := E0.trans e2
      refine gNil' ?_
      obtain ⟨G3, e3, S4, h11⟩ := frz_M S3 h8
      have h12 := R.up e3 h9
      have h13 := R.up e3 h10
      have E3 := E2.trans e3
      obtain ⟨x2, hq5, hm6⟩ := bindS hm2
      refine q_max S4 (rM_L (K := K) h11) hq5 ?_
      refine gC ?_
      refine ⟨_, _, rfl, rfl, ?_⟩
      refine gS_Par ?_
      refine gCons' ?_
      refine gSl ?_
      refine gOp ?_
      refine gV rfl ?_
      refine gV rfl ?_
      obtain ⟨x3, hq6, hm7⟩ := bindS hm6
      refine q_ixT S4 h12 hq6 (fun v4 h14 => ?_)
      obtain rfl := (show v4 = (V.str (e_Ink x3)) from h14)
      refine gNoPart ?_
      refine gPart ?_
      refine gV rfl ?_
      refine ⟨_, rfl, ?_⟩
      obtain ⟨k4, hq7, hm8⟩ := bindS hm7
      refine q_slI hq7 ?_
      refine gCons' ?_
      refine gOp ?_
      refine gV rfl ?_
      refine gV rfl ?_
      obtain ⟨x4, hq8, hm9⟩ := bindS hm8
      refine q_ixT S4 h13 hq8 (fun v5 h15 => ?_)
      obtain rfl := (show v5 = (V.str (e_Ink x4)) from h15)
      refine gNil' ?_
      refine ⟨_, _, rfl, ?_⟩
      refine gS_IfS ?_
      refine gCT (fun (b : Bool) (H : Hp) => ∃ (G : Hp), Ext G3 G ∧ Sub G (O) H ∧ b = ((!decide (true ∈ k4)) || (!decide (true ∈ x4)))) ?_ ?_
      · skip
        refine gOr ?_
        refine gTest ?_
        refine gOp ?_
        refine gC ?_
        refine gV rfl ?_
        refine q_niI ?_
        refine ⟨(!decide (true ∈ k4)), rfl, ?_⟩
        refine ite2 (fun c1 => ?_) (fun c1 => ?_)
        · skip
          exact ⟨G3, (Ext.refl _), S4, (by rw [c1, Bool.true_or])⟩
        · skip
          refine gTest ?_
          refine gOp ?_
          refine gC ?_
          refine gV rfl ?_
          refine q_niI ?_
          refine ⟨(!decide (true ∈ x4)), rfl, ?_⟩
          exact ⟨G3, (Ext.refl _), S4, (by rw [ne_false c1, Bool.false_or])⟩
      · intro b1 H4 hJ
        obtain ⟨G4, e4, S5, rfl⟩ := hJ
        have h16 := R.up e4 h12
        have h17 := R.up e4 h13
        have E4 := E3.trans e4
        refine ite2 (fun c2 => ?_) (fun c2 => ?_)
        · skip
          have hm10 := (if_pos c2).symm.trans hm9
          refine gRet ?_
          refine gC ?_
          cases hm10
          exact q V.non G4 H4 E4 S5 (rO_none : R.rel (rO rInt) G4 V.non none)
        · skip
          have hm11 := (if_neg c2).symm.trans hm9
          refine gNext ?_
          refine gE ?_
          refine gRet ?_
          refine gOp ?_
          refine gOp ?_
          refine gOp ?_
          refine gOp ?_
          refine gCB ?_
          refine gCons' ?_
          refine gV rfl ?_
          refine gNil' ?_
          obtain ⟨k5, hq9, hm12⟩ := bindS hm11
          refine q_lenI hq9 ?_
          refine gCB ?_
          refine gCons' ?_
          refine gM1 ?_
          refine gV rfl ?_
          refine ⟨⟨_, rfl⟩, ?_⟩
          refine gC ?_
          obtain ⟨k6, hq10, hm13⟩ := bindS hm12
          refine q_rstI hq10 ?_
          refine gNil' ?_
          obtain ⟨k7, hq11, hm14⟩ := bindS hm13
          refine q_lenI hq11 ?_
          refine ⟨_, _, rfl, rfl, ?_⟩
          refine gV rfl ?_
          refine ⟨_, _, rfl, rfl, ?_⟩
          refine gCB ?_
          refine gCons' ?_
          refine gV rfl ?_
          refine gNil' ?_
          obtain ⟨k8, hq12, hm15⟩ := bindS hm14
          refine q_lenI hq12 ?_
          refine ⟨_, _, rfl, rfl, ?_⟩
          refine gCB ?_
          refine gCons' ?_
          refine gM1 ?_
          refine gV rfl ?_
          refine ⟨⟨_, rfl⟩, ?_⟩
          refine gC ?_
          obtain ⟨k9, hq13, hm16⟩ := bindS hm15
          refine q_lstI hq13 ?_
          refine gNil' ?_
          obtain ⟨k10, hq14, hm17⟩ := bindS hm16
          refine q_lenI hq14 ?_
          refine ⟨_, _, rfl, rfl, ?_⟩
          cases hm17
          exact q (V.int ((((k5 - k7) + gap1) + k8) - k10)) G4 H4 E4 S5 (rO_some (by intro z; cases z) (show R.rel rInt G4 (V.int ((((k5 - k7) + gap1) + k8) - k10)) ((((k5 - k7) + gap1) + k8) - k10) from rfl))
end
end Mr

set_option Elab.async false
set_option linter.all false
set_option maxRecDepth 100000
set_option maxHeartbeats 4000000
set_option synthInstance.maxSize 4000
set_option synthInstance.maxHeartbeats 400000
namespace Mr
open PySem PySem.Spec PyProof.Rows L2 GFr
section
variable {P : Program} {w : World} {K : PySem.W.Frag} {mg : Str → Option Value} {base : Heap}
theorem sc_law_ink_stands : FnScope ["_law_told", "_law_due", "_law_far", "_law_row", "_law_places", "_law_x", "_law_ends"] ["_law_told", "_law_due"] (defScope s_law_ink_stands) := ⟨rfl, rfl, rfl, by decide +kernel, rfl, by decide +kernel, by decide +kernel⟩
theorem ok_law_ink_stands (T : Tx K mg) : FnOk P w K mg base CX0 2 (He.fAd K ("_law_ink_stands", none)) T.fd_law_ink_stands ["_law_told", "_law_due"] (sp_law_ink_stands K) := by
  have G_law_number := ok_law_number (P := P) (w := w) (base := base) T
  have G_leftmost := ok_leftmost (P := P) (w := w) (base := base) T
  have G_rightmost := ok_rightmost (P := P) (w := w) (base := base) T
  have G_step_of := ok_step_of (P := P) (w := w) (base := base) T
  refine T.F_law_ink_stands.ok sc_law_ink_stands (fun vs H Q E h => ?_) (fun cdv A outer s H0 vs Q E hr h => ?_)
  · obtain ⟨G, O, v1, told1, v2, due1, rfl, _⟩ := h
    rfl
  · obtain ⟨G0, O, v1, told1, v2, due1, rfl, S0, h1, h2, res, hm, q⟩ := h
    refine ⟨_, PSs.nox (pss_cons (ps_if (pt_cut (PW.pt (pw_or (pt_not (pt_val (pe_callB (r := rIsi K) call_isi (by rfl) T.z_isinstance boot_isinstance (pa_cons (pv 0) (pa_cons (pe_bltn (v := .ty "tuple") (by rfl) T.z_tuple boot_tuple rfl) pa_nil))))) (pw_or (pt_cmpR (op_neD hr.units) (pv 0) (pv 1) (nomark _)) (pw_or1 (pt_not (pt_val (pe_call G_law_number (hr.mono (by decide)) (by rfl) T.g_law_number T.F_law_number.kp T.b_law_number .nil pass0 (pa_cons (pe_call G_step_of (hr.mono (by decide)) (by rfl) T.g_step_of T.F_step_of.kp T.b_step_of .nil pass0 (pa_cons (pv 0) pa_nil)) pa_nil))))))))) (pss_one (ps_ret pe_bl)) pss_nil)
      (pss_cons (ps_set (i := 2) sc_law_ink_stands.nd rfl (.inl rfl) (pe_lst (pa_cons pe_int pa_nil)))
      (pss_cons (ps_cut (ps_for PassesOwn.never rfl (pi_range1 (by rfl) T.z_range (pa_cons pe_int pa_nil)) (pg_name (i := 3) sc_law_ink_stands.nd rfl (.inr rfl))
      (pss_cons (ps_setLc (i := 4) (own := [("_law_x", 5)]) (g := gName 5) (by rfl) sc_law_ink_stands.nd rfl rfl (sw_true rfl rfl rfl (by decide +kernel)) (pi_range1 (by rfl) T.z_range (pa_cons pe_int pa_nil)) (blkOk_by (own := [("_law_x", 5)]) (N := ["_law_told", "_law_due", "_law_far", "_law_row", "_law_places", "_law_x", "_law_ends"]) (sc := defScope s_law_ink_stands) (by decide +kernel)) (fun _ _ _ _ _ => (pg_name (i := 5) sc_law_ink_stands.nd rfl (.inl rfl))) (fun _ _ _ _ _ => (pts_one (pt_cmpR (op_eqE e_Ink_inj) (pe_ix ix_str (pe_ix (ix_tupK (K := K) rfl) (pv 1) (pv 3) (fun _ _ => rfl)) (pv 5) (fun _ _ => rfl)) (pe_strI (b := ([true] : Ink)) (by decide +kernel)) (nomark _)))) (fun _ _ _ _ _ => (pv 5)))
      (pss_cons (ps_set (i := 6) sc_law_ink_stands.nd rfl (.inl rfl) (pe_lst (pa_cons (pe_call G_leftmost (hr.mono (by decide)) (by rfl) T.g_leftmost T.F_leftmost.kp T.b_leftmost .nil pass0 (pa_cons (pv 0) (pa_cons (pv 3) pa_nil))) (pa_cons (pe_call G_rightmost (hr.mono (by decide)) (by rfl) T.g_rightmost T.F_rightmost.kp T.b_rightmost .nil pass0 (pa_cons (pv 0) (pa_cons (pv 3) pa_nil))) pa_nil))))
      (pss_cons (ps_if (pt_cmpR (op_eqD hr.units) (pv 4) (pe_lst pa_nil) (nomark _)) (pss_one (ps_if (pt_cut (PW.pt (pw_or (pt_cmpR op_isNotNon (pe_ix ix_list (pv 6) pe_int (fun _ _ => rfl)) pe_non (nomark _)) (pw_or1 (pt_cmpR op_isNotNon (pe_ix ix_list (pv 6) pe_int (fun _ _ => rfl)) pe_non (nomark _)))))) (pss_one (ps_ret pe_bl)) pss_nil)) (pss_one (ps_if (pt_cut (PW.pt (pw_or (pt_cmpR (op_neD hr.units) (pv 6) (pe_lst (pa_cons (pe_ix ix_list (pv 4) pe_int (fun _ _ => rfl)) (pa_cons (pe_ix ix_list (pv 4) (pe_un un_neg pe_int) (fun _ _ => rfl)) pa_nil))) (nomark _)) (pw_or (pt_not (pt_val (pe_call G_law_number (hr.mono (by decide)) (by rfl) T.g_law_number T.F_law_number.kp T.b_law_number .nil pass0 (pa_cons (pe_ix ix_list (pv 6) pe_int (fun _ _ => rfl)) pa_nil)))) (pw_or1 (pt_not (pt_val (pe_call G_law_number (hr.mono (by decide)) (by rfl) T.g_law_number T.F_law_number.kp T.b_law_number .nil pass0 (pa_cons (pe_ix ix_list (pv 6) pe_int (fun _ _ => rfl)) pa_nil))))))))) (pss_one (ps_ret pe_bl)) pss_nil)))
      (pss_one (ps_set (i := 2) sc_law_ink_stands.nd rfl (.inl rfl) (pe_op op_cat (pv 2) (pe_lc (own := [("_law_x", 5)]) (g := gName 5) (by rfl) sc_law_ink_stands.nd (pi_list (pv 4)) (blkOk_by (own := [("_law_x", 5)]) (N := ["_law_told", "_law_due", "_law_far", "_law_row", "_law_places", "_law_x", "_law_ends"]) (sc := defScope s_law_ink_stands) (by decide +kernel)) (fun _ _ _ _ _ => (pg_name (i := 5) sc_law_ink_stands.nd rfl (.inl rfl))) (fun _ _ _ _ _ => pts_nil) (fun _ _ _ _ _ => (pe_op op_add (pv 5) pe_int)))))))))))
      (pss_one (ps_ret (pe_cmpR op_eqI (pe_call G_step_of (hr.mono (by decide)) (by rfl) T.g_step_of T.F_step_of.kp T.b_step_of .nil pass0 (pa_cons (pv 0) pa_nil)) (pe_callB (r := rMax K) (cr_max rfl) (by rfl) T.z_max boot_max (pa_cons (pv 2) pa_nil)) (nomark _))))))), ?_⟩
    have E0 := Ext.refl G0
    have hm0 : (Option.bind (if (!true) then some true else (if (!decide (told1 = due1)) then some true else (Option.bind (m_step_of told1) fun r3 =>
  Option.bind (m_law_number r3) fun r4 =>
  some (!r4)))) fun x1 =>
  if x1 then (some false)
  else (Option.bind (rngM (4 : Int)) fun xs1 =>
  Option.bind (forL (m_law_ink_stands_b1 told1 due1) xs1 ([(0 : Int)] : List Int)) fun res => match res with
  | Fl.rt r => some r
  | Fl.nx far1 => Option.bind (m_step_of told1) fun r19 =>
  Option.bind (maxM far1) fun x26 =>
  some (decide (r19 = x26)))) = some res := hm
    refine gS_IfS ?_
    obtain ⟨x1, hq5, hm5⟩ := bindS hm0
    refine gCT (fun (b : Bool) (H : Hp) => ∃ (G : Hp), Ext G0 G ∧ Sub G (O) H ∧ b = x1) ?_ ?_
    · skip
      refine gOr ?_
      refine gNot ?_
      refine gB ?_
      refine gCB ?_
      refine gCons' ?_
      refine gV rfl ?_
      refine gCons' ?_
      refine gC ?_
      refine gNil' ?_
      refine q_isi (ty_T (R.up S0.ext h1)) (by decide +kernel : kitB "tuple" "tuple" = some true) ?_
      refine ⟨true, rfl, ?_⟩
      refine ite2 (fun c1 => ?_) (fun c1 => ?_)
      · skip
        have hm6 := (if_pos c1).symm.trans hq5
        cases hm6
        exact ⟨G0, (Ext.refl _), S0, rfl⟩
      · skip
        have hm7 := (if_neg c1).symm.trans hq5
        refine gOr ?_
        refine gTest ?_
        refine gOp ?_
        refine gV rfl ?_
        refine gV rfl ?_
        refine q_neD (dT (dEn (K := K) e_Ink e_Ink_inj e_Ink_ok)) (by show 2 ≤ 64; decide) (R.up S0.ext h1) (R.up S0.ext h2) ((okT okEn) _) ((okT okEn) _) ?_
        refine ⟨(!decide (told1 = due1)), rfl, ?_⟩
        refine ite2 (fun c2 => ?_) (fun c2 => ?_)
        · skip
          have hm8 := (if_pos c2).symm.trans hm7
          cases hm8
          exact ⟨G0, (Ext.refl _), S0, rfl⟩
        · skip
          have hm9 := (if_neg c2).symm.trans hm7
          refine gNot ?_
          refine gB ?_
          refine gCall ?_
          refine gCons' ?_
          refine gCall ?_
          refine gCons' ?_
          refine gV rfl ?_
          refine gNil' ?_
          obtain ⟨r7, hq8, hm12⟩ := bindS hm9
          refine ⟨G0, (O), v1, told1, rfl, S0, h1, r7, hq8, fun G7 H7 e7 S7 => ?_⟩
          have h15 := R.up e7 h1
          have h16 := R.up e7 h2
          have E7 := E0.trans e7
          refine gNil' ?_
          obtain ⟨r8, hq9, hm13⟩ := bindS hm12
          refine ⟨G7, (O), r7, rfl, S7, r8, hq9, fun G8 H8 e8 S8 => ?_⟩
          have h17 := R.up e8 h15
          have h18 := R.up e8 h16
          have E8 := E7.trans e8
          refine ⟨r8, rfl, ?_⟩
          cases hm13
          exact ⟨G8, (e7.trans e8), S8, rfl⟩
    · intro b1 H9 hJ
      obtain ⟨G9, e9, S9, rfl⟩ := hJ
      have h19 := R.up e9 h1
      have h20 := R.up e9 h2
      have E9 := E0.trans e9
      refine ite2 (fun c3 => ?_) (fun c3 => ?_)
      · skip
        have hm14 := (if_pos c3).symm.trans hm5
        refine gRet ?_
        refine gC ?_
        cases hm14
        exact q G9 H9 E9 S9
      · skip
        have hm15 := (if_neg c3).symm.trans hm5
        refine gNext ?_
        refine gE ?_
        refine gS_AsgN ?_
        refine gLst ?_
        refine gCons' ?_
        refine gC ?_
        refine gNil' ?_
        have h21 : Al rInt G9 [(V.int (0 : Int))] [(0 : Int)] := ⟨rfl, True.intro⟩
        refine q_lst S9 h21 (by show 1 ≤ 100000; decide) (fun a1 H10 w1 S10 h22 => ?_)
        obtain ⟨G10, e10, S11, h23⟩ := frz_M S10 h22
        have h24 := R.up e10 h19
        have h25 := R.up e10 h20
        have E10 := E9.trans e10
        obtain ⟨xs1, hq10, hm16⟩ := bindS hm15
        obtain ⟨res1, hl1, hm17⟩ := bindS hm16
        refine gS_CS (fun (σ : L2.St) (H : Hp) => ∃ s : (List Int), res1 = Fl.nx s ∧ ∃ (G : Hp) (v3 : V) (y1 : Option V) (y2 : Option V) (y3 : Option V) (y4 : Option V), Ext G10 G ∧ Sub G (O) H ∧ σ = [some v1, some v2, some v3, y1, y2, y3, y4] ∧ R.rel (rM rInt) G v3 s) ?_ ?_
        · skip
          refine gFor ?_
          refine gIR ?_
          refine gCons' ?_
          refine gC ?_
          refine gNil' ?_
          refine lp_R hq10 hl1 (fun (s : (List Int)) (σ : L2.St) (H : Hp) => ∃ (G : Hp) (v3 : V) (y1 : Option V) (y2 : Option V) (y3 : Option V) (y4 : Option V), Ext G10 G ∧ Sub G (O) H ∧ σ = [some v1, some v2, some v3, y1, y2, y3, y4] ∧ R.rel (rM rInt) G v3 s) ⟨G10, (V.ref a1), _, _, _, _, (Ext.refl _), S11, rfl, h23⟩ ?_ ?_
          · intro i1 x2 far2 b2 hb1 hr1 σ1 H11 hI1
            obtain ⟨G11, v5, y5, y6, y7, y8, e11, S12, rfl, h27⟩ := hI1
            have h28 := R.up e11 h24
            have h29 := R.up e11 h25
            have E11 := E10.trans e11
            have hm18 : (Option.bind (rngM (4 : Int)) fun xs2 =>   Option.bind (folM (m_law_ink_stands_c2 due1 x2) xs2 ([] : (List Int))) fun acc1 =>   Option.bind (m_leftmost told1 x2) fun r9 =>   Option.bind (m_rightmost told1 x2) fun r10 =>   if (decide (acc1 = ([] : (List Int)))) then (Option.bind (Option.bind (getM ([r9, r10] : List (Option Int)) (0 : Int)) fun x6 =>   if (!x6.isNone) then some true else (Option.bind (getM ([r9, r10] : List (Option Int)) (1 : Int)) fun x7 =>   some (!x7.isNone))) fun x8 =>   if x8 then (some (Bf.rt false))   else (Option.bind (folM (m_law_ink_stands_c3) acc1 ([] : (List Int))) fun acc4 =>   Option.bind (catM far2 acc4) fun z1 =>   some (Bf.go z1)))   else (Option.bind (Option.bind (getM acc1 (0 : Int)) fun x12 =>   Option.bind (getM acc1 (-(1 : Int))) fun x13 =>   if (!decide (([r9, r10] : List (Option Int)) = ([(some x12), (some x13)] : List (Option Int)))) then some true else (Option.bind (getM ([r9, r10] : List (Option Int)) (0 : Int)) fun x15 =>   Option.bind (x15) fun j2 =>   Option.bind (m_law_number j2) fun r12 =>   if (!r12) then some true else (Option.bind (getM ([r9, r10] : List (Option Int)) (1 : Int)) fun x17 =>   Option.bind (x17) fun j4 =>   Option.bind (m_law_number j4) fun r14 =>   some (!r14)))) fun x18 =>   if x18 then (some (Bf.rt false))   else (Option.bind (folM (m_law_ink_stands_c4) acc1 ([] : (List Int))) fun acc7 =>   Option.bind (catM far2 acc7) fun z2 =>   some (Bf.go z2)))) = some b2 := hb1
            refine gS_AsgN ?_
            refine gLc ?_
            refine gIR ?_
            refine gCons' ?_
            refine gC ?_
            refine gNil' ?_
            obtain ⟨xs2, hq11, hm19⟩ := bindS hm18
            obtain ⟨acc1, hq14, hm22⟩ := bindS hm19
            refine lc_R hq11 hq14 (fun (D : Addr) (s : (List Int)) (H : Hp) => ∃ (G : Hp) (w2 : List V), Ext G11 G ∧ Sub G ((D, HO.lst w2) :: O) H ∧ Al rInt G w2 s) ?_ ?_ ?_
            · intro D1 nD1
              exact ⟨G11, [], Ext.refl _, S12.newOwn nD1, True.intro⟩
            · intro D2 i2 x4 acc2 s3 hb2 hr2 H12 hI2
              obtain ⟨G12, w3, e12, S13, h32⟩ := hI2
              have h33 := R.up e12 h28
              have h34 := R.up e12 h29
              have h35 := R.up e12 h27
              have E12 := E11.trans e12
              refine ⟨rfl, ?_⟩
              have hm23 : (Option.bind (getM due1 x2) fun x5 =>   Option.bind (getI x5 x4) fun k8 =>   if (decide (k8 = ([true] : Ink))) then (Option.bind (appM acc2 x4) fun acc3 =>   some acc3)   else (some acc2)) = some s3 := hb2
              refine gTest ?_
              refine gOp ?_
              refine gOp ?_
              refine gOp ?_
              refine gV rfl ?_
              refine gV rfl ?_
              obtain ⟨x5, hq15, hm24⟩ := bindS hm23
              refine q_ixT S13 h34 hq15 (fun v8 h36 => ?_)
              obtain rfl := (show v8 = (V.str (e_Ink x5)) from h36)
              refine gV rfl ?_
              obtain ⟨k8, hq16, hm25⟩ := bindS hm24
              refine q_ixI hq16 ?_
              refine gC ?_
              refine ⟨k8, ([true] : Ink), rfl, rfl, ?_⟩
              refine ⟨(decide (k8 = ([true] : Ink))), rfl, ?_⟩
              refine ite2 (fun c4 => ?_) (fun c4 => ?_)
              · skip
                have hm26 := (if_pos c4).symm.trans hm25
                refine gV rfl ?_
                obtain ⟨acc3, hq17, hm27⟩ := bindS hm26
                refine q_lcEl S13 h32 (show R.rel rInt G12 (V.int x4) x4 from rfl) hq17 (fun H13 w4 S14 h37 => ?_)
                cases hm27
                exact ⟨_, ⟨G12, w4, e12, S14, h37⟩, hr2⟩
              · skip
                have hm28 := (if_neg c4).symm.trans hm25
                cases hm28
                exact ⟨_, ⟨G12, w3, e12, S13, h32⟩, hr2⟩
            · intro D3 H14 hI3
              obtain ⟨G13, w5, e13, S15, h38⟩ := hI3
              have h39 := R.up e13 h28
              have h40 := R.up e13 h29
              have h41 := R.up e13 h27
              have E13 := E11.trans e13
              refine gS_AsgN ?_
              refine gLst ?_
              refine gCons' ?_
              refine gCall ?_
              refine gCons' ?_
              refine gV rfl ?_
              refine gCons' ?_
              refine gV rfl ?_
              refine gNil' ?_
              obtain ⟨r9, hq18, hm29⟩ := bindS hm22
              refine ⟨G13, ((D3, HO.lst w5) :: O), v1, told1, x2, rfl, S15, h39, r9, hq18, fun v9 G14 H15 e14 S16 h42 => ?_⟩
              have h43 := R.up e14 h39
              have h44 := R.up e14 h40
              have h45 := R.up e14 h41
              have h46 := Al.up e14 h38
              have E14 := E13.trans e14
              refine gCons' ?_
              refine gCall ?_
              refine gCons' ?_
              refine gV rfl ?_
              refine gCons' ?_
              refine gV rfl ?_
              refine gNil' ?_
              obtain ⟨r10, hq19, hm30⟩ := bindS hm29
              refine ⟨G14, ((D3, HO.lst w5) :: O), v1, told1, x2, rfl, S16, h43, r10, hq19, fun v10 G15 H16 e15 S17 h47 => ?_⟩
              have h48 := R.up e15 h43
              have h49 := R.up e15 h44
              have h50 := R.up e15 h45
              have h51 := Al.up e15 h46
              have h52 := R.up e15 h42
              have E15 := E14.trans e15
              refine gNil' ?_
              have h53 : Al (rO rInt) G15 [v9, v10] [r9, r10] := ⟨h52, h47, True.intro⟩
              refine q_lst S17 h53 (by show 2 ≤ 100000; decide) (fun a2 H17 w6 S18 h54 => ?_)
              obtain ⟨G16, e16, S19, h55⟩ := frz_M S18 h54
              have h56 := R.up e16 h48
              have h57 := R.up e16 h49
              have h58 := R.up e16 h50
              have h59 := Al.up e16 h51
              have E16 := E15.trans e16
              refine gS_IfS ?_
              refine gTest ?_
              refine gOp ?_
              refine gV rfl ?_
              refine gLst ?_
              refine gNil' ?_
              refine ⟨sz0, fun p1 np1 => ?_⟩
              have S20 : Sub G16 ((D3, HO.lst w5) :: O) (upd H17 p1 (.lst [])) := S19.junk np1
              have h60 := rM_own S20 h59
              refine q_eqD (dM (dInt (K := K))) (by show 2 ≤ 64; decide) h60 (⟨p1, [], rfl, upd_same, True.intro⟩ : R.rel (rM rInt) (upd H17 p1 (.lst [])) (V.ref p1) []) ((okM okI) _) ((okM okI) _) ?_
              refine ⟨(decide (acc1 = ([] : (List Int)))), rfl, ?_⟩
              refine ite2 (fun c5 => ?_) (fun c5 => ?_)
              · skip
                have hm31 := (if_pos c5).symm.trans hm30
                refine gIfS ?_
                obtain ⟨x8, hq22, hm34⟩ := bindS hm31
                refine gCT (fun (b : Bool) (H : Hp) => ∃ (G : Hp), Ext G16 G ∧ Sub G ((D3, HO.lst w5) :: O) H ∧ b = x8) ?_ ?_
                · skip
                  refine gOr ?_
                  refine gTest ?_
                  refine gOp ?_
                  refine gOp ?_
                  refine gV rfl ?_
                  refine gC ?_
                  obtain ⟨x9, hq23, hm35⟩ := bindS hq22
                  refine q_ixL S20 (rM_L (K := K) h55) hq23 (fun v13 h63 => ?_)
                  refine gC ?_
                  refine q_isNotNon h63 ?_
                  refine ⟨(!x9.isNone), rfl, ?_⟩
                  refine ite2 (fun c6 => ?_) (fun c6 => ?_)
                  · skip
                    have hm36 := (if_pos c6).symm.trans hm35
                    cases hm36
                    exact ⟨G16, (Ext.refl _), S20, rfl⟩
                  · skip
                    have hm37 := (if_neg c6).symm.trans hm35
                    refine gTest ?_
                    refine gOp ?_
                    refine gOp ?_
                    refine gV rfl ?_
                    refine gC ?_
                    obtain ⟨x10, hq24, hm38⟩ := bindS hm37
                    refine q_ixL S20 (rM_L (K := K) h55) hq24 (fun v14 h64 => ?_)
                    refine gC ?_
                    refine q_isNotNon h64 ?_
                    refine ⟨(!x10.isNone), rfl, ?_⟩
                    cases hm38
                    exact ⟨G16, (Ext.refl _), S20, rfl⟩
                · intro b3 H18 hJ
                  obtain ⟨G17, e17, S21, rfl⟩ := hJ
                  have h65 := R.up e17 h56
                  have h66 := R.up e17 h57
                  have h67 := R.up e17 h58
                  have h68 := Al.up e17 h59
                  have h69 := R.up e17 h55
                  have E17 := E16.trans e17
                  refine ite2 (fun c7 => ?_) (fun c7 => ?_)
                  · skip
                    have hm39 := (if_pos c7).symm.trans hm34
                    refine gRet ?_
                    refine gC ?_
                    have S22 := S21.tail
                    cases hm39
                    have hr3 := Option.some.inj (show some (Fl.rt _) = some res1 from hr1)
                    subst hr3
                    dsimp only at hm17
                    cases hm17
                    exact q G17 H18 E17 S22
                  · skip
                    have hm40 := (if_neg c7).symm.trans hm34
                    refine gNext ?_
                    refine gE ?_
                    refine gAsgN ?_
                    refine gOp ?_
                    refine gV rfl ?_
                    refine gLc ?_
                    refine gIL ?_
                    refine gV rfl ?_
                    obtain ⟨G18, e18, S23, h70⟩ := frz_M S21 h68
                    have h71 := R.up e18 h65
                    have h72 := R.up e18 h66
                    have h73 := R.up e18 h67
                    have h74 := R.up e18 h69
                    have E18 := E17.trans e18
                    obtain ⟨acc4, hq25, hm41⟩ := bindS hm40
                    refine lc_L (r := rInt) S23 (rM_L (K := K) h70) hq25 (fun (D : Addr) (s : (List Int)) (H : Hp) => ∃ (G : Hp) (w7 : List V), Ext G18 G ∧ Sub G ((D, HO.lst w7) :: O) H ∧ Al rInt G w7 s) ?_ ?_ ?_ ?_
                    · intro D4 nD2
                      exact ⟨G18, [], Ext.refl _, S23.newOwn nD2, True.intro⟩
                    · intro D s H hI
                      obtain ⟨G, k9, ie, iS, _⟩ := hI
                      exact ie.trans iS.ext
                    · intro D5 i3 x11 acc5 s5 hb3 hr4 v15 H19 hI4 h75
                      obtain ⟨G19, w8, e19, S24, h76⟩ := hI4
                      have h77 := R.up e19 h71
                      have h78 := R.up e19 h72
                      have h79 := R.up e19 h73
                      have h80 := R.up e19 h70
                      have h81 := R.up e19 h74
                      have h82 := R.up e19 (rM_L (K := K) h70)
                      have E19 := E18.trans e19
                      obtain rfl := (show v15 = (V.int x11) from h75)
                      refine ⟨rfl, ?_⟩
                      have hm42 : (Option.bind (appM acc5 (x11 + (1 : Int))) fun acc6 =>   some acc6) = some s5 := hb3
                      refine gYes ?_
                      refine iteT ?_
                      refine gOp ?_
                      refine gV rfl ?_
                      refine gC ?_
                      refine ⟨_, _, rfl, rfl, ?_⟩
                      obtain ⟨acc6, hq26, hm43⟩ := bindS hm42
                      refine q_lcEl S24 h76 (show R.rel rInt G19 (V.int (x11 + (1 : Int))) (x11 + (1 : Int)) from rfl) hq26 (fun H20 w9 S25 h83 => ?_)
                      cases hm43
                      exact ⟨_, ⟨G19, w9, e19, S25, h83⟩, hr4⟩
                    · intro D6 H21 hI5
                      obtain ⟨G20, w10, e20, S26, h84⟩ := hI5
                      have h85 := R.up e20 h71
                      have h86 := R.up e20 h72
                      have h87 := R.up e20 h73
                      have h88 := R.up e20 h70
                      have h89 := R.up e20 h74
                      have E20 := E18.trans e20
                      obtain ⟨z1, hq27, hm44⟩ := bindS hm41
                      have h90 := ls_O S26 h84
                      refine q_cat S26 (ls_M S26 h87) h90 hq27 (fun v16 G21 H22 e21 S27 h91 => ?_)
                      have h92 := R.up e21 h85
                      have h93 := R.up e21 h86
                      have h94 := R.up e21 h87
                      have h95 := R.up e21 h88
                      have h96 := R.up e21 h89
                      have E21 := E20.trans e21
                      have S28 := S27.tail
                      cases hm44
                      exact ⟨_, ⟨G21, v16, _, _, _, _, ((((((((e11.trans e13).trans e14).trans e15).trans e16).trans e17).trans e18).trans e20).trans e21), S28, rfl, h91⟩, hr1⟩
              · skip
                have hm45 := (if_neg c5).symm.trans hm30
                refine gIfS ?_
                obtain ⟨x18, hq42, hm60⟩ := bindS hm45
                refine gCT (fun (b : Bool) (H : Hp) => ∃ (G : Hp), Ext G16 G ∧ Sub G ((D3, HO.lst w5) :: O) H ∧ b = x18) ?_ ?_
                · skip
                  refine gOr ?_
                  refine gTest ?_
                  refine gOp ?_
                  refine gV rfl ?_
                  refine gLst ?_
                  refine gCons' ?_
                  refine gOp ?_
                  refine gV rfl ?_
                  refine gC ?_
                  obtain ⟨x19, hq43, hm61⟩ := bindS hq42
                  refine q_ixO S20 h59 hq43 (fun v23 h130 => ?_)
                  obtain rfl := (show v23 = (V.int x19) from h130)
                  refine gCons' ?_
                  refine gOp ?_
                  refine gV rfl ?_
                  refine gUn ?_
                  refine gC ?_
                  refine ⟨_, rfl, ?_⟩
                  obtain ⟨x20, hq44, hm62⟩ := bindS hm61
                  refine q_ixO S20 h59 hq44 (fun v24 h131 => ?_)
                  obtain rfl := (show v24 = (V.int x20) from h131)
                  refine gNil' ?_
                  have h132 : Al (rO rInt) G16 [(V.int x19), (V.int x20)] [(some x19), (some x20)] := ⟨(rO_some (by intro z; cases z) (show R.rel rInt G16 (V.int x19) x19 from rfl)), (rO_some (by intro z; cases z) (show R.rel rInt G16 (V.int x20) x20 from rfl)), True.intro⟩
                  refine q_lst S20 h132 (by show 2 ≤ 100000; decide) (fun a4 H28 w12 S34 h133 => ?_)
                  have h134 := rM_own S34 h133
                  refine q_neD (dM (dOI (K := K))) (by show 3 ≤ 64; decide) (R.up S34.ext h55) h134 ((okM okOI) _) ((okM okOI) _) ?_
                  refine ⟨(!decide (([r9, r10] : List (Option Int)) = ([(some x19), (some x20)] : List (Option Int)))), rfl, ?_⟩
                  refine ite2 (fun c8 => ?_) (fun c8 => ?_)
                  · skip
                    have hm63 := (if_pos c8).symm.trans hm62
                    have S35 := S34.tail
                    cases hm63
                    exact ⟨G16, (Ext.refl _), S35, rfl⟩
                  · skip
                    have hm64 := (if_neg c8).symm.trans hm62
                    refine gOr ?_
                    refine gNot ?_
                    refine gB ?_
                    refine gCall ?_
                    refine gCons' ?_
                    refine gOp ?_
                    refine gV rfl ?_
                    refine gC ?_
                    obtain ⟨x22, hq48, hm68⟩ := bindS hm64
                    refine q_ixL S34 (rM_L (K := K) h55) hq48 (fun v26 h142 => ?_)
                    refine gNil' ?_
                    obtain ⟨j6, hq49, hm69⟩ := bindS hm68
                    have h143 := rO_get h142 hq49
                    obtain rfl := (show v26 = (V.int j6) from h143)
                    obtain ⟨r16, hq50, hm70⟩ := bindS hm69
                    refine ⟨G16, ((a4, HO.lst w12) :: (D3, HO.lst w5) :: O), j6, rfl, S34, r16, hq50, fun G27 H30 e27 S37 => ?_⟩
                    have h144 := R.up e27 h56
                    have h145 := R.up e27 h57
                    have h146 := R.up e27 h58
                    have h147 := Al.up e27 h59
                    have h148 := R.up e27 h55
                    have E27 := E16.trans e27
                    refine ⟨r16, rfl, ?_⟩
                    refine ite2 (fun c9 => ?_) (fun c9 => ?_)
                    · skip
                      have hm71 := (if_pos c9).symm.trans hm70
                      have S38 := S37.tail
                      cases hm71
                      exact ⟨G27, e27, S38, rfl⟩
                    · skip
                      have hm72 := (if_neg c9).symm.trans hm70
                      refine gNot ?_
                      refine gB ?_
                      refine gCall ?_
                      refine gCons' ?_
                      refine gOp ?_
                      refine gV rfl ?_
                      refine gC ?_
                      obtain ⟨x24, hq54, hm76⟩ := bindS hm72
                      refine q_ixL S37 (rM_L (K := K) h148) hq54 (fun v28 h156 => ?_)
                      refine gNil' ?_
                      obtain ⟨j8, hq55, hm77⟩ := bindS hm76
                      have h157 := rO_get h156 hq55
                      obtain rfl := (show v28 = (V.int j8) from h157)
                      obtain ⟨r18, hq56, hm78⟩ := bindS hm77
                      refine ⟨G27, ((a4, HO.lst w12) :: (D3, HO.lst w5) :: O), j8, rfl, S37, r18, hq56, fun G29 H32 e29 S40 => ?_⟩
                      have h158 := R.up e29 h144
                      have h159 := R.up e29 h145
                      have h160 := R.up e29 h146
                      have h161 := Al.up e29 h147
                      have h162 := R.up e29 h148
                      have E29 := E27.trans e29
                      refine ⟨r18, rfl, ?_⟩
                      have S41 := S40.tail
                      cases hm78
                      exact ⟨G29, (e27.trans e29), S41, rfl⟩
                · intro b4 H33 hJ
                  obtain ⟨G30, e30, S42, rfl⟩ := hJ
                  have h163 := R.up e30 h56
                  have h164 := R.up e30 h57
                  have h165 := R.up e30 h58
                  have h166 := Al.up e30 h59
                  have h167 := R.up e30 h55
                  have E30 := E16.trans e30
                  refine ite2 (fun c10 => ?_) (fun c10 => ?_)
                  · skip
                    have hm79 := (if_pos c10).symm.trans hm60
                    refine gRet ?_
                    refine gC ?_
                    have S43 := S42.tail
                    cases hm79
                    have hr5 := Option.some.inj (show some (Fl.rt _) = some res1 from hr1)
                    subst hr5
                    dsimp only at hm17
                    cases hm17
                    exact q G30 H33 E30 S43
                  · skip
                    have hm80 := (if_neg c10).symm.trans hm60
                    refine gNext ?_
                    refine gE ?_
                    refine gAsgN ?_
                    refine gOp ?_
                    refine gV rfl ?_
                    refine gLc ?_
                    refine gIL ?_
                    refine gV rfl ?_
                    obtain ⟨G31, e31, S44, h168⟩ := frz_M S42 h166
                    have h169 := R.up e31 h163
                    have h170 := R.up e31 h164
                    have h171 := R.up e31 h165
                    have h172 := R.up e31 h167
                    have E31 := E30.trans e31
                    obtain ⟨acc7, hq57, hm81⟩ := bindS hm80
                    refine lc_L (r := rInt) S44 (rM_L (K := K) h168) hq57 (fun (D : Addr) (s : (List Int)) (H : Hp) => ∃ (G : Hp) (w13 : List V), Ext G31 G ∧ Sub G ((D, HO.lst w13) :: O) H ∧ Al rInt G w13 s) ?_ ?_ ?_ ?_
                    · intro D7 nD3
                      exact ⟨G31, [], Ext.refl _, S44.newOwn nD3, True.intro⟩
                    · intro D s H hI
                      obtain ⟨G, k10, ie, iS, _⟩ := hI
                      exact ie.trans iS.ext
                    · intro D8 i4 x25 acc8 s7 hb4 hr6 v29 H34 hI6 h173
                      obtain ⟨G32, w14, e32, S45, h174⟩ := hI6
                      have h175 := R.up e32 h169
                      have h176 := R.up e32 h170
                      have h177 := R.up e32 h171
                      have h178 := R.up e32 h168
                      have h179 := R.up e32 h172
                      have h180 := R.up e32 (rM_L (K := K) h168)
                      have E32 := E31.trans e32
                      obtain rfl := (show v29 = (V.int x25) from h173)
                      refine ⟨rfl, ?_⟩
                      have hm82 : (Option.bind (appM acc8 (x25 + (1 : Int))) fun acc9 =>   some acc9) = some s7 := hb4
                      refine gYes ?_
                      refine iteT ?_
                      refine gOp ?_
                      refine gV rfl ?_
                      refine gC ?_
                      refine ⟨_, _, rfl, rfl, ?_⟩
                      obtain ⟨acc9, hq58, hm83⟩ := bindS hm82
                      refine q_lcEl S45 h174 (show R.rel rInt G32 (V.int (x25 + (1 : Int))) (x25 + (1 : Int)) from rfl) hq58 (fun H35 w15 S46 h181 => ?_)
                      cases hm83
                      exact ⟨_, ⟨G32, w15, e32, S46, h181⟩, hr6⟩
                    · intro D9 H36 hI7
                      obtain ⟨G33, w16, e33, S47, h182⟩ := hI7
                      have h183 := R.up e33 h169
                      have h184 := R.up e33 h170
                      have h185 := R.up e33 h171
                      have h186 := R.up e33 h168
                      have h187 := R.up e33 h172
                      have E33 := E31.trans e33
                      obtain ⟨z2, hq59, hm84⟩ := bindS hm81
                      have h188 := ls_O S47 h182
                      refine q_cat S47 (ls_M S47 h185) h188 hq59 (fun v30 G34 H37 e34 S48 h189 => ?_)
                      have h190 := R.up e34 h183
                      have h191 := R.up e34 h184
                      have h192 := R.up e34 h185
                      have h193 := R.up e34 h186
                      have h194 := R.up e34 h187
                      have E34 := E33.trans e34
                      have S49 := S48.tail
                      cases hm84
                      exact ⟨_, ⟨G34, v30, _, _, _, _, ((((((((e11.trans e13).trans e14).trans e15).trans e16).trans e30).trans e31).trans e33).trans e34), S49, rfl, h189⟩, hr1⟩
          · intro s σ H h1 h2
            obtain ⟨G, k1, k2, k3, k4, k5, ie, irest⟩ := h2
            exact ⟨s, h1, G, k1, k2, k3, k4, k5, (ie), irest⟩
        · intro σ2 H38 hJ1
          obtain ⟨far1, hres1, hJ2⟩ := hJ1
          subst hres1
          dsimp only at hm17
          obtain ⟨G35, v31, y9, y10, y11, y12, e35, S50, rfl, h195⟩ := hJ2
          have h196 := R.up e35 h24
          have h197 := R.up e35 h25
          have E35 := E10.trans e35
          refine gRet ?_
          refine gOp ?_
          refine gCall ?_
          refine gCons' ?_
          refine gV rfl ?_
          refine gNil' ?_
          obtain ⟨r19, hq60, hm85⟩ := bindS hm17
          refine ⟨G35, (O), v1, told1, rfl, S50, h196, r19, hq60, fun G36 H39 e36 S51 => ?_⟩
          have h198 := R.up e36 h196
          have h199 := R.up e36 h197
          have h200 := R.up e36 h195
          have E36 := E35.trans e36
          refine gCB ?_
          refine gCons' ?_
          refine gV rfl ?_
          refine gNil' ?_
          obtain ⟨x26, hq61, hm86⟩ := bindS hm85
          refine q_max S51 (rM_L (K := K) h200) hq61 ?_
          refine ⟨_, _, rfl, rfl, ?_⟩
          cases hm86
          exact q G36 H39 E36 S51
end
end Mr

set_option Elab.async false
set_option linter.all false
set_option maxRecDepth 100000
set_option maxHeartbeats 4000000
set_option synthInstance.maxSize 4000
set_option synthInstance.maxHeartbeats 400000
namespace Mr
open PySem PySem.Spec PyProof.Rows L2 GFr
section
variable {P : Program} {w : World} {K : PySem.W.Frag} {mg : Str → Option Value} {base : Heap}
theorem sc_law_blanks_stand : FnScope ["_law_left", "_law_right", "_law_row", "_law_gap", "_law_told", "_law_due"] ["_law_left", "_law_right"] (defScope s_law_blanks_stand) := ⟨rfl, rfl, rfl, by decide +kernel, rfl, by decide +kernel, by decide +kernel⟩
theorem ok_law_blanks_stand (T : Tx K mg) : FnOk P w K mg base CX0 3 (He.fAd K ("_law_blanks_stand", none)) T.fd_law_blanks_stand ["_law_left", "_law_right"] (sp_law_blanks_stand K) := by
  have G_law_blanks := ok_law_blanks (P := P) (w := w) (base := base) T
  have G_law_number := ok_law_number (P := P) (w := w) (base := base) T
  have G_blanks := ok_blanks (P := P) (w := w) (base := base) T
  refine T.F_law_blanks_stand.ok sc_law_blanks_stand (fun vs H Q E h => ?_) (fun cdv A outer s H0 vs Q E hr h => ?_)
  · obtain ⟨G, O, v1, left1, v2, right1, rfl, _⟩ := h
    rfl
  · obtain ⟨G0, O, v1, left1, v2, right1, rfl, S0, h1, h2, res, hm, q⟩ := h
    refine ⟨_, PSs.nox (pss_cons (ps_cut (ps_for PassesOwn.never rfl (pi_range1 (by rfl) T.z_range (pa_cons pe_int pa_nil)) (pg_name (i := 2) sc_law_blanks_stand.nd rfl (.inl rfl))
      (pss_one (ps_cut (ps_for PassesOwn.never rfl (pi_range1 (by rfl) T.z_range (pa_cons pe_int pa_nil)) (pg_name (i := 3) sc_law_blanks_stand.nd rfl (.inl rfl))
      (pss_cons (ps_par (i := 4) (j := 5) (by rfl) sc_law_blanks_stand.nd rfl rfl (by decide) rfl rfl (pa_cons (pe_call G_blanks (hr.mono (by decide)) (by rfl) T.g_blanks T.F_blanks.kp T.b_blanks .nil pass0 (pa_cons (pv 0) (pa_cons (pv 1) (pa_cons (pv 2) (pa_cons (pv 3) pa_nil))))) (pa_cons (pe_call G_law_blanks (hr.mono (by decide)) (by rfl) T.g_law_blanks T.F_law_blanks.kp T.b_law_blanks .nil pass0 (pa_cons (pv 0) (pa_cons (pv 1) (pa_cons (pv 2) (pa_cons (pv 3) pa_nil))))) pa_nil)) (by rfl))
      (pss_one (ps_if (pt_cmpR op_isNon (pv 5) pe_non (nomark _)) (pss_one (ps_if (pt_cmpR op_isNotNon (pv 4) pe_non (nomark _)) (pss_one (ps_ret pe_bl)) pss_nil)) (pss_one (ps_if (pt_cut (PW.pt (pw_or (pt_not (pt_val (pe_call G_law_number (hr.mono (by decide)) (by rfl) T.g_law_number T.F_law_number.kp T.b_law_number .nil pass0 (pa_cons (pv 4) pa_nil)))) (pw_or1 (pt_cmpR (op_neD hr.units) (pv 4) (pv 5) (nomark _)))))) (pss_one (ps_ret pe_bl)) pss_nil))))))))))
      (pss_one (ps_ret pe_bl))), ?_⟩
    have E0 := Ext.refl G0
    have hm0 : (Option.bind (rngM (4 : Int)) fun xs1 =>
  Option.bind (forL (m_law_blanks_stand_b1 left1 right1) xs1 ()) fun res => match res with
  | Fl.rt r => some r
  | Fl.nx _ => some true) = some res := hm
    obtain ⟨xs1, hq1, hm1⟩ := bindS hm0
    obtain ⟨res1, hl1, hm2⟩ := bindS hm1
    refine gS_CS (fun (σ : L2.St) (H : Hp) => ∃ s : Unit, res1 = Fl.nx s ∧ ∃ (G : Hp) (y1 : Option V) (y2 : Option V) (y3 : Option V) (y4 : Option V), Ext G0 G ∧ Sub G (O) H ∧ σ = [some v1, some v2, y1, y2, y3, y4]) ?_ ?_
    · skip
      refine gFor ?_
      refine gIR ?_
      refine gCons' ?_
      refine gC ?_
      refine gNil' ?_
      refine lp_R hq1 hl1 (fun (s : Unit) (σ : L2.St) (H : Hp) => ∃ (G : Hp) (y1 : Option V) (y2 : Option V) (y3 : Option V) (y4 : Option V), Ext G0 G ∧ Sub G (O) H ∧ σ = [some v1, some v2, y1, y2, y3, y4]) ⟨G0, _, _, _, _, (Ext.refl _), S0, rfl⟩ ?_ ?_
      · intro i1 x1 s1 b1 hb1 hr1 σ1 H1 hI1
        obtain ⟨G1, y5, y6, y7, y8, e1, S1, rfl⟩ := hI1
        have h4 := R.up e1 h1
        have h5 := R.up e1 h2
        have E1 := E0.trans e1
        have hm3 : (Option.bind (rngM (3 : Int)) fun xs2 =>   Option.bind (forL (m_law_blanks_stand_b2 left1 right1 x1) xs2 ()) fun res => match res with   | Fl.rt r => some (Bf.rt r)   | Fl.nx _ => some (Bf.go ())) = some b1 := hb1
        obtain ⟨xs2, hq2, hm4⟩ := bindS hm3
        obtain ⟨res2, hl2, hm5⟩ := bindS hm4
        refine gCS (fun (σ : L2.St) (H : Hp) => ∃ s : Unit, res2 = Fl.nx s ∧ ∃ (G : Hp) (y9 : Option V) (y10 : Option V) (y11 : Option V), Ext G1 G ∧ Sub G (O) H ∧ σ = [some v1, some v2, some (V.int x1), y9, y10, y11]) ?_ ?_
        · skip
          refine gFor ?_
          refine gIR ?_
          refine gCons' ?_
          refine gC ?_
          refine gNil' ?_
          refine lp_R hq2 hl2 (fun (s : Unit) (σ : L2.St) (H : Hp) => ∃ (G : Hp) (y9 : Option V) (y10 : Option V) (y11 : Option V), Ext G1 G ∧ Sub G (O) H ∧ σ = [some v1, some v2, some (V.int x1), y9, y10, y11]) ⟨G1, _, _, _, (Ext.refl _), S1, rfl⟩ ?_ ?_
          · intro i2 x2 s2 b2 hb2 hr2 σ2 H2 hI2
            obtain ⟨G2, y12, y13, y14, e2, S2, rfl⟩ := hI2
            have h7 := R.up e2 h4
            have h8 := R.up e2 h5
            have E2 := E1.trans e2
            have hm6 : (Option.bind (m_blanks left1 right1 x1 x2) fun r1 =>   Option.bind (m_law_blanks left1 right1 x1 x2) fun r2 =>   if (r2.isNone) then (if (!r1.isNone) then (some (Bf.rt false))   else (some (Bf.go ())))   else (Option.bind (Option.bind (r1) fun j2 =>   Option.bind (m_law_number j2) fun r4 =>   if (!r4) then some true else (some (!decide (r1 = r2)))) fun x3 =>   if x3 then (some (Bf.rt false))   else (some (Bf.go ())))) = some b2 := hb2
            refine gS_Par ?_
            refine gCons' ?_
            refine gCall ?_
            refine gCons' ?_
            refine gV rfl ?_
            refine gCons' ?_
            refine gV rfl ?_
            refine gCons' ?_
            refine gV rfl ?_
            refine gCons' ?_
            refine gV rfl ?_
            refine gNil' ?_
            obtain ⟨r1, hq3, hm7⟩ := bindS hm6
            refine ⟨G2, (O), v1, left1, v2, right1, x1, x2, rfl, S2, h7, h8, r1, hq3, fun v5 G3 H3 e3 S3 h9 => ?_⟩
            have h10 := R.up e3 h7
            have h11 := R.up e3 h8
            have E3 := E2.trans e3
            refine gCons' ?_
            refine gCall ?_
            refine gCons' ?_
            refine gV rfl ?_
            refine gCons' ?_
            refine gV rfl ?_
            refine gCons' ?_
            refine gV rfl ?_
            refine gCons' ?_
            refine gV rfl ?_
            refine gNil' ?_
            obtain ⟨r2, hq4, hm8⟩ := bindS hm7
            refine ⟨G3, (O), v1, left1, v2, right1, x1, x2, rfl, S3, h10, h11, r2, hq4, fun v6 G4 H4 e4 S4 h12 => ?_⟩
            have h13 := R.up e4 h10
            have h14 := R.up e4 h11
            have h15 := R.up e4 h9
            have E4 := E3.trans e4
            refine gNil' ?_
            refine ⟨_, _, rfl, ?_⟩
            refine gIfS ?_
            refine gTest ?_
            refine gOp ?_
            refine gV rfl ?_
            refine gC ?_
            refine q_isNon h12 ?_
            refine ⟨(r2.isNone), rfl, ?_⟩
            refine ite2 (fun c1 => ?_) (fun c1 => ?_)
            · skip
              have hm9 := (if_pos c1).symm.trans hm8
              refine gIfS ?_
              refine gTest ?_
              refine gOp ?_
              refine gV rfl ?_
              refine gC ?_
              refine q_isNotNon h15 ?_
              refine ⟨(!r1.isNone), rfl, ?_⟩
              refine ite2 (fun c2 => ?_) (fun c2 => ?_)
              · skip
                have hm10 := (if_pos c2).symm.trans hm9
                refine gRet ?_
                refine gC ?_
                cases hm10
                have hr3 := Option.some.inj (show some (Fl.rt _) = some res2 from hr2)
                subst hr3
                dsimp only at hm5
                cases hm5
                have hr4 := Option.some.inj (show some (Fl.rt _) = some res1 from hr1)
                subst hr4
                dsimp only at hm2
                cases hm2
                exact q G4 H4 E4 S4
              · skip
                have hm11 := (if_neg c2).symm.trans hm9
                refine gNext ?_
                cases hm11
                exact ⟨_, ⟨G4, _, _, _, ((e2.trans e3).trans e4), S4, rfl⟩, hr2⟩
            · skip
              have hm12 := (if_neg c1).symm.trans hm8
              refine gIfS ?_
              obtain ⟨x3, hq9, hm17⟩ := bindS hm12
              refine gCT (fun (b : Bool) (H : Hp) => ∃ (G : Hp), Ext G4 G ∧ Sub G (O) H ∧ b = x3) ?_ ?_
              · skip
                refine gOr ?_
                refine gNot ?_
                refine gB ?_
                refine gCall ?_
                refine gCons' ?_
                refine gV rfl ?_
                refine gNil' ?_
                obtain ⟨j4, hq12, hm20⟩ := bindS hq9
                have h31 := rO_get h15 hq12
                obtain rfl := (show v5 = (V.int j4) from h31)
                obtain ⟨r6, hq13, hm21⟩ := bindS hm20
                refine ⟨G4, (O), j4, rfl, S4, r6, hq13, fun G8 H8 e8 S8 => ?_⟩
                have h32 := R.up e8 h13
                have h33 := R.up e8 h14
                have h34 := R.up e8 h15
                have h35 := R.up e8 h12
                have E8 := E4.trans e8
                refine ⟨r6, rfl, ?_⟩
                refine ite2 (fun c3 => ?_) (fun c3 => ?_)
                · skip
                  have hm22 := (if_pos c3).symm.trans hm21
                  cases hm22
                  exact ⟨G8, e8, S8, rfl⟩
                · skip
                  have hm23 := (if_neg c3).symm.trans hm21
                  refine gTest ?_
                  refine gOp ?_
                  refine gV rfl ?_
                  refine gV rfl ?_
                  refine q_neD (dOI (K := K)) (by show 2 ≤ 64; decide) (R.up S8.ext h34) (R.up S8.ext h35) (okOI _) (okOI _) ?_
                  refine ⟨(!decide (r1 = r2)), rfl, ?_⟩
                  cases hm23
                  exact ⟨G8, e8, S8, rfl⟩
              · intro b3 H9 hJ
                obtain ⟨G9, e9, S9, rfl⟩ := hJ
                have h36 := R.up e9 h13
                have h37 := R.up e9 h14
                have h38 := R.up e9 h15
                have h39 := R.up e9 h12
                have E9 := E4.trans e9
                refine ite2 (fun c4 => ?_) (fun c4 => ?_)
                · skip
                  have hm24 := (if_pos c4).symm.trans hm17
                  refine gRet ?_
                  refine gC ?_
                  cases hm24
                  have hr5 := Option.some.inj (show some (Fl.rt _) = some res2 from hr2)
                  subst hr5
                  dsimp only at hm5
                  cases hm5
                  have hr6 := Option.some.inj (show some (Fl.rt _) = some res1 from hr1)
                  subst hr6
                  dsimp only at hm2
                  cases hm2
                  exact q G9 H9 E9 S9
                · skip
                  have hm25 := (if_neg c4).symm.trans hm17
                  refine gNext ?_
                  cases hm25
                  exact ⟨_, ⟨G9, _, _, _, (((e2.trans e3).trans e4).trans e9), S9, rfl⟩, hr2⟩
          · intro s σ H h1 h2
            obtain ⟨G, k5, k6, k7, ie, irest⟩ := h2
            exact ⟨s, h1, G, k5, k6, k7, (ie), irest⟩
        · intro σ3 H10 hJ1
          obtain ⟨s3, hres1, hJ2⟩ := hJ1
          subst hres1
          dsimp only at hm5
          obtain ⟨G10, y15, y16, y17, e10, S10, rfl⟩ := hJ2
          have h40 := R.up e10 h4
          have h41 := R.up e10 h5
          have E10 := E1.trans e10
          cases hm5
          exact ⟨_, ⟨G10, _, _, _, _, (e1.trans e10), S10, rfl⟩, hr1⟩
      · intro s σ H h1 h2
        obtain ⟨G, k1, k2, k3, k4, ie, irest⟩ := h2
        exact ⟨s, h1, G, k1, k2, k3, k4, (ie), irest⟩
    · intro σ4 H11 hJ3
      obtain ⟨s4, hres2, hJ4⟩ := hJ3
      subst hres2
      dsimp only at hm2
      obtain ⟨G11, y18, y19, y20, y21, e11, S11, rfl⟩ := hJ4
      have h42 := R.up e11 h1
      have h43 := R.up e11 h2
      have E11 := E0.trans e11
      refine gRet ?_
      refine gC ?_
      cases hm2
      exact q G11 H11 E11 S11
end
end Mr

set_option Elab.async false
set_option linter.all false
set_option maxRecDepth 100000
set_option maxHeartbeats 4000000
set_option synthInstance.maxSize 4000
set_option synthInstance.maxHeartbeats 400000
namespace Mr
open PySem PySem.Spec PyProof.Rows L2 GFr
section
variable {P : Program} {w : World} {K : PySem.W.Frag} {mg : Str → Option Value} {base : Heap}
theorem sc_law : FnScope ["_law_script", "_law_at", "_law_bag_here", "_law_inks", "_law_turn_here", "_law_rings_here", "_law_kept", "_law_ring_here", "_law_told", "_law_left", "_law_right"] ["_law_script"] (defScope s_law) := ⟨rfl, rfl, rfl, by decide +kernel, rfl, by decide +kernel, by decide +kernel⟩
theorem ok_law (T : Tx K mg) : FnOk P w K mg base CX0 4 (He.fAd K ("law", none)) T.fd_law ["_law_script"] (sp_law K) := by
  have G_law_bag := ok_law_bag (P := P) (w := w) (base := base) T
  have G_law_blanks_stand := ok_law_blanks_stand (P := P) (w := w) (base := base) T
  have G_law_draw := ok_law_draw (P := P) (w := w) (base := base) T
  have G_law_ink := ok_law_ink (P := P) (w := w) (base := base) T
  have G_law_ink_stands := ok_law_ink_stands (P := P) (w := w) (base := base) T
  have G_law_rings := ok_law_rings (P := P) (w := w) (base := base) T
  have G_ink_of := ok_ink_of (P := P) (w := w) (base := base) T
  refine T.F_law.ok sc_law (fun vs H Q E h => ?_) (fun cdv A outer s H0 vs Q E hr h => ?_)
  · obtain ⟨G, O, v1, script1, rfl, _⟩ := h
    rfl
  · obtain ⟨G0, O, v1, script1, rfl, S0, h1, res, hm, q⟩ := h
    refine ⟨_, PSs.nox (pss_cons (ps_cut (ps_for PassesOwn.never rfl (pi_range1 (by rfl) T.z_range (pa_cons (pe_callB (call_max2 rfl) (by rfl) T.z_max boot_max (pa_cons pe_int (pa_cons (pe_callB (call_min2 rfl) (by rfl) T.z_min boot_min (pa_cons pe_int (pa_cons (pe_callB (r := rLenM K) call_lenM (by rfl) T.z_len boot_len (pa_cons (pv 0) pa_nil)) pa_nil))) pa_nil))) pa_nil)) (pg_name (i := 1) sc_law.nd rfl (.inl rfl))
      (pss_cons (ps_set (i := 2) sc_law.nd rfl (.inl rfl) (pe_call G_law_bag (hr.mono (by decide)) (by rfl) T.g_law_bag T.F_law_bag.kp T.b_law_bag .nil pass0 (pa_cons (pv 0) (pa_cons (pv 1) pa_nil))))
      (pss_cons (ps_set (i := 3) sc_law.nd rfl (.inl rfl) (pe_lst pa_nil))
      (pss_cons (ps_cut (ps_for PassesOwn.never rfl (pi_range1 (by rfl) T.z_range (pa_cons pe_int pa_nil)) (pg_name (i := 4) sc_law.nd rfl (.inl rfl))
      (pss_cons (ps_set (i := 5) sc_law.nd rfl (.inl rfl) (pe_cut (pe_ifExp (pt_cmpR op_gt (pe_call G_law_draw (hr.mono (by decide)) (by rfl) T.g_law_draw T.F_law_draw.kp T.b_law_draw .nil pass0 (pa_cons (pv 2) (pa_cons pe_int pa_nil))) pe_int (nomark _)) (pe_call G_law_rings (hr.mono (by decide)) (by rfl) T.g_law_rings T.F_law_rings.kp T.b_law_rings .nil pass0 (pa_cons (pv 2) pa_nil)) (pe_lst pa_nil))))
      (pss_cons (ps_setLc (i := 6) (own := [("_law_ring_here", 7)]) (g := gName 7) (by rfl) sc_law.nd rfl rfl (sw_true rfl rfl rfl (by decide +kernel)) (pi_list (pv 5)) (blkOk_by (own := [("_law_ring_here", 7)]) (N := ["_law_script", "_law_at", "_law_bag_here", "_law_inks", "_law_turn_here", "_law_rings_here", "_law_kept", "_law_ring_here", "_law_told", "_law_left", "_law_right"]) (sc := defScope s_law) (by decide +kernel)) (fun _ _ _ _ _ => (pg_name (i := 7) sc_law.nd rfl (.inl rfl))) (fun _ _ _ _ _ => pts_nil) (fun _ _ _ _ _ => (pe_callTy (r := rListOf K) call_listOf (by rfl) T.z_list boot_list (pa_cons (pv 7) pa_nil))))
      (pss_cons (ps_set (i := 8) sc_law.nd rfl (.inl rfl) (pe_call G_ink_of (hr.mono (by decide)) (by rfl) T.g_ink_of T.F_ink_of.kp T.b_ink_of .nil pass0 (pa_cons (pv 5) pa_nil)))
      (pss_cons (ps_if (pt_cut (PW.pt (pw_or (pt_not (pt_val (pe_call G_law_ink_stands (hr.mono (by decide)) (by rfl) T.g_law_ink_stands T.F_law_ink_stands.kp T.b_law_ink_stands .nil pass0 (pa_cons (pv 8) (pa_cons (pe_call G_law_ink (hr.mono (by decide)) (by rfl) T.g_law_ink T.F_law_ink.kp T.b_law_ink .nil pass0 (pa_cons (pv 6) pa_nil)) pa_nil))))) (pw_or1 (pt_cmpR (op_neD hr.units) (pv 5) (pv 6) (nomark _)))))) (pss_one (ps_ret pe_bl)) pss_nil)
      (pss_cons (ps_if (pt_cmpR (op_neD hr.units) (pe_call G_ink_of (hr.mono (by decide)) (by rfl) T.g_ink_of T.F_ink_of.kp T.b_ink_of .nil pass0 (pa_cons (pe_callTy (r := rTupOf K) call_tupOf (by rfl) T.z_tuple boot_tuple (pa_cons (pe_lc (own := [("_law_ring_here", 7)]) (g := gName 7) (by rfl) sc_law.nd (pi_list (pv 5)) (blkOk_by (own := [("_law_ring_here", 7)]) (N := ["_law_script", "_law_at", "_law_bag_here", "_law_inks", "_law_turn_here", "_law_rings_here", "_law_kept", "_law_ring_here", "_law_told", "_law_left", "_law_right"]) (sc := defScope s_law) (by decide +kernel)) (fun _ _ _ _ _ => (pg_name (i := 7) sc_law.nd rfl (.inl rfl))) (fun _ _ _ _ _ => pts_nil) (fun _ _ _ _ _ => (pe_callTy (r := rTupOf K) call_tupOf (by rfl) T.z_tuple boot_tuple (pa_cons (pv 7) pa_nil)))) pa_nil)) pa_nil)) (pv 8) (nomark _)) (pss_one (ps_ret pe_bl)) pss_nil)
      (pss_one (ps_expr (pe_bm PySem.F.plainAttrs_list PySem.F.slot_list_append PySem.F.type_list_append mt_append (pv 3) (pa_cons (pv 8) pa_nil)))))))))))
      (pss_one (ps_cut (ps_for PassesOwn.never rfl (pi_list (pv 3)) (pg_name (i := 9) sc_law.nd rfl (.inl rfl))
      (pss_one (ps_cut (ps_for PassesOwn.never rfl (pi_list (pv 3)) (pg_name (i := 10) sc_law.nd rfl (.inl rfl))
      (pss_one (ps_if (pt_not (pt_val (pe_call G_law_blanks_stand (hr.mono (by decide)) (by rfl) T.g_law_blanks_stand T.F_law_blanks_stand.kp T.b_law_blanks_stand .nil pass0 (pa_cons (pv 9) (pa_cons (pv 10) pa_nil))))) (pss_one (ps_ret pe_bl)) pss_nil)))))))))))))
      (pss_one (ps_ret pe_bl))), ?_⟩
    have E0 := Ext.refl G0
    have hm0 : (Option.bind (rngM (if (if (script1.length : Int) < (4 : Int) then (script1.length : Int) else (4 : Int)) > (1 : Int) then (if (script1.length : Int) < (4 : Int) then (script1.length : Int) else (4 : Int)) else (1 : Int))) fun xs1 =>
  Option.bind (forL (m_law_b1 script1) xs1 ()) fun res => match res with
  | Fl.rt r => some r
  | Fl.nx _ => some true) = some res := hm
    obtain ⟨xs1, hq1, hm1⟩ := bindS hm0
    obtain ⟨res1, hl1, hm2⟩ := bindS hm1
    refine gS_CS (fun (σ : L2.St) (H : Hp) => ∃ s : Unit, res1 = Fl.nx s ∧ ∃ (G : Hp) (y1 : Option V) (y2 : Option V) (y3 : Option V) (y4 : Option V) (y5 : Option V) (y6 : Option V) (y7 : Option V) (y8 : Option V) (y9 : Option V) (y10 : Option V), Ext G0 G ∧ Sub G (O) H ∧ σ = [some v1, y1, y2, y3, y4, y5, y6, y7, y8, y9, y10]) ?_ ?_
    · skip
      refine gFor ?_
      refine gIR ?_
      refine gCons' ?_
      refine gCB ?_
      refine gCons' ?_
      refine gC ?_
      refine gCons' ?_
      refine gCB ?_
      refine gCons' ?_
      refine gC ?_
      refine gCons' ?_
      refine gCB ?_
      refine gCons' ?_
      refine gV rfl ?_
      refine gNil' ?_
      refine q_lenL (y := V.non) S0 h1 ?_
      refine gNil' ?_
      refine ⟨_, _, rfl, ?_⟩
      refine gNil' ?_
      refine ⟨_, _, rfl, ?_⟩
      refine gNil' ?_
      refine lp_R hq1 hl1 (fun (s : Unit) (σ : L2.St) (H : Hp) => ∃ (G : Hp) (y1 : Option V) (y2 : Option V) (y3 : Option V) (y4 : Option V) (y5 : Option V) (y6 : Option V) (y7 : Option V) (y8 : Option V) (y9 : Option V) (y10 : Option V), Ext G0 G ∧ Sub G (O) H ∧ σ = [some v1, y1, y2, y3, y4, y5, y6, y7, y8, y9, y10]) ⟨G0, _, _, _, _, _, _, _, _, _, _, (Ext.refl _), S0, rfl⟩ ?_ ?_
      · intro i1 x1 s1 b1 hb1 hr1 σ1 H1 hI1
        obtain ⟨G1, y11, y12, y13, y14, y15, y16, y17, y18, y19, y20, e1, S1, rfl⟩ := hI1
        have h3 := R.up e1 h1
        have E1 := E0.trans e1
        have hm3 : (Option.bind (m_law_bag script1 x1) fun r1 =>   Option.bind (rngM (2 : Int)) fun xs2 =>   Option.bind (forL (m_law_b2) xs2 (r1, ([] : List (List Ink)))) fun res => match res with   | Fl.rt r => some (Bf.rt r)   | Fl.nx (bag_here1, inks1) => Option.bind (forL (m_law_b5 inks1) inks1 ()) fun res => match res with   | Fl.rt r => some (Bf.rt r)   | Fl.nx _ => some (Bf.go ())) = some b1 := hb1
        refine gS_AsgN ?_
        refine gCall ?_
        refine gCons' ?_
        refine gV rfl ?_
        refine gCons' ?_
        refine gV rfl ?_
        refine gNil' ?_
        obtain ⟨r1, hq2, hm4⟩ := bindS hm3
        refine ⟨G1, (O), v1, script1, x1, rfl, S1, h3, r1, hq2, fun a1 w1 G2 H2 e2 S2 h4 => ?_⟩
        have h5 := R.up e2 h3
        have E2 := E1.trans e2
        refine gS_AsgN ?_
        refine gLst ?_
        refine gNil' ?_
        have h6 : Al (rT K (rEn e_Ink)) G2 [] [] := True.intro
        refine q_lst S2 h6 (by show 0 ≤ 100000; decide) (fun a2 H3 w2 S3 h7 => ?_)
        obtain ⟨xs2, hq3, hm5⟩ := bindS hm4
        obtain ⟨res2, hl2, hm6⟩ := bindS hm5
        refine gS_CS (fun (σ : L2.St) (H : Hp) => ∃ s : (List Int) × (List (List Ink)), res2 = Fl.nx s ∧ ∃ (G : Hp) (w3 : List V) (w4 : List V) (y21 : Option V) (y22 : Option V) (y23 : Option V) (y24 : Option V) (y25 : Option V) (y26 : Option V) (y27 : Option V), Ext G2 G ∧ Sub G ((a1, HO.lst w3) :: (a2, HO.lst w4) :: O) H ∧ σ = [some v1, some (V.int x1), some (V.ref a1), some (V.ref a2), y21, y22, y23, y24, y25, y26, y27] ∧ Al rInt G w3 s.1 ∧ Al (rT K (rEn e_Ink)) G w4 s.2) ?_ ?_
        · skip
          refine gFor ?_
          refine gIR ?_
          refine gCons' ?_
          refine gC ?_
          refine gNil' ?_
          have S4 : Sub G2 ((a1, HO.lst w1) :: (a2, HO.lst w2) :: O) H3 := S3.front 1 rfl rfl
          refine lp_R hq3 hl2 (fun (s : (List Int) × (List (List Ink))) (σ : L2.St) (H : Hp) => ∃ (G : Hp) (w3 : List V) (w4 : List V) (y21 : Option V) (y22 : Option V) (y23 : Option V) (y24 : Option V) (y25 : Option V) (y26 : Option V) (y27 : Option V), Ext G2 G ∧ Sub G ((a1, HO.lst w3) :: (a2, HO.lst w4) :: O) H ∧ σ = [some v1, some (V.int x1), some (V.ref a1), some (V.ref a2), y21, y22, y23, y24, y25, y26, y27] ∧ Al rInt G w3 s.1 ∧ Al (rT K (rEn e_Ink)) G w4 s.2) ⟨G2, w1, w2, _, _, _, _, _, _, _, (Ext.refl _), S4, rfl, h4, h7⟩ ?_ ?_
          · intro i2 x2 s2 b2 hb2 hr2 σ2 H4 hI2
            obtain ⟨bag_here2, inks2⟩ := s2
            obtain ⟨G3, w5, w6, y28, y29, y30, y31, y32, y33, y34, e3, S5, rfl, h9, h10⟩ := hI2
            have h11 := R.up e3 h5
            have E3 := E2.trans e3
            have hm7 : (Option.bind (Option.bind (m_law_draw bag_here2 (8 : Int)) fun (r2, bag_here3) =>   if (decide (r2 > (0 : Int))) then (Option.bind (m_law_rings bag_here3) fun (r3, bag_here4) =>   some (r3, bag_here4)) else (some (([] : List (List (Int × Int))), bag_here3))) fun (x3, bag_here5) =>   Option.bind (folM (m_law_c3) x3 ([] : (List (List (Int × Int))))) fun acc1 =>   Option.bind (m_ink_of x3) fun r6 =>   Option.bind (Option.bind (m_law_ink acc1) fun r9 =>   Option.bind (m_law_ink_stands r6 r9) fun r10 =>   if (!r10) then some true else (some (!decide (x3 = acc1)))) fun x5 =>   if x5 then (some (Bf.rt false))   else (Option.bind (folM (m_law_c4) x3 ([] : (List (List (Int × Int))))) fun acc4 =>   Option.bind (m_ink_of acc4) fun r15 =>   if (!decide (r15 = r6)) then (some (Bf.rt false))   else (Option.bind (appM inks2 r6) fun inks3 =>   some (Bf.go (bag_here5, inks3))))) = some b2 := hb2
            refine gS_AsgN ?_
            obtain ⟨⟨x3, bag_here5⟩, hq6, hm10⟩ := bindS hm7
            dsimp only at hm10
            refine gCE (fun (v : V) (H : Hp) => ∃ (G : Hp) (w10 : List V), Ext G3 G ∧ Sub G ((a1, HO.lst w10) :: (a2, HO.lst w6) :: O) H ∧ R.rel (rM (rM (rP2 K rInt rInt))) G v x3 ∧ Al rInt G w10 bag_here5) ?_ ?_
            · skip
              refine gIf ?_
              refine gTest ?_
              refine gOp ?_
              refine gCall ?_
              refine gCons' ?_
              refine gV rfl ?_
              refine gCons' ?_
              refine gC ?_
              refine gNil' ?_
              obtain ⟨⟨r4, bag_here6⟩, hq7, hm11⟩ := bindS hq6
              dsimp only at hm11
              refine ⟨G3, ((a2, HO.lst w6) :: O), a1, w5, bag_here2, (8 : Int), rfl, S5, h9, (r4, bag_here6), hq7, fun G7 H8 w11 e7 S10 h25 => ?_⟩
              have h26 := R.up e7 h11
              have h27 := Al.up e7 h10
              have E7 := E3.trans e7
              refine gC ?_
              refine ⟨_, _, rfl, rfl, ?_⟩
              refine ⟨(decide (r4 > (0 : Int))), rfl, ?_⟩
              refine ite2 (fun c1 => ?_) (fun c1 => ?_)
              · skip
                have hm12 := (if_pos c1).symm.trans hm11
                refine gCall ?_
                refine gCons' ?_
                refine gV rfl ?_
                refine gNil' ?_
                obtain ⟨⟨r5, bag_here7⟩, hq8, hm13⟩ := bindS hm12
                dsimp only at hm13
                refine ⟨G7, ((a2, HO.lst w6) :: O), a1, w11, bag_here6, rfl, S10, h25, (r5, bag_here7), hq8, fun v5 G8 H9 w12 e8 S11 h28 h29 => ?_⟩
                have h30 := R.up e8 h26
                have h31 := Al.up e8 h27
                have E8 := E7.trans e8
                cases hm13
                exact ⟨G8, w12, (e7.trans e8), S11, h28, h29⟩
              · skip
                have hm14 := (if_neg c1).symm.trans hm11
                refine gLst ?_
                refine gNil' ?_
                have h32 : Al (rM (rP2 K rInt rInt)) G7 [] [] := True.intro
                refine q_lst S10 h32 (by show 0 ≤ 100000; decide) (fun a4 H10 w13 S12 h33 => ?_)
                obtain ⟨G9, e9, S13, h34⟩ := frz_M S12 h33
                have h35 := R.up e9 h26
                have h36 := Al.up e9 h25
                have h37 := Al.up e9 h27
                have E9 := E7.trans e9
                cases hm14
                exact ⟨G9, w11, (e7.trans e9), S13, h34, h36⟩
            · intro v6 H11 hJ
              obtain ⟨G10, w14, e10, S14, h38, h39⟩ := hJ
              have h40 := R.up e10 h11
              have h41 := Al.up e10 h10
              have E10 := E3.trans e10
              refine gS_AsgN ?_
              refine gLc ?_
              refine gIL ?_
              refine gV rfl ?_
              obtain ⟨acc1, hq9, hm15⟩ := bindS hm10
              refine lc_L (r := (rM (rP2 K rInt rInt))) S14 (rM_L (K := K) h38) hq9 (fun (D : Addr) (s : (List (List (Int × Int)))) (H : Hp) => ∃ (G : Hp) (w15 : List V), Ext G10 G ∧ Sub G ((D, HO.lst w15) :: (a1, HO.lst w14) :: (a2, HO.lst w6) :: O) H ∧ Al (rM (rP2 K rInt rInt)) G w15 s) ?_ ?_ ?_ ?_
              · intro D1 nD1
                exact ⟨G10, [], Ext.refl _, S14.newOwn nD1, True.intro⟩
              · intro D s H hI
                obtain ⟨G, k20, ie, iS, _⟩ := hI
                exact ie.trans iS.ext
              · intro D2 i3 x4 acc2 s4 hb3 hr3 v8 H13 hI3 h49
                obtain ⟨G12, w16, e12, S16, h50⟩ := hI3
                have h51 := R.up e12 h40
                have h52 := Al.up e12 h39
                have h53 := Al.up e12 h41
                have h54 := R.up e12 h38
                have h55 := R.up e12 (rM_L (K := K) h38)
                have E12 := E10.trans e12
                have h56 := R.up e12 h49
                refine ⟨rfl, ?_⟩
                have hm16 : (Option.bind (appM acc2 x4) fun acc3 =>   some acc3) = some s4 := hb3
                refine gYes ?_
                refine iteT ?_
                refine gCB ?_
                refine gCons' ?_
                refine gV rfl ?_
                refine gNil' ?_
                refine q_listM S16 (rM_Q (K := K) h56) (fun v9 G13 H14 e13 S17 h57 => ?_)
                have h58 := R.up e13 h51
                have h59 := Al.up e13 h52
                have h60 := Al.up e13 h53
                have h61 := R.up e13 h54
                have h62 := R.up e13 h56
                have h63 := R.up e13 h55
                have h64 := Al.up e13 h50
                have E13 := E12.trans e13
                obtain ⟨acc3, hq10, hm17⟩ := bindS hm16
                refine q_lcEl S17 h64 (show R.rel (rM (rP2 K rInt rInt)) G13 v9 x4 from h57) hq10 (fun H15 w17 S18 h65 => ?_)
                cases hm17
                exact ⟨_, ⟨G13, w17, (e12.trans e13), S18, h65⟩, hr3⟩
              · intro D3 H16 hI4
                obtain ⟨G14, w18, e14, S19, h66⟩ := hI4
                have h67 := R.up e14 h40
                have h68 := Al.up e14 h39
                have h69 := Al.up e14 h41
                have h70 := R.up e14 h38
                have E14 := E10.trans e14
                obtain ⟨G15, e15, S20, h71⟩ := frz_M S19 h66
                have h72 := R.up e15 h67
                have h73 := Al.up e15 h68
                have h74 := Al.up e15 h69
                have h75 := R.up e15 h70
                have E15 := E14.trans e15
                refine gS_AsgN ?_
                refine gCall ?_
                refine gCons' ?_
                refine gV rfl ?_
                refine gNil' ?_
                obtain ⟨r6, hq11, hm18⟩ := bindS hm15
                refine ⟨G15, ((a1, HO.lst w14) :: (a2, HO.lst w6) :: O), v6, x3, rfl, S20, ((cv_MQ (K := K) (fun _ _ => (cv_MQ (K := K) (fun _ _ => (fun h => h))))) h75), r6, hq11, fun v10 G16 H17 e16 S21 h76 => ?_⟩
                have h77 := R.up e16 h72
                have h78 := Al.up e16 h73
                have h79 := Al.up e16 h74
                have h80 := R.up e16 h75
                have h81 := R.up e16 h71
                have E16 := E15.trans e16
                refine gS_IfS ?_
                obtain ⟨x5, hq16, hm23⟩ := bindS hm18
                refine gCT (fun (b : Bool) (H : Hp) => ∃ (G : Hp), Ext G16 G ∧ Sub G ((a1, HO.lst w14) :: (a2, HO.lst w6) :: O) H ∧ b = x5) ?_ ?_
                · skip
                  refine gOr ?_
                  refine gNot ?_
                  refine gB ?_
                  refine gCall ?_
                  refine gCons' ?_
                  refine gV rfl ?_
                  refine gCons' ?_
                  refine gCall ?_
                  refine gCons' ?_
                  refine gV rfl ?_
                  refine gNil' ?_
                  obtain ⟨r13, hq19, hm26⟩ := bindS hq16
                  refine ⟨G16, ((a1, HO.lst w14) :: (a2, HO.lst w6) :: O), (V.ref D3), acc1, rfl, S21, h81, r13, hq19, fun v14 G23 H24 e23 S28 h121 => ?_⟩
                  have h122 := R.up e23 h77
                  have h123 := Al.up e23 h78
                  have h124 := Al.up e23 h79
                  have h125 := R.up e23 h80
                  have h126 := R.up e23 h81
                  have h127 := R.up e23 h76
                  have E23 := E16.trans e23
                  refine gNil' ?_
                  obtain ⟨r14, hq20, hm27⟩ := bindS hm26
                  refine ⟨G23, ((a1, HO.lst w14) :: (a2, HO.lst w6) :: O), v10, r6, v14, r13, rfl, S28, h127, h121, r14, hq20, fun G24 H25 e24 S29 => ?_⟩
                  have h128 := R.up e24 h122
                  have h129 := Al.up e24 h123
                  have h130 := Al.up e24 h124
                  have h131 := R.up e24 h125
                  have h132 := R.up e24 h126
                  have h133 := R.up e24 h127
                  have E24 := E23.trans e24
                  refine ⟨r14, rfl, ?_⟩
                  refine ite2 (fun c2 => ?_) (fun c2 => ?_)
                  · skip
                    have hm28 := (if_pos c2).symm.trans hm27
                    cases hm28
                    exact ⟨G24, (e23.trans e24), S29, rfl⟩
                  · skip
                    have hm29 := (if_neg c2).symm.trans hm27
                    refine gTest ?_
                    refine gOp ?_
                    refine gV rfl ?_
                    refine gV rfl ?_
                    refine q_neD (dM (dM (dP2 (dInt (K := K)) (dInt (K := K))))) (by show 5 ≤ 64; decide) (R.up S29.ext h131) (R.up S29.ext h132) ((okM (okM (okP2 okI okI))) _) ((okM (okM (okP2 okI okI))) _) ?_
                    refine ⟨(!decide (x3 = acc1)), rfl, ?_⟩
                    cases hm29
                    exact ⟨G24, (e23.trans e24), S29, rfl⟩
                · intro b3 H26 hJ
                  obtain ⟨G25, e25, S30, rfl⟩ := hJ
                  have h134 := R.up e25 h77
                  have h135 := Al.up e25 h78
                  have h136 := Al.up e25 h79
                  have h137 := R.up e25 h80
                  have h138 := R.up e25 h81
                  have h139 := R.up e25 h76
                  have E25 := E16.trans e25
                  refine ite2 (fun c3 => ?_) (fun c3 => ?_)
                  · skip
                    have hm30 := (if_pos c3).symm.trans hm23
                    refine gRet ?_
                    refine gC ?_
                    have S31 := S30.tail
                    have S32 := S31.tail
                    cases hm30
                    have hr4 := Option.some.inj (show some (Fl.rt _) = some res2 from hr2)
                    subst hr4
                    dsimp only at hm6
                    cases hm6
                    have hr5 := Option.some.inj (show some (Fl.rt _) = some res1 from hr1)
                    subst hr5
                    dsimp only at hm2
                    cases hm2
                    exact q G25 H26 E25 S32
                  · skip
                    have hm31 := (if_neg c3).symm.trans hm23
                    refine gNext ?_
                    refine gE ?_
                    refine gS_IfS ?_
                    refine gTest ?_
                    refine gOp ?_
                    refine gCall ?_
                    refine gCons' ?_
                    refine gCB ?_
                    refine gCons' ?_
                    refine gLc ?_
                    refine gIL ?_
                    refine gV rfl ?_
                    obtain ⟨acc4, hq21, hm32⟩ := bindS hm31
                    refine lc_L (r := (rM (rP2 K rInt rInt))) S30 (rM_L (K := K) h137) hq21 (fun (D : Addr) (s : (List (List (Int × Int)))) (H : Hp) => ∃ (G : Hp) (w19 : List V), Ext G25 G ∧ Sub G ((D, HO.lst w19) :: (a1, HO.lst w14) :: (a2, HO.lst w6) :: O) H ∧ Al (rT K (rP2 K rInt rInt)) G w19 s) ?_ ?_ ?_ ?_
                    · intro D4 nD2
                      exact ⟨G25, [], Ext.refl _, S30.newOwn nD2, True.intro⟩
                    · intro D s H hI
                      obtain ⟨G, k21, ie, iS, _⟩ := hI
                      exact ie.trans iS.ext
                    · intro D5 i4 x6 acc5 s6 hb4 hr6 v16 H28 hI5 h149
                      obtain ⟨G27, w20, e27, S34, h150⟩ := hI5
                      have h151 := R.up e27 h134
                      have h152 := Al.up e27 h135
                      have h153 := Al.up e27 h136
                      have h154 := R.up e27 h137
                      have h155 := R.up e27 h138
                      have h156 := R.up e27 h139
                      have h157 := R.up e27 (rM_L (K := K) h137)
                      have E27 := E25.trans e27
                      have h158 := R.up e27 h149
                      refine ⟨rfl, ?_⟩
                      have hm33 : (Option.bind (appM acc5 x6) fun acc6 =>   some acc6) = some s6 := hb4
                      refine gYes ?_
                      refine iteT ?_
                      refine gCB ?_
                      refine gCons' ?_
                      refine gV rfl ?_
                      refine gNil' ?_
                      refine q_tupL S34 (rM_L (K := K) h158) (fun v17 G28 H29 e28 S35 h159 => ?_)
                      have h160 := R.up e28 h151
                      have h161 := Al.up e28 h152
                      have h162 := Al.up e28 h153
                      have h163 := R.up e28 h154
                      have h164 := R.up e28 h155
                      have h165 := R.up e28 h158
                      have h166 := R.up e28 h156
                      have h167 := R.up e28 h157
                      have h168 := Al.up e28 h150
                      have E28 := E27.trans e28
                      obtain ⟨acc6, hq22, hm34⟩ := bindS hm33
                      refine q_lcEl S35 h168 (show R.rel (rT K (rP2 K rInt rInt)) G28 v17 x6 from h159) hq22 (fun H30 w21 S36 h169 => ?_)
                      cases hm34
                      exact ⟨_, ⟨G28, w21, (e27.trans e28), S36, h169⟩, hr6⟩
                    · intro D6 H31 hI6
                      obtain ⟨G29, w22, e29, S37, h170⟩ := hI6
                      have h171 := R.up e29 h134
                      have h172 := Al.up e29 h135
                      have h173 := Al.up e29 h136
                      have h174 := R.up e29 h137
                      have h175 := R.up e29 h138
                      have h176 := R.up e29 h139
                      have E29 := E25.trans e29
                      refine gNil' ?_
                      refine q_tupO S37 h170 (fun v18 G30 H32 e30 S38 h177 => ?_)
                      have h178 := R.up e30 h171
                      have h179 := Al.up e30 h172
                      have h180 := Al.up e30 h173
                      have h181 := R.up e30 h174
                      have h182 := R.up e30 h175
                      have h183 := R.up e30 h176
                      have E30 := E29.trans e30
                      refine gNil' ?_
                      obtain ⟨r15, hq23, hm35⟩ := bindS hm32
                      refine ⟨G30, ((D6, HO.lst w22) :: (a1, HO.lst w14) :: (a2, HO.lst w6) :: O), v18, acc4, rfl, S38, ((cv_TQ (K := K) (fun _ _ => (cv_TQ (K := K) (fun _ _ => (fun h => h))))) h177), r15, hq23, fun v19 G31 H33 e31 S39 h184 => ?_⟩
                      have h185 := R.up e31 h178
                      have h186 := Al.up e31 h179
                      have h187 := Al.up e31 h180
                      have h188 := R.up e31 h181
                      have h189 := R.up e31 h182
                      have h190 := R.up e31 h183
                      have E31 := E30.trans e31
                      refine gV rfl ?_
                      refine q_neD (dT (dEn (K := K) e_Ink e_Ink_inj e_Ink_ok)) (by show 2 ≤ 64; decide) (R.up S39.ext h184) (R.up S39.ext h190) ((okT okEn) _) ((okT okEn) _) ?_
                      refine ⟨(!decide (r15 = r6)), rfl, ?_⟩
                      refine ite2 (fun c4 => ?_) (fun c4 => ?_)
                      · skip
                        have hm36 := (if_pos c4).symm.trans hm35
                        refine gRet ?_
                        refine gC ?_
                        have S40 := S39.tail
                        have S41 := S40.tail
                        have S42 := S41.tail
                        cases hm36
                        have hr7 := Option.some.inj (show some (Fl.rt _) = some res2 from hr2)
                        subst hr7
                        dsimp only at hm6
                        cases hm6
                        have hr8 := Option.some.inj (show some (Fl.rt _) = some res1 from hr1)
                        subst hr8
                        dsimp only at hm2
                        cases hm2
                        exact q G31 H33 E31 S42
                      · skip
                        have hm37 := (if_neg c4).symm.trans hm35
                        refine gNext ?_
                        refine gE ?_
                        refine gDrop ?_
                        refine gBM ?_
                        refine gV rfl ?_
                        have S43 : Sub G31 ((a2, HO.lst w6) :: (D6, HO.lst w22) :: (a1, HO.lst w14) :: O) H33 := S39.front 2 rfl rfl
                        refine ⟨.inl ⟨rfl, _, .inl (.inl S43.head)⟩, ?_⟩
                        refine gCons' ?_
                        refine gV rfl ?_
                        refine gNil' ?_
                        obtain ⟨inks3, hq24, hm38⟩ := bindS hm37
                        refine q_app S43 h187 (show R.rel (rT K (rEn e_Ink)) G31 v10 r6 from h190) hq24 (fun H34 w23 S44 h191 => ?_)
                        have S45 : Sub G31 ((D6, HO.lst w22) :: (a2, HO.lst w23) :: (a1, HO.lst w14) :: O) H34 := S44.front 1 rfl rfl
                        have S46 := S45.tail
                        have S47 : Sub G31 ((a1, HO.lst w14) :: (a2, HO.lst w23) :: O) H34 := S46.front 1 rfl rfl
                        cases hm38
                        exact ⟨(bag_here5, inks3), ⟨G31, w14, w23, _, _, _, _, _, _, _, ((((((((e3.trans e10).trans e14).trans e15).trans e16).trans e25).trans e29).trans e30).trans e31), S47, rfl, h186, h191⟩, hr2⟩
          · intro s σ H h1 h2
            obtain ⟨G, k11, k12, k13, k14, k15, k16, k17, k18, k19, ie, irest⟩ := h2
            exact ⟨s, h1, G, k11, k12, k13, k14, k15, k16, k17, k18, k19, (ie), irest⟩
        · intro σ3 H35 hJ1
          obtain ⟨s7, hres1, hJ2⟩ := hJ1
          subst hres1
          obtain ⟨bag_here1, inks1⟩ := s7
          dsimp only at hm6
          obtain ⟨G32, w24, w25, y35, y36, y37, y38, y39, y40, y41, e32, S48, rfl, h192, h193⟩ := hJ2
          have h194 := R.up e32 h5
          have E32 := E2.trans e32
          have S49 : Sub G32 ((a2, HO.lst w25) :: (a1, HO.lst w24) :: O) H35 := S48.front 1 rfl rfl
          obtain ⟨G33, e33, S50, h195⟩ := frz_M S49 h193
          have h196 := R.up e33 h194
          have h197 := Al.up e33 h192
          have E33 := E32.trans e33
          obtain ⟨res3, hl3, hm39⟩ := bindS hm6
          refine gCS (fun (σ : L2.St) (H : Hp) => ∃ s : Unit, res3 = Fl.nx s ∧ ∃ (G : Hp) (y42 : Option V) (y43 : Option V) (y44 : Option V) (y45 : Option V) (y46 : Option V) (y47 : Option V) (y48 : Option V), Ext G33 G ∧ Sub G ((a1, HO.lst w24) :: O) H ∧ σ = [some v1, some (V.int x1), some (V.ref a1), some (V.ref a2), y42, y43, y44, y45, y46, y47, y48]) ?_ ?_
          · skip
            refine gFor ?_
            refine gIL ?_
            refine gV rfl ?_
            refine lp_L (r := (rT K (rEn e_Ink))) S50 (rM_L (K := K) h195) hl3 (fun (s : Unit) (σ : L2.St) (H : Hp) => ∃ (G : Hp) (y42 : Option V) (y43 : Option V) (y44 : Option V) (y45 : Option V) (y46 : Option V) (y47 : Option V) (y48 : Option V), Ext G33 G ∧ Sub G ((a1, HO.lst w24) :: O) H ∧ σ = [some v1, some (V.int x1), some (V.ref a1), some (V.ref a2), y42, y43, y44, y45, y46, y47, y48]) ⟨G33, _, _, _, _, _, _, _, (Ext.refl _), S50, rfl⟩ ?_ ?_ ?_
            · intro s σ H hI
              obtain ⟨G, k22, k23, k24, k25, k26, k27, k28, ie, iS, _⟩ := hI
              exact ie.trans iS.ext
            · intro i5 x7 s8 b4 hb5 hr9 v20 σ4 H36 hI7 h198
              obtain ⟨G34, y49, y50, y51, y52, y53, y54, y55, e34, S51, rfl⟩ := hI7
              have h199 := R.up e34 h196
              have h200 := Al.up e34 h197
              have h201 := R.up e34 h195
              have h202 := R.up e34 (rM_L (K := K) h195)
              have E34 := E33.trans e34
              have h203 := R.up e34 h198
              have hm40 : (Option.bind (forL (m_law_b6 x7) inks1 ()) fun res => match res with   | Fl.rt r => some (Bf.rt r)   | Fl.nx _ => some (Bf.go ())) = some b4 := hb5
              obtain ⟨res4, hl4, hm41⟩ := bindS hm40
              refine gCS (fun (σ : L2.St) (H : Hp) => ∃ s : Unit, res4 = Fl.nx s ∧ ∃ (G : Hp) (y56 : Option V) (y57 : Option V) (y58 : Option V) (y59 : Option V) (y60 : Option V) (y61 : Option V), Ext G34 G ∧ Sub G ((a1, HO.lst w24) :: O) H ∧ σ = [some v1, some (V.int x1), some (V.ref a1), some (V.ref a2), y56, y57, y58, y59, y60, some v20, y61]) ?_ ?_
              · skip
                refine gFor ?_
                refine gIL ?_
                refine gV rfl ?_
                refine lp_L (r := (rT K (rEn e_Ink))) S51 (rM_L (K := K) h201) hl4 (fun (s : Unit) (σ : L2.St) (H : Hp) => ∃ (G : Hp) (y56 : Option V) (y57 : Option V) (y58 : Option V) (y59 : Option V) (y60 : Option V) (y61 : Option V), Ext G34 G ∧ Sub G ((a1, HO.lst w24) :: O) H ∧ σ = [some v1, some (V.int x1), some (V.ref a1), some (V.ref a2), y56, y57, y58, y59, y60, some v20, y61]) ⟨G34, _, _, _, _, _, _, (Ext.refl _), S51, rfl⟩ ?_ ?_ ?_
                · intro s σ H hI
                  obtain ⟨G, k29, k30, k31, k32, k33, k34, ie, iS, _⟩ := hI
                  exact ie.trans iS.ext
                · intro i6 x8 s9 b5 hb6 hr10 v21 σ5 H37 hI8 h204
                  obtain ⟨G35, y62, y63, y64, y65, y66, y67, e35, S52, rfl⟩ := hI8
                  have h205 := R.up e35 h199
                  have h206 := Al.up e35 h200
                  have h207 := R.up e35 h201
                  have h208 := R.up e35 h203
                  have h209 := R.up e35 h202
                  have h210 := R.up e35 (rM_L (K := K) h201)
                  have E35 := E34.trans e35
                  have h211 := R.up e35 h204
                  have hm42 : (Option.bind (m_law_blanks_stand x7 x8) fun r17 =>   if (!r17) then (some (Bf.rt false))   else (some (Bf.go ()))) = some b5 := hb6
                  refine gIfS ?_
                  refine gNot ?_
                  refine gB ?_
                  refine gCall ?_
                  refine gCons' ?_
                  refine gV rfl ?_
                  refine gCons' ?_
                  refine gV rfl ?_
                  refine gNil' ?_
                  obtain ⟨r17, hq26, hm44⟩ := bindS hm42
                  refine ⟨G35, ((a1, HO.lst w24) :: O), v20, x7, v21, x8, rfl, S52, h208, h211, r17, hq26, fun G37 H39 e37 S54 => ?_⟩
                  have h219 := R.up e37 h205
                  have h220 := Al.up e37 h206
                  have h221 := R.up e37 h207
                  have h222 := R.up e37 h208
                  have h223 := R.up e37 h211
                  have h224 := R.up e37 h209
                  have h225 := R.up e37 h210
                  have E37 := E35.trans e37
                  refine ⟨r17, rfl, ?_⟩
                  refine ite2 (fun c5 => ?_) (fun c5 => ?_)
                  · skip
                    have hm45 := (if_pos c5).symm.trans hm44
                    refine gRet ?_
                    refine gC ?_
                    have S55 := S54.tail
                    cases hm45
                    have hr11 := Option.some.inj (show some (Fl.rt _) = some res4 from hr10)
                    subst hr11
                    dsimp only at hm41
                    cases hm41
                    have hr12 := Option.some.inj (show some (Fl.rt _) = some res3 from hr9)
                    subst hr12
                    dsimp only at hm39
                    cases hm39
                    have hr13 := Option.some.inj (show some (Fl.rt _) = some res1 from hr1)
                    subst hr13
                    dsimp only at hm2
                    cases hm2
                    exact q G37 H39 E37 S55
                  · skip
                    have hm46 := (if_neg c5).symm.trans hm44
                    refine gNext ?_
                    cases hm46
                    exact ⟨_, ⟨G37, _, _, _, _, _, _, (e35.trans e37), S54, rfl⟩, hr10⟩
                · intro s σ H h1 h2
                  obtain ⟨G, k29, k30, k31, k32, k33, k34, ie, irest⟩ := h2
                  exact ⟨s, h1, G, k29, k30, k31, k32, k33, k34, (ie), irest⟩
              · intro σ6 H40 hJ3
                obtain ⟨s10, hres2, hJ4⟩ := hJ3
                subst hres2
                dsimp only at hm41
                obtain ⟨G38, y68, y69, y70, y71, y72, y73, e38, S56, rfl⟩ := hJ4
                have h226 := R.up e38 h199
                have h227 := Al.up e38 h200
                have h228 := R.up e38 h201
                have h229 := R.up e38 h203
                have h230 := R.up e38 h202
                have E38 := E34.trans e38
                cases hm41
                exact ⟨_, ⟨G38, _, _, _, _, _, _, _, (e34.trans e38), S56, rfl⟩, hr9⟩
            · intro s σ H h1 h2
              obtain ⟨G, k22, k23, k24, k25, k26, k27, k28, ie, irest⟩ := h2
              exact ⟨s, h1, G, k22, k23, k24, k25, k26, k27, k28, (ie), irest⟩
          · intro σ7 H41 hJ5
            obtain ⟨s11, hres3, hJ6⟩ := hJ5
            subst hres3
            dsimp only at hm39
            obtain ⟨G39, y74, y75, y76, y77, y78, y79, y80, e39, S57, rfl⟩ := hJ6
            have h231 := R.up e39 h196
            have h232 := Al.up e39 h197
            have h233 := R.up e39 h195
            have E39 := E33.trans e39
            have S58 := S57.tail
            cases hm39
            exact ⟨_, ⟨G39, _, _, _, _, _, _, _, _, _, _, ((((e1.trans e2).trans e32).trans e33).trans e39), S58, rfl⟩, hr1⟩
      · intro s σ H h1 h2
        obtain ⟨G, k1, k2, k3, k4, k5, k6, k7, k8, k9, k10, ie, irest⟩ := h2
        exact ⟨s, h1, G, k1, k2, k3, k4, k5, k6, k7, k8, k9, k10, (ie), irest⟩
    · intro σ8 H42 hJ7
      obtain ⟨s12, hres4, hJ8⟩ := hJ7
      subst hres4
      dsimp only at hm2
      obtain ⟨G40, y81, y82, y83, y84, y85, y86, y87, y88, y89, y90, e40, S59, rfl⟩ := hJ8
      have h234 := R.up e40 h1
      have E40 := E0.trans e40
      refine gRet ?_
      refine gC ?_
      cases hm2
      exact q G40 H42 E40 S59
end
end Mr

set_option linter.all false
set_option maxRecDepth 100000
set_option maxHeartbeats 1000000
/-! DrawP: the law's source of draws. -/
namespace Mr
theorem bindOk {α β : Type} {o : Option α} {f : α → Option β} {a : α} {r : Option β} (h : o = some a) (h2 : f a = r) : o.bind f = r := by
  subst h; exact h2
theorem modM_pos {a b : Int} (h : 0 < b) : modM a b = some (a % b) := if_pos h
theorem fdivM_ok {a b : Int} (h : 0 < b) (h2 : b.natAbs.log2 < 9000) : fdivM a b = some (a / b) := if_pos ⟨h, h2⟩
theorem appM_ok {α : Type} {xs : List α} {x : α} (h : xs.length < 100000) : appM xs x = some (xs ++ [x]) := if_pos h
theorem getM_nat {α : Type} {xs : List α} {j : Nat} {x : α} (h : xs[j]? = some x) : getM xs (j : Int) = some x := by
  have hj : j < xs.length := (List.getElem?_eq_some_iff.mp h).1
  unfold getM ixM
  rw [if_pos (by omega), if_pos (by omega)]
  simpa using h
theorem rngM_ok {n : Int} (h : 0 ≤ n) (h2 : n < 2 ^ 62) : rngM n = some ((List.range n.toNat).map fun (i : Nat) => (i : Int)) := if_pos ⟨by omega, h2⟩
theorem folM_inv {α σ : Type} {f : σ → α → Option σ} (P : σ → Prop) : ∀ (xs : List α) (s : σ), P s → (∀ x ∈ xs, ∀ s, P s → ∃ s', f s x = some s' ∧ P s') → ∃ s', folM f xs s = some s' ∧ P s'
  | [], s, h, _ => ⟨s, rfl, h⟩
  | x :: xs, s, h, hs => by
    obtain ⟨s1, h1, p1⟩ := hs x (List.mem_cons_self ..) s h
    obtain ⟨s2, h2, p2⟩ := folM_inv P xs s1 p1 fun y hy => hs y (List.mem_cons_of_mem _ hy)
    exact ⟨s2, bindOk h1 h2, p2⟩
theorem forL_inv {α σ ρ : Type} {f : σ → α → Option (Bf σ ρ)} (P : σ → Prop) : ∀ (xs : List α) (s : σ), P s → (∀ x ∈ xs, ∀ s, P s → ∃ s', f s x = some (.go s') ∧ P s') → ∃ s', forL f xs s = some (.nx s') ∧ P s'
  | [], s, h, _ => ⟨s, rfl, h⟩
  | x :: xs, s, h, hs => by
    obtain ⟨s1, h1, p1⟩ := hs x (List.mem_cons_self ..) s h
    obtain ⟨s2, h2, p2⟩ := forL_inv P xs s1 p1 fun y hy => hs y (List.mem_cons_of_mem _ hy)
    exact ⟨s2, bindOk h1 h2, p2⟩
/-- all turns go on -/
def goL {α σ ρ : Type} (f : σ → α → Option (Bf σ ρ)) : List α → σ → Option σ
  | [], s => some s
  | x :: xs, s => match f s x with
    | some (.go s') => goL f xs s'
    | _ => none
theorem goL_cons {α σ ρ : Type} {f : σ → α → Option (Bf σ ρ)} {x : α} {xs : List α} {s s' : σ} (h : f s x = some (.go s')) : goL f (x :: xs) s = goL f xs s' := by
  show (match f s x with
    | some (.go s') => goL f xs s'
    | _ => none) = _
  rw [h]
theorem goL_for {α σ ρ : Type} {f : σ → α → Option (Bf σ ρ)} : ∀ {xs : List α} {s r : σ}, goL f xs s = some r → forL f xs s = some (.nx r)
  | [], s, r, h => by cases h; rfl
  | x :: xs, s, r, h => by
    have h' : (match f s x with
      | some (.go s') => goL f xs s'
      | _ => none) = some r := h
    split at h'
    · rename_i s' e
      exact bindOk e (goL_for h')
    · cases h'
theorem goL_app {α σ ρ : Type} {f : σ → α → Option (Bf σ ρ)} : ∀ {xs ys : List α} {s s1 : σ}, goL f xs s = some s1 → goL f (xs ++ ys) s = goL f ys s1
  | [], ys, s, s1, h => by cases h; rfl
  | x :: xs, ys, s, s1, h => by
    have h' : (match f s x with
      | some (.go s') => goL f xs s'
      | _ => none) = some s1 := h
    split at h'
    · rename_i s' e
      rw [List.cons_append, goL_cons e]
      exact goL_app h'
    · cases h'
theorem enumF_app {α : Type} : ∀ (xs ys : List α) (k : Nat), enumF k (xs ++ ys) = enumF k xs ++ enumF (k + xs.length) ys
  | [], ys, k => rfl
  | x :: xs, ys, k => by
    show ((k : Int), x) :: enumF (k + 1) (xs ++ ys) = ((k : Int), x) :: (enumF (k + 1) xs ++ enumF (k + (xs.length + 1)) ys)
    rw [enumF_app xs ys (k + 1)]
    have e : k + 1 + xs.length = k + (xs.length + 1) := by omega
    rw [e]
theorem log2_lt {n m : Nat} (h : n < 2 ^ m) (hm : 0 < m) : n.log2 < m := by
  by_cases h0 : n = 0
  · subst h0; simpa using hm
  · exact (Nat.log2_lt h0).mpr h

/-! ### bags -/
def BagOk (b : List Int) : Prop := ∃ g m c : Int, b = [g, m, c]
theorem draw_ok {b : List Int} {n : Int} (hb : BagOk b) (h0 : 0 < n) (h1 : n < 2 ^ 60) : ∃ x b', m_law_draw b n = some (x, b') ∧ 0 ≤ x ∧ x < n ∧ BagOk b' := by
  obtain ⟨g, m, c, rfl⟩ := hb
  have hl : n.natAbs.log2 < 9000 := Nat.lt_of_lt_of_le (log2_lt (m := 60) (by omega) (by decide)) (by decide)
  unfold m_law_draw
  by_cases hg : decide (g > 0) = true
  · exact ⟨g % n, [g / n, m, c], bindOk (a := g) rfl ((if_pos hg).trans (bindOk (a := g) rfl (bindOk (modM_pos h0) (bindOk (a := g) rfl (bindOk (fdivM_ok h0 hl) (bindOk (a := [g / n, m, c]) rfl rfl)))))),
      Int.emod_nonneg _ (by omega), Int.emod_lt_of_pos _ h0, _, _, _, rfl⟩
  · refine ⟨_, [g, (m * 48271 + 11 * (c + 1) + 7) % 2147483647, c + 1], bindOk (a := g) rfl ((if_neg hg).trans (bindOk (a := c) rfl (bindOk (a := [g, m, c + 1]) rfl (bindOk (a := m) rfl (bindOk (a := c + 1) rfl (bindOk (a := [g, (m * 48271 + 11 * (c + 1) + 7) % 2147483647, c + 1]) rfl
      (bindOk (a := (m * 48271 + 11 * (c + 1) + 7) % 2147483647) rfl (bindOk (a := c + 1) rfl (bindOk (modM_pos h0) rfl))))))))), ?_, ?_, _, _, _, rfl⟩
    · exact Int.emod_nonneg _ (by omega)
    · exact Int.emod_lt_of_pos _ h0
theorem bag_ok {ns : List Int} {j : Nat} : ∃ b, m_law_bag ns (j : Int) = some b ∧ BagOk b := by
  unfold m_law_bag
  obtain ⟨m, hm, _⟩ := folM_inv (f := m_law_bag_b1) (fun _ => True) (enumM (cutM ns none (some (63 : Int)))) ((1009 : Int) + ((77 : Int) * (j : Int))) True.intro (fun x _ s _ => ⟨_, rfl, True.intro⟩)
  by_cases h : decide ((j : Int) < (ns.length : Int)) = true
  · have hj : j < ns.length := by have := of_decide_eq_true h; omega
    exact ⟨_, bindOk ((if_pos h).trans (bindOk (getM_nat (List.getElem?_eq_getElem hj)) rfl)) (bindOk hm rfl), _, _, _, rfl⟩
  · exact ⟨_, bindOk (if_neg h) (bindOk hm rfl), _, _, _, rfl⟩
end Mr

set_option linter.all false
set_option maxRecDepth 100000
set_option maxHeartbeats 4000000
/-! Geo: crossings and turns, by numbers. -/
namespace Mr
def Cn (b d X : Int) : Int := if b < 0 ∧ 0 < d ∧ 0 < X then 1 else if d < 0 ∧ 0 < b ∧ X < 0 then -1 else 0
def Tn (b d X : Int) : Int := if 0 < X then 1 else if X < 0 then -1 else if d < b then 1 else if b < d then -1 else 0
theorem Cn_anti (b d X : Int) : Cn d b (-X) = - Cn b d X := by
  unfold Cn
  repeat' split
  all_goals omega
theorem sgp {u v : Int} (h : 0 < u) : (0 < v ∧ 0 < u * v) ∨ (v = 0 ∧ u * v = 0) ∨ (v < 0 ∧ u * v < 0) := by
  rcases Int.lt_trichotomy v 0 with k | k | k
  · exact .inr (.inr ⟨k, Int.mul_neg_of_pos_of_neg h k⟩)
  · exact .inr (.inl ⟨k, by rw [k]; simp⟩)
  · exact .inl ⟨k, Int.mul_pos h k⟩
theorem sgm {u v : Int} (h : u < 0) : (0 < v ∧ u * v < 0) ∨ (v = 0 ∧ u * v = 0) ∨ (v < 0 ∧ 0 < u * v) := by
  rcases Int.lt_trichotomy v 0 with k | k | k
  · exact .inr (.inr ⟨k, Int.mul_pos_of_neg_of_neg h k⟩)
  · exact .inr (.inl ⟨k, by rw [k]; simp⟩)
  · exact .inl ⟨k, Int.mul_neg_of_neg_of_pos h k⟩
theorem Tn_p {b d X : Int} (h : 0 < X) : Tn b d X = 1 := if_pos h
theorem Tn_m {b d X : Int} (h : X < 0) : Tn b d X = -1 := (if_neg (by omega)).trans (if_pos h)
theorem Tn_0 {b d X : Int} (h : X = 0) : (d < b ∧ Tn b d X = 1) ∨ (b < d ∧ Tn b d X = -1) ∨ (b = d ∧ Tn b d X = 0) := by
  have e : Tn b d X = if d < b then 1 else if b < d then -1 else 0 := (if_neg (by omega)).trans (if_neg (by omega))
  rw [e]
  rcases Int.lt_trichotomy b d with k | k | k
  · exact .inr (.inl ⟨k, (if_neg (by omega)).trans (if_pos k)⟩)
  · exact .inr (.inr ⟨k, (if_neg (by omega)).trans (if_neg (by omega))⟩)
  · exact .inl ⟨k, if_pos k⟩
theorem Cn_1 {b d X : Int} (h1 : b < 0) (h2 : 0 < d) (h3 : 0 < X) : Cn b d X = 1 := if_pos ⟨h1, h2, h3⟩
theorem Cn_2 {b d X : Int} (h1 : d < 0) (h2 : 0 < b) (h3 : X < 0) : Cn b d X = -1 := (if_neg (by omega)).trans (if_pos ⟨h1, h2, h3⟩)
theorem Cn_3 {b d X : Int} (h : ¬ (b < 0 ∧ 0 < d ∧ 0 < X)) (h2 : ¬ (d < 0 ∧ 0 < b ∧ X < 0)) : Cn b d X = 0 := (if_neg h).trans (if_neg h2)
/-- what is known of a side: its crossing, its turn -/
theorem side {b d X : Int} : (0 < X ∧ Tn b d X = 1 ∧ ((b < 0 ∧ 0 < d ∧ Cn b d X = 1) ∨ (¬ (b < 0 ∧ 0 < d) ∧ Cn b d X = 0))) ∨ (X < 0 ∧ Tn b d X = -1 ∧ ((d < 0 ∧ 0 < b ∧ Cn b d X = -1) ∨ (¬ (d < 0 ∧ 0 < b) ∧ Cn b d X = 0))) ∨
    (X = 0 ∧ Cn b d X = 0 ∧ ((d < b ∧ Tn b d X = 1) ∨ (b < d ∧ Tn b d X = -1) ∨ (b = d ∧ Tn b d X = 0))) := by
  rcases Int.lt_trichotomy X 0 with k | k | k
  · refine .inr (.inl ⟨k, Tn_m k, ?_⟩)
    by_cases h : d < 0 ∧ 0 < b
    · exact .inl ⟨h.1, h.2, Cn_2 h.1 h.2 k⟩
    · exact .inr ⟨h, Cn_3 (by omega) (by omega)⟩
  · exact .inr (.inr ⟨k, Cn_3 (by omega) (by omega), Tn_0 k⟩)
  · refine .inl ⟨k, Tn_p k, ?_⟩
    by_cases h : b < 0 ∧ 0 < d
    · exact .inl ⟨h.1, h.2, Cn_1 h.1 h.2 k⟩
    · exact .inr ⟨h, Cn_3 (by omega) (by omega)⟩
theorem triN {b d f X Y Z p q r c1 c2 c3 t1 t2 t3 : Int} (h : p + q + r = 0)
    (sb : (0 < b ∧ ((0 < Y ∧ 0 < p) ∨ (Y = 0 ∧ p = 0) ∨ (Y < 0 ∧ p < 0))) ∨ (b < 0 ∧ ((0 < Y ∧ p < 0) ∨ (Y = 0 ∧ p = 0) ∨ (Y < 0 ∧ 0 < p))))
    (sd : (0 < d ∧ ((0 < Z ∧ 0 < q) ∨ (Z = 0 ∧ q = 0) ∨ (Z < 0 ∧ q < 0))) ∨ (d < 0 ∧ ((0 < Z ∧ q < 0) ∨ (Z = 0 ∧ q = 0) ∨ (Z < 0 ∧ 0 < q))))
    (sf : (0 < f ∧ ((0 < X ∧ 0 < r) ∨ (X = 0 ∧ r = 0) ∨ (X < 0 ∧ r < 0))) ∨ (f < 0 ∧ ((0 < X ∧ r < 0) ∨ (X = 0 ∧ r = 0) ∨ (X < 0 ∧ 0 < r))))
    (h1 : (0 < X ∧ t1 = 1 ∧ ((b < 0 ∧ 0 < d ∧ c1 = 1) ∨ (¬ (b < 0 ∧ 0 < d) ∧ c1 = 0))) ∨ (X < 0 ∧ t1 = -1 ∧ ((d < 0 ∧ 0 < b ∧ c1 = -1) ∨ (¬ (d < 0 ∧ 0 < b) ∧ c1 = 0))) ∨ (X = 0 ∧ c1 = 0 ∧ ((d < b ∧ t1 = 1) ∨ (b < d ∧ t1 = -1) ∨ (b = d ∧ t1 = 0))))
    (h2 : (0 < Y ∧ t2 = 1 ∧ ((d < 0 ∧ 0 < f ∧ c2 = 1) ∨ (¬ (d < 0 ∧ 0 < f) ∧ c2 = 0))) ∨ (Y < 0 ∧ t2 = -1 ∧ ((f < 0 ∧ 0 < d ∧ c2 = -1) ∨ (¬ (f < 0 ∧ 0 < d) ∧ c2 = 0))) ∨ (Y = 0 ∧ c2 = 0 ∧ ((f < d ∧ t2 = 1) ∨ (d < f ∧ t2 = -1) ∨ (d = f ∧ t2 = 0))))
    (h3 : (0 < Z ∧ t3 = 1 ∧ ((f < 0 ∧ 0 < b ∧ c3 = 1) ∨ (¬ (f < 0 ∧ 0 < b) ∧ c3 = 0))) ∨ (Z < 0 ∧ t3 = -1 ∧ ((b < 0 ∧ 0 < f ∧ c3 = -1) ∨ (¬ (b < 0 ∧ 0 < f) ∧ c3 = 0))) ∨ (Z = 0 ∧ c3 = 0 ∧ ((b < f ∧ t3 = 1) ∨ (f < b ∧ t3 = -1) ∨ (f = b ∧ t3 = 0)))) :
    c1 + c2 + c3 = if t2 = t1 ∧ t3 = t1 then t1 else 0 := by
  rcases sb with ⟨sb, sY⟩ | ⟨sb, sY⟩ <;> rcases sd with ⟨sd, sZ⟩ | ⟨sd, sZ⟩ <;> rcases sf with ⟨sf, sX⟩ | ⟨sf, sX⟩ <;>
  rcases sY with ⟨sY, sp⟩ | ⟨sY, sp⟩ | ⟨sY, sp⟩ <;> rcases sZ with ⟨sZ, sq⟩ | ⟨sZ, sq⟩ | ⟨sZ, sq⟩ <;> rcases sX with ⟨sX, sr⟩ | ⟨sX, sr⟩ | ⟨sX, sr⟩ <;>
  first
    | (exfalso; clear h1 h2 h3; omega)
    | (clear h sp sq sr
       rcases h1 with ⟨a1, a2, a3⟩ | ⟨a1, a2, a3⟩ | ⟨a1, a3, a2⟩ <;> first | (exfalso; clear h2 h3 a2 a3; omega) | skip
       rcases h2 with ⟨e1, e2, e3⟩ | ⟨e1, e2, e3⟩ | ⟨e1, e3, e2⟩ <;> first | (exfalso; clear h3 a2 a3 e2 e3; omega) | skip
       rcases h3 with ⟨u1, u2, u3⟩ | ⟨u1, u2, u3⟩ | ⟨u1, u3, u2⟩ <;> first | (exfalso; clear a2 a3 e2 e3 u2 u3; omega) | skip
       clear a1 e1 u1 sX sY sZ
       have c1v : c1 = 0 ∨ c1 = 1 ∨ c1 = -1 := by omega
       split <;> omega)
theorem sgb {u v : Int} (h : u ≠ 0) : (0 < u ∧ ((0 < v ∧ 0 < u * v) ∨ (v = 0 ∧ u * v = 0) ∨ (v < 0 ∧ u * v < 0))) ∨ (u < 0 ∧ ((0 < v ∧ u * v < 0) ∨ (v = 0 ∧ u * v = 0) ∨ (v < 0 ∧ 0 < u * v))) := by
  rcases Int.lt_or_gt_of_ne h with k | k
  · exact .inr ⟨k, sgm k⟩
  · exact .inl ⟨k, sgp k⟩
theorem tri {b d f X Y Z : Int} (hb : b ≠ 0) (hd : d ≠ 0) (hf : f ≠ 0) (h : b * Y + d * Z + f * X = 0) :
    Cn b d X + Cn d f Y + Cn f b Z = if Tn d f Y = Tn b d X ∧ Tn f b Z = Tn b d X then Tn b d X else 0 :=
  triN h (sgb hb) (sgb hd) (sgb hf) side side side
end Mr

set_option linter.all false
set_option maxRecDepth 100000
set_option maxHeartbeats 1000000
/-! Geo2: the mirrors of count_of and _law_turn, by numbers. -/
namespace Mr
abbrev Pt := Int × Int
def PtOk (p : Pt) : Prop := 0 ≤ p.1 ∧ p.1 ≤ 4 ∧ 0 ≤ p.2 ∧ p.2 ≤ 4
def Cell (x y : Int) : Prop := 0 ≤ x ∧ x ≤ 3 ∧ 0 ≤ y ∧ y ≤ 3
def hy (y : Int) (p : Pt) : Int := 2 * p.2 - (2 * y + 1)
def hx (x : Int) (p : Pt) : Int := 2 * p.1 - (2 * x + 1)
def Dt (x y : Int) (p q : Pt) : Int := hx x p * hy y q - hy y p * hx x q
def ct (x y : Int) (p q : Pt) : Int := Cn (hy y p) (hy y q) (Dt x y p q)
def tn (x y : Int) (p q : Pt) : Int := Tn (hy y p) (hy y q) (Dt x y p q)
theorem hy_ne (y : Int) (p : Pt) : hy y p ≠ 0 := by unfold hy; omega
theorem Dt_anti (x y : Int) (p q : Pt) : Dt x y q p = - Dt x y p q := by unfold Dt; grind
theorem ct_anti (x y : Int) (p q : Pt) : ct x y q p = - ct x y p q := by
  unfold ct; rw [Dt_anti]; exact Cn_anti _ _ _
theorem tri_id (x y : Int) (p q r : Pt) : hy y p * Dt x y q r + hy y q * Dt x y r p + hy y r * Dt x y p q = 0 := by unfold Dt; grind
theorem tri_ct (x y : Int) (p q r : Pt) : ct x y p q + ct x y q r + ct x y r p = if tn x y q r = tn x y p q ∧ tn x y r p = tn x y p q then tn x y p q else 0 :=
  tri (hy_ne y p) (hy_ne y q) (hy_ne y r) (tri_id x y p q r)
theorem mulM_ok {a b : Int} (h : -1000 ≤ a ∧ a ≤ 1000) : mulM a b = some (a * b) := if_pos (.inl ⟨by omega, by omega⟩)
theorem id1 (x y p1 p2 q1 q2 : Int) : 2 * ((2 * p1) * (q2 - p2) + (q1 - p1) * (2 * y + 1 - 2 * p2) - (2 * x + 1) * (q2 - p2)) = (2 * p1 - (2 * x + 1)) * (2 * q2 - (2 * y + 1)) - (2 * p2 - (2 * y + 1)) * (2 * q1 - (2 * x + 1)) := by grind
theorem id2 (x y p1 p2 q1 q2 : Int) : 2 * ((q1 - p1) * (2 * y + 1 - 2 * p2) - (q2 - p2) * (2 * x + 1 - 2 * p1)) = (2 * p1 - (2 * x + 1)) * (2 * q2 - (2 * y + 1)) - (2 * p2 - (2 * y + 1)) * (2 * q1 - (2 * x + 1)) := by grind
theorem turn_ok {x y : Int} {p q : Pt} (hp : PtOk p) (hq : PtOk q) (hc : Cell x y) : m_law_turn p q x y = some (tn x y p q) := by
  obtain ⟨p1, p2⟩ := p
  obtain ⟨q1, q2⟩ := q
  obtain ⟨a1, a2, a3, a4⟩ := hp
  obtain ⟨b1, b2, b3, b4⟩ := hq
  dsimp only at a1 a2 a3 a4 b1 b2 b3 b4
  unfold m_law_turn
  dsimp only
  refine bindOk (mulM_ok (by omega)) (bindOk (mulM_ok (by omega)) ?_)
  have e := id2 x y p1 p2 q1 q2
  show _ = some (Tn (2 * p2 - (2 * y + 1)) (2 * q2 - (2 * y + 1)) ((2 * p1 - (2 * x + 1)) * (2 * q2 - (2 * y + 1)) - (2 * p2 - (2 * y + 1)) * (2 * q1 - (2 * x + 1))))
  rw [← e]
  generalize (q1 - p1) * (2 * y + 1 - 2 * p2) - (q2 - p2) * (2 * x + 1 - 2 * p1) = F
  unfold Tn
  rcases Int.lt_trichotomy F 0 with k | k | k
  · rw [if_neg (by simp; omega), if_neg (by omega), if_pos (by omega)]
    refine bindOk (a := F) rfl ?_
    rw [if_neg (by simp; omega), if_pos (by simpa using k)]; rfl
  · rw [if_pos (by simp; omega), if_neg (by omega), if_neg (by omega)]
    refine bindOk (a := p2 - q2) rfl ?_
    rcases Int.lt_trichotomy p2 q2 with j | j | j
    · rw [if_neg (by simp; omega), if_pos (by simp; omega), if_neg (by omega), if_pos (by omega)]; rfl
    · rw [if_neg (by simp; omega), if_neg (by simp; omega), if_neg (by omega), if_neg (by omega)]; rfl
    · rw [if_pos (by simp; omega), if_neg (by simp; omega), if_pos (by omega)]; rfl
  · rw [if_neg (by simp; omega), if_pos (by omega)]
    refine bindOk (a := F) rfl ?_
    rw [if_pos (by simpa using k), if_neg (by simp; omega)]; rfl
theorem count_ok {x y : Int} {p q : Pt} (hp : PtOk p) (hq : PtOk q) (hc : Cell x y) : m_count_of p q x y = some (ct x y p q) := by
  have hanti := ct_anti x y p q
  obtain ⟨p1, p2⟩ := p
  obtain ⟨q1, q2⟩ := q
  obtain ⟨a1, a2, a3, a4⟩ := hp
  obtain ⟨b1, b2, b3, b4⟩ := hq
  obtain ⟨c1, c2, c3, c4⟩ := hc
  dsimp only at a1 a2 a3 a4 b1 b2 b3 b4
  unfold m_count_of
  dsimp only
  by_cases hle : p2 ≤ q2
  · refine bindOk (if_pos (by simpa using hle)) ?_
    dsimp only
    show _ = some (Cn (2 * p2 - (2 * y + 1)) (2 * q2 - (2 * y + 1)) ((2 * p1 - (2 * x + 1)) * (2 * q2 - (2 * y + 1)) - (2 * p2 - (2 * y + 1)) * (2 * q1 - (2 * x + 1))))
    have e := id1 x y p1 p2 q1 q2
    rw [← e]
    by_cases ht : p2 > y ∨ q2 < y + 1
    · rw [if_pos (by simpa using ht)]
      unfold Cn
      rw [if_neg (by omega), if_neg (by omega)]
    · rw [if_neg (by simpa using ht)]
      refine bindOk (mulM_ok (by omega)) (bindOk (mulM_ok (by omega)) (bindOk (mulM_ok (by omega)) ?_))
      generalize 2 * p1 * (q2 - p2) = u
      generalize (q1 - p1) * (2 * y + 1 - 2 * p2) = v
      generalize (2 * x + 1) * (q2 - p2) = w
      unfold Cn
      by_cases hz : u + v ≤ w
      · rw [if_pos (by simpa using hz), if_neg (by omega), if_neg (by omega)]
      · rw [if_neg (by simpa using hz), if_pos (by simp; omega), if_pos (by omega)]
  · refine bindOk (if_neg (by simpa using hle)) ?_
    dsimp only
    have e1 : ct x y (p1, p2) (q1, q2) = - Cn (2 * q2 - (2 * y + 1)) (2 * p2 - (2 * y + 1)) ((2 * q1 - (2 * x + 1)) * (2 * p2 - (2 * y + 1)) - (2 * q2 - (2 * y + 1)) * (2 * p1 - (2 * x + 1))) := by
      have : ct x y (q1, q2) (p1, p2) = Cn (2 * q2 - (2 * y + 1)) (2 * p2 - (2 * y + 1)) ((2 * q1 - (2 * x + 1)) * (2 * p2 - (2 * y + 1)) - (2 * q2 - (2 * y + 1)) * (2 * p1 - (2 * x + 1))) := rfl
      omega
    rw [e1]
    have e := id1 x y q1 q2 p1 p2
    rw [← e]
    by_cases ht : q2 > y ∨ p2 < y + 1
    · rw [if_pos (by simpa using ht)]
      unfold Cn
      rw [if_neg (by omega), if_neg (by omega)]; rfl
    · rw [if_neg (by simpa using ht)]
      refine bindOk (mulM_ok (by omega)) (bindOk (mulM_ok (by omega)) (bindOk (mulM_ok (by omega)) ?_))
      generalize 2 * q1 * (p2 - q2) = u
      generalize (p1 - q1) * (2 * y + 1 - 2 * q2) = v
      generalize (2 * x + 1) * (p2 - q2) = w
      unfold Cn
      by_cases hz : u + v ≤ w
      · rw [if_pos (by simpa using hz), if_neg (by omega), if_neg (by omega)]; rfl
      · rw [if_neg (by simpa using hz), if_neg (by simp; omega), if_pos (by omega)]
/-! ### rings -/
/-- the sum over neighbours -/
def ps (f : Pt → Pt → Int) : List Pt → Int
  | [] => 0
  | [_] => 0
  | a :: b :: l => f a b + ps f (b :: l)
theorem ps_snoc (f : Pt → Pt → Int) (a b : Pt) : ∀ l : List Pt, ps f (l ++ [a, b]) = ps f (l ++ [a]) + f a b
  | [] => by simp [ps]
  | [c] => by simp [ps]
  | c :: d :: l => by
    have := ps_snoc f a b (d :: l)
    simp only [List.cons_append, ps] at this ⊢
    omega
theorem ps_rev (f : Pt → Pt → Int) (hf : ∀ a b, f b a = - f a b) : ∀ l : List Pt, ps f l.reverse = - ps f l
  | [] => rfl
  | [_] => rfl
  | a :: b :: l => by
    have h := ps_rev f hf (b :: l)
    rw [List.reverse_cons] at h
    rw [List.reverse_cons, List.reverse_cons, List.append_assoc]
    show ps f (l.reverse ++ [b, a]) = _
    rw [ps_snoc, h, hf a b]
    show _ = - (f a b + ps f (b :: l))
    omega
/-- the sum over a ring's sides -/
def rs (f : Pt → Pt → Int) (l : List Pt) : Int := ps f (l ++ l.take 1)
theorem rs_rev (f : Pt → Pt → Int) (hf : ∀ a b, f b a = - f a b) (l : List Pt) : rs f l.reverse = - rs f l := by
  cases l with
  | nil => rfl
  | cons a m =>
    rcases List.eq_nil_or_concat m with rfl | ⟨k, z, rfl⟩
    · have := hf a a
      simp [rs, ps]; omega
    · have e1 : (a :: (k ++ [z])).reverse = z :: (k.reverse ++ [a]) := by simp
      unfold rs
      rw [List.concat_eq_append, e1]
      show ps f ((z :: (k.reverse ++ [a])) ++ [z]) = - ps f ((a :: (k ++ [z])) ++ [a])
      have e2 : (z :: (k.reverse ++ [a])) ++ [z] = (z :: k.reverse) ++ [a, z] := by simp
      have e3 : ((a :: (k ++ [z])) ++ [a]) = (a :: k) ++ [z, a] := by simp
      have r := ps_rev f hf ((a :: k) ++ [z])
      have e4 : ((a :: k) ++ [z]).reverse = (z :: k.reverse) ++ [a] := by simp
      rw [e4] at r
      rw [e2, e3, ps_snoc, ps_snoc, r, hf a z]
      omega
/-- the sides, one behind another -/
theorem fol_zip {x y : Int} (hc : Cell x y) (z : Pt) (hz : PtOk z) : ∀ (l : List Pt) (a : Pt) (t : Int), PtOk a → (∀ p ∈ l, PtOk p) → folM (m_winding_b2 x y) ((a :: l).zip (l ++ [z])) t = some (t + ps (ct x y) (a :: (l ++ [z])))
  | [], a, t, ha, hl => by
    refine bindOk (a := t + ct x y a z) (bindOk (count_ok ha hz hc) rfl) ?_
    simp [folM, ps]
  | b :: l, a, t, ha, hl => by
    refine bindOk (a := t + ct x y a b) (bindOk (count_ok ha (hl b (List.mem_cons_self ..)) hc) rfl) ?_
    have := fol_zip hc z hz l b (t + ct x y a b) (hl b (List.mem_cons_self ..)) fun p hp => hl p (List.mem_cons_of_mem _ hp)
    refine this.trans ?_
    show some (t + ct x y a b + ps (ct x y) (b :: (l ++ [z]))) = some (t + (ct x y a b + ps (ct x y) (b :: (l ++ [z]))))
    congr 1; omega
theorem fol_ring {x y : Int} (hc : Cell x y) (l : List Pt) (t : Int) (hl : ∀ p ∈ l, PtOk p) : folM (m_winding_b2 x y) (sidesM l) t = some (t + rs (ct x y) l) := by
  cases l with
  | nil => simp [sidesM, folM, rs, ps]
  | cons a l =>
    have := fol_zip hc a (hl a (List.mem_cons_self ..)) l a t (hl a (List.mem_cons_self ..)) fun p hp => hl p (List.mem_cons_of_mem _ hp)
    unfold sidesM rs
    exact this
end Mr

set_option linter.all false
set_option maxRecDepth 100000
set_option maxHeartbeats 1000000
namespace Mr
theorem folM_app {α σ : Type} {f : σ → α → Option σ} : ∀ (xs ys : List α) (s : σ), folM f (xs ++ ys) s = (folM f xs s).bind (folM f ys)
  | [], ys, s => rfl
  | x :: xs, ys, s => by
    show (f s x).bind (folM f (xs ++ ys)) = ((f s x).bind (folM f xs)).bind (folM f ys)
    cases f s x with
    | none => rfl
    | some s1 => exact folM_app xs ys s1
/-! ### windings -/
def ws (f : Pt → Pt → Int) : List (List Pt) → Int
  | [] => 0
  | r :: rs' => rs f r + ws f rs'
theorem ws_rev (f : Pt → Pt → Int) (hf : ∀ a b, f b a = - f a b) : ∀ rs : List (List Pt), ws f (rs.map List.reverse) = - ws f rs
  | [] => rfl
  | r :: l => by
    show rs f r.reverse + ws f (l.map List.reverse) = - (rs f r + ws f l)
    rw [rs_rev f hf, ws_rev f hf l]; omega
theorem winding_fol {x y : Int} (hc : Cell x y) : ∀ (l : List (List Pt)) (t : Int), (∀ r ∈ l, ∀ p ∈ r, PtOk p) → folM (m_winding_b1 x y) l t = some (t + ws (ct x y) l)
  | [], t, _ => by simp [folM, ws]
  | r :: l, t, h => by
    refine bindOk (a := t + rs (ct x y) r) (bindOk (fol_ring hc r t (h r (List.mem_cons_self ..))) rfl) ?_
    refine (winding_fol hc l _ fun q hq => h q (List.mem_cons_of_mem _ hq)).trans ?_
    show some (t + rs (ct x y) r + ws (ct x y) l) = some (t + (rs (ct x y) r + ws (ct x y) l))
    congr 1; omega
theorem winding_ok {x y : Int} (hc : Cell x y) (l : List (List Pt)) (h : ∀ r ∈ l, ∀ p ∈ r, PtOk p) : m_winding l x y = some (ws (ct x y) l) := by
  unfold m_winding
  refine bindOk (winding_fol hc l 0 h) ?_
  congr 1; omega
theorem fan {x y : Int} (hc : Cell x y) (r : List Pt) (t : Int) (h : ∀ p ∈ r, PtOk p) (h3 : 3 ≤ r.length) : ∀ i : Nat, i + 2 ≤ r.length → folM (m_law_winding_b2 x y r) ((List.range i).map fun (k : Nat) => (1 : Int) + (k : Int)) t = some (t + ps (ct x y) (r.take (i + 2) ++ r.take 1))
  | 0, hi => by
    have e : ps (ct x y) (r.take (0 + 2) ++ r.take 1) = 0 := by
      match r, h3 with
      | a :: b :: c :: l, _ =>
        have := ct_anti x y a b
        simp [ps]; omega
    rw [e]; simp [folM]
  | i + 1, hi => by
    have ih := fan hc r t h h3 i (by omega)
    rw [List.range_succ, List.map_append, folM_app, ih]
    show (m_law_winding_b2 x y r (t + ps (ct x y) (r.take (i + 2) ++ r.take 1)) ((1 : Int) + (i : Int))).bind some = _
    have g0 : r[0]? = some r[0] := List.getElem?_eq_getElem (by omega)
    have g1 : r[i + 1]? = some r[i + 1] := List.getElem?_eq_getElem (by omega)
    have g2 : r[i + 2]? = some r[i + 2] := List.getElem?_eq_getElem (by omega)
    have m0 : getM r (0 : Int) = some r[0] := getM_nat g0
    have m1 : getM r ((1 : Int) + (i : Int)) = some r[i + 1] := by
      have := getM_nat g1
      rw [show ((1 : Int) + (i : Int)) = ((i + 1 : Nat) : Int) by omega]; exact this
    have m2 : getM r ((1 : Int) + (i : Int) + 1) = some r[i + 2] := by
      have := getM_nat g2
      rw [show ((1 : Int) + (i : Int) + 1) = ((i + 2 : Nat) : Int) by omega]; exact this
    have o0 := h r[0] (List.getElem_mem _)
    have o1 := h r[i + 1] (List.getElem_mem _)
    have o2 := h r[i + 2] (List.getElem_mem _)
    have t1 : r.take 1 = [r[0]] := by rw [List.take_add_one, g0]; rfl
    have t2 : r.take (i + 2) = r.take (i + 1) ++ [r[i + 1]] := by rw [List.take_add_one, g1]; rfl
    have t3 : r.take (i + 1 + 2) = r.take (i + 1) ++ [r[i + 1], r[i + 2]] := by
      rw [show i + 1 + 2 = (i + 2) + 1 by omega, List.take_add_one, g2, t2, List.append_assoc]; rfl
    have p1 : ps (ct x y) (r.take (i + 2) ++ r.take 1) = ps (ct x y) (r.take (i + 1) ++ [r[i + 1]]) + ct x y r[i + 1] r[0] := by
      rw [t1, t2, List.append_assoc]; exact ps_snoc _ _ _ _
    have p2 : ps (ct x y) (r.take (i + 1 + 2) ++ r.take 1) = ps (ct x y) (r.take (i + 1) ++ [r[i + 1]]) + ct x y r[i + 1] r[i + 2] + ct x y r[i + 2] r[0] := by
      rw [t1, t3]
      rw [show r.take (i + 1) ++ [r[i + 1], r[i + 2]] ++ [r[0]] = (r.take (i + 1) ++ [r[i + 1]]) ++ [r[i + 2], r[0]] by rw [List.append_assoc, List.append_assoc]; rfl, ps_snoc, List.append_assoc]
      rw [show ([r[i + 1]] ++ [r[i + 2]] : List Pt) = [r[i + 1], r[i + 2]] from rfl, ps_snoc]
    have tr := tri_ct x y r[0] r[i + 1] r[i + 2]
    have an := ct_anti x y r[0] r[i + 1]
    refine bindOk (a := t + ps (ct x y) (r.take (i + 1 + 2) ++ r.take 1)) ?_ rfl
    unfold m_law_winding_b2
    refine bindOk m0 (bindOk m1 (bindOk (turn_ok o0 o1 hc) (bindOk m1 (bindOk m2 (bindOk (turn_ok o1 o2 hc) (bindOk m2 (bindOk m0 (bindOk (turn_ok o2 o0 hc) ?_))))))))
    by_cases hh : tn x y r[i + 1] r[i + 2] = tn x y r[0] r[i + 1] ∧ tn x y r[i + 2] r[0] = tn x y r[0] r[i + 1]
    · rw [if_pos hh] at tr
      rw [if_pos (by simpa using hh)]
      refine bindOk rfl ?_
      congr 1; omega
    · rw [if_neg hh] at tr
      rw [if_neg (by simpa using hh)]
      refine bindOk rfl ?_
      congr 1; omega
def RgOk (r : List Pt) : Prop := 3 ≤ r.length ∧ r.length ≤ 8 ∧ ∀ p ∈ r, PtOk p
theorem lw_ring {x y : Int} (hc : Cell x y) {r : List Pt} (t : Int) (h : RgOk r) : m_law_winding_b1 x y t r = some (t + rs (ct x y) r) := by
  obtain ⟨h3, h8, h⟩ := h
  unfold m_law_winding_b1
  have e : rng2M (1 : Int) ((r.length : Int) - 1) = some ((List.range (r.length - 2)).map fun (k : Nat) => (1 : Int) + (k : Int)) := by
    unfold rng2M
    rw [if_pos (by omega), show ((r.length : Int) - 1 - 1).toNat = r.length - 2 by omega]
  refine bindOk e (bindOk (fan hc r t h h3 (r.length - 2) (by omega)) ?_)
  rw [show r.length - 2 + 2 = r.length by omega, List.take_length]; rfl
theorem lw_fol {x y : Int} (hc : Cell x y) : ∀ (l : List (List Pt)) (t : Int), (∀ r ∈ l, RgOk r) → folM (m_law_winding_b1 x y) l t = some (t + ws (ct x y) l)
  | [], t, _ => by simp [folM, ws]
  | r :: l, t, h => by
    refine bindOk (lw_ring hc t (h r (List.mem_cons_self ..))) ?_
    refine (lw_fol hc l _ fun q hq => h q (List.mem_cons_of_mem _ hq)).trans ?_
    show some (t + rs (ct x y) r + ws (ct x y) l) = some (t + (rs (ct x y) r + ws (ct x y) l))
    congr 1; omega
theorem lw_ok {x y : Int} (hc : Cell x y) (l : List (List Pt)) (h : ∀ r ∈ l, RgOk r) : m_law_winding l x y = some (ws (ct x y) l) := by
  unfold m_law_winding
  refine bindOk (lw_fol hc l 0 h) ?_
  congr 1; omega
/-! ### draws -/
def SpOk (n : Nat) (s : List Int) : Prop := s.length = n ∧ ∀ z ∈ s, 0 ≤ z ∧ z ≤ 24
theorem last_ok {s : List Int} (h : s ≠ []) : ∃ z, getM s (-(1 : Int)) = some z := by
  cases s with
  | nil => exact (h rfl).elim
  | cons a l =>
    unfold getM ixM
    rw [if_neg (by decide), if_pos (by simp; omega)]
    refine ⟨(a :: l)[(-1 + (((a :: l).length : Nat) : Int)).toNat]'(by simp; omega), ?_⟩
    exact List.getElem?_eq_getElem _
theorem spots_ok : ∀ (xs : List Int) (b s : List Int) (n : Nat), BagOk b → SpOk n s → 0 < n → n + xs.length ≤ 100 → ∃ b' s', folM m_law_ring_b1 xs (b, s) = some (b', s') ∧ BagOk b' ∧ SpOk (n + xs.length) s'
  | [], b, s, n, hb, hs, _, _ => ⟨b, s, rfl, hb, hs⟩
  | x :: xs, b, s, n, hb, hs, h0, hz => by
    have hz' : n + (xs.length + 1) ≤ 100 := hz
    obtain ⟨z, ez⟩ := last_ok (s := s) (fun e => by rw [e] at hs; have := hs.1; simp at this; omega)
    obtain ⟨x1, b1, e1, h1, h1', B1⟩ := draw_ok hb (n := 24) (by decide) (by decide)
    have hs2 : SpOk (n + 1) (s ++ [(z + 1 + x1) % 25]) := ⟨by simp [hs.1], fun w hw => by
      rcases List.mem_append.mp hw with h | h
      · exact hs.2 w h
      · rw [List.mem_singleton.mp h]; omega⟩
    obtain ⟨b2, s2, e2, B2, S2⟩ := spots_ok xs b1 _ (n + 1) B1 hs2 (by omega) (by omega)
    refine ⟨b2, s2, bindOk (a := (b1, s ++ [(z + 1 + x1) % 25])) ?_ e2, B2, ?_⟩
    · unfold m_law_ring_b1
      dsimp only
      exact bindOk ez (bindOk e1 (bindOk (appM_ok (by rw [hs.1]; omega)) rfl))
    · have e : n + (xs.length + 1) = n + 1 + xs.length := by omega
      show SpOk (n + (xs.length + 1)) s2
      rw [e]; exact S2
theorem left_fol {s : List Int} {u v : Int} (h1 : getM s (-(1 : Int)) = some u) (h2 : getM s (0 : Int) = some v) : ∀ (xs acc : List Int), acc.length + xs.length ≤ 1000 → folM (m_law_ring_c2 s) xs acc = some (acc ++ xs.filter fun z => !decide (z ∈ [u, v]))
  | [], acc, _ => by simp [folM]
  | x :: xs, acc, hz => by
    have hz' : acc.length + (xs.length + 1) ≤ 1000 := hz
    by_cases h : (!decide (x ∈ ([u, v] : List Int))) = true
    · refine bindOk (a := acc ++ [x]) (bindOk h1 (bindOk h2 ((if_pos h).trans (bindOk (appM_ok (by omega)) rfl)))) ?_
      refine (left_fol h1 h2 xs (acc ++ [x]) (by simp; omega)).trans ?_
      rw [List.filter_cons_of_pos (by simpa using h)]; simp
    · refine bindOk (a := acc) (bindOk h1 (bindOk h2 (if_neg h))) ?_
      refine (left_fol h1 h2 xs acc (by omega)).trans ?_
      rw [List.filter_cons_of_neg (by simpa using h)]
theorem pts_fol : ∀ (xs : List Int) (acc : List Pt), acc.length + xs.length ≤ 1000 → folM m_law_ring_c3 xs acc = some (acc ++ xs.map fun z => (z / 5, z - z / 5 * 5))
  | [], acc, _ => by simp [folM]
  | x :: xs, acc, hz => by
    have hz' : acc.length + (xs.length + 1) ≤ 1000 := hz
    refine bindOk (a := acc ++ [(x / 5, x - x / 5 * 5)]) (bindOk (appM_ok (by omega)) rfl) ?_
    refine (pts_fol xs _ (by simp; omega)).trans ?_
    simp
theorem ring_draw {b : List Int} {n : Int} (hb : BagOk b) (h3 : 3 ≤ n) (h8 : n ≤ 8) : ∃ r b', m_law_ring b n = some (r, b') ∧ RgOk r ∧ BagOk b' := by
  unfold m_law_ring
  obtain ⟨x1, b1, e1, a1, a1', B1⟩ := draw_ok hb (n := 25) (by decide) (by decide)
  have S1 : SpOk 1 [x1] := ⟨rfl, fun z hz => by rw [List.mem_singleton.mp hz]; omega⟩
  obtain ⟨b2, s2, e2, B2, S2⟩ := spots_ok ((List.range (n - 2).toNat).map fun (i : Nat) => (i : Int)) b1 [x1] 1 B1 S1 (by decide) (by simp; omega)
  have hl : 1 + ((List.range (n - 2).toNat).map fun (i : Nat) => (i : Int)).length = (n - 1).toNat := by simp; omega
  rw [hl] at S2
  have hne : s2 ≠ [] := fun e => by rw [e] at S2; have := S2.1; simp at this; omega
  obtain ⟨u, eu⟩ := last_ok hne
  have hlt : 0 < s2.length := by rw [S2.1]; omega
  have ev : getM s2 (0 : Int) = some s2[0] := getM_nat (j := 0) (List.getElem?_eq_getElem hlt)
  obtain ⟨F, hF⟩ : ∃ F, F = ((List.range (25 : Int).toNat).map fun (i : Nat) => (i : Int)).filter fun z => !decide (z ∈ [u, s2[0]]) := ⟨_, rfl⟩
  have e3 : folM (m_law_ring_c2 s2) ((List.range (25 : Int).toNat).map fun (i : Nat) => (i : Int)) [] = some F := by
    rw [left_fol eu ev _ [] (by decide), hF]; rfl
  have hin : ∀ z ∈ F, 0 ≤ z ∧ z ≤ 24 := fun z hz => by
    rw [hF] at hz
    obtain ⟨j, hj, rfl⟩ := List.mem_map.mp (List.mem_filter.mp hz).1
    have := List.mem_range.mp hj
    omega
  have hpos : 0 < F.length := by
    have key : ∃ k : Nat, k < 25 ∧ ((k : Int) ∉ ([u, s2[0]] : List Int)) := by
      by_cases h0 : ((0 : Nat) : Int) ∉ ([u, s2[0]] : List Int)
      · exact ⟨0, by decide, h0⟩
      by_cases h1 : ((1 : Nat) : Int) ∉ ([u, s2[0]] : List Int)
      · exact ⟨1, by decide, h1⟩
      refine ⟨2, by decide, ?_⟩
      simp only [List.mem_cons, List.not_mem_nil, or_false] at h0 h1 ⊢
      omega
    obtain ⟨k, hk, hk2⟩ := key
    have : (k : Int) ∈ F := by
      rw [hF]
      exact List.mem_filter.mpr ⟨List.mem_map.mpr ⟨k, List.mem_range.mpr hk, rfl⟩, by simpa using hk2⟩
    exact List.length_pos_of_mem this
  have hle : F.length ≤ 25 := by
    rw [hF]
    refine Nat.le_trans (List.length_filter_le _ _) ?_
    simp
  obtain ⟨x4, b4, e4, a4, a4', B4⟩ := draw_ok B2 (n := (F.length : Int)) (by omega) (by omega)
  have h4 : x4.toNat < F.length := by omega
  have e5 : getM F x4 = some F[x4.toNat] := by
    have := getM_nat (List.getElem?_eq_getElem h4)
    rw [Int.toNat_of_nonneg a4] at this
    exact this
  have hx := hin _ (List.getElem_mem h4)
  have S3 : SpOk n.toNat (s2 ++ [F[x4.toNat]]) := ⟨by simp [S2.1]; omega, fun z hz => by
    rcases List.mem_append.mp hz with h | h
    · exact S2.2 z h
    · rw [List.mem_singleton.mp h]; exact hx⟩
  refine ⟨_, b4, bindOk e1 (bindOk (rngM_ok (by omega) (by omega)) (bindOk e2 (bindOk (rngM_ok (by decide) (by decide)) (bindOk e3 (bindOk e4 (bindOk e5 (bindOk (appM_ok (by rw [S2.1]; omega)) (bindOk (pts_fol _ [] (by rw [S3.1]; simp; omega)) rfl)))))))), ?_, B4⟩
  refine ⟨by simp [S2.1]; omega, by simp [S2.1]; omega, fun p hp => ?_⟩
  rw [List.nil_append] at hp
  obtain ⟨z, hz, rfl⟩ := List.mem_map.mp hp
  have := S3.2 z hz
  unfold PtOk
  dsimp only
  omega
theorem rings_fol : ∀ (xs : List Int) (b : List Int) (acc : List (List Pt)), BagOk b → (∀ r ∈ acc, RgOk r) → acc.length + xs.length ≤ 100 → ∃ b' l, folM m_law_rings_b1 xs (b, acc) = some (b', l) ∧ BagOk b' ∧ (∀ r ∈ l, RgOk r) ∧ l.length = acc.length + xs.length
  | [], b, acc, hb, ha, _ => ⟨b, acc, rfl, hb, ha, rfl⟩
  | x :: xs, b, acc, hb, ha, hz => by
    have hz' : acc.length + (xs.length + 1) ≤ 100 := hz
    obtain ⟨x1, b1, e1, a1, a1', B1⟩ := draw_ok hb (n := 6) (by decide) (by decide)
    obtain ⟨r, b2, e2, R2, B2⟩ := ring_draw B1 (n := 3 + x1) (by omega) (by omega)
    obtain ⟨b3, l, e3, B3, R3, L3⟩ := rings_fol xs b2 (acc ++ [r]) B2 (fun q hq => by
      rcases List.mem_append.mp hq with h | h
      · exact ha q h
      · rw [List.mem_singleton.mp h]; exact R2) (by simp; omega)
    refine ⟨b3, l, bindOk (a := (b2, acc ++ [r])) ?_ e3, B3, R3, by rw [L3]; simp; omega⟩
    unfold m_law_rings_b1
    dsimp only
    exact bindOk e1 (bindOk e2 (bindOk (appM_ok (by omega)) rfl))
theorem rings_draw {b : List Int} (hb : BagOk b) : ∃ l b', m_law_rings b = some (l, b') ∧ (∀ r ∈ l, RgOk r) ∧ l.length ≤ 100 ∧ BagOk b' := by
  unfold m_law_rings
  obtain ⟨x1, b1, e1, a1, a1', B1⟩ := draw_ok hb (n := 3) (by decide) (by decide)
  obtain ⟨b2, l, e2, B2, R2, L2⟩ := rings_fol ((List.range (1 + x1).toNat).map fun (i : Nat) => (i : Int)) b1 [] B1 (fun r hr => by cases hr) (by simp; omega)
  refine ⟨l, b2, bindOk e1 (bindOk (rngM_ok (by omega) (by omega)) (bindOk e2 rfl)), R2, ?_, B2⟩
  rw [L2]; simp; omega
end Mr

set_option linter.all false
set_option maxRecDepth 100000
set_option maxHeartbeats 1000000
namespace Mr
def InkOk (i : List Ink) : Prop := i.length = 4 ∧ ∀ r ∈ i, r.length = 4
theorem rng4 : rngM (4 : Int) = some ((List.range 4).map fun (i : Nat) => (i : Int)) := rfl
theorem mem4 {z : Int} (h : z ∈ (List.range 4).map fun (i : Nat) => (i : Int)) : 0 ≤ z ∧ z ≤ 3 := by
  obtain ⟨j, hj, rfl⟩ := List.mem_map.mp h
  have := List.mem_range.mp hj
  omega
/-! ### the ink -/
def cellI (l : List (List Pt)) (x y : Int) : Bool := !decide (ws (ct x y) l = 0)
def rowI (l : List (List Pt)) (y : Int) : Ink := ((List.range 4).map fun (i : Nat) => (i : Int)).map fun x => cellI l x y
def inkR (l : List (List Pt)) : List Ink := ((List.range 4).map fun (i : Nat) => (i : Int)).map fun y => rowI l y
theorem inkR_ok (l : List (List Pt)) : InkOk (inkR l) := by
  refine ⟨by simp [inkR], fun r hr => ?_⟩
  obtain ⟨y, _, rfl⟩ := List.mem_map.mp hr
  simp [rowI]
theorem flat1 {α : Type} (f : Int → α) : ∀ xs : List Int, (xs.map fun x => [f x]).flatten = xs.map f
  | [] => rfl
  | x :: xs => by simp [flat1 f xs]
theorem c2_fol {l : List (List Pt)} {y : Int} {w : Int → Option Int} {c2 : List Ink → Int → Option (List Ink)} (hc2 : ∀ acc x, c2 acc x = Option.bind (Option.bind (w x) fun r3 => if (!decide (r3 = (0 : Int))) then (some ([true] : Ink)) else (some ([false] : Ink))) fun x4 => Option.bind (appM acc x4) fun acc3 => some acc3) :
    ∀ (xs : List Int) (acc : List Ink), (∀ x ∈ xs, w x = some (ws (ct x y) l)) → acc.length + xs.length ≤ 100 → folM c2 xs acc = some (acc ++ xs.map fun x => [cellI l x y])
  | [], acc, _, _ => by simp [folM]
  | x :: xs, acc, h, hz => by
    have hz' : acc.length + (xs.length + 1) ≤ 100 := hz
    refine bindOk (a := acc ++ [[cellI l x y]]) ?_ ?_
    · rw [hc2]
      refine bindOk (a := [cellI l x y]) (bindOk (h x (List.mem_cons_self ..)) ?_) (bindOk (appM_ok (by omega)) rfl)
      unfold cellI
      cases decide (ws (ct x y) l = 0) <;> rfl
    · refine (c2_fol hc2 xs _ (fun z hz => h z (List.mem_cons_of_mem _ hz)) (by simp; omega)).trans ?_
      simp
theorem b1_fol {l : List (List Pt)} {b1 : List Ink → Int → Option (List Ink)} (hb : ∀ acc y, 0 ≤ y ∧ y ≤ 3 → acc.length < 100 → b1 acc y = some (acc ++ [rowI l y])) : ∀ (ys : List Int) (acc : List Ink), (∀ y ∈ ys, 0 ≤ y ∧ y ≤ 3) → acc.length + ys.length ≤ 100 → folM b1 ys acc = some (acc ++ ys.map fun y => rowI l y)
  | [], acc, _, _ => by simp [folM]
  | y :: ys, acc, h, hz => by
    have hz' : acc.length + (ys.length + 1) ≤ 100 := hz
    refine bindOk (hb acc y (h y (List.mem_cons_self ..)) (by omega)) ?_
    refine (b1_fol hb ys _ (fun z hz => h z (List.mem_cons_of_mem _ hz)) (by simp; omega)).trans ?_
    simp
theorem row_join (l : List (List Pt)) (y : Int) : joinI ([] ++ ((List.range 4).map fun (i : Nat) => (i : Int)).map fun x => [cellI l x y]) = some (rowI l y) := by
  rw [List.nil_append]
  unfold joinI
  rw [flat1]
  exact if_pos (by simp)
theorem ink_of_ok {l : List (List Pt)} (h : ∀ r ∈ l, ∀ p ∈ r, PtOk p) : m_ink_of l = some (inkR l) := by
  unfold m_ink_of
  refine bindOk rng4 (bindOk (b1_fol (l := l) (fun acc y hy hl => ?_) _ [] (fun y hy => mem4 hy) (by simp)) rfl)
  unfold m_ink_of_b1
  refine bindOk rng4 (bindOk (c2_fol (l := l) (y := y) (w := fun x => m_winding l x y) (fun _ _ => rfl) _ [] (fun x hx => winding_ok ⟨(mem4 hx).1, (mem4 hx).2, hy.1, hy.2⟩ l h) (by simp)) (bindOk (row_join l y) (bindOk (appM_ok (by omega)) rfl)))
theorem law_ink_ok {l : List (List Pt)} (h : ∀ r ∈ l, RgOk r) : m_law_ink l = some (inkR l) := by
  unfold m_law_ink
  refine bindOk rng4 (bindOk (b1_fol (l := l) (fun acc y hy hl => ?_) _ [] (fun y hy => mem4 hy) (by simp)) rfl)
  unfold m_law_ink_b1
  refine bindOk rng4 (bindOk (c2_fol (l := l) (y := y) (w := fun x => m_law_winding l x y) (fun _ _ => rfl) _ [] (fun x hx => lw_ok ⟨(mem4 hx).1, (mem4 hx).2, hy.1, hy.2⟩ l h) (by simp)) (bindOk (row_join l y) (bindOk (appM_ok (by omega)) rfl)))
/-! ### rows -/
def plcF : Ink → Nat → List Int
  | [], _ => []
  | b :: l, i => (if b then [(i : Int)] else []) ++ plcF l (i + 1)
def plc (r : Ink) : List Int := plcF r 0
theorem rows4 (r : Ink) (h : r.length = 4) : r ∈ allI 4 := by
  match r, h with
  | [a, b, c, d], _ => cases a <;> cases b <;> cases c <;> cases d <;> decide +kernel
theorem rw1 : ∀ r ∈ allI 4, (∀ z ∈ plc r, z + 1 ≤ rfnI r + 1) ∧ (rfnI r + 1 = 0 ∨ rfnI r ∈ plc r) ∧ 0 ≤ rfnI r + 1 ∧ rfnI r + 1 ≤ 4 := by decide +kernel
theorem rw2 : ∀ r ∈ allI 4, ∀ s ∈ ([0, 1, 2, 3, 4] : List Nat), rfnI r + 1 ≤ (s : Int) → (decide (true ∈ r.take s) = decide (0 ≤ rfnI r) ∧ ((r.take s).length : Int) = s ∧ (0 ≤ rfnI r → ((rstI (r.take s)).length : Int) = rfnI r + 1)) := by decide +kernel
theorem rw3 : ∀ r ∈ allI 4, decide (true ∈ r) = decide (0 ≤ fndI r) ∧ (0 ≤ fndI r → ((lstI r).length : Int) = 4 - fndI r) ∧ (lstI r).length ≤ 4 := by decide +kernel
theorem fndM_ok {r : Ink} (h : r.length = 4) : fndM r = some (fndI r) := if_pos (by omega)
theorem rfnM_ok {r : Ink} (h : r.length = 4) : rfnM r = some (rfnI r) := if_pos (by omega)
theorem step_fol : ∀ (xs : List Ink) (acc : List Int), (∀ r ∈ xs, r.length = 4) → acc.length + xs.length ≤ 100 → folM m_step_of_c1 xs acc = some (acc ++ xs.map rfnI)
  | [], acc, _, _ => by simp [folM]
  | x :: xs, acc, h, hz => by
    have hz' : acc.length + (xs.length + 1) ≤ 100 := hz
    refine bindOk (a := acc ++ [rfnI x]) (bindOk (rfnM_ok (h x (List.mem_cons_self ..))) (bindOk (appM_ok (by omega)) rfl)) ?_
    refine (step_fol xs _ (fun z hz => h z (List.mem_cons_of_mem _ hz)) (by simp; omega)).trans ?_
    simp
theorem max_ok {xs : List Int} (h : xs ≠ []) : ∃ m, maxM xs = some m ∧ (∀ y ∈ xs, y ≤ m) ∧ m ∈ xs := by
  cases xs with
  | nil => exact (h rfl).elim
  | cons x xs =>
    obtain ⟨h1, h2, h3⟩ := maxF_ge xs x
    refine ⟨_, rfl, fun y hy => ?_, ?_⟩
    · rcases List.mem_cons.mp hy with e | e
      · rw [e]; exact h1
      · exact h2 y e
    · rcases h3 with e | e
      · rw [e]; exact List.mem_cons_self ..
      · exact List.mem_cons_of_mem _ e
/-- the step -/
theorem step_ok {i : List Ink} (h : InkOk i) : ∃ m, folM m_step_of_c1 i [] = some (i.map rfnI) ∧ maxM (i.map rfnI) = some m ∧ (∀ r ∈ i, rfnI r ≤ m) ∧ ∃ r ∈ i, m = rfnI r := by
  obtain ⟨m, h1, h2, h3⟩ := max_ok (xs := i.map rfnI) (fun e => by
    have := congrArg List.length e
    rw [List.length_map, h.1] at this
    cases this)
  obtain ⟨r, hr, e⟩ := List.mem_map.mp h3
  refine ⟨m, ?_, h1, fun r hr => h2 _ (List.mem_map.mpr ⟨r, hr, rfl⟩), r, hr, e.symm⟩
  have := step_fol i [] h.2 (by rw [h.1]; decide)
  rw [this]; rfl
theorem stepM_ok {i : List Ink} {m : Int} (h1 : folM m_step_of_c1 i [] = some (i.map rfnI)) (h2 : maxM (i.map rfnI) = some m) : m_step_of i = some (m + 1) := bindOk h1 (bindOk h2 rfl)
theorem left_ok {i : List Ink} {k : Int} {r : Ink} (hk : getM i k = some r) (hr : r.length = 4) : m_leftmost i k = some (if fndI r < 0 then none else some (fndI r)) := by
  unfold m_leftmost
  refine bindOk hk (bindOk (fndM_ok hr) ?_)
  by_cases h : fndI r < 0
  · rw [if_pos (by simpa using h), if_pos h]; rfl
  · rw [if_neg (by simpa using h), if_neg h]; rfl
theorem right_ok {i : List Ink} {k : Int} {r : Ink} (hk : getM i k = some r) (hr : r.length = 4) : m_rightmost i k = some (if rfnI r < 0 then none else some (rfnI r)) := by
  unfold m_rightmost
  refine bindOk hk (bindOk (rfnM_ok hr) ?_)
  by_cases h : rfnI r < 0
  · rw [if_pos (by simpa using h), if_pos h]; rfl
  · rw [if_neg (by simpa using h), if_neg h]; rfl
theorem catM_ok {xs ys : List Int} (h : xs.length ≤ 50) (h2 : ys.length ≤ 50) : catM xs ys = some (xs ++ ys) := if_pos (by omega)
theorem plc_fol {i : List Ink} {k : Int} {r : Ink} (hk : getM i k = some r) (hr : r.length = 4) : folM (m_law_ink_stands_c2 i k) ((List.range 4).map fun (i : Nat) => (i : Int)) [] = some (plc r) := by
  unfold m_law_ink_stands_c2
  simp only [hk]
  match r, hr with
  | [a, b, c, d], _ => cases a <;> cases b <;> cases c <;> cases d <;> rfl
theorem row_stand {i : List Ink} {k : Int} {r : Ink} (hk : getM i k = some r) (hr : r.length = 4) {far : List Int} (hf : far.length ≤ 50) : m_law_ink_stands_b1 i i far k = some (.go (far ++ (plc r).map (· + 1))) := by
  unfold m_law_ink_stands_b1
  refine bindOk rng4 (bindOk (plc_fol hk hr) (bindOk (left_ok hk hr) (bindOk (right_ok hk hr) ?_)))
  match r, hr with
  | [a, b, c, d], _ => cases a <;> cases b <;> cases c <;> cases d <;> exact (congrArg (fun o => Option.bind o fun z => some (Bf.go z)) (catM_ok hf (by decide))).trans rfl
theorem get4 {i : List Ink} (h : InkOk i) {k : Int} (hk : 0 ≤ k ∧ k ≤ 3) : ∃ r, getM i k = some r ∧ r ∈ i := by
  have hl := h.1
  have hlt : k.toNat < i.length := by omega
  refine ⟨i[k.toNat], ?_, List.getElem_mem _⟩
  have := getM_nat (List.getElem?_eq_getElem hlt)
  rw [Int.toNat_of_nonneg hk.1] at this
  exact this
theorem plc_len (r : Ink) (h : r.length = 4) : ((plc r).map (· + 1)).length ≤ 4 := by
  have : ∀ r ∈ allI 4, ((plc r).map (· + 1)).length ≤ 4 := by decide +kernel
  exact this r (rows4 r h)
theorem ink_stands_ok {i : List Ink} (h : InkOk i) : m_law_ink_stands i i = some true := by
  obtain ⟨m, s1, s2, s3, r, hr, s4⟩ := step_ok h
  have hs := stepM_ok s1 s2
  obtain ⟨hl, h4⟩ := h
  match i, hl with
  | [r0, r1, r2, r3], _ =>
    have l0 := h4 r0 (by simp)
    have l1 := h4 r1 (by simp)
    have l2 := h4 r2 (by simp)
    have l3 := h4 r3 (by simp)
    have q0 := plc_len r0 l0
    have q1 := plc_len r1 l1
    have q2 := plc_len r2 l2
    have q3 := plc_len r3 l3
    unfold m_law_ink_stands
    refine bindOk (a := false) ?_ ?_
    · rw [if_neg (by decide), if_neg (by simp)]
      exact bindOk hs (bindOk (a := true) rfl rfl)
    · rw [if_neg (by decide)]
      refine bindOk rng4 ?_
      obtain ⟨F, hF⟩ : ∃ F, F = ([(0 : Int)] ++ (plc r0).map (· + 1) ++ (plc r1).map (· + 1) ++ (plc r2).map (· + 1) ++ (plc r3).map (· + 1)) := ⟨_, rfl⟩
      have hfor : forL (m_law_ink_stands_b1 [r0, r1, r2, r3] [r0, r1, r2, r3]) ((List.range 4).map fun (i : Nat) => (i : Int)) [(0 : Int)] = some (.nx F) := by
        rw [hF]
        refine bindOk (row_stand (k := 0) (r := r0) rfl l0 (by simp)) ?_
        refine bindOk (row_stand (k := 1) (r := r1) rfl l1 (by rw [List.length_append]; simp at q0 ⊢; omega)) ?_
        refine bindOk (row_stand (k := 2) (r := r2) rfl l2 (by rw [List.length_append, List.length_append]; simp at q0 q1 ⊢; omega)) ?_
        refine bindOk (row_stand (k := 3) (r := r3) rfl l3 (by rw [List.length_append, List.length_append, List.length_append]; simp at q0 q1 q2 ⊢; omega)) ?_
        rfl
      refine bindOk hfor ?_
      dsimp only
      refine bindOk hs ?_
      obtain ⟨M, m1, m2, m3⟩ := max_ok (xs := F) (by rw [hF]; simp)
      refine bindOk m1 ?_
      have memF : ∀ z, z ∈ F ↔ z = 0 ∨ ∃ q ∈ [r0, r1, r2, r3], z ∈ (plc q).map (· + 1) := fun z => by
        rw [hF]
        simp only [List.mem_append, List.mem_cons, List.not_mem_nil, or_false, exists_eq_or_imp, exists_eq_left]
        constructor
        · rintro ((((h | h) | h) | h) | h)
          · exact .inl h
          · exact .inr (.inl h)
          · exact .inr (.inr (.inl h))
          · exact .inr (.inr (.inr (.inl h)))
          · exact .inr (.inr (.inr (.inr h)))
        · rintro (h | h | h | h | h)
          · exact .inl (.inl (.inl (.inl h)))
          · exact .inl (.inl (.inl (.inr h)))
          · exact .inl (.inl (.inr h))
          · exact .inl (.inr h)
          · exact .inr h
      have f := fun q (hq : q ∈ [r0, r1, r2, r3]) => rw1 q (rows4 q (h4 q hq))
      have e : m + 1 = M := by
        have a1 : m + 1 ≤ M := by
          obtain ⟨_, z2, _, _⟩ := f r hr
          rw [s4]
          rcases z2 with z | z
          · rw [z]; exact m2 0 ((memF 0).mpr (.inl rfl))
          · exact m2 _ ((memF _).mpr (.inr ⟨r, hr, List.mem_map.mpr ⟨_, z, rfl⟩⟩))
        have a2 : M ≤ m + 1 := by
          rcases (memF M).mp m3 with z | ⟨q, hq, z⟩
          · have := (f r hr).2.2.1
            omega
          · obtain ⟨u, hu, rfl⟩ := List.mem_map.mp z
            have z1 := (f q hq).1 u hu
            have z2 := s3 q hq
            omega
        omega
      rw [e]; simp
/-! ### blanks -/
theorem cut_take (r : Ink) (s : Int) (h : 0 ≤ s) (h4 : s ≤ 4) (hr : r.length = 4) : cutI r none (some s) = some (r.take s.toNat) := by
  unfold cutI
  rw [if_pos (by omega)]
  obtain ⟨k, rfl⟩ : ∃ k : Nat, s = (k : Int) := ⟨s.toNat, by omega⟩
  have e : slIx r.length r.length (some (k : Int)) = k := by
    show (if (k : Int) < 0 then ((k : Int) + (r.length : Int)).toNat else min (k : Int).toNat r.length) = k
    rw [if_neg (by omega), Int.toNat_natCast, Nat.min_eq_left (by omega)]
  unfold cutM
  rw [e, Int.toNat_natCast]
  show some ((r.drop 0).take (k - 0)) = _
  simp
theorem blanks_ok {a b : List Ink} (ha : InkOk a) (hb : InkOk b) {k g : Int} (hk : 0 ≤ k ∧ k ≤ 3) : m_law_blanks_stand_b2 a b k () g = some (.go ()) := by
  obtain ⟨m, s1, s2, s3, q, hq, s4⟩ := step_ok ha
  have hs := stepM_ok s1 s2
  obtain ⟨r, gr, mr⟩ := get4 ha hk
  obtain ⟨t, gt, mt⟩ := get4 hb hk
  have lr := ha.2 r mr
  have lt := hb.2 t mt
  have fq := rw1 q (rows4 q (ha.2 q hq))
  have hm := s3 r mr
  have w2 := rw2 r (rows4 r lr) (m + 1).toNat (by
    have h0 : 0 ≤ m + 1 := by omega
    have h1 : m + 1 ≤ 4 := by omega
    generalize m + 1 = z at h0 h1
    have : z = 0 ∨ z = 1 ∨ z = 2 ∨ z = 3 ∨ z = 4 := by omega
    rcases this with e | e | e | e | e <;> rw [e] <;> decide) (by omega)
  obtain ⟨w21, w22, w23⟩ := w2
  obtain ⟨w31, w32, w33⟩ := rw3 t (rows4 t lt)
  have hc := cut_take r (m + 1) (by omega) (by omega) lr
  have hB : m_blanks a b k g = some (if rfnI r < 0 ∨ fndI t < 0 then none else some (m + 1 + g + fndI t - rfnI r - 1)) := by
    unfold m_blanks
    refine bindOk (right_ok gr lr) (bindOk (left_ok gt lt) ?_)
    by_cases h1 : rfnI r < 0
    · simp [h1]
    · by_cases h2 : fndI t < 0
      · simp [h1, h2]
      · rw [if_neg (show ¬ (rfnI r < 0 ∨ fndI t < 0) by omega), if_neg h1, if_neg h2]
        rw [if_neg (by simp)]
        exact bindOk hs (bindOk rfl (bindOk rfl rfl))
  have hL : m_law_blanks a b k g = some (if rfnI r < 0 ∨ fndI t < 0 then none else some (m + 1 + g + fndI t - rfnI r - 1)) := by
    unfold m_law_blanks
    refine bindOk (show folM m_law_blanks_c1 a [] = some (a.map rfnI) from s1) (bindOk s2 (bindOk gr (bindOk hc (bindOk gt ?_))))
    rw [w21, w31]
    by_cases h1 : rfnI r < 0 ∨ fndI t < 0
    · rw [if_pos h1]
      rw [if_pos (by simp; omega)]
    · rw [if_neg h1]
      rw [if_neg (by simp; omega)]
      have hl4 : (r.take (m + 1).toNat).length ≤ 4 := by rw [List.length_take]; omega
      have e3 := w23 (by omega)
      have e4 := w32 (by omega)
      have hr4 : (rstI (r.take (m + 1).toNat)).length ≤ 4 := by omega
      refine bindOk (show lenI _ = some _ from if_pos (by omega)) (bindOk (show rstM _ = some _ from if_pos hl4) (bindOk (show lenI _ = some _ from if_pos (by omega)) (bindOk (show lenI _ = some _ from if_pos (by omega)) (bindOk (show lstM _ = some _ from if_pos (by omega)) (bindOk (show lenI _ = some _ from if_pos (by omega)) ?_)))))
      congr 2
      omega
  unfold m_law_blanks_stand_b2
  refine bindOk hB (bindOk hL ?_)
  by_cases h1 : rfnI r < 0 ∨ fndI t < 0
  · rw [if_pos h1]; rfl
  · rw [if_neg h1]
    rw [if_neg (by simp)]
    refine bindOk (a := false) (bindOk rfl (bindOk (a := true) rfl ?_)) rfl
    simp
theorem mem3 {z : Int} (h : z ∈ (List.range 3).map fun (i : Nat) => (i : Int)) : True := True.intro
theorem blanks_stand_ok {a b : List Ink} (ha : InkOk a) (hb : InkOk b) : m_law_blanks_stand a b = some true := by
  unfold m_law_blanks_stand
  refine bindOk rng4 ?_
  obtain ⟨s, hs, _⟩ := forL_inv (f := m_law_blanks_stand_b1 a b) (fun _ => True) ((List.range 4).map fun (i : Nat) => (i : Int)) () True.intro (fun x hx s _ => by
    refine ⟨(), ?_, True.intro⟩
    unfold m_law_blanks_stand_b1
    obtain ⟨s2, hs2, _⟩ := forL_inv (f := m_law_blanks_stand_b2 a b x) (fun _ => True) ((List.range 3).map fun (i : Nat) => (i : Int)) () True.intro (fun y hy s _ => ⟨(), blanks_ok ha hb (mem4 hx), True.intro⟩)
    exact bindOk (show rngM (3 : Int) = some ((List.range 3).map fun (i : Nat) => (i : Int)) from rfl) (bindOk hs2 rfl))
  exact bindOk hs rfl
/-! ### the law -/
theorem copy_fol {f : List (List Pt) → List Pt → Option (List (List Pt))} (hf : ∀ acc x, f acc x = (appM acc x).bind some) : ∀ (xs acc : List (List Pt)), acc.length + xs.length ≤ 1000 → folM f xs acc = some (acc ++ xs)
  | [], acc, _ => by simp [folM]
  | x :: xs, acc, hz => by
    have hz' : acc.length + (xs.length + 1) ≤ 1000 := hz
    refine bindOk (a := acc ++ [x]) ((hf acc x).trans (bindOk (appM_ok (by omega)) rfl)) ?_
    refine (copy_fol hf xs _ (by simp; omega)).trans ?_
    simp
theorem b2_ok {b : List Int} {is : List (List Ink)} {x : Int} (hb : BagOk b) (hl : is.length < 100) : ∃ b' i, m_law_b2 (b, is) x = some (.go (b', is ++ [i])) ∧ BagOk b' ∧ InkOk i := by
  obtain ⟨x1, b1, e1, a1, a1', B1⟩ := draw_ok hb (n := 8) (by decide) (by decide)
  have hR : ∃ l b2, (Option.bind (m_law_draw b (8 : Int)) fun (r2, bag_here3) =>
  if (decide (r2 > (0 : Int))) then (Option.bind (m_law_rings bag_here3) fun (r3, bag_here4) =>
  some (r3, bag_here4)) else (some (([] : List (List (Int × Int))), bag_here3))) = some (l, b2) ∧ (∀ r ∈ l, RgOk r) ∧ l.length ≤ 100 ∧ BagOk b2 := by
    by_cases h : x1 > 0
    · obtain ⟨l, b2, e2, R2, L2, B2⟩ := rings_draw B1
      exact ⟨l, b2, bindOk e1 ((if_pos (by simpa using h)).trans (bindOk e2 rfl)), R2, L2, B2⟩
    · exact ⟨[], b1, bindOk e1 (if_neg (by simpa using h)), fun r hr => by (cases hr), by simp, B1⟩
  obtain ⟨l, b2, e2, R2, L2, B2⟩ := hR
  have hp : ∀ r ∈ l, ∀ p ∈ r, PtOk p := fun r hr => (R2 r hr).2.2
  refine ⟨b2, inkR l, ?_, B2, inkR_ok l⟩
  unfold m_law_b2
  dsimp only
  have c3 : folM m_law_c3 l [] = some l := by rw [copy_fol (f := m_law_c3) (fun _ _ => rfl) l [] (by simp; omega)]; simp
  have c4 : folM m_law_c4 l [] = some l := by rw [copy_fol (f := m_law_c4) (fun _ _ => rfl) l [] (by simp; omega)]; simp
  refine bindOk e2 ?_
  dsimp only
  refine bindOk c3 (bindOk (ink_of_ok hp) (bindOk (a := false) (bindOk (law_ink_ok R2) (bindOk (ink_stands_ok (inkR_ok l)) ?_)) ?_))
  · rw [if_neg (by decide)]; simp
  · rw [if_neg (by decide)]
    refine bindOk c4 (bindOk (ink_of_ok hp) ?_)
    rw [if_neg (by simp)]
    exact bindOk (appM_ok (by omega)) rfl
theorem turn_all {ns : List Int} {j : Nat} : m_law_b1 ns () (j : Int) = some (.go ()) := by
  unfold m_law_b1
  obtain ⟨b, e0, B⟩ := bag_ok (ns := ns) (j := j)
  obtain ⟨b1, i1, e1, B1, O1⟩ := b2_ok (x := 0) (is := []) B (by simp)
  obtain ⟨b2, i2, e2, B2, O2⟩ := b2_ok (x := 1) (is := [] ++ [i1]) B1 (by simp)
  have hfor : forL m_law_b2 [(0 : Int), 1] (b, []) = some (.nx (b2, [] ++ [i1] ++ [i2])) := bindOk e1 (bindOk e2 rfl)
  refine bindOk e0 (bindOk (show rngM (2 : Int) = some [(0 : Int), 1] from rfl) (bindOk hfor ?_))
  dsimp only
  have hall : ∀ i ∈ [] ++ [i1] ++ [i2], InkOk i := fun i hi => by
    simp at hi
    rcases hi with e | e
    · rw [e]; exact O1
    · rw [e]; exact O2
  obtain ⟨s, hs, _⟩ := forL_inv (f := m_law_b5 ([] ++ [i1] ++ [i2])) (fun _ => True) ([] ++ [i1] ++ [i2]) () True.intro (fun x hx s _ => by
    refine ⟨(), ?_, True.intro⟩
    unfold m_law_b5
    obtain ⟨s2, hs2, _⟩ := forL_inv (f := m_law_b6 x) (fun _ => True) ([] ++ [i1] ++ [i2]) () True.intro (fun y hy s _ => by
      refine ⟨(), ?_, True.intro⟩
      unfold m_law_b6
      exact bindOk (blanks_stand_ok (hall x hx) (hall y hy)) rfl)
    exact bindOk hs2 rfl)
  exact bindOk hs rfl
theorem law_plain (ns : List Int) (h : ns.length ≤ 63) : m_law ns = some true := by
  unfold m_law
  obtain ⟨n, hn⟩ : ∃ n : Int, (if (if (ns.length : Int) < (4 : Int) then (ns.length : Int) else (4 : Int)) > (1 : Int) then (if (ns.length : Int) < (4 : Int) then (ns.length : Int) else (4 : Int)) else (1 : Int)) = n := ⟨_, rfl⟩
  rw [hn]
  have hn0 : 0 ≤ n ∧ n ≤ 100 := by
    rw [← hn]
    constructor <;> (repeat' split) <;> omega
  refine bindOk (rngM_ok hn0.1 (by omega)) ?_
  obtain ⟨s, hs, _⟩ := forL_inv (f := m_law_b1 ns) (fun _ => True) ((List.range n.toNat).map fun (i : Nat) => (i : Int)) () True.intro (fun x hx s _ => by
    obtain ⟨j, _, rfl⟩ := List.mem_map.mp hx
    exact ⟨(), turn_all, True.intro⟩)
  exact bindOk hs rfl
end Mr

set_option Elab.async false
set_option linter.all false
set_option maxRecDepth 100000
set_option maxHeartbeats 4000000
set_option synthInstance.maxSize 4000
set_option synthInstance.maxHeartbeats 400000
namespace Mr
open PySem PySem.Spec PyProof.Rows L2
def mkD (n : Str) (i : Nat) : He5.DefA := ⟨fun K => He.fAd K (n, none), n, n, defArgs (top i), defBody (top i), defScope (top i), [], []⟩
def fn : List He5.DefA := [mkD "each_side" 2, mkD "count_of" 3, mkD "winding" 4, mkD "ink_of" 6, mkD "leftmost" 7, mkD "rightmost" 8, mkD "step_of" 9, mkD "blanks" 10, mkD "_law_bag" 12, mkD "_law_draw" 13, mkD "_law_number" 14, mkD "_law_ring" 15, mkD "_law_rings" 16, mkD "_law_turn" 17, mkD "_law_winding" 18, mkD "_law_ink" 19, mkD "_law_blanks" 20, mkD "_law_ink_stands" 21, mkD "_law_blanks_stand" 22, mkD "law" 23]
def fa : List He.Fa := [.glo "each_side", .glo "count_of", .glo "winding", .glo "ink_of", .glo "leftmost", .glo "rightmost", .glo "step_of", .glo "blanks", .glo "_law_bag", .glo "_law_draw", .glo "_law_number", .glo "_law_ring", .glo "_law_rings", .glo "_law_turn", .glo "_law_winding", .glo "_law_ink", .glo "_law_blanks", .glo "_law_ink_stands", .glo "_law_blanks_stand", .glo "law", .free "abs", .free "bool", .free "enumerate", .free "int", .free "isinstance", .free "len", .free "list", .free "max", .free "min", .free "range", .free "tuple", .int "GRID" 4]
def fx : List FrT := []
abbrev Rw : PySem.W.OpenRow := PySem.W.OpenLaw.row PySem.Challenge.rw_pressalike_k02_inks_by_rows
abbrev hk : PySem.W.Hook := hookE 5 fa fn fx
def ob (s : PySem.W.SharedT) : He.AlD := obsEG 5 fa fn fx (HandSHeadRun.getT s)
theorem ob_eq (s : PySem.W.SharedT) : ob s = hk.obs s.abs := obsEG_eq (HandSHeadRun.getT_eq s)
theorem run (w : World) : HandSHeadRun.RunEq Rw (PySem.W.view Rw.prog [23]) hk ob 2000 ["GRID", "each_side", "count_of", "winding", "ink_of", "leftmost", "rightmost", "step_of", "blanks", "_law_bag", "_law_draw", "_law_number", "_law_ring", "_law_rings", "_law_turn", "_law_winding", "_law_ink", "_law_blanks", "_law_ink_stands", "_law_blanks_stand"] w := by
  intro os
  kernel_rfl
theorem facts {P : Program} {w : World} {K : PySem.W.Frag} {h : Heap} {mg : Str → Option Value} {f : Addr} (X : K.In h) (G : h.Ns mainGlobals mg) (hfa : mg ("law" : Str) = some (.ref f)) (c : SaysE fa fn fx K) :
    ∃ fd : FuncData, (∀ (s : Shared) (v : Value), BindsTo s fd ⟨[v], []⟩ [("_law_script", v)]) ∧ ∀ base : Heap, K.In base → base.Ns mainGlobals mg → FnOk P w K mg base CX0 4 f fd ["_law_script"] (sp_law K) := by
  obtain ⟨fd_each_side, F_each_side⟩ := c.def_ 0 rfl
  obtain ⟨fd_count_of, F_count_of⟩ := c.def_ 1 rfl
  obtain ⟨fd_winding, F_winding⟩ := c.def_ 2 rfl
  obtain ⟨fd_ink_of, F_ink_of⟩ := c.def_ 3 rfl
  obtain ⟨fd_leftmost, F_leftmost⟩ := c.def_ 4 rfl
  obtain ⟨fd_rightmost, F_rightmost⟩ := c.def_ 5 rfl
  obtain ⟨fd_step_of, F_step_of⟩ := c.def_ 6 rfl
  obtain ⟨fd_blanks, F_blanks⟩ := c.def_ 7 rfl
  obtain ⟨fd_law_bag, F_law_bag⟩ := c.def_ 8 rfl
  obtain ⟨fd_law_draw, F_law_draw⟩ := c.def_ 9 rfl
  obtain ⟨fd_law_number, F_law_number⟩ := c.def_ 10 rfl
  obtain ⟨fd_law_ring, F_law_ring⟩ := c.def_ 11 rfl
  obtain ⟨fd_law_rings, F_law_rings⟩ := c.def_ 12 rfl
  obtain ⟨fd_law_turn, F_law_turn⟩ := c.def_ 13 rfl
  obtain ⟨fd_law_winding, F_law_winding⟩ := c.def_ 14 rfl
  obtain ⟨fd_law_ink, F_law_ink⟩ := c.def_ 15 rfl
  obtain ⟨fd_law_blanks, F_law_blanks⟩ := c.def_ 16 rfl
  obtain ⟨fd_law_ink_stands, F_law_ink_stands⟩ := c.def_ 17 rfl
  obtain ⟨fd_law_blanks_stand, F_law_blanks_stand⟩ := c.def_ 18 rfl
  obtain ⟨fd_law, F_law⟩ := c.def_ 19 rfl
  let T : Tx K mg := {
    fd_each_side := fd_each_side
    F_each_side := F_each_side
    g_each_side := He.glo_ok X G (c.fact 0 rfl)
    b_each_side := F_each_side.bindsN fun _ _ _ _ _ _ us hl => (match us, hl with | [_], _ => rfl)
    fd_count_of := fd_count_of
    F_count_of := F_count_of
    g_count_of := He.glo_ok X G (c.fact 1 rfl)
    b_count_of := F_count_of.bindsN fun _ _ _ _ _ _ us hl => (match us, hl with | [_, _, _, _], _ => rfl)
    fd_winding := fd_winding
    F_winding := F_winding
    g_winding := He.glo_ok X G (c.fact 2 rfl)
    b_winding := F_winding.bindsN fun _ _ _ _ _ _ us hl => (match us, hl with | [_, _, _], _ => rfl)
    fd_ink_of := fd_ink_of
    F_ink_of := F_ink_of
    g_ink_of := He.glo_ok X G (c.fact 3 rfl)
    b_ink_of := F_ink_of.bindsN fun _ _ _ _ _ _ us hl => (match us, hl with | [_], _ => rfl)
    fd_leftmost := fd_leftmost
    F_leftmost := F_leftmost
    g_leftmost := He.glo_ok X G (c.fact 4 rfl)
    b_leftmost := F_leftmost.bindsN fun _ _ _ _ _ _ us hl => (match us, hl with | [_, _], _ => rfl)
    fd_rightmost := fd_rightmost
    F_rightmost := F_rightmost
    g_rightmost := He.glo_ok X G (c.fact 5 rfl)
    b_rightmost := F_rightmost.bindsN fun _ _ _ _ _ _ us hl => (match us, hl with | [_, _], _ => rfl)
    fd_step_of := fd_step_of
    F_step_of := F_step_of
    g_step_of := He.glo_ok X G (c.fact 6 rfl)
    b_step_of := F_step_of.bindsN fun _ _ _ _ _ _ us hl => (match us, hl with | [_], _ => rfl)
    fd_blanks := fd_blanks
    F_blanks := F_blanks
    g_blanks := He.glo_ok X G (c.fact 7 rfl)
    b_blanks := F_blanks.bindsN fun _ _ _ _ _ _ us hl => (match us, hl with | [_, _, _, _], _ => rfl)
    fd_law_bag := fd_law_bag
    F_law_bag := F_law_bag
    g_law_bag := He.glo_ok X G (c.fact 8 rfl)
    b_law_bag := F_law_bag.bindsN fun _ _ _ _ _ _ us hl => (match us, hl with | [_, _], _ => rfl)
    fd_law_draw := fd_law_draw
    F_law_draw := F_law_draw
    g_law_draw := He.glo_ok X G (c.fact 9 rfl)
    b_law_draw := F_law_draw.bindsN fun _ _ _ _ _ _ us hl => (match us, hl with | [_, _], _ => rfl)
    fd_law_number := fd_law_number
    F_law_number := F_law_number
    g_law_number := He.glo_ok X G (c.fact 10 rfl)
    b_law_number := F_law_number.bindsN fun _ _ _ _ _ _ us hl => (match us, hl with | [_], _ => rfl)
    fd_law_ring := fd_law_ring
    F_law_ring := F_law_ring
    g_law_ring := He.glo_ok X G (c.fact 11 rfl)
    b_law_ring := F_law_ring.bindsN fun _ _ _ _ _ _ us hl => (match us, hl with | [_, _], _ => rfl)
    fd_law_rings := fd_law_rings
    F_law_rings := F_law_rings
    g_law_rings := He.glo_ok X G (c.fact 12 rfl)
    b_law_rings := F_law_rings.bindsN fun _ _ _ _ _ _ us hl => (match us, hl with | [_], _ => rfl)
    fd_law_turn := fd_law_turn
    F_law_turn := F_law_turn
    g_law_turn := He.glo_ok X G (c.fact 13 rfl)
    b_law_turn := F_law_turn.bindsN fun _ _ _ _ _ _ us hl => (match us, hl with | [_, _, _, _], _ => rfl)
    fd_law_winding := fd_law_winding
    F_law_winding := F_law_winding
    g_law_winding := He.glo_ok X G (c.fact 14 rfl)
    b_law_winding := F_law_winding.bindsN fun _ _ _ _ _ _ us hl => (match us, hl with | [_, _, _], _ => rfl)
    fd_law_ink := fd_law_ink
    F_law_ink := F_law_ink
    g_law_ink := He.glo_ok X G (c.fact 15 rfl)
    b_law_ink := F_law_ink.bindsN fun _ _ _ _ _ _ us hl => (match us, hl with | [_], _ => rfl)
    fd_law_blanks := fd_law_blanks
    F_law_blanks := F_law_blanks
    g_law_blanks := He.glo_ok X G (c.fact 16 rfl)
    b_law_blanks := F_law_blanks.bindsN fun _ _ _ _ _ _ us hl => (match us, hl with | [_, _, _, _], _ => rfl)
    fd_law_ink_stands := fd_law_ink_stands
    F_law_ink_stands := F_law_ink_stands
    g_law_ink_stands := He.glo_ok X G (c.fact 17 rfl)
    b_law_ink_stands := F_law_ink_stands.bindsN fun _ _ _ _ _ _ us hl => (match us, hl with | [_, _], _ => rfl)
    fd_law_blanks_stand := fd_law_blanks_stand
    F_law_blanks_stand := F_law_blanks_stand
    g_law_blanks_stand := He.glo_ok X G (c.fact 18 rfl)
    b_law_blanks_stand := F_law_blanks_stand.bindsN fun _ _ _ _ _ _ us hl => (match us, hl with | [_, _], _ => rfl)
    fd_law := fd_law
    F_law := F_law
    g_law := He.glo_ok X G (c.fact 19 rfl)
    b_law := F_law.bindsN fun _ _ _ _ _ _ us hl => (match us, hl with | [_], _ => rfl)
    z_abs := He.free_ok X G (c.fact 20 rfl)
    z_bool := He.free_ok X G (c.fact 21 rfl)
    z_enumerate := He.free_ok X G (c.fact 22 rfl)
    z_int := He.free_ok X G (c.fact 23 rfl)
    z_isinstance := He.free_ok X G (c.fact 24 rfl)
    z_len := He.free_ok X G (c.fact 25 rfl)
    z_list := He.free_ok X G (c.fact 26 rfl)
    z_max := He.free_ok X G (c.fact 27 rfl)
    z_min := He.free_ok X G (c.fact 28 rfl)
    z_range := He.free_ok X G (c.fact 29 rfl)
    z_tuple := He.free_ok X G (c.fact 30 rfl)
    c_GRID := He.int_ok X G (c.fact 31 rfl) }
  have e := hfa.symm.trans T.g_law
  cases e
  have b := FunD.bindsA (ps := ["_law_script"]) F_law fun _ _ _ _ _ _ us hl => match us, hl with | [_], _ => rfl
  exact ⟨fd_law, fun s v => b s [v] rfl, fun base _ _ => ok_law T⟩
end Mr
open PySem PySem.W PySem.Calls PyProof.Rows
theorem PySem.Challenge.cw_pressalike_k02_inks_by_rows_holds : PySem.Challenge.rw_pressalike_k02_inks_by_rows.Holds := by
  w_on; o_law
  refine HandSHeadRun.head_any (r := OpenLaw.row PySem.Challenge.rw_pressalike_k02_inks_by_rows) (q := view (OpenLaw.row PySem.Challenge.rw_pressalike_k02_inks_by_rows).prog [23]) (H := Mr.hk) (ob := Mr.ob) (M := 2000) (loose := ["GRID", "each_side", "count_of", "winding", "ink_of", "leftmost", "rightmost", "step_of", "blanks", "_law_bag", "_law_draw", "_law_number", "_law_ring", "_law_rings", "_law_turn", "_law_winding", "_law_ink", "_law_blanks", "_law_ink_stands", "_law_blanks_stand"]) (d := HandSHeadRun.topDef (OpenLaw.row PySem.Challenge.rw_pressalike_k02_inks_by_rows).prog 23) (kwd := []) Mr.ob_eq
    (by kernel_rfl) (fun s => by kernel_rfl) Mr.run (by kernel_rfl) (by kernel_rfl) (by kernel_rfl) (by rfl) (by first | assumption | decide +kernel) (by decide +kernel) ⟨rfl, rfl, rfl, rfl, rfl, by decide +kernel⟩ ?hw ?hc
  case hw => w_witness2
  case hc =>
    refine L2.walk_ofE (l := PySem.Challenge.rw_pressalike_k02_inks_by_rows) (n := 63) (k := 4) (x := "_law_script") (CX := L2.CX0) rfl (by decide) (by kernel_rfl) ⟨rfl, by decide, by decide⟩ ?F (fun _ _ _ _ z => z)
    intro w mg fa h Y G hmg0
    obtain ⟨K, KX, c⟩ := Y
    have hmg : mg ("law" : PySem.Str) = some (.ref fa) := by
      have e : (HandSHeadRun.topDef (OpenLaw.row PySem.Challenge.rw_pressalike_k02_inks_by_rows).prog 23).name = ("law" : PySem.Str) := by kernel_rfl
      rw [← e]
      exact hmg0
    obtain ⟨fd, hb, hF⟩ := Mr.facts (P := (PySem.Challenge.rw_pressalike_k02_inks_by_rows).prog) (w := w) KX G hmg c
    exact ⟨K, fd, Mr.sp_law K, KX, hb, fun H a ns hl _ hS => ⟨H, [], .ref a, ns, rfl, Mr.Sub.of H, ⟨a, _, rfl, hS, Mr.Al.ofSc⟩, true, Mr.law_plain ns hl, fun _ _ _ _ => rfl⟩, hF⟩
