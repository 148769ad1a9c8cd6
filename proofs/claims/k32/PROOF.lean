import PyProof.Rows.All
import HandS.Property
import HandS.HeadNt
import Wide.All
import OpenK.AllK
import Wide.FinOn
import HandS.ForMost
import KE.GoesEnum
import HandS.ForExc
import HandS.Wide
import HandS.IsInst
import HandS.Style
import HandS.Walk
import HandS.Conv
import HandS.Flow
import HandS.Defaults
import HandS.Star
import HandS.Deep
import HandS.FStrTup
import HandS.FStr
import PyProof.ReprNest
import PySem.PyData
import PyProof.P3Statements
import HandS.ExcInit
import HandS.ExcIs
import HandS.ExcField
import KE.SortData
import HandS.SortRule
import HandS.TryOnly
import HandS.Lambda
import HandS.HeadHook4
import HandS.EndTab
import HandS.HeadWalk
import HandS.Head0
import HandS.Head1
import HandS.Head2
import HandS.HeadEnd
import HandS.HeadHook1
import HandS.HeadHook2
import HandS.ExcOwn
import KE.SortLaws
import PySem.Challenge.RW_pressalike_k32_whole_standings_parted
set_option Elab.async false
set_option linter.all false
set_option maxRecDepth 100000
set_option maxHeartbeats 2000000
/-! MirH: the head's facts: defs at any address, and any test of the written part. -/
namespace Mr
open PySem PySem.Spec PyProof.Rows L2
abbrev FrT := PySem.W.Frag → Bool
def obsE (fa : List He.Fa) (fn : List He5.DefA) (ex : List FrT) (K : PySem.W.Frag) : He.AlD := (((fa.all fun f => f.ok K) && fn.all fun d => d.ok K) && ex.all fun f => f K, fn.map fun d => He5.fnA K (d.at_ K))
def valE (fn : List He5.DefA) : He.AlD := (true, fn.map He5.DefA.val)
def SaysE (fa : List He.Fa) (fn : List He5.DefA) (ex : List FrT) (K : PySem.W.Frag) : Prop := obsE fa fn ex K = valE fn
def obsEG (n : Nat) (fa : List He.Fa) (fn : List He5.DefA) (ex : List FrT) (g : Addr → Option Obj) : He.AlD := obsE fa fn ex (He.frG g (He.asD g n))
def hookE (n : Nat) (fa : List He.Fa) (fn : List He5.DefA) (ex : List FrT) : PySem.W.Hook where
  α := He.AlD
  obs := fun s => obsEG n fa fn ex s.heap.get?
  val := fun _ => valE fn
  says := fun _ h => ∃ K : PySem.W.Frag, K.In h ∧ SaysE fa fn ex K
  of := fun _ _ e => ⟨_, He.frG_in, e⟩
  keeps := fun _ _ _ ⟨K, hK, c⟩ k => ⟨K, PySem.W.Frag.In.keeps hK k, c⟩
theorem obsEG_eq {n : Nat} {fa : List He.Fa} {fn : List He5.DefA} {ex : List FrT} {g : Addr → Option Obj} {s : Shared} (h : ∀ a, g a = s.heap.get? a) : obsEG n fa fn ex g = (hookE n fa fn ex).obs s := by
  have e : g = s.heap.get? := funext h
  rw [e] <;> rfl
section
variable {fa : List He.Fa} {fn : List He5.DefA} {ex : List FrT} {K : PySem.W.Frag}
theorem SaysE.all (c : SaysE fa fn ex K) : ((fa.all fun f => f.ok K) = true ∧ (fn.all fun d => d.ok K) = true) ∧ (ex.all fun f => f K) = true := by
  have h := He.ba (show (((fa.all fun f => f.ok K) && fn.all fun d => d.ok K) && ex.all fun f => f K) = true from congrArg (fun z : He.AlD => z.1) c)
  exact ⟨He.ba h.1, h.2⟩
theorem SaysE.fact (c : SaysE fa fn ex K) (i : Nat) {f : He.Fa} (h : fa[i]? = some f := by rfl) : f.ok K = true := List.all_eq_true.mp c.all.1.1 f (List.mem_of_getElem? h)
theorem SaysE.test (c : SaysE fa fn ex K) (i : Nat) {f : FrT} (h : ex[i]? = some f := by rfl) : f K = true := List.all_eq_true.mp c.all.2 f (List.mem_of_getElem? h)
theorem SaysE.def_ (c : SaysE fa fn ex K) (i : Nat) {d : He5.DefA} (h : fn[i]? = some d := by rfl) : ∃ fd, L2.FunD K d.name d.qual d.params d.body d.scope (d.dvs K) (d.kws K) (d.at_ K) fd := by
  have e : fn.map (fun d => He5.fnA K (d.at_ K)) = fn.map He5.DefA.val := congrArg (fun z : He.AlD => z.2) c
  have e2 : (fn.map fun d => He5.fnA K (d.at_ K))[i]? = (fn.map He5.DefA.val)[i]? := by rw [e]
  rw [List.getElem?_map, List.getElem?_map, h] at e2
  exact He5.DefA.funD (Option.some.inj e2) (List.all_eq_true.mp c.all.1.2 d (List.mem_of_getElem? h))
end
/-! ### properties -/
abbrev pAd (K : PySem.W.Frag) (C f : Str) : Addr := He.ma K (He.ga K C) f
abbrev gAd (K : PySem.W.Frag) (C f : Str) : Addr := He5.wf K (He.ga K C) "property" f
def propB (C f : Str) : FrT := fun K => He.eqO (PySem.W.findIn K (.ref (He.ga K C)) f) (some (some (.ref (pAd K C f)))) && (He.eqO (PySem.W.specialIn K (.ref (pAd K C f)) "__get__") (some (some (.builtin "property.__get__"))) &&
  (decide (PySem.W.takesIn K (.ref (pAd K C f)) = some true) && (match PySem.W.recIn K (pAd K C f) "property" with
    | some (.ref _ :: _) => true
    | _ => false)))
theorem propB_ok {C f : Str} {K : PySem.W.Frag} (h : propB C f K = true) : PropOf K (He.ga K C) f (pAd K C f) (gAd K C f) := by
  obtain ⟨h1, h⟩ := He.ba h
  obtain ⟨h2, h⟩ := He.ba h
  obtain ⟨h3, h4⟩ := He.ba h
  refine ⟨He.eqO_ok h1, He.eqO_ok h2, of_decide_eq_true h3, ?_⟩
  show ∃ rest, PySem.W.recIn K (pAd K C f) "property" = some (.ref (He5.wf K (He.ga K C) "property" f) :: rest)
  unfold He5.wf
  split at h4
  · rename_i g r e
    exact ⟨r, by rw [e]⟩
  · cases h4
/-! ### len by an own __len__ -/
def spcB (C m : Str) : FrT := fun K => He.eqO (PySem.W.findIn K (.ref (He.ga K C)) m) (some (some (.ref (He.ma K (He.ga K C) m)))) && PySem.W.isFn K (.ref (He.ma K (He.ga K C) m))
structure Spc (K : PySem.W.Frag) (C : Addr) (m : Str) (f : Addr) : Prop where
  at_ : PySem.W.findIn K (.ref C) m = some (some (.ref f))
  fn : PySem.W.isFn K (.ref f) = true
theorem spcB_ok {C m : Str} {K : PySem.W.Frag} (h : spcB C m K = true) : Spc K (He.ga K C) m (He.ma K (He.ga K C) m) := by
  obtain ⟨h1, h2⟩ := He.ba h
  exact ⟨He.eqO_ok h1, h2⟩
def lenQ (Q : VK) : VK := fun v H' => ∃ n : Nat, v = .int n ∧ n < 2 ^ 62 ∧ Q (.int n) H'
def rLenOwn (C : Addr) (sp : Sp) (E : XK) : List V → Hp → VK → Prop := fun xs H Q => ∃ a dx fs, xs = [.ref a] ∧ H a = some (.ins C dx fs) ∧ sp [.ref a] H (lenQ Q) E
theorem cr_lenOwn {X : Cx} {CX : CXT} {k : Nat} {C f : Addr} {fd : FuncData} {ps : List Str} {sp : Sp} {E : XK} (F : FnOk X.prog X.w X.K X.mg X.base CX k f fd ps sp) (hs : Spc X.K C "__len__" f) (hr : Room (k + 1) X.A) (hb : Binds X.K fd ps []) (hx : Passes CX X.nox E) :
    CallR X (.builtin "len") (rLenOwn C sp E) := by
  intro pins s σ H xs us Q I r h
  obtain ⟨a, dx, fs, rfl, ea, h⟩ := h
  obtain ⟨u, rfl, rx⟩ := vals1 r
  obtain rfl : u = Value.ref a := rx
  obtain ⟨mA, O, _, _, _, _⟩ := ins_get I.hok ea
  obtain ⟨od, J, _⟩ := O.look
  have hl : ([Value.ref a] ++ ([] : List Value)).length = ps.length := by
    rw [← F.len _ _ _ _ h]; rfl
  refine PySem.Calls.call_function_entry kind_len plain_len entry_len (args_len1 _) ?_
  unfold Builtin.«len»
  refine wpAny_bind (m := oneArg "len" _) (wpAny_pure ?_)
  refine wpAny_bind (m := callSpecial? (.ref a) (Str.ofString "__len__")) (PySem.W.special_fn I.kIn J hs.at_ (beq_iff_eq.mp hs.fn) ?_)
  refine wpAny_call (codeAny_mono (F.run X.A.in1 X.stack s H ⟨[.ref a], []⟩ [.ref a] [.ref a] _ E hr.in1 I.env0.in1 (hb s [.ref a] I.kIn hl) (.cons rfl .nil) h) fun r s' hq => ?_)
  cases r with
  | error er => exact False.elim (hx pins σ H s er s' (I.wish _) hq)
  | ok fl =>
    cases fl with
    | ret u =>
      obtain ⟨v, H', I3, rv, n, rfl, hn, q3⟩ := I.after hq
      obtain ⟨t, rfl⟩ := rv
      refine wpAny_bind (wpAny_holding (wpAny_pure ?_))
      refine wpAny_bind (wpAny_letGo ?_)
      show wpAny _ _ (if (n : Int) < 0 then _ else _) _ _ _
      rw [if_neg (by omega)]
      show wpAny _ _ (if (n : Int) ≥ 2 ^ 63 then _ else _) _ _ _
      rw [if_neg (by omega)]
      exact wpAny_bind (wpAny_mkInt (wpAny_pure ⟨_, rfl, ⟨.int n, H', I3.tok _, ⟨_, rfl⟩, q3⟩⟩))
    | next => exact False.elim hq
    | brk => exact False.elim hq
    | cont => exact False.elim hq
end Mr

set_option Elab.async false
set_option linter.all false
set_option maxRecDepth 100000
set_option maxHeartbeats 2000000
/-! MirE: enumerate of a tuple, of a list or a tuple. -/
namespace Mr
open PySem PySem.Spec PyProof.Rows L2
theorem meets_enum1 {v : Value} {o : Obj} {H : Heap → Prop} (B : Begins v o H) :
    Meets (Builtin.«enumerate.__new__» ⟨[.type "enumerate", v], []⟩) (fun _ R s => H s.heap ∧
      R (.ok (.ret (.ref (s.heap.push o).objs.size))) { s with heap := (s.heap.push o).push { cls := .type "enumerate", data := .fields #[.none, .bool false, .ref s.heap.objs.size, rawInt 0, .none, .none] } }) :=
  .of_wp fun prog w A R s h => by
    obtain ⟨hp, g, d, tk, os⟩ := s; obtain ⟨h1, h⟩ := h
    have hsub := sub_enumerate
    have q1 : ∀ {A' : Around} {E : Value → Shared → Prop} {Q : Value → Shared → Prop}, Q (.ref hp.objs.size) ⟨hp.push o, g, d, tk, os⟩ → wpAny (model prog w) A' (pyIter v) Q E ⟨hp, g, d, tk, os⟩ :=
      fun q => B.iter prog w _ _ ⟨hp, g, d, tk, os⟩ _ h1 q
    wp_walk using q1
    refine wpAny_stack_any fun st => wpAny_pure ?_
    split
    · rename_i c _ _ _ _ _
      cases (c == Value.type "enumerate")
      · wp_walk using q1
        exact ⟨_, rfl, h⟩
      · wp_walk using q1
        exact ⟨_, rfl, h⟩
    · wp_walk using q1
      exact ⟨_, rfl, h⟩
theorem call_enum1 {prog : Program} {w : World} {A : Around} {E : Value → Shared → Prop} {s : Shared} {v : Value} {o : Obj} {H : Heap → Prop} {Q : Value → Shared → Prop} (B : Begins v o H) (h1 : H s.heap)
    (h : ∀ h', IsEnum h' (s.heap.objs.size + 1) s.heap.objs.size 0 .none → h'.get? s.heap.objs.size = some o → h'.objs.size = s.heap.objs.size + 2 →
      (∀ b o, s.heap.get? b = some o → h'.get? b = some o) → Q (.ref (s.heap.objs.size + 1)) { s with heap := h' }) :
    wpAny (model prog w) A (call (.type "enumerate") [v]) Q E s := by
  refine callType_new F.called_enumerate (by decide) (F.typeCall_enumerate_1 _) (F.newCall_enumerate_1 _) (fun obj => F.args_object_init_2 obj _) F.entry_enumerate_new
    (meets_enum1 B) ⟨h1, ?_⟩
  have hz : (s.heap.push o).objs.size = s.heap.objs.size + 1 := Heap.size_push ..
  show _ ∧ _
  rw [hz]
  have he : IsEnum ((s.heap.push o).push { cls := .type "enumerate", data := .fields #[.none, .bool false, .ref s.heap.objs.size, rawInt 0, .none, .none] }) (s.heap.objs.size + 1) s.heap.objs.size 0 .none := by
    have := Heap.get?_push_size (s.heap.push o) (o := { cls := .type "enumerate", data := .fields #[.none, .bool false, .ref s.heap.objs.size, rawInt 0, .none, .none] }) rfl
    rw [hz] at this; exact this
  refine ⟨⟨_, he, rfl⟩, h _ he (Heap.get?_push_of_some _ (Heap.get?_push_size _ B.free)) (by rw [Heap.size_push, hz]) fun b o x => Heap.get?_push_of_some _ (Heap.get?_push_of_some _ x)⟩
/-- the tuple at a, each item in a new pair -/
def IteT (K : PySem.W.Frag) (a : Addr) : It :=
  ⟨fun i H => ∃ (xs : List V) (x : V), SqT K H a xs ∧ xs[i]? = some x, fun i H v H' => ∃ T x, v = .ref T ∧ H T = none ∧ H' = upd H T (.tup [.int (i : Nat), x]) ∧ ∀ xs, SqT K H a xs → xs[i]? = some x, fun i H => ∃ xs : List V, SqT K H a xs ∧ xs.length = i⟩
theorem turn_enumT {P : Program} {w : World} {K : PySem.W.Frag} {elts : List Expr} {kk : Nat} {tpos : Pos} (a e it : Addr) :
    Turn P w K (.Tuple elts kk tpos) (IteT K a) [e, it] e (fun i h => (∃ old, IsEnum h e it ((i : Nat) : Int) old) ∧ h.IsTupleIter it a i ∧ e ≠ it ∧ a ≠ it ∧ a ≠ e) where
  mem := by simp
  obj := fun i h st b hb => by
    obtain ⟨⟨old, he⟩, ⟨o, ho, hc, hd⟩, _⟩ := st
    have e' : b = e ∨ b = it := by simpa using hb
    rcases e' with z | z
    · rw [z]; exact ⟨_, he, fun v q => nomatch q⟩
    · rw [z]; exact ⟨o, ho, fun v q => by rw [hd] at q; cases q⟩
  keep := fun i h h' st k => let ⟨⟨old, he⟩, hi, hne⟩ := st; ⟨⟨old, k e (by simp) _ he⟩, hi.at fun o q => k it (by simp) o q, hne⟩
  item := by
    intro X hP hw hK hc i pins s σ H E I hf st hg
    subst hP hw hK
    obtain ⟨⟨old, he⟩, hit, hne, hai, hae⟩ := st
    obtain ⟨xs, x, hq, hx⟩ := hg
    obtain ⟨its, rv, p, hz⟩ := I.tuple hq
    have hi : i < its.length := by rw [← rv.length]; exact (List.getElem?_eq_some_iff.mp hx).1
    have hel : e < s.heap.objs.size := Heap.lt_size he
    have hil : it < s.heap.objs.size := by obtain ⟨_, q, _⟩ := hit; exact Heap.lt_size q
    have D : Draws X.prog X.w X.A.in1 it [it, a] its.toArray.size (fun i v => its.toArray[i]? = some v) (fun i h => h.IsTupleIter it a i ∧ h.IsTuple a its.toArray) := Draws.tuple (A := X.A.in1) (show X.A.in1.handled = none from I.ok.hd hc) it a hai its.toArray
    refine wpAny_pyNext_enum_itemC D he ⟨hit, p⟩ (by simpa using hi) hne (fun hm => ?_) fun u h' tk hu ho hst' hT hsz hk => ?_
    · rcases List.mem_cons.mp hm with z | hm
      · exact hne z
      · rcases List.mem_cons.mp hm with z | hm
        · exact hae z.symm
        · cases hm
    obtain ⟨u', hu', ru⟩ := rv.get hx
    have hu2 : its[i]? = some u := by simpa using hu
    rw [hu2] at hu'
    cases hu'
    refine ⟨_, rfl, wpAny_letOwnedTupleGo_enum (s := { s with heap := h', toks := tk + 1 }) ho fun h'' he' sb => ?_⟩
    have hT2 : h''.get? s.heap.objs.size = some { cls := .type "tuple", data := .seq #[.int i tk, u] } := (sb.2 _ (Nat.ne_of_gt hel)).trans hT
    have new : ObjOk X.prog X.w (upd H s.heap.objs.size (.tup [.int (i : Nat), x])) h'' s.heap.objs.size (.tup [.int (i : Nat), x]) :=
      ⟨by show 2 ≤ sizeLine; decide, [.int i tk, u], .cons ⟨_, rfl⟩ (.cons ru .nil), ⟨_, hT2, rfl, _, rfl⟩⟩
    have I1 : Inv X pins σ (upd H s.heap.objs.size (.tup [.int (i : Nat), x])) { s with heap := h'', toks := tk + 1 } :=
      I.turnedNew (ch := [e, it]) (fun b ob hb q => (sb.2 b (fun z => hb (by simp [z]))).trans (hk b ob (fun z => hb (by simp [z])) (fun z => hb (by simp [z])) q)) hf (Nat.le_refl _) new
    refine ⟨.ref s.heap.objs.size, _, I1, rfl, ⟨_, x, rfl, I.hok.fresh (Nat.le_refl _), rfl, fun ys hy => by rw [I.tuple_inj hy hq]; exact hx⟩, ⟨⟨u, ?_⟩, hst'.1.at fun o q => (sb.2 it (Ne.symm hne)).trans q, hne, hai, hae⟩, fun b hb => ?_⟩
    · have e1 : ((i + 1 : Nat) : Int) = (i : Int) + 1 := by omega
      rw [e1]; exact he'
    · have hb' : b < s.heap.objs.size := by
        have e' : b = e ∨ b = it := by simpa using hb
        rcases e' with z | z
        · rw [z]; exact hel
        · rw [z]; exact hil
      rw [upd_ne (Nat.ne_of_lt hb')]
      exact (hf b hb).1
  done := by
    intro X hP hw hK hc i pins s σ H E I hf st hg
    subst hP hw hK
    obtain ⟨⟨old, he⟩, hit, hne, hai, hae⟩ := st
    obtain ⟨xs, hq, hx⟩ := hg
    obtain ⟨its, rv, p, hz⟩ := I.tuple hq
    obtain ⟨f0, f1, f2, f3, f4, f5⟩ := hf it (by simp)
    have hl := rv.length
    have D : Draws X.prog X.w X.A.in1 it [it, a] its.toArray.size (fun i v => its.toArray[i]? = some v) (fun i h => h.IsTupleIter it a i ∧ h.IsTuple a its.toArray) := Draws.tuple (A := X.A.in1) (show X.A.in1.handled = none from I.ok.hd hc) it a hai its.toArray
    have e0 : its.toArray.size = i := by simp; omega
    refine wpAny_pyNext_enum_endD D he (by rw [e0]; exact ⟨hit, p⟩) fun h' eb => ⟨rfl, I.turned (t' := s.toks) (fun b o hb q => eb b o hb q) f0 f1 f3 f4 f5⟩
  self := fun A i s Q E st h => let ⟨⟨_, he⟩, _⟩ := st; wpAny_pyIter_enum he h
def iEnumQ (K : PySem.W.Frag) (ta : TA) : TI := fun σ H R => ta σ H fun vs H1 => ∃ a xs, vs = [.ref a] ∧ ((SqL K H1 a xs ∧ R (Ite K a) H1) ∨ (SqT K H1 a xs ∧ R (IteT K a) H1))
theorem pi_enumQ {X : Cx} {e : Expr} {ta : TA} {p pos tpos : Pos} {elts : List Expr} {kk : Nat} (hg : Gl X "enumerate") (hm : X.mg "enumerate" = none) (ha : PA X [e] ta) (hs : starEach [e] X.env = [(false, eval e X.env)] := by rfl) :
    PI X (.Tuple elts kk tpos) (.Call (.Name "enumerate" p) [e] [] pos) (iEnumQ X.K ta) := by
  refine ⟨fun pins s σ H R I h => ?_⟩
  refine Call_ (ld_blt I hg hm boot_enumerate (PyProof.Rows.callWith_type1 (thn (ha.run pos pins s σ H _ I h) fun us s1 ⟨vs, H1, I1, r1, q1⟩ => ?_) hs rfl))
  obtain ⟨a, xs, ex, hqq⟩ := q1
  subst ex
  cases r1 with
  | cons r rr =>
    cases rr
    cases r
    have fin : ∀ b, b ∈ [s1.heap.objs.size + 1, s1.heap.objs.size] → s1.heap.objs.size ≤ b := fun b hb => by
      have e' : b = s1.heap.objs.size + 1 ∨ b = s1.heap.objs.size := by simpa using hb
      rcases e' with z | z
      · rw [z]; exact Nat.le_add_right _ _
      · rw [z]; exact Nat.le_refl _
    rcases hqq with ⟨hq, q⟩ | ⟨hq, q⟩
    · obtain ⟨its, rv, p', hz⟩ := I1.list hq
      refine call_enumerate_list p'.isList fun h' he hit hsz hk => wpAny_pyIter_enum he ?_
      have I2 : Inv X pins σ H1 { s1 with heap := h' } := I1.kept (t' := s1.toks) hk
      exact ⟨s1.heap.objs.size + 1, [s1.heap.objs.size + 1, s1.heap.objs.size], _, _, H1, rfl, I2, turn_enum a (s1.heap.objs.size + 1) s1.heap.objs.size, ⟨⟨.none, he⟩, hit, Nat.succ_ne_self _⟩, fun b hb => I1.fpOk (fin b hb) (I1.hok.fresh (fin b hb)), q⟩
    · obtain ⟨its, rv, p', hz⟩ := I1.tuple hq
      have hlt : a < s1.heap.objs.size := by obtain ⟨_, q, _⟩ := id p'; exact Heap.lt_size q
      refine call_enum1 (begins_tuple a its.toArray) p' fun h' he hit hsz hk => wpAny_pyIter_enum he ?_
      have I2 : Inv X pins σ H1 { s1 with heap := h' } := I1.kept (t' := s1.toks) hk
      exact ⟨s1.heap.objs.size + 1, [s1.heap.objs.size + 1, s1.heap.objs.size], _, _, H1, rfl, I2, turn_enumT a (s1.heap.objs.size + 1) s1.heap.objs.size,
        ⟨⟨.none, he⟩, ⟨_, hit, rfl, rfl⟩, Nat.succ_ne_self _, Nat.ne_of_lt hlt, Nat.ne_of_lt (Nat.lt_succ_of_lt hlt)⟩, fun b hb => I1.fpOk (fin b hb) (I1.hok.fresh (fin b hb)), q⟩
end Mr

set_option linter.all false
set_option maxRecDepth 100000
/-! MirP: the plain part of the mirrors: Option computations (none: the model's rules do not cover it), folds, loops. -/
namespace Mr
theorem bindS {α β : Type} {o : Option α} {f : α → Option β} {r : β} (h : o.bind f = some r) : ∃ a, o = some a ∧ f a = some r := by
  cases o with
  | none => cases h
  | some a => exact ⟨a, rfl, h⟩
def fdivM (a b : Int) : Option Int := if 0 < b ∧ b.natAbs.log2 < 9000 then some (a / b) else none
def modM (a b : Int) : Option Int := if 0 < b then some (a % b) else none
def mulM (a b : Int) : Option Int := if (-(2 ^ 64) < a ∧ a < 2 ^ 64) ∨ (-(2 ^ 64) < b ∧ b < 2 ^ 64) then some (a * b) else none
def ixM (n : Nat) (i : Int) : Option Nat := if 0 ≤ i then (if i < n then some i.toNat else none) else if -(n : Int) ≤ i then some (i + n).toNat else none
def getM {α : Type} (xs : List α) (i : Int) : Option α := (ixM xs.length i).bind fun j => xs[j]?
def setM {α : Type} (xs : List α) (i : Int) (x : α) : Option (List α) := (ixM xs.length i).bind fun j => some (xs.set j x)
def appM {α : Type} (xs : List α) (x : α) : Option (List α) := if xs.length < 100000 then some (xs ++ [x]) else none
def rngM (n : Int) : Option (List Int) := if -(2 ^ 62) ≤ n ∧ n < 2 ^ 62 then some ((List.range n.toNat).map fun (i : Nat) => (i : Int)) else none
def rng2M (a b : Int) : Option (List Int) := if -(2 ^ 62) ≤ a ∧ a < 2 ^ 62 ∧ -(2 ^ 62) ≤ b ∧ b < 2 ^ 62 then some ((List.range (b - a).toNat).map fun (i : Nat) => a + (i : Int)) else none
def enumF {α : Type} : Nat → List α → List (Int × α)
  | _, [] => []
  | k, x :: xs => ((k : Int), x) :: enumF (k + 1) xs
def enumM {α : Type} (xs : List α) : List (Int × α) := enumF 0 xs
def slIx (n d : Nat) : Option Int → Nat
  | none => d
  | some v => if v < 0 then (v + (n : Int)).toNat else min v.toNat n
def cutM {α : Type} (xs : List α) (lo hi : Option Int) : List α := (xs.drop (slIx xs.length 0 lo)).take (slIx xs.length xs.length hi - slIx xs.length 0 lo)
def catM {α : Type} (xs ys : List α) : Option (List α) := if xs.length + ys.length ≤ 100000 then some (xs ++ ys) else none
theorem catM_some {α : Type} {xs ys zs : List α} (h : catM xs ys = some zs) : xs.length + ys.length ≤ 100000 ∧ xs ++ ys = zs := by
  unfold catM at h
  split at h
  · rename_i c; exact ⟨c, Option.some.inj h⟩
  · cases h
def szM {α : Type} (xs : List α) : Option (List α) := if xs.length ≤ 100000 then some xs else none
theorem szM_some {α : Type} {xs ys : List α} (h : szM xs = some ys) : xs.length ≤ 100000 ∧ xs = ys := by
  unfold szM at h
  split at h
  · rename_i c; exact ⟨c, Option.some.inj h⟩
  · cases h
/-- a loop that is never left -/
def folM {α σ : Type} (f : σ → α → Option σ) : List α → σ → Option σ
  | [], s => some s
  | x :: xs, s => (f s x).bind fun s' => folM f xs s'
/-- a turn's end, a loop's end -/
inductive Bf (σ ρ : Type) where
  | go (s : σ) | bk (s : σ) | rt (r : ρ)
inductive Fl (σ ρ : Type) where
  | nx (s : σ) | rt (r : ρ)
def forL {α σ ρ : Type} (f : σ → α → Option (Bf σ ρ)) : List α → σ → Option (Fl σ ρ)
  | [], s => some (.nx s)
  | x :: xs, s => (f s x).bind fun b => match b with
    | .go s' => forL f xs s'
    | .bk s' => some (.nx s')
    | .rt r => some (.rt r)
def conL {α σ ρ : Type} (f : σ → α → Option (Bf σ ρ)) (xs : List α) : Bf σ ρ → Option (Fl σ ρ)
  | .go s' => forL f xs s'
  | .bk s' => some (.nx s')
  | .rt r => some (.rt r)
theorem forL_cons {α σ ρ : Type} {f : σ → α → Option (Bf σ ρ)} {x : α} {xs : List α} {s : σ} : forL f (x :: xs) s = (f s x).bind (conL f xs) := by
  show (f s x).bind _ = _
  congr 1
/-- [e for x in xs if t]: none of a turn: left out -/
def mapM' {α β : Type} (f : α → Option β) : List α → Option (List β)
  | [] => some []
  | x :: xs => (f x).bind fun y => (mapM' f xs).bind fun ys => some (y :: ys)
def selM {α β : Type} (f : α → Option (Option β)) : List α → Option (List β)
  | [] => some []
  | x :: xs => (f x).bind fun y => (selM f xs).bind fun ys => some (match y with
    | some z => z :: ys
    | none => ys)
/-- while: n turns at most -/
def whlM {σ : Type} (c : σ → Option Bool) (f : σ → Option σ) : Nat → σ → Option σ
  | 0, _ => none
  | n + 1, s => (c s).bind fun b => if b then (f s).bind fun s' => whlM c f n s' else some s
/-- while: test and body as one turn; N turns at most -/
def whL {σ ρ : Type} (f : σ → Option (Bf σ ρ)) : Nat → σ → Option (Fl σ ρ)
  | 0, _ => none
  | n + 1, s => (f s).bind fun b => match b with
    | .go s' => whL f n s'
    | .bk s' => some (.nx s')
    | .rt r => some (.rt r)
def conW {σ ρ : Type} (f : σ → Option (Bf σ ρ)) (n : Nat) : Bf σ ρ → Option (Fl σ ρ)
  | .go s' => whL f n s'
  | .bk s' => some (.nx s')
  | .rt r => some (.rt r)
theorem whL_succ {σ ρ : Type} {f : σ → Option (Bf σ ρ)} {n : Nat} {s : σ} : whL f (n + 1) s = (f s).bind (conW f n) := by
  show (f s).bind _ = _
  congr 1
def goF {α σ : Type} (ρ : Type) (f : σ → α → Option σ) : σ → α → Option (Bf σ ρ) := fun s x => (f s x).bind fun s' => some (.go s')
theorem goF_some {α σ ρ : Type} {f : σ → α → Option σ} {s : σ} {x : α} {b : Bf σ ρ} (h : goF ρ f s x = some b) : ∃ s', f s x = some s' ∧ Bf.go s' = b := by
  obtain ⟨s', h1, h2⟩ := bindS h
  exact ⟨s', h1, Option.some.inj h2⟩
theorem fol_for {α σ : Type} (ρ : Type) {f : σ → α → Option σ} : ∀ {xs : List α} {s r : σ}, folM f xs s = some r → forL (goF ρ f) xs s = some (.nx r)
  | [], s, r, h => by cases h; rfl
  | x :: xs, s, r, h => by
    obtain ⟨s', h1, h2⟩ := bindS h
    rw [forL_cons]
    show ((f s x).bind fun s' => some (Bf.go s')).bind _ = _
    rw [h1]
    exact fol_for ρ h2
theorem mulM_some {a b x : Int} (h : mulM a b = some x) : ((-(2 ^ 64) < a ∧ a < 2 ^ 64) ∨ (-(2 ^ 64) < b ∧ b < 2 ^ 64)) ∧ a * b = x := by
  unfold mulM at h
  split at h
  · rename_i c; exact ⟨c, Option.some.inj h⟩
  · cases h
theorem fdivM_some {a b x : Int} (h : fdivM a b = some x) : (0 < b ∧ b.natAbs.log2 < 9000) ∧ a / b = x := by
  unfold fdivM at h
  split at h
  · rename_i c; exact ⟨c, Option.some.inj h⟩
  · cases h
theorem modM_some {a b x : Int} (h : modM a b = some x) : 0 < b ∧ a % b = x := by
  unfold modM at h
  split at h
  · rename_i c; exact ⟨c, Option.some.inj h⟩
  · cases h
theorem appM_some {α : Type} {xs ys : List α} {x : α} (h : appM xs x = some ys) : xs.length < 100000 ∧ xs ++ [x] = ys := by
  unfold appM at h
  split at h
  · rename_i c; exact ⟨c, Option.some.inj h⟩
  · cases h
theorem setM_some {α : Type} {xs ys : List α} {i : Int} {x : α} (h : setM xs i x = some ys) : ∃ j, ixM xs.length i = some j ∧ xs.set j x = ys := by
  obtain ⟨j, h1, h2⟩ := bindS h
  exact ⟨j, h1, Option.some.inj h2⟩
theorem rngM_some {n : Int} {xs : List Int} (h : rngM n = some xs) : (-(2 ^ 62) ≤ n ∧ n < 2 ^ 62) ∧ (List.range n.toNat).map (fun (i : Nat) => (i : Int)) = xs := by
  unfold rngM at h
  split at h
  · rename_i c; exact ⟨c, Option.some.inj h⟩
  · cases h
theorem rng2M_some {a b : Int} {xs : List Int} (h : rng2M a b = some xs) : (-(2 ^ 62) ≤ a ∧ a < 2 ^ 62 ∧ -(2 ^ 62) ≤ b ∧ b < 2 ^ 62) ∧ (List.range (b - a).toNat).map (fun (i : Nat) => a + (i : Int)) = xs := by
  unfold rng2M at h
  split at h
  · rename_i c; exact ⟨c, Option.some.inj h⟩
  · cases h
theorem folM_drop {α σ : Type} {f : σ → α → Option σ} {xs : List α} {s r : σ} {i : Nat} {x : α} (hx : xs[i]? = some x) (h : folM f (xs.drop i) s = some r) :
    ∃ s', f s x = some s' ∧ folM f (xs.drop (i + 1)) s' = some r := by
  have hi : i < xs.length := (List.getElem?_eq_some_iff.mp hx).1
  have e : xs[i] = x := (List.getElem?_eq_some_iff.mp hx).2
  rw [List.drop_eq_getElem_cons hi, e] at h
  exact bindS h
theorem forL_drop {α σ ρ : Type} {f : σ → α → Option (Bf σ ρ)} {xs : List α} {s : σ} {r : Fl σ ρ} {i : Nat} {x : α} (hx : xs[i]? = some x) (h : forL f (xs.drop i) s = some r) :
    ∃ b, f s x = some b ∧ conL f (xs.drop (i + 1)) b = some r := by
  have hi : i < xs.length := (List.getElem?_eq_some_iff.mp hx).1
  have e : xs[i] = x := (List.getElem?_eq_some_iff.mp hx).2
  rw [List.drop_eq_getElem_cons hi, e, forL_cons] at h
  exact bindS h
theorem enumF_get {α : Type} : ∀ (xs : List α) (k i : Nat), (enumF k xs)[i]? = (xs[i]?).map fun x => (((k + i : Nat) : Int), x)
  | [], k, i => by simp [enumF]
  | x :: xs, k, 0 => by simp [enumF]
  | x :: xs, k, i + 1 => by
    show (enumF (k + 1) xs)[i]? = _
    rw [enumF_get xs (k + 1) i]
    have e : k + 1 + i = k + (i + 1) := by omega
    rw [e]
    rfl
theorem enumF_length {α : Type} : ∀ (xs : List α) (k : Nat), (enumF k xs).length = xs.length
  | [], _ => rfl
  | x :: xs, k => congrArg Nat.succ (enumF_length xs (k + 1))
theorem enumM_get {α : Type} (xs : List α) (i : Nat) : (enumM xs)[i]? = (xs[i]?).map fun x => ((i : Int), x) := by
  unfold enumM
  rw [enumF_get, Nat.zero_add]
theorem enumM_length {α : Type} (xs : List α) : (enumM xs).length = xs.length := enumF_length xs 0
/-- the sides of a ring -/
def sidesM {α : Type} (xs : List α) : List (α × α) := xs.zip (xs.drop 1 ++ xs.take 1)
theorem sidesM_length {α : Type} (xs : List α) : (sidesM xs).length = xs.length := by
  unfold sidesM
  rw [List.length_zip, List.length_append, List.length_drop, List.length_take]
  omega
theorem sidesM_get {α : Type} (xs : List α) {i : Nat} {p : α × α} (h : (sidesM xs)[i]? = some p) : xs[i]? = some p.1 ∧ xs[(i + 1) % xs.length]? = some p.2 := by
  unfold sidesM at h
  rw [List.getElem?_zip_eq_some] at h
  refine ⟨h.1, ?_⟩
  have hi : i < xs.length := (List.getElem?_eq_some_iff.mp h.1).1
  have h2 := h.2
  by_cases hl : i + 1 < xs.length
  · rw [List.getElem?_append_left (by rw [List.length_drop]; omega), List.getElem?_drop, Nat.add_comm] at h2
    rw [Nat.mod_eq_of_lt hl]; exact h2
  · have e : i + 1 = xs.length := by omega
    rw [List.getElem?_append_right (by rw [List.length_drop]; omega), List.length_drop] at h2
    have e2 : i - (xs.length - 1) = 0 := by omega
    rw [e2, List.getElem?_take_of_lt (by decide)] at h2
    rw [e, Nat.mod_self]; exact h2
def sdM {α : Type} (xs : List α) : Option (List (α × α)) := if xs.length ≤ 100000 then some (sidesM xs) else none
theorem sdM_some {α : Type} {xs : List α} {ys : List (α × α)} (h : sdM xs = some ys) : xs.length ≤ 100000 ∧ ys = sidesM xs := by
  unfold sdM at h
  split at h
  · next c => exact ⟨c, (Option.some.inj h).symm⟩
  · cases h
def maxM : List Int → Option Int
  | [] => none
  | x :: xs => some (xs.foldl (fun a b => if a < b then b else a) x)
theorem maxF_ge : ∀ (xs : List Int) (x : Int), x ≤ xs.foldl (fun a b => if a < b then b else a) x ∧ (∀ y ∈ xs, y ≤ xs.foldl (fun a b => if a < b then b else a) x) ∧ (xs.foldl (fun a b => if a < b then b else a) x = x ∨ xs.foldl (fun a b => if a < b then b else a) x ∈ xs)
  | [], x => ⟨Int.le_refl _, (fun y h => by cases h), .inl rfl⟩
  | z :: xs, x => by
    obtain ⟨h1, h2, h3⟩ := maxF_ge xs (if x < z then z else x)
    have ha : x ≤ (if x < z then z else x) := by split <;> omega
    have hb : z ≤ (if x < z then z else x) := by split <;> omega
    refine ⟨Int.le_trans ha h1, fun y hy => ?_, ?_⟩
    · rcases List.mem_cons.mp hy with rfl | hy
      · exact Int.le_trans hb h1
      · exact h2 y hy
    · rcases h3 with h3 | h3
      · show List.foldl _ (if x < z then z else x) xs = x ∨ _
        by_cases c : x < z
        · right
          show List.foldl _ (if x < z then z else x) xs ∈ z :: xs
          rw [h3, if_pos c]; exact List.mem_cons_self ..
        · left
          rw [h3, if_neg c]
      · exact .inr (List.mem_cons_of_mem _ h3)
theorem maxM_some {xs : List Int} {m : Int} (h : maxM xs = some m) : m ∈ xs ∧ (∀ y ∈ xs, y ≤ m) ∧ 0 < xs.length := by
  cases xs with
  | nil => cases h
  | cons x xs =>
    cases h
    obtain ⟨h1, h2, h3⟩ := maxF_ge xs x
    refine ⟨?_, fun y hy => ?_, by simp⟩
    · rcases h3 with h3 | h3
      · rw [h3]; exact List.mem_cons_self ..
      · exact List.mem_cons_of_mem _ h3
    · rcases List.mem_cons.mp hy with rfl | hy
      · exact h1
      · exact h2 y hy
theorem max_uniq {xs : List Int} {m m' : Int} (h : m ∈ xs ∧ ∀ y ∈ xs, y ≤ m) (h' : m' ∈ xs ∧ ∀ y ∈ xs, y ≤ m') : m = m' := by
  have := h.2 m' h'.1
  have := h'.2 m h.1
  omega
end Mr

set_option Elab.async false
set_option linter.all false
set_option maxRecDepth 100000
set_option maxHeartbeats 2000000
/-! Mir: worlds (frozen part G, owned part O), what data a value stands for (R), steps and loops over the readings of HandS. -/
namespace Mr
open PySem PySem.Spec PyProof.Rows L2

/-! ### worlds -/
def Ext (G H : Hp) : Prop := ∀ a o, G a = some o → H a = some o
theorem Ext.refl (H : Hp) : Ext H H := fun _ _ h => h
theorem Ext.trans {H H1 H2 : Hp} (a : Ext H H1) (b : Ext H1 H2) : Ext H H2 := fun x o h => b x o (a x o h)
abbrev Own := List (Addr × HO)
structure Sub (G : Hp) (O : Own) (H : Hp) : Prop where
  ext : Ext G H
  own : ∀ p ∈ O, H p.1 = some p.2 ∧ G p.1 = none
  nd : (O.map (·.1)).Nodup
  nt : ∀ b ps, G b ≠ some (.tbl ps)
section
variable {G G' H H' : Hp} {O O' : Own} {a b p : Addr} {o o' : HO}
theorem Sub.gnone (S : Sub G O H) (hp : H p = none) : G p = none := by
  cases h : G p with
  | none => rfl
  | some u => rw [S.ext p u h] at hp; cases hp
theorem Sub.junk (S : Sub G O H) (hp : H p = none) : Sub G O (upd H p o) := by
  refine ⟨fun x u h => ?_, fun q hq => ?_, S.nd, S.nt⟩
  · rw [upd_ne (ne_of_none (S.ext x u h) hp)]; exact S.ext x u h
  · obtain ⟨h1, h2⟩ := S.own q hq
    exact ⟨by rw [upd_ne (ne_of_none h1 hp)]; exact h1, h2⟩
theorem Sub.extNew (S : Sub G O H) (hp : H p = none) (o : HO) : Ext G (upd G p o) := fun x u h => by
  rw [upd_ne (ne_of_none h (S.gnone hp))]; exact h
theorem Sub.new (S : Sub G O H) (hp : H p = none) (ho : ∀ ps, o ≠ .tbl ps := by intro ps z; cases z) : Sub (upd G p o) O (upd H p o) := by
  refine ⟨fun x u h => ?_, fun q hq => ?_, S.nd, fun b ps z => ?_⟩
  · by_cases e : x = p
    · subst e; rw [upd_same] at h ⊢; exact h
    · rw [upd_ne e] at h ⊢; exact S.ext x u h
  · obtain ⟨h1, h2⟩ := S.own q hq
    have e := ne_of_none h1 hp
    exact ⟨by rw [upd_ne e]; exact h1, by rw [upd_ne e]; exact h2⟩
  · by_cases e : b = p
    · subst e; rw [upd_same] at z; exact ho ps (Option.some.inj z)
    · rw [upd_ne e] at z; exact S.nt b ps z
theorem Sub.newOwn (S : Sub G O H) (hp : H p = none) : Sub G ((p, o) :: O) (upd H p o) := by
  refine ⟨(S.junk hp).ext, fun q hq => ?_, ?_, S.nt⟩
  · rcases List.mem_cons.mp hq with e | hq
    · subst e; exact ⟨upd_same, S.gnone hp⟩
    · exact (S.junk hp).own q hq
  · refine List.nodup_cons.mpr ⟨fun hm => ?_, S.nd⟩
    obtain ⟨q, hq, e⟩ := List.mem_map.mp hm
    exact ne_of_none (S.own q hq).1 hp e
theorem Sub.head (S : Sub G ((a, o) :: O) H) : H a = some o := (S.own (a, o) (List.mem_cons_self ..)).1
theorem Sub.ghead (S : Sub G ((a, o) :: O) H) : G a = none := (S.own (a, o) (List.mem_cons_self ..)).2
theorem Sub.tail (S : Sub G ((a, o) :: O) H) : Sub G O H :=
  ⟨S.ext, fun q hq => S.own q (List.mem_cons_of_mem _ hq), (List.nodup_cons.mp S.nd).2, S.nt⟩
theorem Sub.head_ne (S : Sub G ((a, o) :: O) H) : ∀ q ∈ O, q.1 ≠ a := fun q hq e =>
  (List.nodup_cons.mp S.nd).1 (List.mem_map.mpr ⟨q, hq, e⟩)
/-- the first owned object is written -/
theorem Sub.wr (S : Sub G ((a, o) :: O) H) : Sub G ((a, o') :: O) (upd H a o') := by
  refine ⟨fun x u h => ?_, fun q hq => ?_, S.nd, S.nt⟩
  · have e : x ≠ a := ne_of_none h S.ghead
    rw [upd_ne e]; exact S.ext x u h
  · rcases List.mem_cons.mp hq with e | hq
    · subst e; exact ⟨upd_same, S.ghead⟩
    · have e := S.head_ne q hq
      exact ⟨by rw [upd_ne e]; exact (S.tail.own q hq).1, (S.tail.own q hq).2⟩
/-- the first owned object is frozen -/
theorem Sub.frz (S : Sub G ((a, o) :: O) H) (ho : ∀ ps, o ≠ .tbl ps := by intro ps z; cases z) : Sub (upd G a o) O H := by
  refine ⟨fun x u h => ?_, fun q hq => ?_, S.tail.nd, fun b ps z => ?_⟩
  · by_cases e : x = a
    · subst e; rw [upd_same] at h; cases h; exact S.head
    · rw [upd_ne e] at h; exact S.ext x u h
  · rw [upd_ne (S.head_ne q hq)]; exact S.tail.own q hq
  · by_cases e : b = a
    · subst e; rw [upd_same] at z; exact ho ps (Option.some.inj z)
    · rw [upd_ne e] at z; exact S.nt b ps z
theorem Sub.extFrz (S : Sub G ((a, o) :: O) H) : Ext G (upd G a o) := fun x u h => by
  rw [upd_ne (ne_of_none h S.ghead)]; exact h
theorem Sub.perm (S : Sub G O H) (h : O.Perm O') : Sub G O' H :=
  ⟨S.ext, fun q hq => S.own q (h.mem_iff.mpr hq), (h.map _).nodup_iff.mp S.nd, S.nt⟩
theorem perm_erase {α : Type} : ∀ (l : List α) (i : Nat) (q : α), l[i]? = some q → l.Perm (q :: l.eraseIdx i)
  | [], i, q, h => by simp at h
  | x :: l, 0, q, h => by simp at h; subst h; exact List.Perm.refl _
  | x :: l, i + 1, q, h => by
    have ih := perm_erase l i q (by simpa using h)
    exact (List.Perm.cons x ih).trans (List.Perm.swap q x _)
/-- the i-th owned object to the front -/
theorem Sub.front (S : Sub G O H) (i : Nat) {q : Addr × HO} {O' : Own} (h : O[i]? = some q) (h' : O.eraseIdx i = O') : Sub G (q :: O') H := by
  subst h'
  exact S.perm (perm_erase O i q h)
/-- the begin: the script's list alone is known, and what O says is owned -/
theorem Sub.start {K : PySem.W.Frag} {H : Hp} {O : Own} {a : Addr} {xs : List V} (h : SqL K H a xs) (ho : ∀ p ∈ O, H p.1 = some p.2 ∧ p.1 ≠ a) (nd : (O.map (·.1)).Nodup) : ∃ G, Sub G O H ∧ SqL K G a xs := by
  rcases h with (h | ⟨o, h⟩) | h
  · refine ⟨fun b => if b = a then some (.lst xs) else none, ⟨fun b u e => ?_, fun p hp => ⟨(ho p hp).1, if_neg (ho p hp).2⟩, nd, fun b ps e => ?_⟩, .inl (.inl (if_pos rfl))⟩
    · by_cases q : b = a
      · rw [if_pos q] at e; rw [q, ← e]; exact h
      · rw [if_neg q] at e; cases e
    · by_cases q : b = a
      · rw [if_pos q] at e; cases e
      · rw [if_neg q] at e; cases e
  · refine ⟨fun b => if b = a then some (.frz o (.lst xs)) else none, ⟨fun b u e => ?_, fun p hp => ⟨(ho p hp).1, if_neg (ho p hp).2⟩, nd, fun b ps e => ?_⟩, .inl (.inr ⟨o, if_pos rfl⟩)⟩
    · by_cases q : b = a
      · rw [if_pos q] at e; rw [q, ← e]; exact h
      · rw [if_neg q] at e; cases e
    · by_cases q : b = a
      · rw [if_pos q] at e; cases e
      · rw [if_neg q] at e; cases e
  · exact ⟨fun _ => none, ⟨fun b u e => (by cases e), fun p hp => ⟨(ho p hp).1, rfl⟩, nd, fun b ps e => (by cases e)⟩, .inr h⟩
end

/-! ### what a value stands for -/
structure R (α : Type) where
  rel : Hp → V → α → Prop
  mono : ∀ {G G' : Hp} {v : V} {x : α}, Ext G G' → rel G v x → rel G' v x
theorem R.up {α : Type} {r : R α} {G G' : Hp} {v : V} {x : α} (e : Ext G G') (h : r.rel G v x) : r.rel G' v x := r.mono e h
def rSc {α : Type} (f : α → V) : R α := ⟨fun _ v x => v = f x, fun _ h => h⟩
abbrev rInt : R Int := rSc V.int
abbrev rBool : R Bool := rSc V.bl
abbrev rStr : R Str := rSc V.str
abbrev rNon : R Unit := rSc fun _ => V.non
def Al {α : Type} (r : R α) (G : Hp) : List V → List α → Prop
  | [], [] => True
  | v :: vs, x :: xs => r.rel G v x ∧ Al r G vs xs
  | _, _ => False
section
variable {α β γ : Type} {r : R α} {G G' H : Hp} {K : PySem.W.Frag} {v w : V} {vs : List V} {x : α} {xs : List α} {a : Addr}
theorem Al.nil : Al r G [] [] := True.intro
theorem Al.up (e : Ext G G') : ∀ {vs : List V} {xs : List α}, Al r G vs xs → Al r G' vs xs
  | [], [], _ => True.intro
  | _ :: _, _ :: _, h => ⟨r.mono e h.1, Al.up e h.2⟩
  | [], _ :: _, h => h.elim
  | _ :: _, [], h => h.elim
theorem Al.len : ∀ {vs : List V} {xs : List α}, Al r G vs xs → vs.length = xs.length
  | [], [], _ => rfl
  | _ :: _, _ :: _, h => congrArg Nat.succ (Al.len h.2)
  | [], _ :: _, h => h.elim
  | _ :: _, [], h => h.elim
theorem Al.get : ∀ {vs : List V} {xs : List α} {i : Nat} {x : α}, Al r G vs xs → xs[i]? = some x → ∃ v, vs[i]? = some v ∧ r.rel G v x
  | [], [], i, x, _, e => by simp at e
  | v :: vs, y :: xs, 0, x, h, e => by simp at e; subst e; exact ⟨v, rfl, h.1⟩
  | v :: vs, y :: xs, i + 1, x, h, e => by
    obtain ⟨w, h1, h2⟩ := Al.get (i := i) h.2 (by simpa using e)
    exact ⟨w, by simpa using h1, h2⟩
  | [], _ :: _, _, _, h, _ => h.elim
  | _ :: _, [], _, _, h, _ => h.elim
theorem Al.getV : ∀ {vs : List V} {xs : List α} {i : Nat} {v : V}, Al r G vs xs → vs[i]? = some v → ∃ x, xs[i]? = some x ∧ r.rel G v x
  | [], [], i, v, _, e => by simp at e
  | v :: vs, y :: xs, 0, w, h, e => by simp at e; subst e; exact ⟨y, rfl, h.1⟩
  | v :: vs, y :: xs, i + 1, w, h, e => by
    obtain ⟨z, h1, h2⟩ := Al.getV (i := i) h.2 (by simpa using e)
    exact ⟨z, by simpa using h1, h2⟩
  | [], _ :: _, _, _, h, _ => h.elim
  | _ :: _, [], _, _, h, _ => h.elim
theorem Al.app : ∀ {vs ws : List V} {xs ys : List α}, Al r G vs xs → Al r G ws ys → Al r G (vs ++ ws) (xs ++ ys)
  | [], _, [], _, _, h => h
  | _ :: _, _, _ :: _, _, h, h' => ⟨h.1, Al.app h.2 h'⟩
  | [], _, _ :: _, _, h, _ => h.elim
  | _ :: _, _, [], _, h, _ => h.elim
theorem Al.set : ∀ {vs : List V} {xs : List α} (i : Nat), Al r G vs xs → r.rel G v x → Al r G (vs.set i v) (xs.set i x)
  | [], [], _, _, _ => True.intro
  | _ :: _, _ :: _, 0, h, h' => ⟨h', h.2⟩
  | _ :: _, _ :: _, i + 1, h, h' => ⟨h.1, Al.set i h.2 h'⟩
  | [], _ :: _, _, h, _ => h.elim
  | _ :: _, [], _, h, _ => h.elim
theorem Al.take : ∀ {vs : List V} {xs : List α} (n : Nat), Al r G vs xs → Al r G (vs.take n) (xs.take n)
  | _, _, 0, _ => True.intro
  | [], [], _ + 1, _ => True.intro
  | _ :: _, _ :: _, n + 1, h => ⟨h.1, Al.take n h.2⟩
  | [], _ :: _, _ + 1, h => h.elim
  | _ :: _, [], _ + 1, h => h.elim
theorem Al.drop : ∀ {vs : List V} {xs : List α} (n : Nat), Al r G vs xs → Al r G (vs.drop n) (xs.drop n)
  | _, _, 0, h => h
  | [], [], _ + 1, _ => True.intro
  | _ :: _, _ :: _, n + 1, h => Al.drop n h.2
  | [], _ :: _, _ + 1, h => h.elim
  | _ :: _, [], _ + 1, h => h.elim
theorem Al.sc {f : α → V} : ∀ {vs : List V} {xs : List α}, Al (rSc f) G vs xs → vs = xs.map f
  | [], [], _ => rfl
  | _ :: _, _ :: _, h => by rw [h.1, Al.sc h.2]; rfl
  | [], _ :: _, h => h.elim
  | _ :: _, [], h => h.elim
theorem Al.ofSc {f : α → V} : ∀ {xs : List α}, Al (rSc f) G (xs.map f) xs
  | [] => True.intro
  | _ :: _ => ⟨rfl, Al.ofSc⟩
end
theorem sqL_up {K : PySem.W.Frag} {G G' : Hp} {a : Addr} {xs : List V} (e : Ext G G') (h : SqL K G a xs) : SqL K G' a xs := by
  rcases h with (h | ⟨o, h⟩) | h
  · exact .inl (.inl (e _ _ h))
  · exact .inl (.inr ⟨o, e _ _ h⟩)
  · exact .inr h
theorem sqT_up {K : PySem.W.Frag} {G G' : Hp} {a : Addr} {xs : List V} (e : Ext G G') (h : SqT K G a xs) : SqT K G' a xs := by
  rcases h with (h | ⟨o, h⟩) | h
  · exact .inl (.inl (e _ _ h))
  · exact .inl (.inr ⟨o, e _ _ h⟩)
  · exact .inr h
section
variable (K : PySem.W.Frag) {α β γ δ : Type}
/-- a list; a tuple of any length; either -/
def rL (r : R α) : R (List α) := ⟨fun G v xs => ∃ p vs, v = .ref p ∧ SqL K G p vs ∧ Al r G vs xs, fun e ⟨p, vs, h1, h2, h3⟩ => ⟨p, vs, h1, sqL_up e h2, h3.up e⟩⟩
def rT (r : R α) : R (List α) := ⟨fun G v xs => ∃ p vs, v = .ref p ∧ SqT K G p vs ∧ Al r G vs xs, fun e ⟨p, vs, h1, h2, h3⟩ => ⟨p, vs, h1, sqT_up e h2, h3.up e⟩⟩
def rQ (r : R α) : R (List α) := ⟨fun G v xs => ∃ p vs, v = .ref p ∧ (SqL K G p vs ∨ SqT K G p vs) ∧ Al r G vs xs, fun e ⟨p, vs, h1, h2, h3⟩ => ⟨p, vs, h1, h2.imp (sqL_up e) (sqT_up e), h3.up e⟩⟩
end

/-! ### rules with a cut, ints and bools compared -/
def tCutE (t : TE) : TE := fun σ H Q => ∃ J : VK, t σ H J ∧ ∀ v H', J v H' → Q v H'
def tCutT (t : TT) : TT := fun σ H Q => ∃ J : Bool → Hp → Prop, t σ H J ∧ ∀ b H', J b H' → Q b H'
def tCutS (t : TS) : TS := fun D σ H => ∃ J : L2.St → Hp → Prop, t { D with nx := J } σ H ∧ ∀ σ' H', J σ' H' → D.nx σ' H'
section
variable {X : Cx} {e : Expr} {st : Stmt} {te : TE} {tt : TT} {ts : TS}
theorem pe_cut (h : PE X e te) : PE X e (tCutE te) := by
  refine ⟨fun pins s σ H Q I hq => ?_⟩
  obtain ⟨J, h1, h2⟩ := hq
  exact thn (h.run pins s σ H J I h1) fun v s1 ⟨x, H1, I1, r1, q1⟩ => ⟨x, H1, I1, r1, h2 _ _ q1⟩
theorem pt_cut (h : PT X e tt) : PT X e (tCutT tt) := by
  refine ⟨fun pins s σ H Q I hq => ?_⟩
  obtain ⟨J, h1, h2⟩ := hq
  exact thn (h.run pins s σ H J I h1) fun b s1 ⟨H1, I1, q1⟩ => ⟨H1, I1, h2 _ _ q1⟩
theorem ps_cut (h : PS X st ts) : PS X st (tCutS ts) := by
  refine ⟨fun pins s σ H D I hq => ?_⟩
  obtain ⟨J, h1, h2⟩ := hq
  refine thn (h.run pins s σ H { D with nx := J } I h1) fun f s1 q => ?_
  cases f with
  | next => obtain ⟨σ', H', I', q⟩ := q; exact ⟨σ', H', I', h2 _ _ q⟩
  | ret v => exact q
  | brk => exact q
  | cont => exact q
theorem op_eqI : OpR X (compareOp .Eq) (rI0 fun i j => .bl (decide (i = j))) := fun pins s σ H x y v u Q I rx ry h => by
  obtain ⟨i, j, rfl, rfl, q⟩ := h
  refine op_eq pins s σ H _ _ v u Q I rx ry ⟨rfl, ?_⟩
  have e : decide (V.int i = V.int j) = decide (i = j) := by
    by_cases h : i = j
    · subst h; simp
    · rw [decide_eq_false h, decide_eq_false (fun z => h (V.int.inj z))]
  rw [e]; exact q
theorem op_neI : OpR X (compareOp .NotEq) (rI0 fun i j => .bl (!decide (i = j))) := fun pins s σ H x y v u Q I rx ry h => by
  obtain ⟨i, j, rfl, rfl, q⟩ := h
  refine op_ne pins s σ H _ _ v u Q I rx ry ⟨rfl, ?_⟩
  have e : decide (V.int i = V.int j) = decide (i = j) := by
    by_cases h : i = j
    · subst h; simp
    · rw [decide_eq_false h, decide_eq_false (fun z => h (V.int.inj z))]
  rw [e]; exact q
def rB0 (g : Bool → Bool → V) : R2 := fun x y H Q => ∃ i j, x = .bl i ∧ y = .bl j ∧ Q (g i j) H
theorem op_eqB : OpR X (compareOp .Eq) (rB0 fun i j => .bl (i == j)) := fun pins s σ H x y v u Q I rx ry h => by
  obtain ⟨i, j, rfl, rfl, q⟩ := h
  refine op_eq pins s σ H _ _ v u Q I rx ry ⟨rfl, ?_⟩
  have e : decide (V.bl i = V.bl j) = (i == j) := by cases i <;> cases j <;> rfl
  rw [e]; exact q
theorem op_neB : OpR X (compareOp .NotEq) (rB0 fun i j => .bl (i != j)) := fun pins s σ H x y v u Q I rx ry h => by
  obtain ⟨i, j, rfl, rfl, q⟩ := h
  refine op_ne pins s σ H _ _ v u Q I rx ry ⟨rfl, ?_⟩
  have e : (!decide (V.bl i = V.bl j)) = (i != j) := by cases i <;> cases j <;> rfl
  rw [e]; exact q
def rS0 (g : Str → Str → V) : R2 := fun x y H Q => ∃ i j, x = .str i ∧ y = .str j ∧ Q (g i j) H
theorem op_eqS : OpR X (compareOp .Eq) (rS0 fun i j => .bl (decide (i = j))) := fun pins s σ H x y v u Q I rx ry h => by
  obtain ⟨i, j, rfl, rfl, q⟩ := h
  refine op_eq pins s σ H _ _ v u Q I rx ry ⟨rfl, ?_⟩
  have e : decide (V.str i = V.str j) = decide (i = j) := by
    by_cases h : i = j
    · subst h; simp
    · rw [decide_eq_false h, decide_eq_false (fun z => h (V.str.inj z))]
  rw [e]; exact q
theorem op_neS : OpR X (compareOp .NotEq) (rS0 fun i j => .bl (!decide (i = j))) := fun pins s σ H x y v u Q I rx ry h => by
  obtain ⟨i, j, rfl, rfl, q⟩ := h
  refine op_ne pins s σ H _ _ v u Q I rx ry ⟨rfl, ?_⟩
  have e : decide (V.str i = V.str j) = decide (i = j) := by
    by_cases h : i = j
    · subst h; simp
    · rw [decide_eq_false h, decide_eq_false (fun z => h (V.str.inj z))]
  rw [e]; exact q
end

/-! ### relations by name -/
def rLenM (K : PySem.W.Frag) : List V → Hp → VK → Prop := fun xs H Q => ∃ p ys, xs = [.ref p] ∧ (SqL K H p ys ∨ SqT K H p ys) ∧ Q (.int ys.length) H
def rTupOf (K : PySem.W.Frag) : List V → Hp → VK → Prop := fun xs H Q => ∃ p ys, xs = [.ref p] ∧ ((SqL K H p ys ∧ ∀ l, H l = none → Q (.ref l) (upd H l (.tup ys))) ∨ (SqT K H p ys ∧ Q (.ref p) H))
def rListOf (K : PySem.W.Frag) : List V → Hp → VK → Prop := fun xs H Q => ∃ p ys, xs = [.ref p] ∧ (SqL K H p ys ∨ SqT K H p ys) ∧ ∀ l, H l = none → Q (.ref l) (upd H l (.lst ys))
section
variable {X : Cx}
theorem call_lenM : CallR X (.builtin "len") (rLenM X.K) := call_len_seq
theorem call_tupOf : CallR X (.type "tuple") (rTupOf X.K) := call_tuple_of
theorem call_listOf : CallR X (.type "list") (rListOf X.K) := call_list_of
end
def mkTup (xs : List V) (H : Hp) (Q : VK) : Prop := xs.length ≤ sizeLine ∧ ∀ p, H p = none → Q (.ref p) (upd H p (.tup xs))
def mkLst (xs : List V) (H : Hp) (Q : VK) : Prop := xs.length ≤ sizeLine ∧ ∀ p, H p = none → Q (.ref p) (upd H p (.lst xs))
def LpW (g : TG) (tb : TS) (D : Ends) (σ : L2.St) (J : It) (H : Hp) : Prop := ∃ W : Nat → Nat → L2.St → Hp → Prop, (∃ m, W 0 m σ H) ∧ ∀ i m σ H, W i m σ H →
  (J.stop i H ∧ D.nx σ H) ∨ (J.go i H ∧ ∃ N : L2.St → Hp → Prop, (∀ σ' H', N σ' H' → ∃ m', m' < m ∧ W (i + 1) m' σ' H') ∧ ∀ x H', J.yld i H x H' → g x σ H' fun σ2 H2 => tb { D with nx := N, ct := N, bk := D.nx } σ2 H2)
def itL (K : PySem.W.Frag) (x : V) (H : Hp) (RI : It → Hp → Prop) : Prop := ∃ a, x = .ref a ∧ (∃ xs, SqL K H a xs) ∧ RI (Itl K a) H
def itT (K : PySem.W.Frag) (x : V) (H : Hp) (RI : It → Hp → Prop) : Prop := ∃ a, x = .ref a ∧ (∃ xs, SqT K H a xs) ∧ RI (Itt K a) H
def itR (vs : List V) (H : Hp) (RI : It → Hp → Prop) : Prop := ∃ j : Int, vs = [.int j] ∧ -(2 ^ 62) ≤ j ∧ j < 2 ^ 62 ∧ RI (Itr 0 j.toNat) H
def itR2 (vs : List V) (H : Hp) (RI : It → Hp → Prop) : Prop := ∃ i j : Int, vs = [.int i, .int j] ∧ (-(2 ^ 62) ≤ i ∧ i < 2 ^ 62 ∧ -(2 ^ 62) ≤ j ∧ j < 2 ^ 62) ∧ RI (Itr i (j - i).toNat) H
def itE (K : PySem.W.Frag) (vs : List V) (H : Hp) (RI : It → Hp → Prop) : Prop := ∃ a xs, vs = [.ref a] ∧ ((SqL K H a xs ∧ RI (Ite K a) H) ∨ (SqT K H a xs ∧ RI (IteT K a) H))

/-! ### peeling a reading -/
section
variable {σ : L2.St} {H : Hp} {Q : VK} {QB : Bool → Hp → Prop} {QA : List V → Hp → Prop} {QO : Option Int → Hp → Prop} {v : V} {i j l : Nat} {ta tb te : TE} {tt tu : TT} {ts tr : TS} {t : TA} {D : Ends} {K : PySem.W.Frag}
theorem gV (e : σ[i]? = some (some v)) (h : Q v H) : tVar i σ H Q := ⟨v, e, h⟩
theorem gC (h : Q v H) : tC v σ H Q := h
theorem gOp {r : R2} (h : ta σ H fun x H1 => tb σ H1 fun y H2 => r x y H2 Q) : tOp r ta tb σ H Q := h
theorem gUn {r : V → Hp → VK → Prop} (h : ta σ H fun x H1 => r x H1 Q) : tUn r ta σ H Q := h
theorem gTest (h : te σ H fun x H' => ∃ k, x = .bl k ∧ QB k H') : tTest te σ H QB := h
theorem gB (h : te σ H fun x H' => ∃ k, x = .bl k ∧ QB k H') : tB te σ H QB := h
theorem gNot (h : tt σ H fun c H1 => QB (!c) H1) : tNot tt σ H QB := h
theorem gAnd (h : tt σ H fun c H1 => if c = true then tu σ H1 QB else QB false H1) : tAnd tt tu σ H QB := h
theorem gOr (h : tt σ H fun c H1 => if c = true then QB true H1 else tu σ H1 QB) : tOr tt tu σ H QB := h
theorem gAndV (h : ta σ H fun x H1 => ∃ c, x = .bl c ∧ if c = true then tb σ H1 Q else Q (.bl false) H1) : tAndV ta tb σ H Q := h
theorem gOrV (h : ta σ H fun x H1 => ∃ c, x = .bl c ∧ if c = true then Q (.bl true) H1 else tb σ H1 Q) : tOrV ta tb σ H Q := h
theorem gNotV (h : ta σ H fun x H1 => ∃ c, x = .bl c ∧ Q (.bl (!c)) H1) : tNotV ta σ H Q := h
theorem gIf (h : tt σ H fun c H1 => if c = true then ta σ H1 Q else tb σ H1 Q) : tIf tt ta tb σ H Q := h
theorem gCons' (h : ta σ H fun x H1 => t σ H1 fun xs H2 => QA (x :: xs) H2) : tCons ta t σ H QA := h
theorem gNil' (h : QA [] H) : tNil σ H QA := h
theorem gCB {r : List V → Hp → VK → Prop} (h : t σ H fun vs H1 => r vs H1 Q) : tCB r t σ H Q := h
theorem gCall {sp : Sp} {dvs : List V} {E : XK} (h : t σ H fun vs H1 => sp (vs ++ dvs) H1 Q E) : tCall sp dvs E t σ H Q := h
theorem gTup' (h : t σ H fun xs H1 => mkTup xs H1 Q) : tTup t σ H Q := h
theorem gLst (h : t σ H fun xs H1 => mkLst xs H1 Q) : tLst t σ H Q := h
theorem gSl {r : V → Option Int → Option Int → Hp → VK → Prop} {to tp : TO} (h : te σ H fun x H1 => to σ H1 fun l H2 => tp σ H2 fun u H3 => r x l u H3 Q) : tSl r te to tp σ H Q := h
theorem gPart (h : te σ H fun x H1 => ∃ i, x = .int i ∧ QO (some i) H1) : tPart te σ H QO := h
theorem gNoPart (h : QO none H) : tNoPart σ H QO := h
theorem gBM {T : String} {r : V → List V → Hp → VK → Prop} (h : te σ H fun x H1 => tyV K T x H1 ∧ t σ H1 fun xs H2 => r x xs H2 Q) : tBM K T r te t σ H Q := h
theorem gSeq (h : ts { D with nx := tr D } σ H) : tSeq ts tr D σ H := h
theorem gNext (h : D.nx σ H) : tNext D σ H := h
theorem gAsgN (h : te σ H fun x H1 => D.nx (σ.set i (some x)) H1) : tAsg te (gName i) D σ H := h
theorem gAsg {g : TG} (h : te σ H fun x H1 => g x σ H1 D.nx) : tAsg te g D σ H := h
theorem gSub' {ts' : TSet} {QS : L2.St → Hp → Prop} (h : ta σ H fun o H1 => tb σ H1 fun i H2 => ts' o i v H2 fun H3 => QS σ H3) : gSub ta tb ts' v σ H QS := h
theorem gPar (h : t σ H fun vs H1 => ∃ v w, vs = [v, w] ∧ D.nx ((σ.set i (some v)).set j (some w)) H1) : tPar i j t D σ H := h
theorem gPar3 (h : t σ H fun vs H1 => ∃ u v w, vs = [u, v, w] ∧ D.nx (((σ.set i (some u)).set j (some v)).set l (some w)) H1) : tPar3 i j l t D σ H := h
theorem gAug {ti : TIp} {x : V} (e : σ[i]? = some (some x)) (h : te σ H fun y H1 => ti x y H1 fun z H2 => D.nx (σ.set i (some z)) H2) : tAug i te ti D σ H := ⟨x, e, h⟩
theorem gDrop (h : te σ H fun _ H1 => D.nx σ H1) : tDrop te D σ H := h
theorem gRet (h : te σ H D.rt) : tRet te D σ H := h
theorem gIfS (h : tt σ H fun b H1 => if b = true then ts D σ H1 else tr D σ H1) : tIfS tt ts tr D σ H := h
theorem gFor {wi : TI} {g : TG} (h : wi σ H (LpW g ts D σ)) : tFor wi g ts D σ H := h
variable {RI : It → Hp → Prop}
theorem gIL (h : te σ H fun x H1 => itL K x H1 RI) : iList K te σ H RI := h
theorem gIT (h : te σ H fun x H1 => itT K x H1 RI) : iTup K te σ H RI := h
theorem gIR (h : t σ H fun vs H1 => itR vs H1 RI) : iRng1 t σ H RI := h
theorem gIR2 (h : t σ H fun vs H1 => itR2 vs H1 RI) : iRng2 t σ H RI := h
theorem gIE (h : t σ H fun vs H1 => itE K vs H1 RI) : iEnumQ K t σ H RI := h
theorem gCE (J : VK) (h : te σ H J) (h2 : ∀ v H', J v H' → Q v H') : tCutE te σ H Q := ⟨J, h, h2⟩
theorem gCT (J : Bool → Hp → Prop) (h : tt σ H J) (h2 : ∀ v H', J v H' → QB v H') : tCutT tt σ H QB := ⟨J, h, h2⟩
theorem gCS (J : L2.St → Hp → Prop) (h : ts { D with nx := J } σ H) (h2 : ∀ σ' H', J σ' H' → D.nx σ' H') : tCutS ts D σ H := ⟨J, h, h2⟩
theorem gS_AsgN (h : te σ H fun x H1 => tr D (σ.set i (some x)) H1) : tSeq (tAsg te (gName i)) tr D σ H := h
theorem gS_Asg {g : TG} (h : te σ H fun x H1 => g x σ H1 (tr D)) : tSeq (tAsg te g) tr D σ H := h
theorem gS_Par (h : t σ H fun vs H1 => ∃ v w, vs = [v, w] ∧ tr D ((σ.set i (some v)).set j (some w)) H1) : tSeq (tPar i j t) tr D σ H := h
theorem gS_Par3 (h : t σ H fun vs H1 => ∃ u v w, vs = [u, v, w] ∧ tr D (((σ.set i (some u)).set j (some v)).set l (some w)) H1) : tSeq (tPar3 i j l t) tr D σ H := h
theorem gS_Aug {ti : TIp} {x : V} (e : σ[i]? = some (some x)) (h : te σ H fun y H1 => ti x y H1 fun z H2 => tr D (σ.set i (some z)) H2) : tSeq (tAug i te ti) tr D σ H := ⟨x, e, h⟩
theorem gS_Drop (h : te σ H fun _ H1 => tr D σ H1) : tSeq (tDrop te) tr D σ H := h
theorem gS_IfS {tw : TS} (h : tt σ H fun b H1 => if b = true then ts { D with nx := tr D } σ H1 else tw { D with nx := tr D } σ H1) : tSeq (tIfS tt ts tw) tr D σ H := h
theorem gS_CS (J : L2.St → Hp → Prop) (h : ts { D with nx := J } σ H) (h2 : ∀ σ' H', J σ' H' → tr D σ' H') : tSeq (tCutS ts) tr D σ H := ⟨J, h, h2⟩
theorem gE {f bk ct : L2.St → Hp → Prop} {rt : VK} (h : f σ H) : Ends.nx ⟨f, rt, bk, ct⟩ σ H := h
theorem ne_false {b : Bool} (h : ¬ b = true) : b = false := by
  cases b with
  | true => exact (h rfl).elim
  | false => rfl
end

/-! ### sizes -/
theorem sz {n : Nat} (h : n ≤ 100000) : n ≤ sizeLine := Nat.le_trans h (by decide)
theorem szl {n : Nat} (h : n < 100000) : n < sizeLine := Nat.lt_of_lt_of_le h (by decide)
theorem sz0 : 0 ≤ sizeLine := sz (by decide)
theorem sz1 : 1 ≤ sizeLine := sz (by decide)
theorem sz2 : 2 ≤ sizeLine := sz (by decide)
theorem sz3 : 3 ≤ sizeLine := sz (by decide)
theorem sz4 : 4 ≤ sizeLine := sz (by decide)
theorem sz5 : 5 ≤ sizeLine := sz (by decide)
theorem sz6 : 6 ≤ sizeLine := sz (by decide)

/-! ### steps -/
theorem ix_eq (n : Nat) (i : Int) : ixM n i = ixN n i := rfl
theorem get_eq {α : Type} (xs : List α) (i : Int) : getM xs i = atI xs i := rfl
theorem cut_eq (xs : List V) (lo hi : Option Int) : cutV xs lo hi = cutM xs lo hi := by
  have e : ∀ n d o, HT.sIx n d o = slIx n d o := fun n d o => by cases o <;> rfl
  unfold cutV cutM
  rw [e, e]
section
variable {α β γ δ : Type} {r : R α} {G G' H : Hp} {O : Own} {K : PySem.W.Frag} {v w : V} {vs : List V} {x : α} {xs : List α} {a : Addr} {Q : VK}
theorem Al.getI {i : Int} (h : Al r G vs xs) (e : getM xs i = some x) : ∃ v, atI vs i = some v ∧ r.rel G v x := by
  unfold getM at e
  rw [← h.len] at e
  obtain ⟨j, e1, e2⟩ := bindS e
  obtain ⟨w, h1, h2⟩ := h.get e2
  refine ⟨w, ?_, h2⟩
  show (ixN vs.length i).bind _ = some w
  rw [← ix_eq, e1]
  exact h1
theorem Al.cut {lo hi : Option Int} (h : Al r G vs xs) : Al r G (cutV vs lo hi) (cutM xs lo hi) := by
  rw [cut_eq]
  unfold cutM
  rw [h.len]
  exact (h.drop _).take _
/-- xs[i] of a frozen list, tuple, list or tuple; of an owned list -/
theorem q_ixL {i : Int} (S : Sub G O H) (h : (rL K r).rel G v xs) (e : getM xs i = some x) (q : ∀ w, r.rel G w x → Q w H) : rIxL K v (.int i) H Q := by
  obtain ⟨p, vs, rfl, hs, ha⟩ := h
  obtain ⟨w, h1, h2⟩ := ha.getI e
  exact ⟨p, vs, i, w, rfl, rfl, sqL_up S.ext hs, h1, q w h2⟩
theorem q_ixT {i : Int} (S : Sub G O H) (h : (rT K r).rel G v xs) (e : getM xs i = some x) (q : ∀ w, r.rel G w x → Q w H) : rIxT K v (.int i) H Q := by
  obtain ⟨p, vs, rfl, hs, ha⟩ := h
  obtain ⟨w, h1, h2⟩ := ha.getI e
  exact ⟨p, vs, i, w, rfl, rfl, sqT_up S.ext hs, h1, q w h2⟩
theorem q_ixO {i : Int} (S : Sub G ((a, .lst vs) :: O) H) (h : Al r G vs xs) (e : getM xs i = some x) (q : ∀ w, r.rel G w x → Q w H) : rIxL K (.ref a) (.int i) H Q := by
  obtain ⟨w, h1, h2⟩ := h.getI e
  exact ⟨a, vs, i, w, rfl, rfl, .inl (.inl S.head), h1, q w h2⟩
/-- len -/
theorem q_lenL {y : V} (S : Sub G O H) (h : (rL K r).rel G v xs) (q : Q (.int (xs.length : Int)) H) : rLenM K [v] H Q := by
  obtain ⟨p, vs, rfl, hs, ha⟩ := h
  refine ⟨p, vs, rfl, .inl (sqL_up S.ext hs), ?_⟩
  rw [ha.len]; exact q
theorem q_lenT (S : Sub G O H) (h : (rT K r).rel G v xs) (q : Q (.int (xs.length : Int)) H) : rLenM K [v] H Q := by
  obtain ⟨p, vs, rfl, hs, ha⟩ := h
  refine ⟨p, vs, rfl, .inr (sqT_up S.ext hs), ?_⟩
  rw [ha.len]; exact q
theorem q_lenO (S : Sub G ((a, .lst vs) :: O) H) (h : Al r G vs xs) (q : Q (.int (xs.length : Int)) H) : rLenM K [V.ref a] H Q := by
  refine ⟨a, vs, rfl, .inl (.inl (.inl S.head)), ?_⟩
  rw [h.len]; exact q
end
/-! ### further steps -/
section
variable {α β γ δ : Type} {r : R α} {G G' H : Hp} {O : Own} {K : PySem.W.Frag} {v w : V} {vs : List V} {x : α} {xs ys : List α} {a : Addr} {Q : VK}
theorem q_mul {i j k : Int} (h : mulM i j = some k) (q : Q (.int k) H) : rI CMul (fun i j => .int (i * j)) (.int i) (.int j) H Q := by
  obtain ⟨c, e⟩ := mulM_some h
  exact ⟨i, j, rfl, rfl, c, by show Q (.int (i * j)) H; rw [e]; exact q⟩
theorem q_fdiv {i j k : Int} (h : fdivM i j = some k) (q : Q (.int k) H) : rI CDivW (fun i j => .int (i / j)) (.int i) (.int j) H Q := by
  obtain ⟨c, e⟩ := fdivM_some h
  exact ⟨i, j, rfl, rfl, c, by show Q (.int (i / j)) H; rw [e]; exact q⟩
theorem q_mod {i j k : Int} (h : modM i j = some k) (q : Q (.int k) H) : rI (fun _ j => 0 < j) (fun i j => .int (i % j)) (.int i) (.int j) H Q := by
  obtain ⟨c, e⟩ := modM_some h
  exact ⟨i, j, rfl, rfl, c, by show Q (.int (i % j)) H; rw [e]; exact q⟩
/-- xs.append(e), the first owned list -/
theorem q_app (S : Sub G ((a, .lst vs) :: O) H) (h : Al r G vs xs) (hv : r.rel G v x) (e : appM xs x = some ys) (q : ∀ H' w, Sub G ((a, .lst w) :: O) H' → Al r G w ys → Q .non H') : rAppend (.ref a) [v] H Q := by
  obtain ⟨c, e⟩ := appM_some e
  refine ⟨a, vs, v, rfl, rfl, S.head, szl (by rw [h.len]; exact c), q _ _ S.wr ?_⟩
  rw [← e]
  exact h.app ⟨hv, True.intro⟩
/-- xs[i] = e -/
theorem q_setL {i : Int} {Q : Hp → Prop} (S : Sub G ((a, .lst vs) :: O) H) (h : Al r G vs xs) (hv : r.rel G v x) (e : setM xs i x = some ys) (q : ∀ H' ws, Sub G ((a, .lst ws) :: O) H' → Al r G ws ys → Q H') : rSetL (.ref a) (.int i) v H Q := by
  obtain ⟨j, e1, e2⟩ := setM_some e
  rw [← h.len] at e1
  refine ⟨a, vs, i, j, rfl, rfl, S.head, e1, q _ _ S.wr ?_⟩
  rw [← e2]
  exact h.set j hv
/-- slices: a new list (frozen at once) -/
theorem q_slL {lo hi : Option Int} (S : Sub G O H) (h : (rL K r).rel G v xs) (q : ∀ w G' H', Ext G G' → Sub G' O H' → (rL K r).rel G' w (cutM xs lo hi) → Q w H') : rSlL K v lo hi H Q := by
  obtain ⟨p, vs, rfl, hs, ha⟩ := h
  refine ⟨p, vs, rfl, sqL_up S.ext hs, fun t ht => q _ _ _ (S.extNew ht (.lst (cutV vs lo hi))) (S.new ht) ⟨t, _, rfl, .inl (.inl upd_same), ?_⟩⟩
  exact (ha.up (S.extNew ht _)).cut
/-- a list display, owned -/
theorem q_lst (S : Sub G O H) (h : Al r G vs xs) (hz : vs.length ≤ 100000) (q : ∀ p H' w, Sub G ((p, .lst w) :: O) H' → Al r G w xs → Q (.ref p) H') : mkLst vs H Q :=
  ⟨sz hz, fun p hp => q p _ vs (S.newOwn hp) h⟩
/-- tuple(xs) of an owned list, of a list, of a list or tuple -/
theorem q_tupO (S : Sub G ((a, .lst vs) :: O) H) (h : Al r G vs xs) (q : ∀ u G' H', Ext G G' → Sub G' ((a, .lst vs) :: O) H' → (rT K r).rel G' u xs → Q u H') :
    rTupOf K [V.ref a] H Q :=
  ⟨a, vs, rfl, .inl ⟨.inl (.inl S.head), fun l hl => q _ _ _ (S.extNew hl _) (S.new hl) ⟨l, vs, rfl, .inl (.inl upd_same), h.up (S.extNew hl _)⟩⟩⟩
theorem q_tupL (S : Sub G O H) (h : (rL K r).rel G v xs) (q : ∀ u G' H', Ext G G' → Sub G' O H' → (rT K r).rel G' u xs → Q u H') :
    rTupOf K [v] H Q := by
  obtain ⟨p, vs, rfl, hs, ha⟩ := h
  exact ⟨p, vs, rfl, .inl ⟨sqL_up S.ext hs, fun l hl => q _ _ _ (S.extNew hl _) (S.new hl) ⟨l, vs, rfl, .inl (.inl upd_same), ha.up (S.extNew hl _)⟩⟩⟩
theorem q_tupT (S : Sub G O H) (h : (rT K r).rel G v xs) (q : Q v H) :
    rTupOf K [v] H Q := by
  obtain ⟨p, vs, rfl, hs, ha⟩ := h
  exact ⟨p, vs, rfl, .inr ⟨sqT_up S.ext hs, q⟩⟩
/-- list(xs): a new list, frozen or owned -/
theorem q_listQ (S : Sub G O H) (h : (rQ K r).rel G v xs) (q : ∀ u G' H', Ext G G' → Sub G' O H' → (rL K r).rel G' u xs → Q u H') :
    rListOf K [v] H Q := by
  obtain ⟨p, vs, rfl, hs, ha⟩ := h
  exact ⟨p, vs, rfl, hs.imp (sqL_up S.ext) (sqT_up S.ext), fun l hl => q _ _ _ (S.extNew hl _) (S.new hl) ⟨l, vs, rfl, .inl (.inl upd_same), ha.up (S.extNew hl _)⟩⟩
theorem q_listQo (S : Sub G O H) (h : (rQ K r).rel G v xs) (q : ∀ p vs H', Sub G ((p, .lst vs) :: O) H' → Al r G vs xs → Q (.ref p) H') :
    rListOf K [v] H Q := by
  obtain ⟨p, vs, rfl, hs, ha⟩ := h
  exact ⟨p, vs, rfl, hs.imp (sqL_up S.ext) (sqT_up S.ext), fun l hl => q l vs _ (S.newOwn hl) ha⟩
theorem rL_Q (h : (rL K r).rel G v xs) : (rQ K r).rel G v xs := let ⟨p, vs, e, hs, ha⟩ := h; ⟨p, vs, e, .inl hs, ha⟩
theorem rT_Q (h : (rT K r).rel G v xs) : (rQ K r).rel G v xs := let ⟨p, vs, e, hs, ha⟩ := h; ⟨p, vs, e, .inr hs, ha⟩
/-- an owned list, frozen -/
theorem rL_frz (S : Sub G ((a, .lst vs) :: O) H) (h : Al r G vs xs) : (rL K r).rel (upd G a (.lst vs)) (.ref a) xs := ⟨a, vs, rfl, .inl (.inl upd_same), h.up S.extFrz⟩
theorem frz_L (S : Sub G ((a, .lst vs) :: O) H) (h : Al r G vs xs) : ∃ G', Ext G G' ∧ Sub G' O H ∧ (rL K r).rel G' (.ref a) xs := ⟨_, S.extFrz, S.frz, rL_frz S h⟩
/-- an owned list as the heap has it now -/
theorem rL_own (S : Sub G ((a, .lst vs) :: O) H) (h : Al r G vs xs) : (rL K r).rel H (.ref a) xs := ⟨a, vs, rfl, .inl (.inl S.head), h.up S.ext⟩

/-! types, for isinstance -/
theorem ty_L (h : (rL K r).rel H v xs) : TyX K H v (.type "list") := by
  obtain ⟨p, vs, rfl, hs, _⟩ := h
  rcases hs with (hs | ⟨o, hs⟩) | ⟨o, its, n, h1, h2, _⟩
  · exact .base (.lst hs)
  · exact .base (.frz hs)
  · exact .kList h1 h2
theorem ty_sqT {p : Addr} (hs : SqT K H p vs) : TyX K H (.ref p) (.type "tuple") := by
  rcases hs with (hs | ⟨o, hs⟩) | ⟨o, its, n, h1, h2, _⟩
  · exact .base (.tup hs)
  · exact .fTuple hs
  · exact .kTuple h1 h2
theorem ty_T (h : (rT K r).rel H v xs) : TyX K H v (.type "tuple") := by
  obtain ⟨p, vs, rfl, hs, _⟩ := h
  exact ty_sqT hs
theorem ty_I (i : Int) : TyX K H (.int i) (.type "int") := .base (.int i)
theorem ty_B (b : Bool) : TyX K H (.bl b) (.type "bool") := .base (.bl b)
theorem ty_S (b : Str) : TyX K H (.str b) (.type "str") := .base (.str b)
theorem ty_N : TyX K H .non (.type "NoneType") := .base .non
theorem q_isi {t c : String} {b : Bool} (h : TyX K H v (.type t)) (e : kitB t c = some b) (q : Q (.bl b) H) : rIsi K [v, .ty c] H Q := ⟨v, .ty c, .type t, .type c, b, rfl, .ty c, h, kit_ty e, q⟩
end

/-! ### data and == -/
structure RD (K : PySem.W.Frag) (α : Type) [DecidableEq α] where
  r : R α
  enc : α → PyData
  dep : Nat
  ok : α → Bool
  lay : ∀ x, ok x = true → (enc x).canLay0 = true
  dpt : ∀ x, (enc x).depth ≤ dep
  dp : ∀ {H : Hp} {v : V} {x : α}, r.rel H v x → Dp K H v (enc x)
  eqv : ∀ x y, PyData.eqv (enc x) (enc y) = decide (x = y)
section
variable {K : PySem.W.Frag} {α β γ : Type} [DecidableEq α] [DecidableEq β] [DecidableEq γ]
def dInt : RD K Int := ⟨rInt, .int, 1, fun _ => true, fun _ _ => rfl, fun _ => by simp [PyData.depth], fun {H v x} h => by cases (show v = .int x from h); exact .int x, fun x y => rfl⟩
def dBool : RD K Bool := ⟨rBool, .bool, 1, fun _ => true, fun _ _ => rfl, fun _ => by simp [PyData.depth], fun {H v x} h => by cases (show v = .bl x from h); exact .bl x, fun x y => by cases x <;> cases y <;> rfl⟩
def dStr : RD K Str := ⟨rStr, .str, 1, PyData.strOk, fun _ h => h, fun _ => by simp [PyData.depth], fun {H v x} h => by cases (show v = .str x from h); exact .str x, fun x y => by
  show (x == y) = decide (x = y)
  by_cases e : x = y
  · subst e; simp
  · rw [decide_eq_false e]; exact beq_eq_false_iff_ne.mpr e⟩
theorem Al.dps {r : R α} {enc : α → PyData} {H : Hp} (hd : ∀ {v : V} {x : α}, r.rel H v x → Dp K H v (enc x)) : ∀ {vs : List V} {xs : List α}, Al r H vs xs → DpAll K H vs (xs.map enc)
  | [], [], _ => .nil
  | _ :: _, _ :: _, h => .cons (hd h.1) (Al.dps hd h.2)
  | [], _ :: _, h => h.elim
  | _ :: _, [], h => h.elim
theorem eqvs {enc : α → PyData} (he : ∀ x y, PyData.eqv (enc x) (enc y) = decide (x = y)) : ∀ xs ys : List α, PyData.eqvAll (xs.map enc) (ys.map enc) = decide (xs = ys)
  | [], [] => rfl
  | [], _ :: _ => rfl
  | _ :: _, [] => rfl
  | x :: xs, y :: ys => by
    show (PyData.eqv (enc x) (enc y) && PyData.eqvAll (xs.map enc) (ys.map enc)) = _
    rw [he, eqvs he xs ys]
    by_cases h1 : x = y
    · subst h1
      by_cases h2 : xs = ys
      · subst h2; simp
      · simp [h2]
    · simp [h1]
theorem lays {enc : α → PyData} {ok : α → Bool} (he : ∀ x, ok x = true → (enc x).canLay0 = true) : ∀ xs : List α, xs.all ok = true → PyData.canLayAll0 (xs.map enc) = true
  | [], _ => rfl
  | x :: xs, h => by
    rw [List.all_cons, Bool.and_eq_true] at h
    show (PyData.canLay0 (enc x) && PyData.canLayAll0 (xs.map enc)) = true
    rw [he x h.1, lays he xs h.2]
    rfl
theorem deps {enc : α → PyData} {n : Nat} (he : ∀ x, (enc x).depth ≤ n) : ∀ xs : List α, PyData.depthAll (xs.map enc) ≤ n
  | [] => by simp [PyData.depthAll]
  | x :: xs => by
    have h1 := he x
    have h2 := deps he xs
    simp only [List.map_cons, PyData.depthAll]
    omega
def dL (d : RD K α) : RD K (List α) := ⟨rL K d.r, fun xs => .list (xs.map d.enc), d.dep + 1, fun xs => xs.all d.ok, fun xs h => lays d.lay xs h, fun xs => by have := deps d.dpt xs; simp only [PyData.depth]; omega,
  fun {H v x} h => by obtain ⟨p, vs, rfl, hs, ha⟩ := h; exact .lst hs (ha.dps d.dp), fun x y => eqvs d.eqv x y⟩
def dT (d : RD K α) : RD K (List α) := ⟨rT K d.r, fun xs => .tuple (xs.map d.enc), d.dep + 1, fun xs => xs.all d.ok, fun xs h => lays d.lay xs h, fun xs => by have := deps d.dpt xs; simp only [PyData.depth]; omega,
  fun {H v x} h => by obtain ⟨p, vs, rfl, hs, ha⟩ := h; exact .tup hs (ha.dps d.dp), fun x y => eqvs d.eqv x y⟩
theorem RD.shaped (d : RD K α) (hd : d.dep ≤ 64) {x : α} (h : d.ok x = true) : SeqAt.shaped (d.enc x) = true := by
  unfold SeqAt.shaped
  rw [d.lay x h, decide_eq_true (Nat.le_trans (d.dpt x) hd)]
  rfl
variable {G H : Hp} {O : Own} {v w : V} {x y : α} {Q : VK}
/-- x == y of data: the reps at the heap as it stands -/
theorem q_eqD (d : RD K α) (hd : d.dep ≤ 64) (h1 : d.r.rel H v x) (h2 : d.r.rel H w y) (o1 : d.ok x = true) (o2 : d.ok y = true) (q : Q (.bl (decide (x = y))) H) : rEqD K v w H Q :=
  ⟨d.enc x, d.enc y, d.dp h1, d.dp h2, d.shaped hd o1, d.shaped hd o2, by rw [d.eqv]; exact q⟩
theorem q_neD (d : RD K α) (hd : d.dep ≤ 64) (h1 : d.r.rel H v x) (h2 : d.r.rel H w y) (o1 : d.ok x = true) (o2 : d.ok y = true) (q : Q (.bl (!decide (x = y))) H) : rNeD K v w H Q :=
  ⟨d.enc x, d.enc y, d.dp h1, d.dp h2, d.shaped hd o1, d.shaped hd o2, by rw [d.eqv]; exact q⟩
theorem okI : ∀ x, (dInt (K := K)).ok x = true := fun _ => rfl
theorem okB : ∀ x, (dBool (K := K)).ok x = true := fun _ => rfl
theorem okL {d : RD K α} (h : ∀ x, d.ok x = true) : ∀ xs, (dL d).ok xs = true := fun xs => List.all_eq_true.mpr fun x _ => h x
theorem okT {d : RD K α} (h : ∀ x, d.ok x = true) : ∀ xs, (dT d).ok xs = true := fun xs => List.all_eq_true.mpr fun x _ => h x
theorem ok_all {ok : α → Bool} (h : ∀ x, ok x = true) (xs : List α) : xs.all ok = true := List.all_eq_true.mpr fun x _ => h x
end

/-! ### loops -/
def PvL {α σ ρ : Type} (f : σ → α → Option (Bf σ ρ)) (xs : List α) (res : Fl σ ρ) (I : σ → L2.St → Hp → Prop) (i : Nat) : L2.St → Hp → Prop := fun σ' H => ∃ s, I s σ' H ∧ forL f (xs.drop i) s = some res
section
variable {α β τ ρ : Type} {J : It} {n : Nat} {GW : Hp → Prop} {Y : Nat → Hp → V → Hp → Prop} {f : τ → α → Option (Bf τ ρ)} {xs : List α} {s0 : τ} {res : Fl τ ρ} {I : τ → L2.St → Hp → Prop} {g : TG} {tb : TS} {D : Ends} {σ : L2.St} {H : Hp}
theorem lp_it (w : Walk J n GW Y) (hn : xs.length = n) (hm : forL f xs s0 = some res) (I : τ → L2.St → Hp → Prop) (h0 : I s0 σ H) (hG : ∀ s σ H, I s σ H → GW H)
    (hs : ∀ (i : Nat) (x : α) (s : τ) (b : Bf τ ρ), xs[i]? = some x → f s x = some b → conL f (xs.drop (i + 1)) b = some res → ∀ v σ H H', I s σ H → Y i H v H' →
      g v σ H' fun σ2 H2 => tb { D with nx := PvL f xs res I (i + 1), ct := PvL f xs res I (i + 1), bk := D.nx } σ2 H2)
    (hd : ∀ s σ H, res = .nx s → I s σ H → D.nx σ H) :
    LpW g tb D σ J H := by
  refine for_it w (PvL f xs res I) ⟨s0, h0, hm⟩ (fun i σ H _ ⟨s, hI, _⟩ => hG s σ H hI) (fun i v σ H H' hi ⟨s, hI, hf⟩ hy => ?_) fun σ H ⟨s, hI, hf⟩ => ?_
  · have hx : xs[i]? = some xs[i] := List.getElem?_eq_getElem (by omega)
    obtain ⟨b, hb, hr⟩ := forL_drop hx hf
    exact hs i _ s b hx hb hr v σ H H' hI hy
  · rw [← hn, List.drop_length] at hf
    exact hd s σ H (Option.some.inj hf).symm hI
variable {K : PySem.W.Frag} {G : Hp} {O : Own} {r : R α} {v : V} {vs : List V} {a : Addr}
theorem Al.at {i : Nat} {x : α} {w : V} (h : Al r G vs xs) (hx : xs[i]? = some x) (hw : vs[i]? = some w) : r.rel G w x := by
  obtain ⟨w', h1, h2⟩ := h.get hx
  rw [hw] at h1; cases h1; exact h2
/-- for x in a frozen list -/
theorem lp_L (S : Sub G O H) (h : (rL K r).rel G v xs) (hm : forL f xs s0 = some res) (I : τ → L2.St → Hp → Prop) (h0 : I s0 σ H) (hG : ∀ s σ H, I s σ H → Ext G H)
    (hs : ∀ (i : Nat) (x : α) (s : τ) (b : Bf τ ρ), f s x = some b → conL f (xs.drop (i + 1)) b = some res → ∀ w σ H, I s σ H → r.rel G w x →
      g w σ H fun σ2 H2 => tb { D with nx := PvL f xs res I (i + 1), ct := PvL f xs res I (i + 1), bk := D.nx } σ2 H2)
    (hd : ∀ s σ H, res = .nx s → I s σ H → D.nx σ H) :
    itL K v H (LpW g tb D σ) := by
  obtain ⟨p, vs, rfl, hq, ha⟩ := h
  refine ⟨p, rfl, ⟨vs, sqL_up S.ext hq⟩, lp_it (walk_list (xs := vs)) ha.len.symm hm I h0 (fun s σ H hI => sqL_up (hG s σ H hI) hq) (fun i x s b hx hb hr w σ H H' hI hY => ?_) hd⟩
  obtain ⟨rfl, hw⟩ := hY
  exact hs i x s b hb hr w σ _ hI (ha.at hx hw)
/-- for x in a frozen tuple -/
theorem lp_T (S : Sub G O H) (h : (rT K r).rel G v xs) (hm : forL f xs s0 = some res) (I : τ → L2.St → Hp → Prop) (h0 : I s0 σ H) (hG : ∀ s σ H, I s σ H → Ext G H)
    (hs : ∀ (i : Nat) (x : α) (s : τ) (b : Bf τ ρ), f s x = some b → conL f (xs.drop (i + 1)) b = some res → ∀ w σ H, I s σ H → r.rel G w x →
      g w σ H fun σ2 H2 => tb { D with nx := PvL f xs res I (i + 1), ct := PvL f xs res I (i + 1), bk := D.nx } σ2 H2)
    (hd : ∀ s σ H, res = .nx s → I s σ H → D.nx σ H) :
    itT K v H (LpW g tb D σ) := by
  obtain ⟨p, vs, rfl, hq, ha⟩ := h
  refine ⟨p, rfl, ⟨vs, sqT_up S.ext hq⟩, lp_it (walk_tup (xs := vs)) ha.len.symm hm I h0 (fun s σ H hI => sqT_up (hG s σ H hI) hq) (fun i x s b hx hb hr w σ H H' hI hY => ?_) hd⟩
  obtain ⟨rfl, hw⟩ := hY
  exact hs i x s b hb hr w σ _ hI (ha.at hx hw)
theorem rng_at {n i k : Nat} (h : (List.range n)[i]? = some k) : k = i := by
  obtain ⟨h1, h2⟩ := List.getElem?_eq_some_iff.mp h
  rw [List.getElem_range] at h2
  exact h2.symm
/-- for i in range(n) -/
theorem lp_R {f : τ → Int → Option (Bf τ ρ)} {xs : List Int} {n : Int} (hx : rngM n = some xs) (hm : forL f xs s0 = some res) (I : τ → L2.St → Hp → Prop) (h0 : I s0 σ H)
    (hs : ∀ (i : Nat) (x : Int) (s : τ) (b : Bf τ ρ), f s x = some b → conL f (xs.drop (i + 1)) b = some res → ∀ σ H, I s σ H →
      g (.int x) σ H fun σ2 H2 => tb { D with nx := PvL f xs res I (i + 1), ct := PvL f xs res I (i + 1), bk := D.nx } σ2 H2)
    (hd : ∀ s σ H, res = .nx s → I s σ H → D.nx σ H) :
    itR [V.int n] H (LpW g tb D σ) := by
  obtain ⟨c, rfl⟩ := rngM_some hx
  refine ⟨n, rfl, c.1, c.2, lp_it walk_range (by simp) hm I h0 (fun _ _ _ _ => True.intro) (fun i x s b hx hb hr w σ H H' hI hY => ?_) hd⟩
  obtain ⟨rfl, hw⟩ := hY
  have e : (0 : Int) + (i : Nat) = x := by
    rw [List.getElem?_map] at hx
    obtain ⟨k, h1, h2⟩ := Option.map_eq_some_iff.mp hx
    have := rng_at h1
    omega
  have e2 : w = .int x := by rw [hw, ← e]
  rw [e2]
  exact hs i x s b hb hr σ _ hI
theorem lp_R2 {f : τ → Int → Option (Bf τ ρ)} {xs : List Int} {lo n : Int} (hx : rng2M lo n = some xs) (hm : forL f xs s0 = some res) (I : τ → L2.St → Hp → Prop) (h0 : I s0 σ H)
    (hs : ∀ (i : Nat) (x : Int) (s : τ) (b : Bf τ ρ), f s x = some b → conL f (xs.drop (i + 1)) b = some res → ∀ σ H, I s σ H →
      g (.int x) σ H fun σ2 H2 => tb { D with nx := PvL f xs res I (i + 1), ct := PvL f xs res I (i + 1), bk := D.nx } σ2 H2)
    (hd : ∀ s σ H, res = .nx s → I s σ H → D.nx σ H) :
    itR2 [V.int lo, V.int n] H (LpW g tb D σ) := by
  obtain ⟨c, rfl⟩ := rng2M_some hx
  refine ⟨lo, n, rfl, c, lp_it walk_range (by simp) hm I h0 (fun _ _ _ _ => True.intro) (fun i x s b hx hb hr w σ H H' hI hY => ?_) hd⟩
  obtain ⟨rfl, hw⟩ := hY
  have e : lo + (i : Nat) = x := by
    rw [List.getElem?_map] at hx
    obtain ⟨k, h1, h2⟩ := Option.map_eq_some_iff.mp hx
    have := rng_at h1
    omega
  have e2 : w = .int x := by rw [hw, ← e]
  rw [e2]
  exact hs i x s b hb hr σ _ hI
/-- for i, x in enumerate(a list or a tuple) -/
theorem walk_enumT {xs : List V} : Walk (IteT K a) xs.length (fun H => SqT K H a xs) (YPair (fun i => some (.int (i : Nat))) (fun i => xs[i]?)) := by
  refine ⟨fun i _ hi q => ⟨xs, xs[i], q, by simp [hi]⟩, fun _ q => ⟨xs, q, rfl⟩, fun i H v H' _ q y => ?_⟩
  obtain ⟨T, x, h1, h2, h3, h4⟩ := y
  exact ⟨T, .int (i : Nat), x, h1, h2, h3, rfl, h4 xs q⟩
theorem lp_Eit {f : τ → Int × α → Option (Bf τ ρ)} {i1 i2 : Nat} {J : It} {vs : List V} (w : Walk J vs.length GW (YPair (fun i => some (.int (i : Nat))) (fun i => vs[i]?))) (ha : Al r G vs xs) (hm : forL f (enumM xs) s0 = some res) (I : τ → L2.St → Hp → Prop) (h0 : I s0 σ H) (hG : ∀ s σ H, I s σ H → GW H)
    (hs : ∀ (i : Nat) (x : α) (s : τ) (b : Bf τ ρ), f s ((i : Int), x) = some b → conL f ((enumM xs).drop (i + 1)) b = some res → ∀ w σ H H', I s σ H → (∀ G O, Sub G O H → Sub G O H') → r.rel G w x →
      tb { D with nx := PvL f (enumM xs) res I (i + 1), ct := PvL f (enumM xs) res I (i + 1), bk := D.nx } ((σ.set i1 (some (.int (i : Int)))).set i2 (some w)) H')
    (hd : ∀ s σ H, res = .nx s → I s σ H → D.nx σ H) :
    LpW (gTup K 2 (gCons (gName i1) (gCons (gName i2) gNil))) tb D σ J H := by
  refine lp_it w (by rw [enumM_length, ha.len]) hm I h0 hG (fun i y s b hx hb hr v σ H H' hI hY => ?_) hd
  rw [enumM_get] at hx
  obtain ⟨x, hx2, rfl⟩ := Option.map_eq_some_iff.mp hx
  obtain ⟨T, k, w, rfl, hT, rfl, hk, hw⟩ := hY
  cases hk
  exact ⟨T, _, rfl, .inl (.inl upd_same), rfl, _, _, rfl, _, _, rfl, rfl, hs i x s b hb hr w σ H _ hI (fun G O S => S.junk hT) (ha.at hx2 hw)⟩
/-- for i, x in enumerate(xs): a frozen list or tuple -/
theorem lp_EQ {f : τ → Int × α → Option (Bf τ ρ)} {i1 i2 : Nat} (S : Sub G O H) (h : (rQ K r).rel G v xs) (hm : forL f (enumM xs) s0 = some res) (I : τ → L2.St → Hp → Prop) (h0 : I s0 σ H) (hG : ∀ s σ H, I s σ H → Ext G H)
    (hs : ∀ (i : Nat) (x : α) (s : τ) (b : Bf τ ρ), f s ((i : Int), x) = some b → conL f ((enumM xs).drop (i + 1)) b = some res → ∀ w σ H H', I s σ H → (∀ G O, Sub G O H → Sub G O H') → r.rel G w x →
      tb { D with nx := PvL f (enumM xs) res I (i + 1), ct := PvL f (enumM xs) res I (i + 1), bk := D.nx } ((σ.set i1 (some (.int (i : Int)))).set i2 (some w)) H')
    (hd : ∀ s σ H, res = .nx s → I s σ H → D.nx σ H) :
    itE K [v] H (LpW (gTup K 2 (gCons (gName i1) (gCons (gName i2) gNil))) tb D σ) := by
  obtain ⟨p, vs, rfl, hq, ha⟩ := h
  refine ⟨p, vs, rfl, ?_⟩
  rcases hq with hq | hq
  · exact .inl ⟨sqL_up S.ext hq, lp_Eit walk_enum ha hm I h0 (fun s σ H hI => sqL_up (hG s σ H hI) hq) hs hd⟩
  · exact .inr ⟨sqT_up S.ext hq, lp_Eit walk_enumT ha hm I h0 (fun s σ H hI => sqT_up (hG s σ H hI) hq) hs hd⟩
end
end Mr

set_option Elab.async false
set_option linter.all false
set_option maxRecDepth 100000
set_option maxHeartbeats 2000000
/-! MirT: tuples of fixed length (printed by wip/gen/tup.py). -/
namespace Mr
open PySem PySem.Spec PyProof.Rows L2
section
variable {α : Type} {β : Type} {K : PySem.W.Frag} {G H : Hp} {O : Own} {v : V} {Q : VK}
def rP2 (K : PySem.W.Frag) (r0 : R α) (r1 : R β) : R (α × β) := ⟨fun G v x => ∃ p v0 v1, v = .ref p ∧ SqT K G p [v0, v1] ∧ r0.rel G v0 x.1 ∧ r1.rel G v1 x.2, fun e ⟨p, v0, v1, hv, hs, h0, h1⟩ => ⟨p, v0, v1, hv, sqT_up e hs, r0.mono e h0, r1.mono e h1⟩⟩
theorem q_tup2 {r0 : R α} {r1 : R β} {v0 v1 : V} {x0 : α} {x1 : β} (S : Sub G O H) (h0 : r0.rel G v0 x0) (h1 : r1.rel G v1 x1) (q : ∀ u G' H', Ext G G' → Sub G' O H' → (rP2 K r0 r1).rel G' u (x0, x1) → Q u H') : mkTup [v0, v1] H Q :=
  ⟨sz (by show 2 ≤ 100000; decide), fun p hp => q _ _ _ (S.extNew hp _) (S.new hp) ⟨p, v0, v1, rfl, .inl (.inl upd_same), r0.mono (S.extNew hp _) h0, r1.mono (S.extNew hp _) h1⟩⟩
theorem q_p2_0 {r0 : R α} {r1 : R β} {y : α × β} (S : Sub G O H) (h : (rP2 K r0 r1).rel G v y) (q : ∀ w, r0.rel G w y.1 → Q w H) : rIxT K v (.int 0) H Q := by
  obtain ⟨p, v0, v1, rfl, hs, h0, h1⟩ := h
  exact ⟨p, _, 0, v0, rfl, rfl, sqT_up S.ext hs, rfl, q v0 h0⟩
theorem q_p2_1 {r0 : R α} {r1 : R β} {y : α × β} (S : Sub G O H) (h : (rP2 K r0 r1).rel G v y) (q : ∀ w, r1.rel G w y.2 → Q w H) : rIxT K v (.int 1) H Q := by
  obtain ⟨p, v0, v1, rfl, hs, h0, h1⟩ := h
  exact ⟨p, _, 1, v1, rfl, rfl, sqT_up S.ext hs, rfl, q v1 h1⟩
theorem q_len2 {r0 : R α} {r1 : R β} {y : α × β} (S : Sub G O H) (h : (rP2 K r0 r1).rel G v y) (q : Q (.int 2) H) : rLenM K [v] H Q := by
  obtain ⟨p, v0, v1, rfl, hs, _⟩ := h
  exact ⟨p, _, rfl, .inr (sqT_up S.ext hs), q⟩
theorem ty_P2 {r0 : R α} {r1 : R β} {y : α × β} (h : (rP2 K r0 r1).rel H v y) : TyX K H v (.type "tuple") := by
  obtain ⟨p, v0, v1, rfl, hs, _⟩ := h
  exact ty_sqT hs
theorem q_gt2 {r0 : R α} {r1 : R β} {y : α × β} {σ : L2.St} {i0 i1 : Nat} {QS : L2.St → Hp → Prop} (S : Sub G O H) (h : (rP2 K r0 r1).rel G v y) (q : ∀ v0 v1, r0.rel G v0 y.1 → r1.rel G v1 y.2 → QS ((σ.set i0 (some v0)).set i1 (some v1)) H) : gTup K 2 (gCons (gName i0) (gCons (gName i1) gNil)) v σ H QS := by
  obtain ⟨p, v0, v1, rfl, hs, h0, h1⟩ := h
  exact ⟨p, _, rfl, sqT_up S.ext hs, rfl, _, _, rfl, _, _, rfl, rfl, q v0 v1 h0 h1⟩
variable [DecidableEq α] [DecidableEq β]
def dP2 (d0 : RD K α) (d1 : RD K β) : RD K (α × β) := ⟨rP2 K d0.r d1.r, fun x => .tuple [d0.enc x.1, d1.enc x.2], d0.dep + d1.dep + 1, fun x => d0.ok x.1 && (d1.ok x.2),
  fun x h => by
    simp only [Bool.and_eq_true] at h
    show (PyData.canLay0 _ && (PyData.canLay0 _ && (true))) = true
    rw [d0.lay _ h.1, d1.lay _ h.2]; rfl,
  fun x => by
    have := d0.dpt x.1
    have := d1.dpt x.2
    simp only [PyData.depth, PyData.depthAll]; omega,
  fun {H v x} h => by
    obtain ⟨p, v0, v1, rfl, hs, h0, h1⟩ := h
    exact .tup hs (.cons (d0.dp h0) (.cons (d1.dp h1) (.nil))),
  fun x y => by
    obtain ⟨a0, a1⟩ := x
    obtain ⟨b0, b1⟩ := y
    show (PyData.eqv _ _ && (PyData.eqv _ _ && (true))) = _
    rw [d0.eqv, d1.eqv]
    simp only [Prod.mk.injEq, Bool.and_true, Bool.decide_and]⟩
theorem okP2 {d0 : RD K α} {d1 : RD K β} (h0 : ∀ x, d0.ok x = true) (h1 : ∀ x, d1.ok x = true) : ∀ x, (dP2 d0 d1).ok x = true := fun x => by
  show (d0.ok x.1 && (d1.ok x.2)) = true
  rw [h0, h1]; rfl
end
section
variable {α : Type} {β : Type} {γ : Type} {K : PySem.W.Frag} {G H : Hp} {O : Own} {v : V} {Q : VK}
def rP3 (K : PySem.W.Frag) (r0 : R α) (r1 : R β) (r2 : R γ) : R (α × β × γ) := ⟨fun G v x => ∃ p v0 v1 v2, v = .ref p ∧ SqT K G p [v0, v1, v2] ∧ r0.rel G v0 x.1 ∧ r1.rel G v1 x.2.1 ∧ r2.rel G v2 x.2.2, fun e ⟨p, v0, v1, v2, hv, hs, h0, h1, h2⟩ => ⟨p, v0, v1, v2, hv, sqT_up e hs, r0.mono e h0, r1.mono e h1, r2.mono e h2⟩⟩
theorem q_tup3 {r0 : R α} {r1 : R β} {r2 : R γ} {v0 v1 v2 : V} {x0 : α} {x1 : β} {x2 : γ} (S : Sub G O H) (h0 : r0.rel G v0 x0) (h1 : r1.rel G v1 x1) (h2 : r2.rel G v2 x2) (q : ∀ u G' H', Ext G G' → Sub G' O H' → (rP3 K r0 r1 r2).rel G' u (x0, x1, x2) → Q u H') : mkTup [v0, v1, v2] H Q :=
  ⟨sz (by show 3 ≤ 100000; decide), fun p hp => q _ _ _ (S.extNew hp _) (S.new hp) ⟨p, v0, v1, v2, rfl, .inl (.inl upd_same), r0.mono (S.extNew hp _) h0, r1.mono (S.extNew hp _) h1, r2.mono (S.extNew hp _) h2⟩⟩
theorem q_p3_0 {r0 : R α} {r1 : R β} {r2 : R γ} {y : α × β × γ} (S : Sub G O H) (h : (rP3 K r0 r1 r2).rel G v y) (q : ∀ w, r0.rel G w y.1 → Q w H) : rIxT K v (.int 0) H Q := by
  obtain ⟨p, v0, v1, v2, rfl, hs, h0, h1, h2⟩ := h
  exact ⟨p, _, 0, v0, rfl, rfl, sqT_up S.ext hs, rfl, q v0 h0⟩
theorem q_p3_1 {r0 : R α} {r1 : R β} {r2 : R γ} {y : α × β × γ} (S : Sub G O H) (h : (rP3 K r0 r1 r2).rel G v y) (q : ∀ w, r1.rel G w y.2.1 → Q w H) : rIxT K v (.int 1) H Q := by
  obtain ⟨p, v0, v1, v2, rfl, hs, h0, h1, h2⟩ := h
  exact ⟨p, _, 1, v1, rfl, rfl, sqT_up S.ext hs, rfl, q v1 h1⟩
theorem q_p3_2 {r0 : R α} {r1 : R β} {r2 : R γ} {y : α × β × γ} (S : Sub G O H) (h : (rP3 K r0 r1 r2).rel G v y) (q : ∀ w, r2.rel G w y.2.2 → Q w H) : rIxT K v (.int 2) H Q := by
  obtain ⟨p, v0, v1, v2, rfl, hs, h0, h1, h2⟩ := h
  exact ⟨p, _, 2, v2, rfl, rfl, sqT_up S.ext hs, rfl, q v2 h2⟩
theorem q_len3 {r0 : R α} {r1 : R β} {r2 : R γ} {y : α × β × γ} (S : Sub G O H) (h : (rP3 K r0 r1 r2).rel G v y) (q : Q (.int 3) H) : rLenM K [v] H Q := by
  obtain ⟨p, v0, v1, v2, rfl, hs, _⟩ := h
  exact ⟨p, _, rfl, .inr (sqT_up S.ext hs), q⟩
theorem ty_P3 {r0 : R α} {r1 : R β} {r2 : R γ} {y : α × β × γ} (h : (rP3 K r0 r1 r2).rel H v y) : TyX K H v (.type "tuple") := by
  obtain ⟨p, v0, v1, v2, rfl, hs, _⟩ := h
  exact ty_sqT hs
theorem q_gt3 {r0 : R α} {r1 : R β} {r2 : R γ} {y : α × β × γ} {σ : L2.St} {i0 i1 i2 : Nat} {QS : L2.St → Hp → Prop} (S : Sub G O H) (h : (rP3 K r0 r1 r2).rel G v y) (q : ∀ v0 v1 v2, r0.rel G v0 y.1 → r1.rel G v1 y.2.1 → r2.rel G v2 y.2.2 → QS (((σ.set i0 (some v0)).set i1 (some v1)).set i2 (some v2)) H) : gTup K 3 (gCons (gName i0) (gCons (gName i1) (gCons (gName i2) gNil))) v σ H QS := by
  obtain ⟨p, v0, v1, v2, rfl, hs, h0, h1, h2⟩ := h
  exact ⟨p, _, rfl, sqT_up S.ext hs, rfl, _, _, rfl, _, _, rfl, _, _, rfl, rfl, q v0 v1 v2 h0 h1 h2⟩
variable [DecidableEq α] [DecidableEq β] [DecidableEq γ]
def dP3 (d0 : RD K α) (d1 : RD K β) (d2 : RD K γ) : RD K (α × β × γ) := ⟨rP3 K d0.r d1.r d2.r, fun x => .tuple [d0.enc x.1, d1.enc x.2.1, d2.enc x.2.2], d0.dep + d1.dep + d2.dep + 1, fun x => d0.ok x.1 && (d1.ok x.2.1 && (d2.ok x.2.2)),
  fun x h => by
    simp only [Bool.and_eq_true] at h
    show (PyData.canLay0 _ && (PyData.canLay0 _ && (PyData.canLay0 _ && (true)))) = true
    rw [d0.lay _ h.1, d1.lay _ h.2.1, d2.lay _ h.2.2]; rfl,
  fun x => by
    have := d0.dpt x.1
    have := d1.dpt x.2.1
    have := d2.dpt x.2.2
    simp only [PyData.depth, PyData.depthAll]; omega,
  fun {H v x} h => by
    obtain ⟨p, v0, v1, v2, rfl, hs, h0, h1, h2⟩ := h
    exact .tup hs (.cons (d0.dp h0) (.cons (d1.dp h1) (.cons (d2.dp h2) (.nil)))),
  fun x y => by
    obtain ⟨a0, a1, a2⟩ := x
    obtain ⟨b0, b1, b2⟩ := y
    show (PyData.eqv _ _ && (PyData.eqv _ _ && (PyData.eqv _ _ && (true)))) = _
    rw [d0.eqv, d1.eqv, d2.eqv]
    simp only [Prod.mk.injEq, Bool.and_true, Bool.decide_and]⟩
theorem okP3 {d0 : RD K α} {d1 : RD K β} {d2 : RD K γ} (h0 : ∀ x, d0.ok x = true) (h1 : ∀ x, d1.ok x = true) (h2 : ∀ x, d2.ok x = true) : ∀ x, (dP3 d0 d1 d2).ok x = true := fun x => by
  show (d0.ok x.1 && (d1.ok x.2.1 && (d2.ok x.2.2))) = true
  rw [h0, h1, h2]; rfl
end
section
variable {α : Type} {β : Type} {γ : Type} {δ : Type} {K : PySem.W.Frag} {G H : Hp} {O : Own} {v : V} {Q : VK}
def rP4 (K : PySem.W.Frag) (r0 : R α) (r1 : R β) (r2 : R γ) (r3 : R δ) : R (α × β × γ × δ) := ⟨fun G v x => ∃ p v0 v1 v2 v3, v = .ref p ∧ SqT K G p [v0, v1, v2, v3] ∧ r0.rel G v0 x.1 ∧ r1.rel G v1 x.2.1 ∧ r2.rel G v2 x.2.2.1 ∧ r3.rel G v3 x.2.2.2, fun e ⟨p, v0, v1, v2, v3, hv, hs, h0, h1, h2, h3⟩ => ⟨p, v0, v1, v2, v3, hv, sqT_up e hs, r0.mono e h0, r1.mono e h1, r2.mono e h2, r3.mono e h3⟩⟩
theorem q_tup4 {r0 : R α} {r1 : R β} {r2 : R γ} {r3 : R δ} {v0 v1 v2 v3 : V} {x0 : α} {x1 : β} {x2 : γ} {x3 : δ} (S : Sub G O H) (h0 : r0.rel G v0 x0) (h1 : r1.rel G v1 x1) (h2 : r2.rel G v2 x2) (h3 : r3.rel G v3 x3) (q : ∀ u G' H', Ext G G' → Sub G' O H' → (rP4 K r0 r1 r2 r3).rel G' u (x0, x1, x2, x3) → Q u H') : mkTup [v0, v1, v2, v3] H Q :=
  ⟨sz (by show 4 ≤ 100000; decide), fun p hp => q _ _ _ (S.extNew hp _) (S.new hp) ⟨p, v0, v1, v2, v3, rfl, .inl (.inl upd_same), r0.mono (S.extNew hp _) h0, r1.mono (S.extNew hp _) h1, r2.mono (S.extNew hp _) h2, r3.mono (S.extNew hp _) h3⟩⟩
theorem q_p4_0 {r0 : R α} {r1 : R β} {r2 : R γ} {r3 : R δ} {y : α × β × γ × δ} (S : Sub G O H) (h : (rP4 K r0 r1 r2 r3).rel G v y) (q : ∀ w, r0.rel G w y.1 → Q w H) : rIxT K v (.int 0) H Q := by
  obtain ⟨p, v0, v1, v2, v3, rfl, hs, h0, h1, h2, h3⟩ := h
  exact ⟨p, _, 0, v0, rfl, rfl, sqT_up S.ext hs, rfl, q v0 h0⟩
theorem q_p4_1 {r0 : R α} {r1 : R β} {r2 : R γ} {r3 : R δ} {y : α × β × γ × δ} (S : Sub G O H) (h : (rP4 K r0 r1 r2 r3).rel G v y) (q : ∀ w, r1.rel G w y.2.1 → Q w H) : rIxT K v (.int 1) H Q := by
  obtain ⟨p, v0, v1, v2, v3, rfl, hs, h0, h1, h2, h3⟩ := h
  exact ⟨p, _, 1, v1, rfl, rfl, sqT_up S.ext hs, rfl, q v1 h1⟩
theorem q_p4_2 {r0 : R α} {r1 : R β} {r2 : R γ} {r3 : R δ} {y : α × β × γ × δ} (S : Sub G O H) (h : (rP4 K r0 r1 r2 r3).rel G v y) (q : ∀ w, r2.rel G w y.2.2.1 → Q w H) : rIxT K v (.int 2) H Q := by
  obtain ⟨p, v0, v1, v2, v3, rfl, hs, h0, h1, h2, h3⟩ := h
  exact ⟨p, _, 2, v2, rfl, rfl, sqT_up S.ext hs, rfl, q v2 h2⟩
theorem q_p4_3 {r0 : R α} {r1 : R β} {r2 : R γ} {r3 : R δ} {y : α × β × γ × δ} (S : Sub G O H) (h : (rP4 K r0 r1 r2 r3).rel G v y) (q : ∀ w, r3.rel G w y.2.2.2 → Q w H) : rIxT K v (.int 3) H Q := by
  obtain ⟨p, v0, v1, v2, v3, rfl, hs, h0, h1, h2, h3⟩ := h
  exact ⟨p, _, 3, v3, rfl, rfl, sqT_up S.ext hs, rfl, q v3 h3⟩
theorem q_len4 {r0 : R α} {r1 : R β} {r2 : R γ} {r3 : R δ} {y : α × β × γ × δ} (S : Sub G O H) (h : (rP4 K r0 r1 r2 r3).rel G v y) (q : Q (.int 4) H) : rLenM K [v] H Q := by
  obtain ⟨p, v0, v1, v2, v3, rfl, hs, _⟩ := h
  exact ⟨p, _, rfl, .inr (sqT_up S.ext hs), q⟩
theorem ty_P4 {r0 : R α} {r1 : R β} {r2 : R γ} {r3 : R δ} {y : α × β × γ × δ} (h : (rP4 K r0 r1 r2 r3).rel H v y) : TyX K H v (.type "tuple") := by
  obtain ⟨p, v0, v1, v2, v3, rfl, hs, _⟩ := h
  exact ty_sqT hs
theorem q_gt4 {r0 : R α} {r1 : R β} {r2 : R γ} {r3 : R δ} {y : α × β × γ × δ} {σ : L2.St} {i0 i1 i2 i3 : Nat} {QS : L2.St → Hp → Prop} (S : Sub G O H) (h : (rP4 K r0 r1 r2 r3).rel G v y) (q : ∀ v0 v1 v2 v3, r0.rel G v0 y.1 → r1.rel G v1 y.2.1 → r2.rel G v2 y.2.2.1 → r3.rel G v3 y.2.2.2 → QS ((((σ.set i0 (some v0)).set i1 (some v1)).set i2 (some v2)).set i3 (some v3)) H) : gTup K 4 (gCons (gName i0) (gCons (gName i1) (gCons (gName i2) (gCons (gName i3) gNil)))) v σ H QS := by
  obtain ⟨p, v0, v1, v2, v3, rfl, hs, h0, h1, h2, h3⟩ := h
  exact ⟨p, _, rfl, sqT_up S.ext hs, rfl, _, _, rfl, _, _, rfl, _, _, rfl, _, _, rfl, rfl, q v0 v1 v2 v3 h0 h1 h2 h3⟩
variable [DecidableEq α] [DecidableEq β] [DecidableEq γ] [DecidableEq δ]
def dP4 (d0 : RD K α) (d1 : RD K β) (d2 : RD K γ) (d3 : RD K δ) : RD K (α × β × γ × δ) := ⟨rP4 K d0.r d1.r d2.r d3.r, fun x => .tuple [d0.enc x.1, d1.enc x.2.1, d2.enc x.2.2.1, d3.enc x.2.2.2], d0.dep + d1.dep + d2.dep + d3.dep + 1, fun x => d0.ok x.1 && (d1.ok x.2.1 && (d2.ok x.2.2.1 && (d3.ok x.2.2.2))),
  fun x h => by
    simp only [Bool.and_eq_true] at h
    show (PyData.canLay0 _ && (PyData.canLay0 _ && (PyData.canLay0 _ && (PyData.canLay0 _ && (true))))) = true
    rw [d0.lay _ h.1, d1.lay _ h.2.1, d2.lay _ h.2.2.1, d3.lay _ h.2.2.2]; rfl,
  fun x => by
    have := d0.dpt x.1
    have := d1.dpt x.2.1
    have := d2.dpt x.2.2.1
    have := d3.dpt x.2.2.2
    simp only [PyData.depth, PyData.depthAll]; omega,
  fun {H v x} h => by
    obtain ⟨p, v0, v1, v2, v3, rfl, hs, h0, h1, h2, h3⟩ := h
    exact .tup hs (.cons (d0.dp h0) (.cons (d1.dp h1) (.cons (d2.dp h2) (.cons (d3.dp h3) (.nil))))),
  fun x y => by
    obtain ⟨a0, a1, a2, a3⟩ := x
    obtain ⟨b0, b1, b2, b3⟩ := y
    show (PyData.eqv _ _ && (PyData.eqv _ _ && (PyData.eqv _ _ && (PyData.eqv _ _ && (true))))) = _
    rw [d0.eqv, d1.eqv, d2.eqv, d3.eqv]
    simp only [Prod.mk.injEq, Bool.and_true, Bool.decide_and]⟩
theorem okP4 {d0 : RD K α} {d1 : RD K β} {d2 : RD K γ} {d3 : RD K δ} (h0 : ∀ x, d0.ok x = true) (h1 : ∀ x, d1.ok x = true) (h2 : ∀ x, d2.ok x = true) (h3 : ∀ x, d3.ok x = true) : ∀ x, (dP4 d0 d1 d2 d3).ok x = true := fun x => by
  show (d0.ok x.1 && (d1.ok x.2.1 && (d2.ok x.2.2.1 && (d3.ok x.2.2.2)))) = true
  rw [h0, h1, h2, h3]; rfl
end
section
variable {α : Type} {β : Type} {γ : Type} {δ : Type} {ε : Type} {K : PySem.W.Frag} {G H : Hp} {O : Own} {v : V} {Q : VK}
def rP5 (K : PySem.W.Frag) (r0 : R α) (r1 : R β) (r2 : R γ) (r3 : R δ) (r4 : R ε) : R (α × β × γ × δ × ε) := ⟨fun G v x => ∃ p v0 v1 v2 v3 v4, v = .ref p ∧ SqT K G p [v0, v1, v2, v3, v4] ∧ r0.rel G v0 x.1 ∧ r1.rel G v1 x.2.1 ∧ r2.rel G v2 x.2.2.1 ∧ r3.rel G v3 x.2.2.2.1 ∧ r4.rel G v4 x.2.2.2.2, fun e ⟨p, v0, v1, v2, v3, v4, hv, hs, h0, h1, h2, h3, h4⟩ => ⟨p, v0, v1, v2, v3, v4, hv, sqT_up e hs, r0.mono e h0, r1.mono e h1, r2.mono e h2, r3.mono e h3, r4.mono e h4⟩⟩
theorem q_tup5 {r0 : R α} {r1 : R β} {r2 : R γ} {r3 : R δ} {r4 : R ε} {v0 v1 v2 v3 v4 : V} {x0 : α} {x1 : β} {x2 : γ} {x3 : δ} {x4 : ε} (S : Sub G O H) (h0 : r0.rel G v0 x0) (h1 : r1.rel G v1 x1) (h2 : r2.rel G v2 x2) (h3 : r3.rel G v3 x3) (h4 : r4.rel G v4 x4) (q : ∀ u G' H', Ext G G' → Sub G' O H' → (rP5 K r0 r1 r2 r3 r4).rel G' u (x0, x1, x2, x3, x4) → Q u H') : mkTup [v0, v1, v2, v3, v4] H Q :=
  ⟨sz (by show 5 ≤ 100000; decide), fun p hp => q _ _ _ (S.extNew hp _) (S.new hp) ⟨p, v0, v1, v2, v3, v4, rfl, .inl (.inl upd_same), r0.mono (S.extNew hp _) h0, r1.mono (S.extNew hp _) h1, r2.mono (S.extNew hp _) h2, r3.mono (S.extNew hp _) h3, r4.mono (S.extNew hp _) h4⟩⟩
theorem q_p5_0 {r0 : R α} {r1 : R β} {r2 : R γ} {r3 : R δ} {r4 : R ε} {y : α × β × γ × δ × ε} (S : Sub G O H) (h : (rP5 K r0 r1 r2 r3 r4).rel G v y) (q : ∀ w, r0.rel G w y.1 → Q w H) : rIxT K v (.int 0) H Q := by
  obtain ⟨p, v0, v1, v2, v3, v4, rfl, hs, h0, h1, h2, h3, h4⟩ := h
  exact ⟨p, _, 0, v0, rfl, rfl, sqT_up S.ext hs, rfl, q v0 h0⟩
theorem q_p5_1 {r0 : R α} {r1 : R β} {r2 : R γ} {r3 : R δ} {r4 : R ε} {y : α × β × γ × δ × ε} (S : Sub G O H) (h : (rP5 K r0 r1 r2 r3 r4).rel G v y) (q : ∀ w, r1.rel G w y.2.1 → Q w H) : rIxT K v (.int 1) H Q := by
  obtain ⟨p, v0, v1, v2, v3, v4, rfl, hs, h0, h1, h2, h3, h4⟩ := h
  exact ⟨p, _, 1, v1, rfl, rfl, sqT_up S.ext hs, rfl, q v1 h1⟩
theorem q_p5_2 {r0 : R α} {r1 : R β} {r2 : R γ} {r3 : R δ} {r4 : R ε} {y : α × β × γ × δ × ε} (S : Sub G O H) (h : (rP5 K r0 r1 r2 r3 r4).rel G v y) (q : ∀ w, r2.rel G w y.2.2.1 → Q w H) : rIxT K v (.int 2) H Q := by
  obtain ⟨p, v0, v1, v2, v3, v4, rfl, hs, h0, h1, h2, h3, h4⟩ := h
  exact ⟨p, _, 2, v2, rfl, rfl, sqT_up S.ext hs, rfl, q v2 h2⟩
theorem q_p5_3 {r0 : R α} {r1 : R β} {r2 : R γ} {r3 : R δ} {r4 : R ε} {y : α × β × γ × δ × ε} (S : Sub G O H) (h : (rP5 K r0 r1 r2 r3 r4).rel G v y) (q : ∀ w, r3.rel G w y.2.2.2.1 → Q w H) : rIxT K v (.int 3) H Q := by
  obtain ⟨p, v0, v1, v2, v3, v4, rfl, hs, h0, h1, h2, h3, h4⟩ := h
  exact ⟨p, _, 3, v3, rfl, rfl, sqT_up S.ext hs, rfl, q v3 h3⟩
theorem q_p5_4 {r0 : R α} {r1 : R β} {r2 : R γ} {r3 : R δ} {r4 : R ε} {y : α × β × γ × δ × ε} (S : Sub G O H) (h : (rP5 K r0 r1 r2 r3 r4).rel G v y) (q : ∀ w, r4.rel G w y.2.2.2.2 → Q w H) : rIxT K v (.int 4) H Q := by
  obtain ⟨p, v0, v1, v2, v3, v4, rfl, hs, h0, h1, h2, h3, h4⟩ := h
  exact ⟨p, _, 4, v4, rfl, rfl, sqT_up S.ext hs, rfl, q v4 h4⟩
theorem q_len5 {r0 : R α} {r1 : R β} {r2 : R γ} {r3 : R δ} {r4 : R ε} {y : α × β × γ × δ × ε} (S : Sub G O H) (h : (rP5 K r0 r1 r2 r3 r4).rel G v y) (q : Q (.int 5) H) : rLenM K [v] H Q := by
  obtain ⟨p, v0, v1, v2, v3, v4, rfl, hs, _⟩ := h
  exact ⟨p, _, rfl, .inr (sqT_up S.ext hs), q⟩
theorem ty_P5 {r0 : R α} {r1 : R β} {r2 : R γ} {r3 : R δ} {r4 : R ε} {y : α × β × γ × δ × ε} (h : (rP5 K r0 r1 r2 r3 r4).rel H v y) : TyX K H v (.type "tuple") := by
  obtain ⟨p, v0, v1, v2, v3, v4, rfl, hs, _⟩ := h
  exact ty_sqT hs
theorem q_gt5 {r0 : R α} {r1 : R β} {r2 : R γ} {r3 : R δ} {r4 : R ε} {y : α × β × γ × δ × ε} {σ : L2.St} {i0 i1 i2 i3 i4 : Nat} {QS : L2.St → Hp → Prop} (S : Sub G O H) (h : (rP5 K r0 r1 r2 r3 r4).rel G v y) (q : ∀ v0 v1 v2 v3 v4, r0.rel G v0 y.1 → r1.rel G v1 y.2.1 → r2.rel G v2 y.2.2.1 → r3.rel G v3 y.2.2.2.1 → r4.rel G v4 y.2.2.2.2 → QS (((((σ.set i0 (some v0)).set i1 (some v1)).set i2 (some v2)).set i3 (some v3)).set i4 (some v4)) H) : gTup K 5 (gCons (gName i0) (gCons (gName i1) (gCons (gName i2) (gCons (gName i3) (gCons (gName i4) gNil))))) v σ H QS := by
  obtain ⟨p, v0, v1, v2, v3, v4, rfl, hs, h0, h1, h2, h3, h4⟩ := h
  exact ⟨p, _, rfl, sqT_up S.ext hs, rfl, _, _, rfl, _, _, rfl, _, _, rfl, _, _, rfl, _, _, rfl, rfl, q v0 v1 v2 v3 v4 h0 h1 h2 h3 h4⟩
variable [DecidableEq α] [DecidableEq β] [DecidableEq γ] [DecidableEq δ] [DecidableEq ε]
def dP5 (d0 : RD K α) (d1 : RD K β) (d2 : RD K γ) (d3 : RD K δ) (d4 : RD K ε) : RD K (α × β × γ × δ × ε) := ⟨rP5 K d0.r d1.r d2.r d3.r d4.r, fun x => .tuple [d0.enc x.1, d1.enc x.2.1, d2.enc x.2.2.1, d3.enc x.2.2.2.1, d4.enc x.2.2.2.2], d0.dep + d1.dep + d2.dep + d3.dep + d4.dep + 1, fun x => d0.ok x.1 && (d1.ok x.2.1 && (d2.ok x.2.2.1 && (d3.ok x.2.2.2.1 && (d4.ok x.2.2.2.2)))),
  fun x h => by
    simp only [Bool.and_eq_true] at h
    show (PyData.canLay0 _ && (PyData.canLay0 _ && (PyData.canLay0 _ && (PyData.canLay0 _ && (PyData.canLay0 _ && (true)))))) = true
    rw [d0.lay _ h.1, d1.lay _ h.2.1, d2.lay _ h.2.2.1, d3.lay _ h.2.2.2.1, d4.lay _ h.2.2.2.2]; rfl,
  fun x => by
    have := d0.dpt x.1
    have := d1.dpt x.2.1
    have := d2.dpt x.2.2.1
    have := d3.dpt x.2.2.2.1
    have := d4.dpt x.2.2.2.2
    simp only [PyData.depth, PyData.depthAll]; omega,
  fun {H v x} h => by
    obtain ⟨p, v0, v1, v2, v3, v4, rfl, hs, h0, h1, h2, h3, h4⟩ := h
    exact .tup hs (.cons (d0.dp h0) (.cons (d1.dp h1) (.cons (d2.dp h2) (.cons (d3.dp h3) (.cons (d4.dp h4) (.nil)))))),
  fun x y => by
    obtain ⟨a0, a1, a2, a3, a4⟩ := x
    obtain ⟨b0, b1, b2, b3, b4⟩ := y
    show (PyData.eqv _ _ && (PyData.eqv _ _ && (PyData.eqv _ _ && (PyData.eqv _ _ && (PyData.eqv _ _ && (true)))))) = _
    rw [d0.eqv, d1.eqv, d2.eqv, d3.eqv, d4.eqv]
    simp only [Prod.mk.injEq, Bool.and_true, Bool.decide_and]⟩
theorem okP5 {d0 : RD K α} {d1 : RD K β} {d2 : RD K γ} {d3 : RD K δ} {d4 : RD K ε} (h0 : ∀ x, d0.ok x = true) (h1 : ∀ x, d1.ok x = true) (h2 : ∀ x, d2.ok x = true) (h3 : ∀ x, d3.ok x = true) (h4 : ∀ x, d4.ok x = true) : ∀ x, (dP5 d0 d1 d2 d3 d4).ok x = true := fun x => by
  show (d0.ok x.1 && (d1.ok x.2.1 && (d2.ok x.2.2.1 && (d3.ok x.2.2.2.1 && (d4.ok x.2.2.2.2))))) = true
  rw [h0, h1, h2, h3, h4]; rfl
end
section
variable {α : Type} {β : Type} {γ : Type} {δ : Type} {ε : Type} {ζ : Type} {K : PySem.W.Frag} {G H : Hp} {O : Own} {v : V} {Q : VK}
def rP6 (K : PySem.W.Frag) (r0 : R α) (r1 : R β) (r2 : R γ) (r3 : R δ) (r4 : R ε) (r5 : R ζ) : R (α × β × γ × δ × ε × ζ) := ⟨fun G v x => ∃ p v0 v1 v2 v3 v4 v5, v = .ref p ∧ SqT K G p [v0, v1, v2, v3, v4, v5] ∧ r0.rel G v0 x.1 ∧ r1.rel G v1 x.2.1 ∧ r2.rel G v2 x.2.2.1 ∧ r3.rel G v3 x.2.2.2.1 ∧ r4.rel G v4 x.2.2.2.2.1 ∧ r5.rel G v5 x.2.2.2.2.2, fun e ⟨p, v0, v1, v2, v3, v4, v5, hv, hs, h0, h1, h2, h3, h4, h5⟩ => ⟨p, v0, v1, v2, v3, v4, v5, hv, sqT_up e hs, r0.mono e h0, r1.mono e h1, r2.mono e h2, r3.mono e h3, r4.mono e h4, r5.mono e h5⟩⟩
theorem q_tup6 {r0 : R α} {r1 : R β} {r2 : R γ} {r3 : R δ} {r4 : R ε} {r5 : R ζ} {v0 v1 v2 v3 v4 v5 : V} {x0 : α} {x1 : β} {x2 : γ} {x3 : δ} {x4 : ε} {x5 : ζ} (S : Sub G O H) (h0 : r0.rel G v0 x0) (h1 : r1.rel G v1 x1) (h2 : r2.rel G v2 x2) (h3 : r3.rel G v3 x3) (h4 : r4.rel G v4 x4) (h5 : r5.rel G v5 x5) (q : ∀ u G' H', Ext G G' → Sub G' O H' → (rP6 K r0 r1 r2 r3 r4 r5).rel G' u (x0, x1, x2, x3, x4, x5) → Q u H') : mkTup [v0, v1, v2, v3, v4, v5] H Q :=
  ⟨sz (by show 6 ≤ 100000; decide), fun p hp => q _ _ _ (S.extNew hp _) (S.new hp) ⟨p, v0, v1, v2, v3, v4, v5, rfl, .inl (.inl upd_same), r0.mono (S.extNew hp _) h0, r1.mono (S.extNew hp _) h1, r2.mono (S.extNew hp _) h2, r3.mono (S.extNew hp _) h3, r4.mono (S.extNew hp _) h4, r5.mono (S.extNew hp _) h5⟩⟩
theorem q_p6_0 {r0 : R α} {r1 : R β} {r2 : R γ} {r3 : R δ} {r4 : R ε} {r5 : R ζ} {y : α × β × γ × δ × ε × ζ} (S : Sub G O H) (h : (rP6 K r0 r1 r2 r3 r4 r5).rel G v y) (q : ∀ w, r0.rel G w y.1 → Q w H) : rIxT K v (.int 0) H Q := by
  obtain ⟨p, v0, v1, v2, v3, v4, v5, rfl, hs, h0, h1, h2, h3, h4, h5⟩ := h
  exact ⟨p, _, 0, v0, rfl, rfl, sqT_up S.ext hs, rfl, q v0 h0⟩
theorem q_p6_1 {r0 : R α} {r1 : R β} {r2 : R γ} {r3 : R δ} {r4 : R ε} {r5 : R ζ} {y : α × β × γ × δ × ε × ζ} (S : Sub G O H) (h : (rP6 K r0 r1 r2 r3 r4 r5).rel G v y) (q : ∀ w, r1.rel G w y.2.1 → Q w H) : rIxT K v (.int 1) H Q := by
  obtain ⟨p, v0, v1, v2, v3, v4, v5, rfl, hs, h0, h1, h2, h3, h4, h5⟩ := h
  exact ⟨p, _, 1, v1, rfl, rfl, sqT_up S.ext hs, rfl, q v1 h1⟩
theorem q_p6_2 {r0 : R α} {r1 : R β} {r2 : R γ} {r3 : R δ} {r4 : R ε} {r5 : R ζ} {y : α × β × γ × δ × ε × ζ} (S : Sub G O H) (h : (rP6 K r0 r1 r2 r3 r4 r5).rel G v y) (q : ∀ w, r2.rel G w y.2.2.1 → Q w H) : rIxT K v (.int 2) H Q := by
  obtain ⟨p, v0, v1, v2, v3, v4, v5, rfl, hs, h0, h1, h2, h3, h4, h5⟩ := h
  exact ⟨p, _, 2, v2, rfl, rfl, sqT_up S.ext hs, rfl, q v2 h2⟩
theorem q_p6_3 {r0 : R α} {r1 : R β} {r2 : R γ} {r3 : R δ} {r4 : R ε} {r5 : R ζ} {y : α × β × γ × δ × ε × ζ} (S : Sub G O H) (h : (rP6 K r0 r1 r2 r3 r4 r5).rel G v y) (q : ∀ w, r3.rel G w y.2.2.2.1 → Q w H) : rIxT K v (.int 3) H Q := by
  obtain ⟨p, v0, v1, v2, v3, v4, v5, rfl, hs, h0, h1, h2, h3, h4, h5⟩ := h
  exact ⟨p, _, 3, v3, rfl, rfl, sqT_up S.ext hs, rfl, q v3 h3⟩
theorem q_p6_4 {r0 : R α} {r1 : R β} {r2 : R γ} {r3 : R δ} {r4 : R ε} {r5 : R ζ} {y : α × β × γ × δ × ε × ζ} (S : Sub G O H) (h : (rP6 K r0 r1 r2 r3 r4 r5).rel G v y) (q : ∀ w, r4.rel G w y.2.2.2.2.1 → Q w H) : rIxT K v (.int 4) H Q := by
  obtain ⟨p, v0, v1, v2, v3, v4, v5, rfl, hs, h0, h1, h2, h3, h4, h5⟩ := h
  exact ⟨p, _, 4, v4, rfl, rfl, sqT_up S.ext hs, rfl, q v4 h4⟩
theorem q_p6_5 {r0 : R α} {r1 : R β} {r2 : R γ} {r3 : R δ} {r4 : R ε} {r5 : R ζ} {y : α × β × γ × δ × ε × ζ} (S : Sub G O H) (h : (rP6 K r0 r1 r2 r3 r4 r5).rel G v y) (q : ∀ w, r5.rel G w y.2.2.2.2.2 → Q w H) : rIxT K v (.int 5) H Q := by
  obtain ⟨p, v0, v1, v2, v3, v4, v5, rfl, hs, h0, h1, h2, h3, h4, h5⟩ := h
  exact ⟨p, _, 5, v5, rfl, rfl, sqT_up S.ext hs, rfl, q v5 h5⟩
theorem q_len6 {r0 : R α} {r1 : R β} {r2 : R γ} {r3 : R δ} {r4 : R ε} {r5 : R ζ} {y : α × β × γ × δ × ε × ζ} (S : Sub G O H) (h : (rP6 K r0 r1 r2 r3 r4 r5).rel G v y) (q : Q (.int 6) H) : rLenM K [v] H Q := by
  obtain ⟨p, v0, v1, v2, v3, v4, v5, rfl, hs, _⟩ := h
  exact ⟨p, _, rfl, .inr (sqT_up S.ext hs), q⟩
theorem ty_P6 {r0 : R α} {r1 : R β} {r2 : R γ} {r3 : R δ} {r4 : R ε} {r5 : R ζ} {y : α × β × γ × δ × ε × ζ} (h : (rP6 K r0 r1 r2 r3 r4 r5).rel H v y) : TyX K H v (.type "tuple") := by
  obtain ⟨p, v0, v1, v2, v3, v4, v5, rfl, hs, _⟩ := h
  exact ty_sqT hs
theorem q_gt6 {r0 : R α} {r1 : R β} {r2 : R γ} {r3 : R δ} {r4 : R ε} {r5 : R ζ} {y : α × β × γ × δ × ε × ζ} {σ : L2.St} {i0 i1 i2 i3 i4 i5 : Nat} {QS : L2.St → Hp → Prop} (S : Sub G O H) (h : (rP6 K r0 r1 r2 r3 r4 r5).rel G v y) (q : ∀ v0 v1 v2 v3 v4 v5, r0.rel G v0 y.1 → r1.rel G v1 y.2.1 → r2.rel G v2 y.2.2.1 → r3.rel G v3 y.2.2.2.1 → r4.rel G v4 y.2.2.2.2.1 → r5.rel G v5 y.2.2.2.2.2 → QS ((((((σ.set i0 (some v0)).set i1 (some v1)).set i2 (some v2)).set i3 (some v3)).set i4 (some v4)).set i5 (some v5)) H) : gTup K 6 (gCons (gName i0) (gCons (gName i1) (gCons (gName i2) (gCons (gName i3) (gCons (gName i4) (gCons (gName i5) gNil)))))) v σ H QS := by
  obtain ⟨p, v0, v1, v2, v3, v4, v5, rfl, hs, h0, h1, h2, h3, h4, h5⟩ := h
  exact ⟨p, _, rfl, sqT_up S.ext hs, rfl, _, _, rfl, _, _, rfl, _, _, rfl, _, _, rfl, _, _, rfl, _, _, rfl, rfl, q v0 v1 v2 v3 v4 v5 h0 h1 h2 h3 h4 h5⟩
variable [DecidableEq α] [DecidableEq β] [DecidableEq γ] [DecidableEq δ] [DecidableEq ε] [DecidableEq ζ]
def dP6 (d0 : RD K α) (d1 : RD K β) (d2 : RD K γ) (d3 : RD K δ) (d4 : RD K ε) (d5 : RD K ζ) : RD K (α × β × γ × δ × ε × ζ) := ⟨rP6 K d0.r d1.r d2.r d3.r d4.r d5.r, fun x => .tuple [d0.enc x.1, d1.enc x.2.1, d2.enc x.2.2.1, d3.enc x.2.2.2.1, d4.enc x.2.2.2.2.1, d5.enc x.2.2.2.2.2], d0.dep + d1.dep + d2.dep + d3.dep + d4.dep + d5.dep + 1, fun x => d0.ok x.1 && (d1.ok x.2.1 && (d2.ok x.2.2.1 && (d3.ok x.2.2.2.1 && (d4.ok x.2.2.2.2.1 && (d5.ok x.2.2.2.2.2))))),
  fun x h => by
    simp only [Bool.and_eq_true] at h
    show (PyData.canLay0 _ && (PyData.canLay0 _ && (PyData.canLay0 _ && (PyData.canLay0 _ && (PyData.canLay0 _ && (PyData.canLay0 _ && (true))))))) = true
    rw [d0.lay _ h.1, d1.lay _ h.2.1, d2.lay _ h.2.2.1, d3.lay _ h.2.2.2.1, d4.lay _ h.2.2.2.2.1, d5.lay _ h.2.2.2.2.2]; rfl,
  fun x => by
    have := d0.dpt x.1
    have := d1.dpt x.2.1
    have := d2.dpt x.2.2.1
    have := d3.dpt x.2.2.2.1
    have := d4.dpt x.2.2.2.2.1
    have := d5.dpt x.2.2.2.2.2
    simp only [PyData.depth, PyData.depthAll]; omega,
  fun {H v x} h => by
    obtain ⟨p, v0, v1, v2, v3, v4, v5, rfl, hs, h0, h1, h2, h3, h4, h5⟩ := h
    exact .tup hs (.cons (d0.dp h0) (.cons (d1.dp h1) (.cons (d2.dp h2) (.cons (d3.dp h3) (.cons (d4.dp h4) (.cons (d5.dp h5) (.nil))))))),
  fun x y => by
    obtain ⟨a0, a1, a2, a3, a4, a5⟩ := x
    obtain ⟨b0, b1, b2, b3, b4, b5⟩ := y
    show (PyData.eqv _ _ && (PyData.eqv _ _ && (PyData.eqv _ _ && (PyData.eqv _ _ && (PyData.eqv _ _ && (PyData.eqv _ _ && (true))))))) = _
    rw [d0.eqv, d1.eqv, d2.eqv, d3.eqv, d4.eqv, d5.eqv]
    simp only [Prod.mk.injEq, Bool.and_true, Bool.decide_and]⟩
theorem okP6 {d0 : RD K α} {d1 : RD K β} {d2 : RD K γ} {d3 : RD K δ} {d4 : RD K ε} {d5 : RD K ζ} (h0 : ∀ x, d0.ok x = true) (h1 : ∀ x, d1.ok x = true) (h2 : ∀ x, d2.ok x = true) (h3 : ∀ x, d3.ok x = true) (h4 : ∀ x, d4.ok x = true) (h5 : ∀ x, d5.ok x = true) : ∀ x, (dP6 d0 d1 d2 d3 d4 d5).ok x = true := fun x => by
  show (d0.ok x.1 && (d1.ok x.2.1 && (d2.ok x.2.2.1 && (d3.ok x.2.2.2.1 && (d4.ok x.2.2.2.2.1 && (d5.ok x.2.2.2.2.2)))))) = true
  rw [h0, h1, h2, h3, h4, h5]; rfl
end
end Mr

set_option Elab.async false
set_option linter.all false
set_option maxRecDepth 100000
set_option maxHeartbeats 2000000
/-! Mir2: lists that stand by themselves, None, one text or data, truth, +, comprehensions, stars. -/
namespace Mr
open PySem PySem.Spec PyProof.Rows L2
section
variable {α β : Type} {r : R α} {G G' H : Hp} {O : Own} {K : PySem.W.Frag} {v w : V} {vs ws : List V} {x : α} {xs ys zs : List α} {a : Addr} {Q : VK}
/-- a list that the program made -/
def rM (r : R α) : R (List α) := ⟨fun G v xs => ∃ p vs, v = .ref p ∧ G p = some (.lst vs) ∧ Al r G vs xs, fun e ⟨p, vs, h1, h2, h3⟩ => ⟨p, vs, h1, e _ _ h2, h3.up e⟩⟩
theorem rM_L (h : (rM r).rel G v xs) : (rL K r).rel G v xs := let ⟨p, vs, e, h, ha⟩ := h; ⟨p, vs, e, .inl (.inl h), ha⟩
theorem rM_Q (h : (rM r).rel G v xs) : (rQ K r).rel G v xs := rL_Q (rM_L h)
theorem frz_M (S : Sub G ((a, .lst vs) :: O) H) (h : Al r G vs xs) : ∃ G', Ext G G' ∧ Sub G' O H ∧ (rM r).rel G' (.ref a) xs :=
  ⟨_, S.extFrz, S.frz, a, vs, rfl, upd_same, h.up S.extFrz⟩
theorem rM_own (S : Sub G ((a, .lst vs) :: O) H) (h : Al r G vs xs) : (rM r).rel H (.ref a) xs := ⟨a, vs, rfl, S.head, h.up S.ext⟩
theorem q_slM {lo hi : Option Int} (S : Sub G O H) (h : (rL K r).rel G v xs) (q : ∀ w G' H', Ext G G' → Sub G' O H' → (rM r).rel G' w (cutM xs lo hi) → Q w H') : rSlL K v lo hi H Q := by
  obtain ⟨p, vs, rfl, hs, ha⟩ := h
  refine ⟨p, vs, rfl, sqL_up S.ext hs, fun t ht => q _ _ _ (S.extNew ht (.lst (cutV vs lo hi))) (S.new ht) ⟨t, _, rfl, upd_same, ?_⟩⟩
  exact (ha.up (S.extNew ht _)).cut
theorem q_listM (S : Sub G O H) (h : (rQ K r).rel G v xs) (q : ∀ u G' H', Ext G G' → Sub G' O H' → (rM r).rel G' u xs → Q u H') : rListOf K [v] H Q := by
  obtain ⟨p, vs, rfl, hs, ha⟩ := h
  exact ⟨p, vs, rfl, hs.imp (sqL_up S.ext) (sqT_up S.ext), fun l hl => q _ _ _ (S.extNew hl _) (S.new hl) ⟨l, vs, rfl, upd_same, ha.up (S.extNew hl _)⟩⟩
theorem q_listO {vs : List V} {a : Addr} (S : Sub G ((a, .lst vs) :: O) H) (h : Al r G vs xs) (q : ∀ u G' H', Ext G G' → Sub G' ((a, .lst vs) :: O) H' → (rM r).rel G' u xs → Q u H') : rListOf K [V.ref a] H Q :=
  ⟨a, vs, rfl, .inl (.inl (.inl S.head)), fun l hl => q _ _ _ (S.extNew hl _) (S.new hl) ⟨l, vs, rfl, upd_same, h.up (S.extNew hl _)⟩⟩
/-- a list as it stands now: its items by the frozen part -/
def LsAt (r : R α) (G H : Hp) (v : V) (xs : List α) : Prop := ∃ p vs, v = .ref p ∧ H p = some (.lst vs) ∧ Al r G vs xs
theorem ls_M (S : Sub G O H) (h : (rM r).rel G v xs) : LsAt r G H v xs := let ⟨p, vs, e, h, ha⟩ := h; ⟨p, vs, e, S.ext _ _ h, ha⟩
theorem ls_O (S : Sub G ((a, .lst vs) :: O) H) (h : Al r G vs xs) : LsAt r G H (.ref a) xs := ⟨a, vs, rfl, S.head, h⟩
theorem q_cat (S : Sub G O H) (h1 : LsAt r G H v xs) (h2 : LsAt r G H w ys) (e : catM xs ys = some zs) (q : ∀ u G' H', Ext G G' → Sub G' O H' → (rM r).rel G' u zs → Q u H') : rCat v w H Q := by
  obtain ⟨p, vs, rfl, h3, ha⟩ := h1
  obtain ⟨p2, ws, rfl, h4, hb⟩ := h2
  obtain ⟨c, rfl⟩ := catM_some e
  refine ⟨p, p2, vs, ws, rfl, rfl, h3, h4, sz (by rw [ha.len, hb.len]; exact c), fun t ht => q _ _ _ (S.extNew ht _) (S.new ht) ⟨t, _, rfl, upd_same, ?_⟩⟩
  exact (ha.app hb).up (S.extNew ht _)
/-- a tuple display, all places alike -/
theorem q_tupH (S : Sub G O H) (h : Al r G vs xs) (e : szM xs = some ys) (q : ∀ u G' H', Ext G G' → Sub G' O H' → (rT K r).rel G' u ys → Q u H') : mkTup vs H Q := by
  obtain ⟨c, rfl⟩ := szM_some e
  exact ⟨sz (by rw [h.len]; exact c), fun p hp => q _ _ _ (S.extNew hp _) (S.new hp) ⟨p, vs, rfl, .inl (.inl upd_same), h.up (S.extNew hp _)⟩⟩
theorem Al.snoc (h : Al r G vs xs) (hv : r.rel G v x) : Al r G (vs ++ [v]) (xs ++ [x]) := h.app ⟨hv, True.intro⟩
def mkStar (K : PySem.W.Frag) (t : TA) (σ : L2.St) (QA : List V → Hp → Prop) (x : V) (H : Hp) : Prop := ∃ p xs, x = V.ref p ∧ (SqT K H p xs ∨ SqL K H p xs) ∧ t σ H fun ys H2 => QA (xs ++ ys) H2
theorem gStar {te : TE} {t : TA} {σ : L2.St} {QA : List V → Hp → Prop} (h : te σ H (mkStar K t σ QA)) : StX.tStar K te t σ H QA := h
theorem q_starT {t : TA} {σ : L2.St} {QA : List V → Hp → Prop} (S : Sub G O H) (h : (rT K r).rel G v xs) (q : ∀ vs, Al r G vs xs → t σ H fun ys H2 => QA (vs ++ ys) H2) : mkStar K t σ QA v H := by
  obtain ⟨p, vs, rfl, hs, ha⟩ := h
  exact ⟨p, vs, rfl, .inl (sqT_up S.ext hs), q vs ha⟩

/-! ### None or data; one text or data -/
def rO (r : R α) : R (Option α) := ⟨fun G v x => match x with
  | none => v = .non
  | some y => v ≠ .non ∧ r.rel G v y, fun {G G' v x} e h => by
    cases x with
    | none => exact h
    | some y => exact ⟨h.1, r.mono e h.2⟩⟩
theorem rO_none : (rO r).rel G .non none := rfl
theorem rO_some (hn : v ≠ .non) (h : r.rel G v x) : (rO r).rel G v (some x) := ⟨hn, h⟩
theorem rO_get {o : Option α} (h : (rO r).rel G v o) (e : o = some x) : r.rel G v x := by subst e; exact h.2
theorem nn_T (h : (rT K r).rel G v xs) : v ≠ .non := by obtain ⟨p, vs, rfl, _⟩ := h; intro z; cases z
theorem nn_M (h : (rM r).rel G v xs) : v ≠ .non := by obtain ⟨p, vs, rfl, _⟩ := h; intro z; cases z
def rIsNon : R2 := fun x y H Q => y = .non ∧ Q (.bl (decide (x = .non))) H
def rIsNotNon : R2 := fun x y H Q => y = .non ∧ Q (.bl (!decide (x = .non))) H
theorem op_isNon {X : Cx} : OpR X (compareOp .Is) rIsNon := op_isN
theorem op_isNotNon {X : Cx} : OpR X (compareOp .IsNot) rIsNotNon := op_notN
theorem rO_dec {o : Option α} (h : (rO r).rel G v o) : decide (v = .non) = o.isNone := by
  cases o with
  | none => rw [show v = .non from h]; rfl
  | some y => rw [decide_eq_false h.1]; rfl
theorem q_isNon {o : Option α} (h : (rO r).rel G v o) (q : Q (.bl o.isNone) H) : rIsNon v .non H Q := ⟨rfl, by rw [rO_dec h]; exact q⟩
theorem q_isNotNon {o : Option α} (h : (rO r).rel G v o) (q : Q (.bl (!o.isNone)) H) : rIsNotNon v .non H Q := ⟨rfl, by rw [rO_dec h]; exact q⟩
/-- the text c, or data -/
def rA (c : Str) (r : R α) : R (Option α) := ⟨fun G v x => match x with
  | none => v = .str c
  | some y => r.rel G v y, fun {G G' v x} e h => by
    cases x with
    | none => exact h
    | some y => exact r.mono e h⟩
theorem rA_none {c : Str} : (rA c r).rel G (.str c) none := rfl
theorem rA_some {c : Str} (h : r.rel G v x) : (rA c r).rel G v (some x) := h
theorem rA_get {c : Str} {o : Option α} (h : (rA c r).rel G v o) (e : o = some x) : r.rel G v x := by subst e; exact h
end
section
variable {K : PySem.W.Frag} {α : Type} [DecidableEq α]
def dM (d : RD K α) : RD K (List α) := ⟨rM d.r, fun xs => .list (xs.map d.enc), d.dep + 1, fun xs => xs.all d.ok, fun xs h => lays d.lay xs h, fun xs => by have := deps d.dpt xs; simp only [PyData.depth]; omega,
  fun {H v x} h => by obtain ⟨p, vs, rfl, hs, ha⟩ := h; exact .lst (.inl (.inl hs)) (ha.dps d.dp), fun x y => eqvs d.eqv x y⟩
theorem okM {d : RD K α} (h : ∀ x, d.ok x = true) : ∀ xs, (dM d).ok xs = true := fun xs => List.all_eq_true.mpr fun x _ => h x
def isTupD : PyData → Bool
  | .tuple _ => true
  | _ => false
def dA (c : Str) (hc : PyData.strOk c = true) (d : RD K α) (ht : ∀ x, isTupD (d.enc x) = true) : RD K (Option α) := ⟨rA c d.r, fun x => match x with
    | none => .str c
    | some y => d.enc y, d.dep + 1, fun x => match x with
    | none => true
    | some y => d.ok y,
  fun x h => by
    cases x with
    | none => exact hc
    | some y => exact d.lay y h,
  fun x => by
    cases x with
    | none => simp [PyData.depth]
    | some y => exact Nat.le_succ_of_le (d.dpt y),
  fun {H v x} h => by
    cases x with
    | none => cases (show v = .str c from h); exact .str c
    | some y => exact d.dp h,
  fun x y => by
    cases x with
    | none =>
      cases y with
      | none =>
        show (c == c) = decide (none = none)
        simp
      | some y =>
        have h := ht y
        show PyData.eqv (.str c) (d.enc y) = _
        cases e : d.enc y with
        | tuple zs => rfl
        | _ => rw [e] at h; cases h
    | some x =>
      cases y with
      | none =>
        have h := ht x
        show PyData.eqv (d.enc x) (.str c) = _
        cases e : d.enc x with
        | tuple zs => rfl
        | _ => rw [e] at h; cases h
      | some y =>
        show PyData.eqv (d.enc x) (d.enc y) = _
        rw [d.eqv]
        by_cases e : x = y
        · subst e; simp
        · simp [e]⟩
theorem okA {c : Str} {hc : PyData.strOk c = true} {d : RD K α} {ht : ∀ x, isTupD (d.enc x) = true} (h : ∀ x, d.ok x = true) : ∀ x, (dA c hc d ht).ok x = true := fun x => by
  cases x with
  | none => rfl
  | some y => exact h y
def dO (d : RD K α) (ht : ∀ x, isTupD (d.enc x) = true) : RD K (Option α) := ⟨rO d.r, fun x => match x with
    | none => .none
    | some y => d.enc y, d.dep + 1, fun x => match x with
    | none => true
    | some y => d.ok y,
  fun x h => by
    cases x with
    | none => rfl
    | some y => exact d.lay y h,
  fun x => by
    cases x with
    | none => simp [PyData.depth]
    | some y => exact Nat.le_succ_of_le (d.dpt y),
  fun {H v x} h => by
    cases x with
    | none => cases (show v = .non from h); exact .non
    | some y => exact d.dp h.2,
  fun x y => by
    cases x with
    | none =>
      cases y with
      | none => rfl
      | some y =>
        have h := ht y
        show PyData.eqv .none (d.enc y) = _
        cases e : d.enc y with
        | tuple zs => rfl
        | _ => rw [e] at h; cases h
    | some x =>
      cases y with
      | none =>
        have h := ht x
        show PyData.eqv (d.enc x) .none = _
        cases e : d.enc x with
        | tuple zs => rfl
        | _ => rw [e] at h; cases h
      | some y =>
        show PyData.eqv (d.enc x) (d.enc y) = _
        rw [d.eqv]
        by_cases e : x = y
        · subst e; simp
        · simp [e]⟩
theorem okO {d : RD K α} {ht : ∀ x, isTupD (d.enc x) = true} (h : ∀ x, d.ok x = true) : ∀ x, (dO d ht).ok x = true := fun x => by
  cases x with
  | none => rfl
  | some y => exact h y
/-- a text out of a few: e: its encoding (one to one) -/
def rEn {α : Type} (e : α → Str) : R α := rSc fun x => V.str (e x)
def dEn (e : α → Str) (hi : ∀ x y, e x = e y → x = y) (ho : ∀ x, PyData.strOk (e x) = true) : RD K α := ⟨rEn e, fun x => .str (e x), 1, fun _ => true, fun x _ => ho x, fun _ => by simp [PyData.depth], fun {H v x} h => by cases (show v = .str (e x) from h); exact .str _, fun x y => by
  show (e x == e y) = decide (x = y)
  by_cases h : x = y
  · subst h; simp
  · rw [decide_eq_false h]
    exact beq_eq_false_iff_ne.mpr fun z => h (hi x y z)⟩
theorem okEn {e : α → Str} {hi : ∀ x y, e x = e y → x = y} {ho : ∀ x, PyData.strOk (e x) = true} : ∀ x, (dEn (K := K) e hi ho).ok x = true := fun _ => rfl
theorem en_dec {e : α → Str} (hi : ∀ x y, e x = e y → x = y) (x y : α) : decide (e x = e y) = decide (x = y) := by
  by_cases h : x = y
  · subst h; simp
  · rw [decide_eq_false h, decide_eq_false fun z => h (hi x y z)]
end

def rE0 {α : Type} (e : α → Str) (g : α → α → V) : R2 := fun x y H Q => ∃ i j, x = .str (e i) ∧ y = .str (e j) ∧ Q (g i j) H
theorem op_eqE {α : Type} [DecidableEq α] {X : Cx} {e : α → Str} (hi : ∀ x y, e x = e y → x = y) : OpR X (compareOp .Eq) (rE0 e fun i j => .bl (decide (i = j))) := fun pins s σ H x y v u Q I rx ry h => by
  obtain ⟨i, j, rfl, rfl, q⟩ := h
  exact op_eqS pins s σ H _ _ v u Q I rx ry ⟨_, _, rfl, rfl, by show Q (.bl (decide (e i = e j))) H; rw [en_dec hi]; exact q⟩
theorem op_neE {α : Type} [DecidableEq α] {X : Cx} {e : α → Str} (hi : ∀ x y, e x = e y → x = y) : OpR X (compareOp .NotEq) (rE0 e fun i j => .bl (!decide (i = j))) := fun pins s σ H x y v u Q I rx ry h => by
  obtain ⟨i, j, rfl, rfl, q⟩ := h
  exact op_neS pins s σ H _ _ v u Q I rx ry ⟨_, _, rfl, rfl, by show Q (.bl (!decide (e i = e j))) H; rw [en_dec hi]; exact q⟩

/-! ### truth -/
def tTruM (K : PySem.W.Frag) (ta : TE) : TT := fun σ H Q => ta σ H fun x H' => ∃ k, TruV K x H' k ∧ Q k H'
theorem pt_truM {X : Cx} {a : Expr} {ta : TE} (ha : PE X a ta) (he : ∀ whole, isTrue a X.env whole = (do let v ← whole; standAt a.pos; holding [v] (truthy v)) := by intro _; rfl) : PT X a (tTruM X.K ta) := pt_truth ha he
def truM (K : PySem.W.Frag) (x : V) (H : Hp) (Q : Bool → Hp → Prop) : Prop := ∃ k, TruV K x H k ∧ Q k H
section
variable {α : Type} {r : R α} {G H : Hp} {O : Own} {K : PySem.W.Frag} {v : V} {vs : List V} {xs : List α} {a : Addr} {QB : Bool → Hp → Prop}
theorem gTru {ta : TE} {σ : L2.St} (h : ta σ H fun x H' => truM K x H' QB) : tTruM K ta σ H QB := h
theorem emp_eq (h : Al r G vs xs) : (!vs.isEmpty) = !xs.isEmpty := by
  cases vs with
  | nil =>
    cases xs with
    | nil => rfl
    | cons y ys => exact h.elim
  | cons u us =>
    cases xs with
    | nil => exact h.elim
    | cons y ys => rfl
theorem q_truT (S : Sub G O H) (h : (rT K r).rel G v xs) (q : QB (!xs.isEmpty) H) : truM K v H QB := by
  obtain ⟨p, vs, rfl, hs, ha⟩ := h
  exact ⟨_, .inr (.inl ⟨vs, sqT_up S.ext hs, rfl⟩), by rw [emp_eq ha]; exact q⟩
theorem q_truL (S : Sub G O H) (h : (rL K r).rel G v xs) (q : QB (!xs.isEmpty) H) : truM K v H QB := by
  obtain ⟨p, vs, rfl, hs, ha⟩ := h
  exact ⟨_, .inl ⟨vs, sqL_up S.ext hs, rfl⟩, by rw [emp_eq ha]; exact q⟩
theorem q_truO (S : Sub G ((a, .lst vs) :: O) H) (h : Al r G vs xs) (q : QB (!xs.isEmpty) H) : truM K (.ref a) H QB :=
  ⟨_, .inl ⟨vs, .inl (.inl S.head), rfl⟩, by rw [emp_eq h]; exact q⟩
end

/-! ### list comprehensions: a fold whose last state part is the list so far -/
def PvF {α τ : Type} (f : τ → α → Option τ) (xs : List α) (s1 : τ) (I : τ → Hp → Prop) (i : Nat) : Hp → Prop := fun H => ∃ s, I s H ∧ folM f (xs.drop i) s = some s1
def LcW (g : TG) (tt : TT) (te : TE) (vs : List Nat) (σ : L2.St) (Q : VK) (J : It) (H1 : Hp) : Prop := ∀ D, H1 D = none → ∃ W : Nat → Nat → Hp → Prop, (∃ m, W 0 m (upd H1 D (.lst []))) ∧ ∀ i m H, W i m H →
  (J.stop i H ∧ Q (.ref D) H) ∨ (J.go i H ∧ ∃ Nx : Hp → Prop, (∀ H', Nx H' → ∃ m', m' < m ∧ W (i + 1) m' H') ∧ ∀ x H', J.yld i H x H' → g x (wipe σ vs) H' fun σ2 H2 => wipe σ2 vs = wipe σ vs ∧ tt σ2 H2 fun b H3 =>
    if b = true then te σ2 H3 fun y H4 => ∃ acc, H4 D = some (.lst acc) ∧ acc.length < sizeLine ∧ Nx (upd H4 D (.lst (acc ++ [y]))) else Nx H3)
theorem gLc {wi : TI} {g : TG} {tt : TT} {te : TE} {vs : List Nat} {σ : L2.St} {H : Hp} {Q : VK} (h : wi σ H (LcW g tt te vs σ Q)) : tLc wi g tt te vs σ H Q := h
/-- a turn's end: the element is kept -/
def lcEl (D : Addr) (Nx : Hp → Prop) (y : V) (H : Hp) : Prop := ∃ acc, H D = some (.lst acc) ∧ acc.length < sizeLine ∧ Nx (upd H D (.lst (acc ++ [y])))
def lcTurn (tt : TT) (te : TE) (vs : List Nat) (σ : L2.St) (D : Addr) (Nx : Hp → Prop) (σ2 : L2.St) (H2 : Hp) : Prop := wipe σ2 vs = wipe σ vs ∧ tt σ2 H2 fun b H3 => if b = true then te σ2 H3 (lcEl D Nx) else Nx H3
theorem gYes {σ : L2.St} {H : Hp} {QB : Bool → Hp → Prop} (h : QB true H) : tYes σ H QB := h
section
variable {α β τ : Type} {J : It} {n : Nat} {GW : Hp → Prop} {Y : Nat → Hp → V → Hp → Prop} {f : τ → α → Option τ} {xs : List α} {s0 s1 : τ} {g : TG} {tt : TT} {te : TE} {ws : List Nat} {σ : L2.St} {H : Hp} {Q : VK}
theorem lc_fol (w : Walk J n GW Y) (hn : xs.length = n) (hm : folM f xs s0 = some s1) (I : Addr → τ → Hp → Prop) (h0 : ∀ D, H D = none → I D s0 (upd H D (.lst []))) (hG : ∀ D s H, I D s H → GW H)
    (hs : ∀ (D : Addr) (i : Nat) (x : α) (s s' : τ), xs[i]? = some x → f s x = some s' → folM f (xs.drop (i + 1)) s' = some s1 → ∀ v H H', I D s H → Y i H v H' → g v (wipe σ ws) H' (lcTurn tt te ws σ D (PvF f xs s1 (I D) (i + 1))))
    (hd : ∀ D H, I D s1 H → Q (.ref D) H) : LcW g tt te ws σ Q J H := by
  intro D hD
  refine lc_it w (PvF f xs s1 (I D)) ⟨s0, h0 D hD, hm⟩ (fun i H _ ⟨s, hI, _⟩ => hG D s H hI) (fun i v H H' hi ⟨s, hI, hf⟩ hy => ?_) fun H ⟨s, hI, hf⟩ => ?_
  · have hx : xs[i]? = some xs[i] := List.getElem?_eq_getElem (by omega)
    obtain ⟨s', hb, hr⟩ := folM_drop hx hf
    exact hs D i _ s s' hx hb hr v H H' hI hy
  · rw [← hn, List.drop_length] at hf
    cases hf
    exact hd D H hI
variable {K : PySem.W.Frag} {G : Hp} {O : Own} {r : R α} {v : V} {vs : List V} {a : Addr}
theorem lc_L (S : Sub G O H) (h : (rL K r).rel G v xs) (hm : folM f xs s0 = some s1) (I : Addr → τ → Hp → Prop) (h0 : ∀ D, H D = none → I D s0 (upd H D (.lst []))) (hG : ∀ D s H, I D s H → Ext G H)
    (hs : ∀ (D : Addr) (i : Nat) (x : α) (s s' : τ), f s x = some s' → folM f (xs.drop (i + 1)) s' = some s1 → ∀ w H, I D s H → r.rel G w x → g w (wipe σ ws) H (lcTurn tt te ws σ D (PvF f xs s1 (I D) (i + 1))))
    (hd : ∀ D H, I D s1 H → Q (.ref D) H) : itL K v H (LcW g tt te ws σ Q) := by
  obtain ⟨p, vs, rfl, hq, ha⟩ := h
  refine ⟨p, rfl, ⟨vs, sqL_up S.ext hq⟩, lc_fol (walk_list (xs := vs)) ha.len.symm hm I h0 (fun D s H hI => sqL_up (hG D s H hI) hq) (fun D i x s s' hx hb hr w H H' hI hY => ?_) hd⟩
  obtain ⟨rfl, hw⟩ := hY
  exact hs D i x s s' hb hr w _ hI (ha.at hx hw)
theorem lc_T (S : Sub G O H) (h : (rT K r).rel G v xs) (hm : folM f xs s0 = some s1) (I : Addr → τ → Hp → Prop) (h0 : ∀ D, H D = none → I D s0 (upd H D (.lst []))) (hG : ∀ D s H, I D s H → Ext G H)
    (hs : ∀ (D : Addr) (i : Nat) (x : α) (s s' : τ), f s x = some s' → folM f (xs.drop (i + 1)) s' = some s1 → ∀ w H, I D s H → r.rel G w x → g w (wipe σ ws) H (lcTurn tt te ws σ D (PvF f xs s1 (I D) (i + 1))))
    (hd : ∀ D H, I D s1 H → Q (.ref D) H) : itT K v H (LcW g tt te ws σ Q) := by
  obtain ⟨p, vs, rfl, hq, ha⟩ := h
  refine ⟨p, rfl, ⟨vs, sqT_up S.ext hq⟩, lc_fol (walk_tup (xs := vs)) ha.len.symm hm I h0 (fun D s H hI => sqT_up (hG D s H hI) hq) (fun D i x s s' hx hb hr w H H' hI hY => ?_) hd⟩
  obtain ⟨rfl, hw⟩ := hY
  exact hs D i x s s' hb hr w _ hI (ha.at hx hw)
theorem lc_R {f : τ → Int → Option τ} {xs : List Int} {n : Int} (hx : rngM n = some xs) (hm : folM f xs s0 = some s1) (I : Addr → τ → Hp → Prop) (h0 : ∀ D, H D = none → I D s0 (upd H D (.lst [])))
    (hs : ∀ (D : Addr) (i : Nat) (x : Int) (s s' : τ), f s x = some s' → folM f (xs.drop (i + 1)) s' = some s1 → ∀ H, I D s H → g (.int x) (wipe σ ws) H (lcTurn tt te ws σ D (PvF f xs s1 (I D) (i + 1))))
    (hd : ∀ D H, I D s1 H → Q (.ref D) H) : itR [V.int n] H (LcW g tt te ws σ Q) := by
  obtain ⟨c, rfl⟩ := rngM_some hx
  refine ⟨n, rfl, c.1, c.2, lc_fol walk_range (by simp) hm I h0 (fun _ _ _ _ => True.intro) (fun D i x s s' hx hb hr w H H' hI hY => ?_) hd⟩
  obtain ⟨rfl, hw⟩ := hY
  have e : (0 : Int) + (i : Nat) = x := by
    rw [List.getElem?_map] at hx
    obtain ⟨k, h1, h2⟩ := Option.map_eq_some_iff.mp hx
    have := rng_at h1
    omega
  have e2 : w = .int x := by rw [hw, ← e]
  rw [e2]
  exact hs D i x s s' hb hr _ hI
theorem lc_R2 {f : τ → Int → Option τ} {xs : List Int} {lo n : Int} (hx : rng2M lo n = some xs) (hm : folM f xs s0 = some s1) (I : Addr → τ → Hp → Prop) (h0 : ∀ D, H D = none → I D s0 (upd H D (.lst [])))
    (hs : ∀ (D : Addr) (i : Nat) (x : Int) (s s' : τ), f s x = some s' → folM f (xs.drop (i + 1)) s' = some s1 → ∀ H, I D s H → g (.int x) (wipe σ ws) H (lcTurn tt te ws σ D (PvF f xs s1 (I D) (i + 1))))
    (hd : ∀ D H, I D s1 H → Q (.ref D) H) : itR2 [V.int lo, V.int n] H (LcW g tt te ws σ Q) := by
  obtain ⟨c, rfl⟩ := rng2M_some hx
  refine ⟨lo, n, rfl, c, lc_fol walk_range (by simp) hm I h0 (fun _ _ _ _ => True.intro) (fun D i x s s' hx hb hr w H H' hI hY => ?_) hd⟩
  obtain ⟨rfl, hw⟩ := hY
  have e : lo + (i : Nat) = x := by
    rw [List.getElem?_map] at hx
    obtain ⟨k, h1, h2⟩ := Option.map_eq_some_iff.mp hx
    have := rng_at h1
    omega
  have e2 : w = .int x := by rw [hw, ← e]
  rw [e2]
  exact hs D i x s s' hb hr _ hI
theorem lc_Eit {f : τ → Int × α → Option τ} {i1 i2 : Nat} {J : It} {vs : List V} (w : Walk J vs.length GW (YPair (fun i => some (.int (i : Nat))) (fun i => vs[i]?))) (ha : Al r G vs xs) (hm : folM f (enumM xs) s0 = some s1) (I : Addr → τ → Hp → Prop) (h0 : ∀ D, H D = none → I D s0 (upd H D (.lst []))) (hG : ∀ D s H, I D s H → GW H)
    (hs : ∀ (D : Addr) (i : Nat) (x : α) (s s' : τ), f s ((i : Int), x) = some s' → folM f ((enumM xs).drop (i + 1)) s' = some s1 → ∀ w H H', I D s H → (∀ G O, Sub G O H → Sub G O H') → r.rel G w x →
      lcTurn tt te ws σ D (PvF f (enumM xs) s1 (I D) (i + 1)) (((wipe σ ws).set i1 (some (.int (i : Int)))).set i2 (some w)) H')
    (hd : ∀ D H, I D s1 H → Q (.ref D) H) : LcW (gTup K 2 (gCons (gName i1) (gCons (gName i2) gNil))) tt te ws σ Q J H := by
  refine lc_fol w (by rw [enumM_length, ha.len]) hm I h0 hG (fun D i y s s' hx hb hr v H H' hI hY => ?_) hd
  rw [enumM_get] at hx
  obtain ⟨x, hx2, rfl⟩ := Option.map_eq_some_iff.mp hx
  obtain ⟨T, k, w, rfl, hT, rfl, hk, hw⟩ := hY
  cases hk
  exact ⟨T, _, rfl, .inl (.inl upd_same), rfl, _, _, rfl, _, _, rfl, rfl, hs D i x s s' hb hr w H _ hI (fun G O S => S.junk hT) (ha.at hx2 hw)⟩
theorem lc_EQ {f : τ → Int × α → Option τ} {i1 i2 : Nat} (S : Sub G O H) (h : (rQ K r).rel G v xs) (hm : folM f (enumM xs) s0 = some s1) (I : Addr → τ → Hp → Prop) (h0 : ∀ D, H D = none → I D s0 (upd H D (.lst []))) (hG : ∀ D s H, I D s H → Ext G H)
    (hs : ∀ (D : Addr) (i : Nat) (x : α) (s s' : τ), f s ((i : Int), x) = some s' → folM f ((enumM xs).drop (i + 1)) s' = some s1 → ∀ w H H', I D s H → (∀ G O, Sub G O H → Sub G O H') → r.rel G w x →
      lcTurn tt te ws σ D (PvF f (enumM xs) s1 (I D) (i + 1)) (((wipe σ ws).set i1 (some (.int (i : Int)))).set i2 (some w)) H')
    (hd : ∀ D H, I D s1 H → Q (.ref D) H) : itE K [v] H (LcW (gTup K 2 (gCons (gName i1) (gCons (gName i2) gNil))) tt te ws σ Q) := by
  obtain ⟨p, vs, rfl, hq, ha⟩ := h
  refine ⟨p, vs, rfl, ?_⟩
  rcases hq with hq | hq
  · exact .inl ⟨sqL_up S.ext hq, lc_Eit walk_enum ha hm I h0 (fun D s H hI => sqL_up (hG D s H hI) hq) hs hd⟩
  · exact .inr ⟨sqT_up S.ext hq, lc_Eit walk_enumT ha hm I h0 (fun D s H hI => sqT_up (hG D s H hI) hq) hs hd⟩
end
section
variable {α β τ : Type} {r : R β} {G H : Hp} {O : Own} {vs : List V} {D : Addr} {y : V} {b : β} {acc acc' : List β} {Nx : Hp → Prop}
theorem q_lcEl (S : Sub G ((D, .lst vs) :: O) H) (h : Al r G vs acc) (hy : r.rel G y b) (e : appM acc b = some acc') (q : ∀ H' w, Sub G ((D, .lst w) :: O) H' → Al r G w acc' → Nx H') : lcEl D Nx y H := by
  obtain ⟨c, rfl⟩ := appM_some e
  exact ⟨vs, S.head, szl (by rw [h.len]; exact c), q _ _ S.wr (h.snoc hy)⟩
end
end Mr

set_option Elab.async false
set_option linter.all false
set_option maxRecDepth 100000
/-! Mir3: chained comparisons, in. -/
namespace Mr
open PySem PySem.Spec PyProof.Rows L2
theorem ix_listK {X : Cx} {K : PySem.W.Frag} (h : X.K = K) : IxR X (rIxL K) := h ▸ ix_list
theorem ix_tupK {X : Cx} {K : PySem.W.Frag} (h : X.K = K) : IxR X (rIxT K) := h ▸ ix_tup
theorem call_lenK {X : Cx} {K : PySem.W.Frag} (h : X.K = K) : CallR X (.builtin "len") (rLenM K) := h ▸ call_lenM
theorem op_inDK {X : Cx} {K : PySem.W.Frag} (h : X.K = K) (hu : X.A.units + 65 < cLine) : OpR X (compareOp .In) (rInD K) := h ▸ op_inD hu
theorem op_notInDK {X : Cx} {K : PySem.W.Frag} (h : X.K = K) (hu : X.A.units + 65 < cLine) : OpR X (compareOp .NotIn) (rNotInD K) := h ▸ op_notInD hu
theorem op_eqDK {X : Cx} {K : PySem.W.Frag} (h : X.K = K) (hu : X.A.units + 64 < cLine) : OpR X (compareOp .Eq) (rEqD K) := h ▸ op_eqD hu
theorem op_neDK {X : Cx} {K : PySem.W.Frag} (h : X.K = K) (hu : X.A.units + 64 < cLine) : OpR X (compareOp .NotEq) (rNeD K) := h ▸ op_neD hu
theorem un65 {k : Nat} {A : Around} (r : Room k A) : A.units + 65 < cLine := by have := r.un; omega
section
variable {ta tb tc te : TE} {σ : L2.St} {H : Hp} {Q : VK} {QB : Bool → Hp → Prop}
theorem gChain {r r' : R2} (h : ta σ H fun x H1 => tb σ H1 fun y H2 => r x y H2 fun z H3 => ∃ k, z = .bl k ∧ (if k = true then tc σ H3 fun w' H4 => r' y w' H4 Q else Q (.bl false) H3)) : tChain r r' ta tb tc σ H Q := h
end
section
variable {K : PySem.W.Frag} {α : Type} [DecidableEq α] {H : Hp} {v w : V} {x : α} {xs : List α} {Q : VK}
theorem any_mem (d : RD K α) (x : α) : ∀ xs : List α, ((xs.map d.enc).any fun z => PyData.eqv z (d.enc x)) = decide (x ∈ xs)
  | [] => by simp
  | y :: ys => by
    rw [List.map_cons, List.any_cons, any_mem d x ys, d.eqv]
    by_cases h : y = x
    · subst h; simp
    · have h' : ¬ x = y := fun e => h e.symm
      simp [h, h']
theorem q_inD (d : RD K α) (hd : d.dep + 1 ≤ 64) (h1 : d.r.rel H v x) (h2 : (rM d.r).rel H w xs) (o1 : d.ok x = true) (o2 : xs.all d.ok = true) (q : Q (.bl (decide (x ∈ xs))) H) : rInD K v w H Q :=
  ⟨d.enc x, xs.map d.enc, d.dp h1, (dM d).dp h2, d.shaped (by omega) o1, (dM d).shaped hd o2, by rw [any_mem]; exact q⟩
theorem q_niD (d : RD K α) (hd : d.dep + 1 ≤ 64) (h1 : d.r.rel H v x) (h2 : (rM d.r).rel H w xs) (o1 : d.ok x = true) (o2 : xs.all d.ok = true) (q : Q (.bl (!decide (x ∈ xs))) H) : rNotInD K v w H Q :=
  ⟨d.enc x, xs.map d.enc, d.dp h1, (dM d).dp h2, d.shaped (by omega) o1, (dM d).shaped hd o2, by rw [any_mem]; exact q⟩
end
/-! ### while -/
def PvW {σ ρ : Type} (f : σ → Option (Bf σ ρ)) (res : Fl σ ρ) (I : σ → L2.St → Hp → Prop) (n : Nat) : L2.St → Hp → Prop := fun σ' H => ∃ s, I s σ' H ∧ whL f n s = some res
theorem lp_W {τ ρ : Type} {f : τ → Option (Bf τ ρ)} {N : Nat} {s0 : τ} {res : Fl τ ρ} {c : TT} {tb : TS} {D : Ends} {σ : L2.St} {H : Hp} (hm : whL f N s0 = some res) (I : τ → L2.St → Hp → Prop) (h0 : I s0 σ H)
    (hs : ∀ (n : Nat) (s : τ) (b : Bf τ ρ), f s = some b → conW f n b = some res → ∀ σ H, I s σ H →
      c σ H fun t H1 => if t = true then ∃ N : L2.St → Hp → Prop, (∀ σ' H', N σ' H' → ∃ m', m' < n + 1 ∧ PvW f res I m' σ' H') ∧ tb { D with nx := N, ct := N, bk := D.nx } σ H1 else D.nx σ H1) : tWhile c tb D σ H := by
  refine ⟨fun m => PvW f res I m, ⟨N, s0, h0, hm⟩, fun m σ H hW => ?_⟩
  obtain ⟨s, hI, hf⟩ := hW
  cases m with
  | zero => cases hf
  | succ n =>
    rw [whL_succ] at hf
    obtain ⟨b, hb, hc⟩ := bindS hf
    exact hs n s b hb hc σ H hI
theorem whGo {τ ρ : Type} {f : τ → Option (Bf τ ρ)} {res : Fl τ ρ} {I : τ → L2.St → Hp → Prop} {n : Nat} {tb : TS} {D : Ends} {σ : L2.St} {H1 : Hp} (h : tb { D with nx := PvW f res I n, ct := PvW f res I n, bk := D.nx } σ H1) :
    ∃ N : L2.St → Hp → Prop, (∀ σ' H', N σ' H' → ∃ m', m' < n + 1 ∧ PvW f res I m' σ' H') ∧ tb { D with nx := N, ct := N, bk := D.nx } σ H1 := ⟨_, fun _ _ h => ⟨n, Nat.lt_succ_self n, h⟩, h⟩
/-! ### in a tuple of ints -/
theorem inV_ints (x : Int) : ∀ (as : List Int), inV (.int x) (as.map V.int) = decide (x ∈ as)
  | [] => by simp [inV]
  | a :: as => by
    have ih := inV_ints x as
    unfold inV at ih ⊢
    rw [List.map_cons, List.any_cons, ih]
    have e : eqV (V.int a) (V.int x) = decide (a = x) := rfl
    rw [e]
    by_cases h : a = x
    · subst h; simp
    · have h' : ¬ x = a := fun q => h q.symm
      simp [h, h']
theorem flat_ints : ∀ (as : List Int), (as.map V.int).all flatV = true
  | [] => rfl
  | a :: as => by rw [List.map_cons, List.all_cons, flat_ints as]; rfl
theorem q_inT {K : PySem.W.Frag} {H : Hp} {x : Int} {p : Addr} {Q : VK} (as : List Int) (q : Q (.bl (decide (x ∈ as))) (upd H p (.tup (as.map V.int)))) : rIn K false (.int x) (.ref p) (upd H p (.tup (as.map V.int))) Q :=
  ⟨p, as.map V.int, rfl, .inr (.inl (.inl upd_same)), rfl, flat_ints as, by show Q (.bl (inV (.int x) (as.map V.int))) _; rw [inV_ints]; exact q⟩
/-! ### for over a list or a tuple -/
def iQ (K : PySem.W.Frag) (tl : TE) : TI := fun σ H R => tl σ H fun x H1 => ∃ a, x = .ref a ∧ (((∃ xs, SqL K H1 a xs) ∧ R (Itl K a) H1) ∨ ((∃ xs, SqT K H1 a xs) ∧ R (Itt K a) H1))
theorem pi_Q {X : Cx} {tg l : Expr} {tl : TE} (hl : PE X l tl) : PI X tg l (iQ X.K tl) := by
  refine ⟨fun pins s σ H R I h => ?_⟩
  refine thn (hl.run pins s σ H _ I h) fun v s1 ⟨x, H1, I1, r1, a, e, q1⟩ => ?_
  subst e
  cases r1
  have fr : ∀ b ∈ [s1.heap.objs.size], b = s1.heap.objs.size := fun b hb => by simpa using hb
  rcases q1 with ⟨⟨xs, hq⟩, q⟩ | ⟨⟨xs, hq⟩, q⟩
  · obtain ⟨its, rv, p, hz⟩ := I1.list hq
    exact wpAny_pyIter_list p.isList ⟨s1.heap.objs.size, [s1.heap.objs.size], _, _, H1, rfl, I1.kept (t' := s1.toks) fun b o e => Heap.get?_push_of_some _ e, turn_list a _, ⟨_, Heap.get?_push_size _ rfl, rfl, rfl⟩, fun b hb => by rw [fr b hb]; exact I1.fpOk (Nat.le_refl _) (I1.hok.fresh (Nat.le_refl _)), q⟩
  · obtain ⟨its, rv, p, hz⟩ := I1.tuple hq
    exact wpAny_pyIter_tuple (show s1.heap.IsTuple a its.toArray from p) ⟨s1.heap.objs.size, [s1.heap.objs.size], _, _, H1, rfl, I1.kept (t' := s1.toks) fun b o e => Heap.get?_push_of_some _ e, turn_tuple a _, ⟨_, Heap.get?_push_size _ rfl, rfl, rfl⟩, fun b hb => by rw [fr b hb]; exact I1.fpOk (Nat.le_refl _) (I1.hok.fresh (Nat.le_refl _)), q⟩
def itQ (K : PySem.W.Frag) (x : V) (H : Hp) (RI : It → Hp → Prop) : Prop := ∃ a, x = .ref a ∧ (((∃ xs, SqL K H a xs) ∧ RI (Itl K a) H) ∨ ((∃ xs, SqT K H a xs) ∧ RI (Itt K a) H))
theorem gIQ {K : PySem.W.Frag} {te : TE} {σ : L2.St} {H : Hp} {RI : It → Hp → Prop} (h : te σ H fun x H1 => itQ K x H1 RI) : iQ K te σ H RI := h
theorem lp_Q {α τ ρ : Type} {f : τ → α → Option (Bf τ ρ)} {xs : List α} {s0 : τ} {res : Fl τ ρ} {g : TG} {tb : TS} {D : Ends} {σ : L2.St} {H G : Hp} {K : PySem.W.Frag} {O : Own} {r : R α} {v : V} (S : Sub G O H) (h : (rQ K r).rel G v xs) (hm : forL f xs s0 = some res) (I : τ → L2.St → Hp → Prop) (h0 : I s0 σ H) (hG : ∀ s σ H, I s σ H → Ext G H)
    (hs : ∀ (i : Nat) (x : α) (s : τ) (b : Bf τ ρ), f s x = some b → conL f (xs.drop (i + 1)) b = some res → ∀ w σ H, I s σ H → r.rel G w x →
      g w σ H fun σ2 H2 => tb { D with nx := PvL f xs res I (i + 1), ct := PvL f xs res I (i + 1), bk := D.nx } σ2 H2)
    (hd : ∀ s σ H, res = .nx s → I s σ H → D.nx σ H) :
    itQ K v H (LpW g tb D σ) := by
  obtain ⟨p, vs, rfl, hq, ha⟩ := h
  rcases hq with hq | hq
  · obtain ⟨a, e, h1, h2⟩ := lp_L S ⟨p, vs, rfl, hq, ha⟩ hm I h0 hG hs hd
    exact ⟨a, e, .inl ⟨h1, h2⟩⟩
  · obtain ⟨a, e, h1, h2⟩ := lp_T S ⟨p, vs, rfl, hq, ha⟩ hm I h0 hG hs hd
    exact ⟨a, e, .inr ⟨h1, h2⟩⟩
/-! ### all, any of a list of bools -/
theorem q_all {K : PySem.W.Frag} {G H : Hp} {O : Own} {v : V} {xs : List Bool} {Q : VK} (S : Sub G O H) (h : (rM rBool).rel G v xs) (q : Q (.bl (xs.all id)) H) : rAll K [v] H Q := by
  obtain ⟨p, vs, rfl, hs, ha⟩ := h
  exact ⟨p, xs, rfl, by rw [← ha.sc]; exact .inl (.inl (S.ext _ _ hs)), q⟩
theorem q_any {K : PySem.W.Frag} {G H : Hp} {O : Own} {v : V} {xs : List Bool} {Q : VK} (S : Sub G O H) (h : (rM rBool).rel G v xs) (q : Q (.bl (xs.any id)) H) : rAny K [v] H Q := by
  obtain ⟨p, vs, rfl, hs, ha⟩ := h
  exact ⟨p, xs, rfl, by rw [← ha.sc]; exact .inl (.inl (S.ext _ _ hs)), q⟩
end Mr

set_option Elab.async false
set_option linter.all false
set_option maxRecDepth 100000
set_option maxHeartbeats 2000000
/-! Mir4: slices of owned lists, xs[::-1], max(xs), is None, is of bools, properties. -/
namespace Mr
open PySem PySem.Spec PyProof.Rows L2
section
variable {α β γ δ : Type} {r : R α} {G G' H : Hp} {O : Own} {K : PySem.W.Frag} {v w : V} {vs : List V} {x : α} {xs ys : List α} {a : Addr} {Q : VK} {σ : L2.St}
theorem Al.rev : ∀ {vs : List V} {xs : List α}, Al r G vs xs → Al r G vs.reverse xs.reverse
  | [], [], _ => True.intro
  | v :: vs, x :: xs, h => by
    rw [List.reverse_cons, List.reverse_cons]
    exact (Al.rev h.2).app ⟨h.1, True.intro⟩
  | [], _ :: _, h => h.elim
  | _ :: _, [], h => h.elim
theorem q_slO {lo hi : Option Int} (S : Sub G ((a, .lst vs) :: O) H) (h : Al r G vs xs) (q : ∀ w G' H', Ext G G' → Sub G' ((a, .lst vs) :: O) H' → (rM r).rel G' w (cutM xs lo hi) → Q w H') : rSlL K (.ref a) lo hi H Q := by
  refine ⟨a, vs, rfl, .inl (.inl S.head), fun t ht => q _ _ _ (S.extNew ht (.lst (cutV vs lo hi))) (S.new ht) ⟨t, _, rfl, upd_same, ?_⟩⟩
  exact (h.up (S.extNew ht _)).cut
/-- an owned list is lent -/
theorem Sub.thaw {G2 H2 : Hp} {o : HO} (S : Sub G ((a, o) :: O) H) (e : Ext (upd G a o) G2) (S2 : Sub G2 O H2) : Sub G ((a, o) :: O) H2 := by
  have h0 : Ext G G2 := S.extFrz.trans e
  refine ⟨h0.trans S2.ext, fun q hq => ?_, S.nd, S.nt⟩
  rcases List.mem_cons.mp hq with rfl | hq
  · exact ⟨S2.ext _ _ (e _ _ upd_same), S.ghead⟩
  · obtain ⟨h1, h2⟩ := S2.own q hq
    refine ⟨h1, ?_⟩
    cases hg : G q.1 with
    | none => rfl
    | some u => rw [h0 _ _ hg] at h2; cases h2
theorem rM_lent (S : Sub G ((a, .lst vs) :: O) H) (h : Al r G vs xs) : (rM r).rel (upd G a (.lst vs)) (.ref a) xs := ⟨a, vs, rfl, upd_same, h.up S.extFrz⟩
def mkRev (K : PySem.W.Frag) (x : V) (H1 : Hp) (Q : VK) : Prop := ∃ a xs, x = .ref a ∧ SqL K H1 a xs ∧ ∀ p, H1 p = none → Q (.ref p) (upd H1 p (.lst xs.reverse))
theorem pe_revLK {X : Cx} {K : PySem.W.Frag} {e : Expr} {te : TE} {k : Nat} {p1 p2 p3 pos : Pos} (h : X.K = K) (he : PE X e te) : PE X (.Subscript e (.Slice none none (some (.UnaryOp .USub (.Constant (.int 1) k p1) p2)) p3) pos) (tRevL K te) := h ▸ pe_revL he
theorem gRevL {te : TE} (h : te σ H fun x H1 => mkRev K x H1 Q) : tRevL K te σ H Q := h
theorem q_rev (S : Sub G O H) (h : (rL K r).rel G v xs) (q : ∀ w G' H', Ext G G' → Sub G' O H' → (rM r).rel G' w xs.reverse → Q w H') : mkRev K v H Q := by
  obtain ⟨p, vs, rfl, hs, ha⟩ := h
  exact ⟨p, vs, rfl, sqL_up S.ext hs, fun t ht => q _ _ _ (S.extNew ht _) (S.new ht) ⟨t, _, rfl, upd_same, (ha.up (S.extNew ht _)).rev⟩⟩
theorem q_revO (S : Sub G ((a, .lst vs) :: O) H) (h : Al r G vs xs) (q : ∀ w G' H', Ext G G' → Sub G' ((a, .lst vs) :: O) H' → (rM r).rel G' w xs.reverse → Q w H') : mkRev K (.ref a) H Q :=
  ⟨a, vs, rfl, .inl (.inl S.head), fun t ht => q _ _ _ (S.extNew ht _) (S.new ht) ⟨t, _, rfl, upd_same, (h.up (S.extNew ht _)).rev⟩⟩
theorem q_max {ns : List Int} {m : Int} (S : Sub G O H) (h : (rL K rInt).rel G v ns) (hm : maxM ns = some m) (q : Q (.int m) H) : rMax K [v] H Q := by
  obtain ⟨p, vs, rfl, hs, ha⟩ := h
  have hv := Al.sc ha
  subst hv
  obtain ⟨h1, h2, h3⟩ := maxM_some hm
  refine ⟨p, ns, rfl, sqL_up S.ext hs, h3, fun m' h1' h2' => ?_⟩
  rw [max_uniq ⟨h1', h2'⟩ ⟨h1, h2⟩]; exact q
theorem gProp {C : Addr} {sp : Sp} {dvs : List V} {E : XK} {ta : TE} (h : ta σ H fun x H1 => ∃ a dx fs, x = .ref a ∧ H1 a = some (.ins C dx fs) ∧ sp (.ref a :: dvs) H1 Q E) : tProp C sp dvs E ta σ H Q := h
end
/-! ### conversions of nested data -/
section
variable {α : Type} {r r' : R α} {K : PySem.W.Frag} {G : Hp} {v : V} {xs : List α}
theorem Al.imp (f : ∀ v x, r.rel G v x → r'.rel G v x) : ∀ {vs : List V} {xs : List α}, Al r G vs xs → Al r' G vs xs
  | [], [], _ => True.intro
  | _ :: _, _ :: _, h => ⟨f _ _ h.1, Al.imp f h.2⟩
  | [], _ :: _, h => h.elim
  | _ :: _, [], h => h.elim
theorem cv_MQ (f : ∀ v x, r.rel G v x → r'.rel G v x) (h : (rM r).rel G v xs) : (rQ K r').rel G v xs := let ⟨p, vs, e, h, ha⟩ := h; ⟨p, vs, e, .inl (.inl (.inl h)), ha.imp f⟩
theorem cv_LQ (f : ∀ v x, r.rel G v x → r'.rel G v x) (h : (rL K r).rel G v xs) : (rQ K r').rel G v xs := let ⟨p, vs, e, h, ha⟩ := h; ⟨p, vs, e, .inl h, ha.imp f⟩
theorem cv_TQ (f : ∀ v x, r.rel G v x → r'.rel G v x) (h : (rT K r).rel G v xs) : (rQ K r').rel G v xs := let ⟨p, vs, e, h, ha⟩ := h; ⟨p, vs, e, .inr h, ha.imp f⟩
theorem cv_QQ (f : ∀ v x, r.rel G v x → r'.rel G v x) (h : (rQ K r).rel G v xs) : (rQ K r').rel G v xs := let ⟨p, vs, e, h, ha⟩ := h; ⟨p, vs, e, h, ha.imp f⟩
theorem cv_ML (f : ∀ v x, r.rel G v x → r'.rel G v x) (h : (rM r).rel G v xs) : (rL K r').rel G v xs := let ⟨p, vs, e, h, ha⟩ := h; ⟨p, vs, e, .inl (.inl h), ha.imp f⟩
theorem cv_LL (f : ∀ v x, r.rel G v x → r'.rel G v x) (h : (rL K r).rel G v xs) : (rL K r').rel G v xs := let ⟨p, vs, e, h, ha⟩ := h; ⟨p, vs, e, h, ha.imp f⟩
end
end Mr

set_option linter.all false
set_option maxRecDepth 100000
/-! PagP: the plain state of the program's Page and what its methods do to it. -/
namespace Mr
structure Pg where
  len : Int
  es : List (Bool × Int)
  nl : Nat
  high : Int
  bar : Bool
/-! ### what the methods do -/
def Pg.new (len : Int) : Pg := ⟨len, [], 0, 0, false⟩
def Pg.stay (p : Pg) : Pg := { p with nl := 0 }
/-- the places k .. k + i - 1 are shifted -/
def shI (k i : Nat) (es : List (Bool × Int)) (shift : Int) : List (Bool × Int) := es.mapIdx fun j e => if k ≤ j ∧ j < k + i then (e.1, e.2 - shift) else e
/-- the loose lines go over to a new page -/
def Pg.over (p : Pg) : Option Pg :=
  (p.es[p.es.length - p.nl]?).bind fun f => if p.nl = 0 then none else
    some { p with es := (shI (p.es.length - p.nl) p.nl p.es f.2).set (p.es.length - p.nl) (true, 0), nl := 0, high := p.high - f.2 }
def Pg.put (p : Pg) (sp : Int) (b : Bool) : Option Pg :=
  if p.es.length < 100000 then
    (if p.high = 0 ∨ p.high + sp ≥ p.len then some { p with es := p.es ++ [(true, 0)], nl := 0, high := 1 }
     else if b = false then some { p with es := p.es ++ [(false, p.high + sp)], nl := 1, high := p.high + sp + 1 }
     else if p.nl = 0 then some { p with es := p.es ++ [(false, p.high + sp)], high := p.high + sp + 1 }
     else some { p with es := p.es ++ [(false, p.high + sp)], nl := p.nl + 1, high := p.high + sp + 1 })
  else none
def Pg.line (p : Pg) (sp : Int) (b : Bool) : Option Pg :=
  if 0 < p.high ∧ p.high + sp ≥ p.len ∧ b = true ∧ p.nl ≠ 0 then (p.over).bind fun q => q.put sp b else p.put sp b
def Pg.begin (p : Pg) : Pg := { p with nl := 0, high := 0, bar := false }
def Pg.turn (count sp : Int) (p : Pg) (k : Int) : Option Pg := if k = 0 then p.line sp p.bar else p.line 0 (decide (k ∈ ([1, count - 1] : List Int)))
def Pg.lines (count sp : Int) (ks : List Int) (p : Pg) : Option Pg := folM (Pg.turn count sp) ks p
def Pg.block (p : Pg) (count sp : Int) (kept page : Bool) : Option Pg :=
  (rngM count).bind fun ks => (Pg.lines count sp ks (if page = true then p.begin else p)).bind fun q => some (if count > 0 then (if kept = true then { q with bar := true } else { q with bar := false, nl := 0 }) else q)
def cpE (acc : List (Bool × Int)) (e : Bool × Int) : Option (List (Bool × Int)) := (appM acc e).bind some
/-- the rows the pending lines go back -/
def Pg.back (p : Pg) : Option Int := if p.nl = 0 then some 0 else (p.es[p.es.length - p.nl]?).bind fun f => some (p.high - f.2)
def Pg.pend (p : Pg) : Option Int := some (p.nl : Int)
def Pg.went (p : Pg) : Option Bool := some false
def Pg.cnt (p : Pg) : Option Int := if p.es.length < 100000 then some (p.es.length : Int) else none
def Pg.lng (p : Pg) : Option Int := some p.len
def Pg.settled (p : Pg) : Option (List (Bool × Int)) := (folM cpE p.es []).bind fun r => some (cutM r none (some ((p.es.length : Int) - (p.nl : Int))))
end Mr

set_option linter.all false
set_option maxRecDepth 100000
/-! PaxP: the plain state of a Page that may have been resumed: the first gh entries are no lines of its own. -/
namespace Mr
structure Px extends Pg where
  gh : Nat
  unk : Option Bool
def Px.new (len : Int) : Px := ⟨Pg.new len, 0, some false⟩
def Px.stay (p : Px) : Px := { p with nl := 0, unk := some (p.unk.getD false) }
def Px.over (p : Px) : Option Px :=
  (p.es[p.es.length - p.nl]?).bind fun f => if p.nl = 0 then none else
    some { p with es := (shI (p.es.length - p.nl) p.nl p.es f.2).set (p.es.length - p.nl) (true, 0), nl := 0, high := p.high - f.2, unk := some (p.unk.getD true) }
def Px.put (p : Px) (sp : Int) (b : Bool) : Option Px :=
  if p.es.length < 100000 then
    (if p.high = 0 ∨ p.high + sp ≥ p.len then some { p with es := p.es ++ [(true, 0)], nl := 0, high := 1, unk := some (p.unk.getD false) }
     else if b = false then some { p with es := p.es ++ [(false, p.high + sp)], nl := 1, high := p.high + sp + 1, unk := some (p.unk.getD false) }
     else if p.nl = 0 then some { p with es := p.es ++ [(false, p.high + sp)], high := p.high + sp + 1 }
     else some { p with es := p.es ++ [(false, p.high + sp)], nl := p.nl + 1, high := p.high + sp + 1 })
  else none
def Px.line (p : Px) (sp : Int) (b : Bool) : Option Px :=
  if 0 < p.high ∧ p.high + sp ≥ p.len ∧ b = true ∧ p.nl ≠ 0 then (p.over).bind fun q => q.put sp b else p.put sp b
def Px.begin (p : Px) : Px := { p with nl := 0, high := 0, bar := false, unk := some (p.unk.getD false) }
def Px.turn (count sp : Int) (p : Px) (k : Int) : Option Px := if k = 0 then p.line sp p.bar else p.line 0 (decide (k ∈ ([1, count - 1] : List Int)))
def Px.lines (count sp : Int) (ks : List Int) (p : Px) : Option Px := folM (Px.turn count sp) ks p
def Px.block (p : Px) (count sp : Int) (kept page : Bool) : Option Px :=
  (rngM count).bind fun ks => (Px.lines count sp ks (if page = true then p.begin else p)).bind fun q => some (if count > 0 then (if kept = true then { q with bar := true } else { q with bar := false, nl := 0, unk := some (q.unk.getD false) }) else q)
def Px.back (p : Px) : Option Int := Pg.back p.toPg
def Px.fin (p : Px) : Option (List (Bool × Int)) := folM cpE (p.es.drop p.gh) []
def Px.pend (p : Px) : Option Int := some ((p.nl : Int) - (if p.unk.isNone = true then 1 else 0))
def Px.went (p : Px) : Option (Option Bool) := some p.unk
def Px.cnt (p : Px) : Option Int := if p.es.length < 100000 then some ((p.es.length - p.gh : Nat) : Int) else none
def Px.lng (p : Px) : Option Int := some p.len
def Px.settled (p : Px) : Option (List (Bool × Int)) := (Px.fin p).bind fun r => (Px.pend p).bind fun n => some (cutM r none (some (((p.es.length - p.gh : Nat) : Int) - n)))
end Mr

set_option Elab.async false
set_option linter.all false
set_option maxRecDepth 100000
set_option maxHeartbeats 2000000
/-! Pag: the program's Page: a bundle of owned objects and its plain state. -/
namespace Mr
open PySem PySem.Spec PyProof.Rows L2
abbrev cPg (K : PySem.W.Frag) : Addr := He.ga K "Page"
def cel (e : Bool × Int) : HO := .lst [.bl e.1, .int e.2]
def rg (ad : List Addr) (es : List (Bool × Int)) : Own := List.zipWith (fun a e => (a, cel e)) ad es
def unkV : Option Bool → V
  | none => .non
  | some b => .bl b
def pgF (len : Int) (pl lo : Addr) (high : Int) (bar : Bool) (unk : Option Bool) : List (Str × V) := [("length", .int len), ("put_lines", .ref pl), ("loose", .ref lo), ("high", .int high), ("is_barred", .bl bar), ("unknown", unkV unk)]
section
variable {len : Int} {pl lo lo' : Addr} {high h' : Int} {bar b' : Bool} {unk u' : Option Bool}
theorem pg_length : (pgF len pl lo high bar unk).lookup ("length" : Str) = some (.int len) := rfl
theorem pg_put : (pgF len pl lo high bar unk).lookup ("put_lines" : Str) = some (.ref pl) := rfl
theorem pg_loose : (pgF len pl lo high bar unk).lookup ("loose" : Str) = some (.ref lo) := rfl
theorem pg_high : (pgF len pl lo high bar unk).lookup ("high" : Str) = some (.int high) := rfl
theorem pg_bar : (pgF len pl lo high bar unk).lookup ("is_barred" : Str) = some (.bl bar) := rfl
theorem pg_unk : (pgF len pl lo high bar unk).lookup ("unknown" : Str) = some (unkV unk) := rfl
theorem pgp_loose : putF "loose" (.ref lo') (pgF len pl lo high bar unk) = pgF len pl lo' high bar unk := rfl
theorem pgp_high : putF "high" (.int h') (pgF len pl lo high bar unk) = pgF len pl lo h' bar unk := rfl
theorem pgp_bar : putF "is_barred" (.bl b') (pgF len pl lo high bar unk) = pgF len pl lo high b' unk := rfl
theorem pgp_unk : putF "unknown" (unkV u') (pgF len pl lo high bar unk) = pgF len pl lo high bar u' := rfl
theorem pgp_new : putF "unknown" (.bl false) (putF "is_barred" (.bl false) (putF "high" (.int 0) (putF "loose" (.ref lo) (putF "put_lines" (.ref pl) (putF "length" (.int len) []))))) = pgF len pl lo 0 false (some false) := rfl
end
theorem unk_rel {G : Hp} : ∀ u : Option Bool, (rO rBool).rel G (unkV u) u
  | none => rO_none
  | some b => rO_some (by intro z; cases z) rfl
def los (ad : List Addr) (nl : Nat) : List V := (ad.drop (ad.length - nl)).map V.ref
def pgB (C a dx pl lo : Addr) (ad : List Addr) (st : Px) : Own := (a, .ins C dx (pgF st.len pl lo st.high st.bar st.unk)) :: (pl, .lst ((ad.drop st.gh).map V.ref)) :: (lo, .lst (los ad st.nl)) :: rg ad st.es
def PgR (C : Addr) (B : Own) (v : V) (st : Px) : Prop := ∃ a dx pl lo ad, v = .ref a ∧ B = pgB C a dx pl lo ad st ∧ ad.length = st.es.length ∧ st.nl ≤ ad.length ∧ st.gh ≤ ad.length
theorem pg_cntQ {st : Px} {r : Int} {H : Hp} {Q : VK} (h : Px.cnt st = some r) (q : Q (.int r) H) : lenQ Q (.int r) H := by
  unfold Px.cnt at h
  split at h
  · cases h
    exact ⟨st.es.length - st.gh, rfl, by omega, q⟩
  · cases h
/-! ### the entries -/
section
variable {G H : Hp} {O X : Own} {ad : List Addr} {es : List (Bool × Int)} {k : Nat} {a0 : Addr} {e e' : Bool × Int}
theorem rg_get (ha : ad[k]? = some a0) (he : es[k]? = some e) : (rg ad es)[k]? = some (a0, cel e) := by
  unfold rg
  rw [List.getElem?_zipWith, ha, he]
theorem rg_mem (ha : ad[k]? = some a0) (he : es[k]? = some e) : (a0, cel e) ∈ rg ad es := List.mem_of_getElem? (rg_get ha he)
theorem rg_read (S : Sub G (X ++ (rg ad es ++ O)) H) (ha : ad[k]? = some a0) (he : es[k]? = some e) : H a0 = some (cel e) :=
  (S.own (a0, cel e) (List.mem_append_right _ (List.mem_append_left _ (rg_mem ha he)))).1
theorem rg_set (ha : ad[k]? = some a0) : (rg ad es).set k (a0, cel e') = rg ad (es.set k e') := by
  unfold rg
  apply List.ext_getElem?
  intro i
  rw [List.getElem?_set, List.getElem?_zipWith, List.getElem?_zipWith, List.getElem?_set, List.length_zipWith]
  by_cases h : k = i
  · subst h
    by_cases h2 : k < es.length
    · have h3 : k < ad.length := (List.getElem?_eq_some_iff.mp ha).1
      have h4 : ad[k] = a0 := (List.getElem?_eq_some_iff.mp ha).2
      simp [ha, h2, h3, h4]
      omega
    · have : es[k]? = none := List.getElem?_eq_none (by omega)
      simp [ha, h2]
      omega
  · simp [h]
theorem rg_length (h : ad.length = es.length) : (rg ad es).length = ad.length := by unfold rg; rw [List.length_zipWith]; omega
/-- one owned object is written -/
theorem Sub.wrAt {L : Own} {i : Nat} {o o' : HO} (S : Sub G L H) (h : L[i]? = some (a0, o)) : Sub G (L.set i (a0, o')) (upd H a0 o') := by
  have hi : i < L.length := (List.getElem?_eq_some_iff.mp h).1
  have hv : L[i] = (a0, o) := (List.getElem?_eq_some_iff.mp h).2
  have hm : (a0, o) ∈ L := List.mem_of_getElem? h
  have hg : G a0 = none := (S.own _ hm).2
  have hmap : (L.set i (a0, o')).map (·.1) = L.map (·.1) := by
    apply List.ext_getElem?
    intro j
    rw [List.getElem?_map, List.getElem?_map, List.getElem?_set]
    by_cases hj : i = j
    · subst hj; simp [hi, hv]
    · simp [hj]
  refine ⟨fun x u hx => ?_, fun q hq => ?_, by rw [hmap]; exact S.nd, S.nt⟩
  · have : x ≠ a0 := ne_of_none hx hg
    rw [upd_ne this]; exact S.ext x u hx
  · obtain ⟨j, hj⟩ := List.getElem?_of_mem hq
    rw [List.getElem?_set] at hj
    by_cases hij : i = j
    · subst hij
      simp [hi] at hj
      rw [← hj]
      exact ⟨upd_same, hg⟩
    · simp [hij] at hj
      have hjl : j < L.length := (List.getElem?_eq_some_iff.mp hj).1
      have hqm : q ∈ L := List.mem_of_getElem? hj
      have hne : q.1 ≠ a0 := by
        intro e
        have n1 : (L.map (·.1))[i]? = some a0 := by rw [List.getElem?_map, h]; rfl
        have n2 : (L.map (·.1))[j]? = some a0 := by rw [List.getElem?_map, hj]; simp [e]
        exact hij ((List.getElem?_inj (by simpa using hi) S.nd).mp (n1.trans n2.symm))
      rw [upd_ne hne]
      exact S.own q hqm
theorem rg_wr (S : Sub G (X ++ (rg ad es ++ O)) H) (ha : ad[k]? = some a0) (he : es[k]? = some e) : Sub G (X ++ (rg ad (es.set k e') ++ O)) (upd H a0 (cel e')) := by
  have hk : k < (rg ad es).length := (List.getElem?_eq_some_iff.mp (rg_get ha he)).1
  have h : (X ++ (rg ad es ++ O))[X.length + k]? = some (a0, cel e) := by
    rw [List.getElem?_append_right (by omega), List.getElem?_append_left (by omega)]
    have : X.length + k - X.length = k := by omega
    rw [this]; exact rg_get ha he
  have S2 := S.wrAt (o' := cel e') h
  rw [List.set_append_right _ _ (by omega)] at S2
  have e1 : X.length + k - X.length = k := by omega
  rw [e1, List.set_append_left _ _ hk, rg_set ha] at S2
  exact S2
theorem rg_add (h : ad.length = es.length) : rg (ad ++ [a0]) (es ++ [e]) = rg ad es ++ [(a0, cel e)] := by
  unfold rg
  rw [List.zipWith_append h]; rfl
end
theorem shI_zero (k : Nat) (es : List (Bool × Int)) (sh : Int) : shI k 0 es sh = es := by
  unfold shI
  apply List.ext_getElem?
  intro j
  rw [List.getElem?_mapIdx]
  cases es[j]? with
  | none => rfl
  | some e =>
    show some (if k ≤ j ∧ j < k + 0 then (e.1, e.2 - sh) else e) = some e
    rw [if_neg (by omega)]
theorem shI_length (k i : Nat) (es : List (Bool × Int)) (sh : Int) : (shI k i es sh).length = es.length := by simp [shI]
theorem shI_at {k i : Nat} {es : List (Bool × Int)} {sh : Int} {e : Bool × Int} (h : es[k + i]? = some e) : (shI k i es sh)[k + i]? = some e := by
  unfold shI
  rw [List.getElem?_mapIdx, h]
  have : ¬ (k ≤ k + i ∧ k + i < k + i) := by omega
  simp [this]
theorem shI_succ {k i : Nat} {es : List (Bool × Int)} {sh : Int} {e : Bool × Int} (h : es[k + i]? = some e) : (shI k i es sh).set (k + i) (e.1, e.2 - sh) = shI k (i + 1) es sh := by
  apply List.ext_getElem?
  intro j
  rw [List.getElem?_set, shI_length]
  unfold shI
  rw [List.getElem?_mapIdx, List.getElem?_mapIdx]
  have hlt : k + i < es.length := (List.getElem?_eq_some_iff.mp h).1
  by_cases hj : k + i = j
  · subst hj
    rw [h]
    have : k ≤ k + i ∧ k + i < k + (i + 1) := by omega
    simp [hlt, this]
  · rw [if_neg hj]
    cases es[j]? with
    | none => rfl
    | some e' =>
      have : (k ≤ j ∧ j < k + i) ↔ (k ≤ j ∧ j < k + (i + 1)) := by omega
      simp [this]
/-! ### self.loose != [] -/
def encE (e : Bool × Int) : PyData := .list [.bool e.1, .int e.2]
theorem dp_cells {K : PySem.W.Frag} {H : Hp} : ∀ (as : List Addr) (es : List (Bool × Int)), as.length = es.length → (∀ (i : Nat) (a : Addr) (e : Bool × Int), as[i]? = some a → es[i]? = some e → H a = some (cel e)) → DpAll K H (as.map V.ref) (es.map encE)
  | [], [], _, _ => .nil
  | a :: as, e :: es, hl, h => .cons (.lst (.inl (.inl (h 0 a e rfl rfl))) (.cons (.bl _) (.cons (.int _) .nil))) (dp_cells as es (by simpa using hl) fun i a' e' h1 h2 => h (i + 1) a' e' (by simpa using h1) (by simpa using h2))
  | [], _ :: _, hl, _ => by cases hl
  | _ :: _, [], hl, _ => by cases hl
theorem shaped_cells (es : List (Bool × Int)) : SeqAt.shaped (.list (es.map encE)) = true := by
  have h1 : PyData.canLayAll0 (es.map encE) = true := lays (ok := fun _ => true) (fun e _ => rfl) es (by simp)
  have h2 : PyData.depthAll (es.map encE) ≤ 3 := deps (fun e => by simp [encE, PyData.depth, PyData.depthAll]) es
  unfold SeqAt.shaped
  have h3 : (PyData.list (es.map encE)).canLay0 = true := h1
  have h4 : (PyData.list (es.map encE)).depth ≤ 64 := by simp only [PyData.depth]; omega
  rw [h3, decide_eq_true h4]; rfl
theorem loose_ne {K : PySem.W.Frag} {G H : Hp} {O X : Own} {ad : List Addr} {es : List (Bool × Int)} {k : Nat} {lo p : Addr} {Q : VK} (S : Sub G (X ++ (rg ad es ++ O)) H) (hlo : H lo = some (.lst ((ad.drop k).map V.ref))) (hp : H p = some (.lst [])) (hl : ad.length = es.length)
    (q : Q (.bl (decide (k < ad.length))) H) : rNeD K (.ref lo) (.ref p) H Q := by
  refine ⟨.list ((es.drop k).map encE), .list [], .lst (.inl (.inl hlo)) (dp_cells _ _ (by simp; omega) fun i a e h1 h2 => ?_), .lst (.inl (.inl hp)) .nil, shaped_cells _, rfl, ?_⟩
  · rw [List.getElem?_drop] at h1 h2
    exact rg_read S h1 h2
  · have e : (!PyData.eqv (.list ((es.drop k).map encE)) (.list [])) = decide (k < ad.length) := by
      cases h : es.drop k with
      | nil =>
        have : es.length ≤ k := List.drop_eq_nil_iff.mp h
        rw [decide_eq_false (by omega)]; rfl
      | cons x xs =>
        have : k < es.length := by
          by_cases hk : k < es.length
          · exact hk
          · rw [List.drop_eq_nil_iff.mpr (by omega)] at h; cases h
        rw [decide_eq_true (by omega)]; rfl
    rw [e]; exact q
theorem los_snoc {ad : List Addr} {e0 : Addr} {nl : Nat} (h : nl ≤ ad.length) : los (ad ++ [e0]) (nl + 1) = los ad nl ++ [V.ref e0] := by
  unfold los
  have e : (ad ++ [e0]).length - (nl + 1) = ad.length - nl := by simp
  rw [e, List.drop_append_of_le_length (by omega)]
  simp
theorem los_zero (ad : List Addr) : los ad 0 = [] := by simp [los]
theorem los_one (ad : List Addr) (e0 : Addr) : los (ad ++ [e0]) 1 = [V.ref e0] := by rw [los_snoc (Nat.zero_le _), los_zero]; rfl
/-! ### a bundle among the owned objects -/
section
variable {G H : Hp} {E B O : Own}
theorem Sub.bFront (S : Sub G (E ++ (B ++ O)) H) : Sub G (B ++ (E ++ O)) H := S.perm (by
  rw [← List.append_assoc, ← List.append_assoc]
  exact List.Perm.append_right O List.perm_append_comm)
theorem Sub.bBack (S : Sub G (B ++ (E ++ O)) H) : Sub G (E ++ (B ++ O)) H := S.perm (by
  rw [← List.append_assoc, ← List.append_assoc]
  exact List.Perm.append_right O List.perm_append_comm)
theorem Sub.bSwap {x : Addr × HO} {Y : Own} (S : Sub G (x :: (B ++ Y)) H) : Sub G (B ++ (x :: Y)) H := S.perm List.perm_middle.symm
theorem Sub.bDrop (S : Sub G (E ++ (B ++ O)) H) : Sub G (E ++ O) H := by
  have S2 := S.bFront
  refine ⟨S2.ext, fun q hq => S2.own q (List.mem_append_right _ hq), ?_, S2.nt⟩
  have := S2.nd
  rw [List.map_append] at this
  exact (List.nodup_append.mp this).2.1
end
end Mr

set_option linter.all false
/-! XP: the plain part of defs that may raise. -/
namespace Mr
/-- what a def ends with -/
inductive Rs (ε α : Type) where
  | ok (a : α)
  | er (e : ε)
/-- a call that must not raise -/
def okR {ε α : Type} : Option (Rs ε α) → Option α
  | some (.ok a) => some a
  | _ => none
theorem okR_some {ε α : Type} {o : Option (Rs ε α)} {a : α} (h : okR o = some a) : o = some (.ok a) := by
  cases o with
  | none => cases h
  | some r =>
    cases r with
    | ok b => cases h; rfl
    | er e => cases h
theorem rs_ok {ε α : Type} {a b : α} (h : (Rs.ok a : Rs ε α) = .ok b) : a = b := by cases h; rfl
theorem q_ok {ε α : Type} {res : Rs ε α} {a : α} {P : α → Prop} (h : res = .ok a) (p : P a) : ∀ r, res = .ok r → P r := fun r e => by
  rw [h] at e; cases e; exact p
theorem q_noer {ε α : Type} {res : Rs ε α} {a : α} {P : ε → Prop} (h : res = .ok a) : ∀ x, res = .er x → P x := fun r e => by
  rw [h] at e; cases e
theorem and_sw {a b : Prop} (h2 : b) (h1 : a) : a ∧ b := ⟨h1, h2⟩
def memB {α : Type} [DecidableEq α] (x : α) (xs : List α) : Bool := decide (x ∈ xs)
theorem memB_iff {α : Type} [DecidableEq α] {x : α} {xs : List α} : memB x xs = true ↔ x ∈ xs := decide_eq_true_iff
/-- list * int -/
def repM {α : Type} (xs : List α) (k : Int) : Option (List α) := if -(2 ^ 63) ≤ k ∧ k < 2 ^ 63 ∧ xs.length * k.toNat ≤ 100000 then some (List.replicate k.toNat xs).flatten else none
theorem repM_some {α : Type} {xs ys : List α} {k : Int} (h : repM xs k = some ys) : (-(2 ^ 63) ≤ k ∧ k < 2 ^ 63 ∧ xs.length * k.toNat ≤ 100000) ∧ (List.replicate k.toNat xs).flatten = ys := by
  unfold repM at h
  split at h
  · rename_i c; exact ⟨c, Option.some.inj h⟩
  · cases h
end Mr
namespace Mr
/-- xs[::i] for 1 and -1 -/
def stpM {α : Type} (xs : List α) (i : Int) : Option (List α) := if i = 1 then some xs else if i = -1 then some xs.reverse else none
/-- a, b = xs -/
def two2M {α : Type} : List α → Option (α × α)
  | [a, b] => some (a, b)
  | _ => none
theorem two2M_some {α : Type} {xs : List α} {p : α × α} (h : two2M xs = some p) : xs = [p.1, p.2] := by
  match xs, h with
  | [a, b], h => cases h; rfl
/-- an append behind which the list is not looked at any more -/
def appU {α : Type} (xs : List α) : Option Unit := if xs.length < 100000 then some () else none
theorem appU_some {α : Type} {xs : List α} {u : Unit} (h : appU xs = some u) : xs.length < 100000 := by
  unfold appU at h
  split at h
  · assumption
  · cases h
end Mr

set_option Elab.async false
set_option linter.all false
set_option maxRecDepth 100000
set_option maxHeartbeats 2000000
/-! RepS: repr and format of nested data, whatever is under way: some text of at most so many signs. -/
namespace PySem
open PySem.Spec PyProof.Rows
def KpH (h h' : Heap) : Prop := ∀ b o, h.get? b = some o → h'.get? b = some o
def ReprS (prog : Program) (w : World) (h₀ : Heap) (d L : Nat) (x : Value) : Prop :=
  ∀ (base : Nat), base + L ≤ sizeLine → ∀ (A : Around) (E : Value → Shared → Prop) (s : Shared) (Q : Str → Shared → Prop), A.units + d < cLine → KpH h₀ s.heap →
    (∀ t h' tk, t.length ≤ L → KpH s.heap h' → Q t { s with heap := h', toks := tk }) → wpAny (model prog w) A (pyReprUnder base x) Q E s
section
variable {prog : Program} {w : World} {h₀ : Heap} {d L : Nat}
theorem ReprS.of_is {x : Value} {t : Str} (h : ReprIs prog w x t) (hl : t.length ≤ L) : ReprS prog w h₀ d L x :=
  fun base hb A E s Q _ _ hQ => h base (by omega) A E s Q fun tk => hQ t s.heap tk hl fun _ _ e => e
theorem ReprS.mono {x : Value} {d' L' : Nat} (h : ReprS prog w h₀ d L x) (hd : d ≤ d') (hL : L ≤ L') : ReprS prog w h₀ d' L' x :=
  fun base hb A E s Q hu hk hQ => h base (by omega) A E s Q (by omega) hk fun t h' tk ht hk' => hQ t h' tk (by omega) hk'
end
inductive ReprAllS (prog : Program) (w : World) (h₀ : Heap) (d : Nat) : List Value → List Nat → Prop
  | nil : ReprAllS prog w h₀ d [] []
  | cons {x : Value} {L : Nat} {l : List Value} {Ls : List Nat} : ReprS prog w h₀ d L x → ReprAllS prog w h₀ d l Ls → ReprAllS prog w h₀ d (x :: l) (L :: Ls)
def sumS (Ls : List Nat) : Nat := (Ls.map (· + 2)).sum
theorem sumS_cons (a : Nat) (l : List Nat) : sumS (a :: l) = a + 2 + sumS l := by simp [sumS]
section
variable {prog : Program} {w : World} {A : Around} {E : Value → Shared → Prop} {h₀ : Heap} {d : Nat}
theorem wpAny_tupFoldS (hu : A.units + d < cLine) : ∀ (l : List Value) (Ls : List Nat) (acc : Array Str) (n : Nat) (s : Shared) (Q : (Array Str × Nat) → Shared → Prop), ReprAllS prog w h₀ d l Ls → n + sumS Ls ≤ sizeLine → KpH h₀ s.heap →
    (∀ (ts : List Str) h' tk, ts.length = l.length → piled ts ≤ sumS Ls → KpH s.heap h' → Q ⟨acc ++ ts.toArray, n + piled ts⟩ { s with heap := h', toks := tk }) →
    wpAny (model prog w) A (forIn l (⟨acc, n⟩ : (Array Str × Nat)) tupBody) Q E s := by
  intro l
  induction l with
  | nil =>
    intro Ls acc n s Q hT _ _ h
    cases hT
    have h0 := h [] s.heap s.toks rfl (Nat.zero_le _) fun _ _ e => e
    simp only [List.forIn_nil]
    exact wpAny_pure (by simpa [piled] using h0)
  | cons x l ih =>
    intro Ls acc n s Q hT hn hk0 h
    cases hT with
    | cons hx hl =>
      rename_i L Ls'
      rw [sumS_cons] at hn
      rw [List.forIn_cons]
      refine wpAny_bind (wpAny_bind (hx (n + 1) (by omega) _ _ _ _ hu hk0 fun t h' tk ht hkp => wpAny_pure ?_))
      refine ih Ls' (acc.push t) (n + (t.length + 2)) _ Q hl (by omega) (fun b o e => hkp _ _ (hk0 _ _ e)) fun ts h'' tk' hts hpl hk2 => ?_
      have h1 := h (t :: ts) h'' tk' (by simp [hts]) (by rw [piled_cons, sumS_cons]; omega) fun b o e => hk2 _ _ (hkp _ _ e)
      have e : n + piled (t :: ts) = n + (t.length + 2) + piled ts := by rw [piled_cons]; omega
      rw [e] at h1
      simpa using h1
end
section
variable {prog : Program} {w : World} {h₀ : Heap} {d : Nat} {a : Addr} {o : Obj} {items : Array Value} {n : Nat} {Ls : List Nat}
theorem wpAny_tuple_reprAtS {A : Around} {s : Shared} {R : Result → Shared → Prop} {base : Nat} {A0 : Around} (ha : h₀.get? a = some o) (hd : o.data = .seq items n) (hT : ReprAllS prog w h₀ d items.toList Ls) (hu : A.units + d < cLine) (hk0 : KpH h₀ s.heap)
    (hR : ∀ (m : Str) h' u tk, m.length ≤ sumS Ls + 7 → KpH s.heap h' → R (.ok (.ret (.str m u))) { s with heap := h', toks := tk }) (hsz : base + (sumS Ls + 7) ≤ sizeLine) :
    wpAny (model prog w) A (Builtin.tupleReprAt base ⟨[.ref a], []⟩) (fun fin s' => match fin with | .done f => R (.ok f) s' | .again c' => c'.quiet = true ∧ codeAny (model prog w) A0 c' R s') (fun e s' => R (.error e) s') s := by
  rw [tuple_repr_tree]
  refine wpAny_bind (fmt_underWay fun b => ?_)
  cases b with
  | true =>
    refine PySem.W.KFB.if_so rfl ?_
    refine wpAny_bind (wpAny_rule ?_)
    refine wpAny_bind (wpAny_mkStr (wpAny_pure ?_) (by decide +kernel))
    exact hR "(...)" s.heap _ _ (Nat.le_trans fmt_way (by omega)) fun _ _ e => e
  | false =>
    refine PySem.W.KFB.if_not rfl ?_
    unfold tupleReprRest Builtin.Tuple.tupleItemsOf
    refine wpAny_bind (wpAny_bind (wpAny_seqItems (hk0 _ _ ha) hd (wpAny_pure ?_)))
    rw [← Array.forIn_toList]
    refine wpAny_bind (wpAny_tupFoldS hu _ Ls _ _ _ _ hT (by omega) hk0 fun ts h' tk hlen hpl hkp => ?_)
    have hl : ts.length = items.size := by simpa using hlen
    have htx := fmt_text ts
    refine wpAny_bind (wpAny_mkStr (wpAny_pure ?_) (by have : (tupleText ts).length ≤ sizeLine := by omega
                                                       simpa [tupleText, hl] using this))
    have h1 := hR (tupleText ts) h' tk (tk + 1) (by omega) hkp
    simpa [tupleText, hl] using h1
theorem call_tuple_reprS {A : Around} {E : Value → Shared → Prop} {s : Shared} {Q : Value → Shared → Prop} (ha : h₀.get? a = some o) (hc : o.cls = .type "tuple") (hd : o.data = .seq items n) (hT : ReprAllS prog w h₀ d items.toList Ls) (hu : A.units + (d + 1) < cLine) (hk0 : KpH h₀ s.heap)
    (hQ : ∀ (m : Str) h' u tk, m.length ≤ sumS Ls + 7 → KpH s.heap h' → Q (.str m u) { s with heap := h', toks := tk }) (hsz : sumS Ls + 7 ≤ sizeLine) :
    wpAny (model prog w) A (call (.builtin "tuple.__repr__") [.ref a]) Q E s :=
  wpAny_call (codeAny_call_builtin_own (Code.quiet_builtin _ (by decide +kernel)) F.entry_tuple_repr (F.slot_tuple_repr.check _ _ _ _ _ _ _ _ ⟨o, hk0 _ _ ha, hc⟩ (F.args_tuple_repr_1 _)
    (wpOwn_of_wpAny (wpAny_tuple_reprAtS (base := 0) (R := callEnd Q E) ha hd hT (by rw [units_under_tuple_repr]; omega) hk0 hQ (by omega)))))
theorem ReprS.tuple (ha : h₀.get? a = some o) (hc : o.cls = .type "tuple") (hd : o.data = .seq items n) (hT : ReprAllS prog w h₀ d items.toList Ls) : ReprS prog w h₀ (d + 1) (sumS Ls + 7) (.ref a) := by
  intro base hb A E s Q hu hk0 hQ
  refine wpAny_pyReprUnder_ref (by omega) (wpAny_pyReprObjUnder_twin (twin := "tuple.__repr__.under") ⟨o, hk0 _ _ ha, hc⟩ F.slot_tuple_repr rfl (by omega) ?_)
  refine call_twin_own (F.quiet_tuple_repr_under _) F.entry_tuple_repr_under F.check_tuple_repr_under ⟨o, hk0 _ _ ha, hc⟩ F.slot_tuple_repr (F.args_tuple_repr_1 _) (wpOwn_of_wpAny ?_)
  exact wpAny_tuple_reprAtS (R := callEnd _ E) ha hd hT (by rw [units_under_tuple_repr_under]; omega) hk0 (fun m h' u tk hm hk => ⟨⟨_, _, rfl⟩, ⟨_, _, rfl, hQ m h' tk hm hk⟩⟩) hb
end
open Sem in
theorem wpAny_list_repr_headS {M : Model} {A : Around} {E : Value → Shared → Prop} {s : Shared} {Q : Fin → Shared → Prop} {a : Addr} {o : Obj} {x : Value} {l : List Value} {n : Nat} {b : Nat}
    (hget : s.heap.get? a = some o) (hd : o.data = .seq (x :: l).toArray n)
    (h2 : wpAny M A (do rule "list.__repr__.in-itself"; retStr "[...]") Q E s)
    (h : wpAny M A (do again (.builtin "list.__repr__.loop" ⟨[.ref a, rawInt 0, ← newList [], rawInt b], []⟩)) Q E s) : wpAny M A (Builtin.listReprAt b ⟨[.ref a], []⟩) Q E s := by
  intro Γ p hΓ
  have h1 := h Γ p hΓ
  have h3 := h2 Γ p hΓ
  unfold Builtin.listReprAt
  simp [slotArgs, Builtin.List.listItems, seqItems?, wp_load_of (h := hget), hd, stack]
  show wp M Γ (if (Γ.below.any _) = true then _ else _) _ _ p s
  split
  · simpa using h3
  · exact h1
theorem list_text_le : ∀ ts : List Str, (listText ts).length ≤ piled ts + 2
  | [] => by decide +kernel
  | t :: r => by
    have h := textFrom_length_pos r 1 (("[" : Str) ++ (if (0 : Nat) > 0 then ", " else "" : String) ++ t) (Nat.succ_pos 0)
    have e : ((("[" : Str) ++ (if (0 : Nat) > 0 then ", " else "" : String) ++ t)).length = 1 + t.length := by
      rw [strLen_append, strLen_append]; rfl
    have hX : (listText (t :: r)).length = (textFrom 1 (("[" : Str) ++ (if (0 : Nat) > 0 then ", " else "" : String) ++ t) r).length + 1 := by
      show (textFrom 0 "[" (t :: r) ++ "]").length = _
      rw [strLen_append]; rfl
    rw [hX, h, e, piled_cons]; omega
theorem ReprAllS.item {prog : Program} {w : World} {h₀ : Heap} {d : Nat} : ∀ {l : List Value} {Ls : List Nat}, ReprAllS prog w h₀ d l Ls → ∀ (i : Nat) (x : Value), l[i]? = some x → ∃ L, Ls[i]? = some L ∧ ReprS prog w h₀ d L x
  | _, _, .nil, i, x, h => by simp at h
  | _, _, .cons h hl, 0, x, e => by cases e; exact ⟨_, rfl, h⟩
  | _, _, .cons h hl, i + 1, x, e => hl.item i x e
theorem sumS_take_succ {Ls : List Nat} {i L : Nat} (h : Ls[i]? = some L) : sumS (Ls.take (i + 1)) = sumS (Ls.take i) + (L + 2) := by
  rw [List.take_add_one, h]
  simp [sumS]
theorem sumS_take_le (Ls : List Nat) (i : Nat) : sumS (Ls.take i) ≤ sumS Ls := by
  have h : sumS Ls = sumS (Ls.take i) + sumS (Ls.drop i) := by
    have : sumS (Ls.take i ++ Ls.drop i) = sumS (Ls.take i) + sumS (Ls.drop i) := by simp only [sumS, List.map_append, List.sum_append]
    rw [← this, List.take_append_drop]
  omega
open Builtin Builtin.List in
theorem codeAny_list_repr_loopS {prog : Program} {w : World} {A : Around} {R : Result → Shared → Prop} {a P : Addr} (hne : a ≠ P) {items : Array Value} {Ls : List Nat} {h₀ : Heap} {d base : Nat} (hu : A.units + (d + 1) < cLine) (hPf : h₀.get? P = none)
    (hT : ReprAllS prog w h₀ d items.toList Ls) (hsi : items.size ≤ sizeLine) (hsz : base + (sumS Ls + 7) ≤ sizeLine) :
    ∀ (k i : Nat) (s : Shared) (oa : Obj) (na : Nat) (acc : Array Value) (c : Nat) (done : List (Str × Tok)), items.size - i = k → i ≤ items.size → KpH h₀ s.heap →
    s.heap.get? a = some oa → oa.data = .seq items na →
    s.heap.get? P = some { cls := .type "list", dict := none, data := .seq acc c, slots := #[] } → acc.toList = strValues done → done.length = i → piled (done.map (·.1)) ≤ sumS (Ls.take i) →
    (∀ (m : Str) h' u tk, m.length ≤ sumS Ls + 7 → (∀ b o, b ≠ P → s.heap.get? b = some o → h'.get? b = some o) → R (.ok (.ret (.str m u))) { s with heap := h', toks := tk }) →
    codeAny (model prog w) A (.builtin "list.__repr__.loop" ⟨[.ref a, rawInt i, .ref P, rawInt ((base + piled (done.map (·.1)) : Nat) : Int)], []⟩) R s := by
  intro k
  induction k with
  | zero =>
    intro i s oa na acc c done hk hi hk0 ha hda hP hacc hdone hpl hR
    have hin : i = items.size := by omega
    have hp2 := sumS_take_le Ls i
    have hlt := list_text_le (done.map (·.1))
    refine codeAny_builtin F.entry_list_repr_loop ?_
    show wpAny _ _ («list.__repr__.loop» ⟨[.ref a, .int i 0, .ref P, .int ((base + piled (done.map (·.1)) : Nat) : Int) 0], []⟩) _ _ s
    rw [repr_loop_tree]
    refine wpAny_bind (wpAny_listItems ha hda ?_)
    have hnone : items[(i : Int).toNat]? = none := by simp [hin]
    simp only [hnone]
    unfold reprEnd
    refine wpAny_bind (wpAny_listItems hP rfl ?_)
    rw [hacc, repr_fold]
    refine wpAny_bind (wpAny_pure ?_)
    refine wpAny_bind (wpAny_mkStr (wpAny_pure ?_) (by show (listText (done.map (·.1))).length ≤ _; omega))
    exact hR (listText (done.map (·.1))) s.heap _ _ (by omega) (fun _ _ _ e => e)
  | succ k ih =>
    intro i s oa na acc c done hk hi hk0 ha hda hP hacc hdone hpl hR
    have hlt : i < items.size := by omega
    obtain ⟨L, hL, hrep⟩ := hT.item i items[i] (by simp [hlt])
    have hp1 := sumS_take_succ hL
    have hp2 := sumS_take_le Ls (i + 1)
    refine codeAny_builtin F.entry_list_repr_loop ?_
    show wpAny _ _ («list.__repr__.loop» ⟨[.ref a, .int i 0, .ref P, .int ((base + piled (done.map (·.1)) : Nat) : Int) 0], []⟩) _ _ s
    rw [repr_loop_tree]
    refine wpAny_bind (wpAny_listItems ha hda ?_)
    have hsome : items[(i : Int).toNat]? = some items[i] := by simp [hlt]
    simp only [hsome]
    rw [Int.toNat_natCast]
    refine wpAny_bind (wpAny_holding (hrep (base + piled (done.map (·.1)) + 1) (by omega) _ _ _ _ (by rw [units_under_list_loop]; omega) hk0 fun t h' tk ht hkp => ?_))
    refine wpAny_bind (wpAny_mkStr ?_ (by omega))
    refine wpAny_bind ?_
    show wpAny _ _ (updateSeq P _) _ _ _
    have hasz : acc.size ≤ sizeLine := by
      have e1 : acc.toList.length = acc.size := by simp
      have e2 : (strValues done).length = done.length := by simp [strValues]
      rw [hacc] at e1; omega
    refine wpAny_updateSeq (hkp _ _ hP) rfl (wpAny_pure ⟨F.quiet_list_repr_loop _, ?_⟩) hasz
    have e1 : ((i : Int) + 1) = ((i + 1 : Nat) : Int) := by omega
    have e3 : (done ++ [(t, tk)]).map (·.1) = done.map (·.1) ++ [t] := by simp
    have e4 : piled ((done ++ [(t, tk)]).map (·.1)) = piled (done.map (·.1)) + (t.length + 2) := by rw [e3, piled_append, piled_cons, piled_nil]
    have e2 : base + piled (done.map (·.1)) + (t.length + 2) = base + piled ((done ++ [(t, tk)]).map (·.1)) := by omega
    rw [e1, e2]
    refine ih (i + 1) _ oa na (acc.push (.str t tk)) _ (done ++ [(t, tk)]) (by omega) hlt (fun b o e => (Heap.get?_update_other _ _ (fun h : P = b => by rw [← h, hPf] at e; cases e)).trans (hkp _ _ (hk0 _ _ e))) ((Heap.get?_update_other _ _ (fun h : P = a => hne h.symm)).trans (hkp _ _ ha)) hda (Heap.get?_update_self _ (hkp _ _ hP) rfl) (by simp [hacc, strValues]) (by simp [hdone]) (by omega) fun m h'' u tk' hm hh => ?_
    exact hR m h'' u tk' hm fun b o hb e => hh b o hb ((Heap.get?_update_other _ _ (fun h : P = b => hb h.symm)).trans (hkp _ _ e))
end PySem

set_option Elab.async false
set_option linter.all false
set_option maxRecDepth 100000
set_option maxHeartbeats 2000000
/-! RepD: format of any data. -/
namespace PySem
open PySem.Spec PyProof.Rows
section
variable {prog : Program} {w : World} {h₀ : Heap} {d : Nat} {a : Addr} {o : Obj} {x : Value} {l : List Value} {n : Nat} {Ls : List Nat}
theorem wpAny_list_reprAtS {A : Around} {s : Shared} {R : Result → Shared → Prop} {base : Nat} (ha : h₀.get? a = some o) (hd : o.data = .seq (x :: l).toArray n) (hT : ReprAllS prog w h₀ d (x :: l) Ls) (hu : A.units + (d + 1) < cLine) (hk0 : KpH h₀ s.heap)
    (hsi : (x :: l).length ≤ sizeLine) (hR : ∀ (m : Str) h' u tk, m.length ≤ sumS Ls + 7 → KpH s.heap h' → R (.ok (.ret (.str m u))) { s with heap := h', toks := tk }) (hsz : base + (sumS Ls + 7) ≤ sizeLine) :
    wpAny (model prog w) A.in1 (Builtin.listReprAt base ⟨[.ref a], []⟩) (fun fin s' => match fin with | .done f => R (.ok f) s' | .again c' => c'.quiet = true ∧ codeAny (model prog w) A c' R s') (fun e s' => R (.error e) s') s := by
  have hPf : h₀.get? s.heap.objs.size = none := by
    cases e : h₀.get? s.heap.objs.size with
    | none => rfl
    | some o => exact absurd (Heap.lt_size (hk0 _ _ e)) (Nat.lt_irrefl _)
  refine wpAny_list_repr_headS (A := A.in1) (hk0 _ _ ha) hd ?_ ?_
  · refine wpAny_bind (wpAny_rule ?_)
    refine wpAny_bind (wpAny_mkStr (wpAny_pure ?_) (by decide +kernel))
    exact hR "[...]" s.heap _ _ (Nat.le_trans (show ("[...]" : Str).length ≤ 5 by decide +kernel) (by omega)) fun _ _ e => e
  · refine wpAny_bind (m := newList []) (wpAny_newObj_type ?_)
    refine wpAny_pure ⟨F.quiet_list_repr_loop _, ?_⟩
    exact codeAny_list_repr_loopS (P := s.heap.objs.size) (items := (x :: l).toArray) (Nat.ne_of_lt (Heap.lt_size (hk0 _ _ ha))) hu hPf (by simpa using hT) (by simpa using hsi) hsz _ 0 _ o n #[] _ [] rfl (Nat.zero_le _)
      (fun b o e => Heap.get?_push_of_some _ (hk0 _ _ e)) (Heap.get?_push_of_some _ (hk0 _ _ ha)) hd (Heap.get?_push_size _ rfl) rfl rfl (Nat.zero_le _) fun m h' u tk hm hk => hR m h' u tk hm fun b o e => hk b o (Nat.ne_of_lt (Heap.lt_size e)) (Heap.get?_push_of_some _ e)
theorem call_list_reprS {A : Around} {E : Value → Shared → Prop} {s : Shared} {Q : Value → Shared → Prop} (ha : h₀.get? a = some o) (hc : o.cls = .type "list") (hd : o.data = .seq (x :: l).toArray n) (hT : ReprAllS prog w h₀ d (x :: l) Ls) (hu : A.units + (d + 1) < cLine) (hk0 : KpH h₀ s.heap)
    (hsi : (x :: l).length ≤ sizeLine) (hQ : ∀ (m : Str) h' u tk, m.length ≤ sumS Ls + 7 → KpH s.heap h' → Q (.str m u) { s with heap := h', toks := tk }) (hsz : sumS Ls + 7 ≤ sizeLine) :
    wpAny (model prog w) A (call (.builtin "list.__repr__") [.ref a]) Q E s :=
  wpAny_call (codeAny_call_builtin F.slot_list_repr.plain F.entry_list_repr (F.slot_list_repr.check _ _ _ _ _ _ _ _ ⟨o, hk0 _ _ ha, hc⟩ (F.args_list_repr_1 _)
    (wpAny_list_reprAtS (base := 0) (R := callEnd Q E) ha hd hT hu hk0 hsi hQ (by omega))))
theorem ReprAllS.len2 : ∀ {l : List Value} {Ls : List Nat}, ReprAllS prog w h₀ d l Ls → 2 * l.length ≤ sumS Ls
  | _, _, .nil => Nat.zero_le _
  | _, _, .cons _ h => by have := h.len2; rw [sumS_cons, List.length_cons]; omega
theorem ReprAllS.mono {d' : Nat} (hd : d ≤ d') : ∀ {l : List Value} {Ls : List Nat}, ReprAllS prog w h₀ d l Ls → ReprAllS prog w h₀ d' l Ls
  | _, _, .nil => .nil
  | _, _, .cons h hl => .cons (h.mono hd (Nat.le_refl _)) (ReprAllS.mono hd hl)
theorem ReprS.list (ha : h₀.get? a = some o) (hc : o.cls = .type "list") (hd : o.data = .seq (x :: l).toArray n) (hT : ReprAllS prog w h₀ d (x :: l) Ls) : ReprS prog w h₀ (d + 1) (sumS Ls + 7) (.ref a) := by
  intro base hb A E s Q hu hk0 hQ
  have hsi : (x :: l).length ≤ sizeLine := by have := hT.len2; omega
  refine wpAny_pyReprUnder_ref (by omega) (wpAny_pyReprObjUnder_twin (twin := "list.__repr__.under") ⟨o, hk0 _ _ ha, hc⟩ F.slot_list_repr.toG rfl (by omega) ?_)
  refine call_twin_plain F.plain_list_repr_under F.entry_list_repr_under F.check_list_repr_under ⟨o, hk0 _ _ ha, hc⟩ F.slot_list_repr.toG (F.args_list_repr_1 _) ?_
  exact wpAny_list_reprAtS (R := callEnd _ E) ha hd hT hu hk0 hsi (fun m h' u tk hm hk => ⟨⟨_, _, rfl⟩, ⟨_, _, rfl, hQ m h' tk hm hk⟩⟩) hb
end
/-! ### data -/
mutual
/-- data that can be shown: at most so many signs -/
def rcost : PyData → Nat
  | .none => 5
  | .bool _ => 5
  | .int i => (Str.ofString (toString i)).length
  | .str y => (reprText y).length
  | .tuple ds => rcostAll ds + 7
  | .list ds => rcostAll ds + 7
  | _ => 0
def rcostAll : List PyData → Nat
  | [] => 0
  | d :: ds => rcost d + 2 + rcostAll ds
end
mutual
def rok : PyData → Bool
  | .none => true
  | .bool _ => true
  | .int i => decide (i.natAbs.log2 < 1920)
  | .str y => decide ((reprText y).length ≤ sizeLine)
  | .tuple ds => rokAll ds
  | .list ds => rokAll ds
  | _ => false
def rokAll : List PyData → Bool
  | [] => true
  | d :: ds => rok d && rokAll ds
end
section
variable {prog : Program} {w : World} {h₀ : Heap}
theorem rcostAll_sum : ∀ ds : List PyData, sumS (ds.map rcost) = rcostAll ds
  | [] => rfl
  | d :: ds => by rw [List.map_cons, sumS_cons, rcostAll_sum ds]; simp only [rcostAll]
mutual
theorem ReprS.of_reads {v : Value} {d : PyData} {as : List Addr} (r : Reads h₀ v d as) (hs : rok d = true) : ReprS prog w h₀ d.depth (rcost d) v := by
  cases r with
  | none => exact ReprS.of_is ReprIs.none (by simp only [rcost]; decide +kernel)
  | bool b => exact ReprS.of_is (ReprIs.bool b) (by simp only [rcost]; cases b <;> decide +kernel)
  | int i t =>
    simp only [rok, decide_eq_true_eq] at hs
    exact ReprS.of_is (ReprIs.int t hs) (by simp only [rcost]; exact Nat.le_refl _)
  | str y t =>
    simp only [rok, decide_eq_true_eq] at hs
    exact ReprS.of_is (ReprIs.str y t hs) (by simp only [rcost]; exact Nat.le_refl _)
  | tuple h1 h2 h3 h4 =>
    rename_i o vs n xs
    simp only [rok] at hs
    have h5 := ReprAllS.of_reads h4 hs
    simp only [rcost, PyData.depth]
    rw [← rcostAll_sum]
    exact (ReprS.tuple h1 h2 h3 h5).mono (by omega) (Nat.le_refl _)
  | list h1 h2 h3 h4 =>
    rename_i o vs n xs bs
    simp only [rok] at hs
    have h5 := ReprAllS.of_reads h4 hs
    simp only [rcost, PyData.depth]
    rw [← rcostAll_sum]
    obtain ⟨l⟩ := vs
    cases l with
    | nil =>
      intro base hb A E s Q hu hk0 hQ
      exact wpAny_pyReprUnder_ref (by omega) (wpAny_pyReprObjUnder_list_empty ⟨o, hk0 _ _ h1, h2⟩ (by omega) (hk0 _ _ h1) h3 ⟨_, _, rfl, hQ "[]" s.heap _ (Nat.le_trans (show ("[]" : Str).length ≤ 2 by decide +kernel) (by omega)) fun _ _ e => e⟩)
    | cons x l => exact (ReprS.list h1 h2 h3 h5).mono (by omega) (Nat.le_refl _)
  | dict h1 h2 h3 h4 h5 => simp [rok] at hs
theorem ReprAllS.of_reads {vs : List Value} {ds : List PyData} {as : List Addr} (r : ReadsAll h₀ vs ds as) (hs : rokAll ds = true) : ReprAllS prog w h₀ (PyData.depthAll ds) vs (ds.map rcost) := by
  cases r with
  | nil => exact .nil
  | cons h1 h2 =>
    rename_i v vs d ds as bs
    simp only [rokAll, Bool.and_eq_true] at hs
    have q1 := ReprS.of_reads h1 hs.1
    have q2 := ReprAllS.of_reads h2 hs.2
    simp only [PyData.depthAll]
    exact .cons (q1.mono (Nat.le_max_left _ _) (Nat.le_refl _)) (q2.mono (Nat.le_max_right _ _))
end
end
/-- {v} of any data: some text -/
theorem formatField_some {prog : Program} {w : World} {A : Around} {E : Value → Shared → Prop} {s : Shared} {Q : Value → Shared → Prop} {v : Value} {d : PyData} {as : List Addr} (r : Reads s.heap v d as) (hs : rok d = true) (hz : rcost d + 10 ≤ sizeLine) (hu : A.units + (d.depth + 2) < cLine)
    (hstr : ∀ y, d = .str y → y.length ≤ sizeLine)
    (hQ : ∀ (m : Str) h' u tk, (m.length ≤ rcost d + 10 ∨ d = .str m) → KpH s.heap h' → Q (.str m u) { s with heap := h', toks := tk }) : wpAny (model prog w) A (formatField v Str.empty) Q E s := by
  have q := ReprS.of_reads (prog := prog) (w := w) r hs
  cases r with
  | none => exact wpAny_formatField_none (hQ "None" s.heap _ _ (.inl (Nat.le_trans (show ("None" : Str).length ≤ 5 by decide +kernel) (by omega))) fun _ _ e => e)
  | bool b =>
    refine wpAny_formatField_bool (hQ _ s.heap _ _ (.inl ?_) fun _ _ e => e)
    have h5 : (Str.ofString (if b then "True" else "False")).length ≤ 5 := by cases b <;> decide +kernel
    have h6 : ∀ z : Str, z.length ≤ 5 → z.length ≤ rcost (.bool b) + 10 := fun z hz => by omega
    refine h6 _ ?_
    cases b <;> decide +kernel
  | int i t =>
    simp only [rok, decide_eq_true_eq] at hs
    exact wpAny_formatField_int hs (hQ _ s.heap _ _ (.inl (by simp only [rcost]; omega)) fun _ _ e => e)
  | str y t => exact wpAny_formatField_str (hQ y s.heap _ _ (.inr rfl) fun _ _ e => e) (hQ y s.heap _ _ (.inr rfl) fun _ _ e => e) (hstr y rfl)
  | tuple h1 h2 h3 h4 =>
    simp only [rok] at hs
    have h5 := ReprAllS.of_reads (prog := prog) (w := w) h4 hs
    simp only [rcost, PyData.depth] at hz hu hQ
    rw [← rcostAll_sum] at hz hQ
    exact wpAny_formatField_slot (fun _ _ => nofun) (by omega) ⟨_, h1, h2⟩ F.slot_tuple_format F.slot_tuple_str F.slot_tuple_repr
      (call_tuple_reprS (A := A.in1.in1) (s := { s with toks := s.toks + 1 }) h1 h2 h3 h5 (by show A.units + 1 + 1 + _ < cLine; omega) (fun _ _ e => e) (fun m h' u tk hm hk => ⟨_, _, rfl, hQ m h' u tk (.inl (by omega)) hk⟩) (by omega))
  | list h1 h2 h3 h4 =>
    rename_i o vs n xs bs
    simp only [rok] at hs
    have h5 := ReprAllS.of_reads (prog := prog) (w := w) h4 hs
    simp only [rcost, PyData.depth] at hz hu hQ
    rw [← rcostAll_sum] at hz hQ
    obtain ⟨l⟩ := vs
    cases l with
    | nil =>
      exact wpAny_formatField_slot (fun _ _ => nofun) (by omega) ⟨_, h1, h2⟩ F.slot_list_format F.slot_list_str F.slot_list_repr.toG
        (call_list_repr_empty (s := { s with toks := s.toks + 1 }) ⟨o, h1, h2⟩ h1 h3 ⟨_, _, rfl, hQ "[]" s.heap _ _ (.inl (Nat.le_trans (show ("[]" : Str).length ≤ 2 by decide +kernel) (by omega))) fun _ _ e => e⟩)
    | cons x l =>
      have hl2 : 2 * (x :: l).length ≤ sumS (List.map rcost xs) := h5.len2
      exact wpAny_formatField_slot (fun _ _ => nofun) (by omega) ⟨_, h1, h2⟩ F.slot_list_format F.slot_list_str F.slot_list_repr.toG
        (call_list_reprS (A := A.in1.in1) (s := { s with toks := s.toks + 1 }) h1 h2 h3 h5 (by show A.units + 1 + 1 + _ < cLine; omega) (fun _ _ e => e) (by omega) (fun m h' u tk hm hk => ⟨_, _, rfl, hQ m h' u tk (.inl (by omega)) hk⟩) (by omega))
  | dict h1 h2 h3 h4 h5 => simp [rok] at hs
end PySem

set_option linter.all false
set_option maxRecDepth 100000
/-! AnyP: plain functions on data of any kind. -/
namespace Mr
open PySem PySem.Spec
def isTup : PyData → Bool
  | .tuple _ => true
  | _ => false
def isLst : PyData → Bool
  | .list _ => true
  | _ => false
def isStr : PyData → Bool
  | .str _ => true
  | _ => false
def isBl : PyData → Bool
  | .bool _ => true
  | _ => false
def isInt : PyData → Bool
  | .int _ => true
  | .bool _ => true
  | _ => false
/-- none: a kind that the rules do not cover -/
def kindA : PyData → Option String
  | .none => some "NoneType"
  | .bool _ => some "bool"
  | .int _ => some "int"
  | .str _ => some "str"
  | .list _ => some "list"
  | .tuple _ => some "tuple"
  | _ => none
def isA (c : String) (d : PyData) : Option Bool := (kindA d).map fun k => match c with
  | "tuple" => k == "tuple"
  | "list" => k == "list"
  | "str" => k == "str"
  | "bool" => k == "bool"
  | "int" => k == "int" || k == "bool"
  | _ => false
def lenA : PyData → Option Int
  | .tuple ds => some (ds.length : Int)
  | .list ds => some (ds.length : Int)
  | _ => none
def ixA (d : PyData) (i : Int) : Option PyData := match d with
  | .tuple ds => getM ds i
  | _ => none
def shA (d : PyData) : Option PyData := if (d.canLay0 && decide (d.depth ≤ 64)) = true then some d else none
theorem shA_some {d e : PyData} (h : shA d = some e) : (d.canLay0 && decide (d.depth ≤ 64)) = true ∧ d = e := by
  unfold shA at h
  split at h
  · rename_i c; exact ⟨c, Option.some.inj h⟩
  · cases h
def eqA (d e : PyData) : Option Bool := (shA d).bind fun d => (shA e).bind fun e => some (PyData.eqv d e)
def inA (d : PyData) (ds : List PyData) : Option Bool := (shA d).bind fun d => (shA (.list ds)).bind fun _ => some (ds.any fun z => PyData.eqv z d)
def fmtB (d : PyData) : Bool := rok d && (decide (rcost d + 10 ≤ 1000000) && (decide (d.depth ≤ 50) && (match d with
  | .str y => decide (y.length ≤ 1000000)
  | _ => true)))
def fmtM (d : PyData) : Option Unit := if fmtB d = true then some () else none
theorem fmtM_some {d : PyData} {u : Unit} (h : fmtM d = some u) : fmtB d = true := by
  unfold fmtM at h
  split at h
  · assumption
  · cases h
def decI : PyData → Option Int
  | .int i => some i
  | _ => none
def decB : PyData → Option Bool
  | .bool i => some i
  | _ => none
def decS : PyData → Option Str
  | .str i => some i
  | _ => none
def decEn {α : Type} (e : α → Str) (tb : List α) : PyData → Option α
  | .str y => tb.find? fun a => decide (e a = y)
  | _ => none
def dec2 {α β : Type} (f0 : PyData → Option α) (f1 : PyData → Option β) : PyData → Option (α × β)
  | .tuple [a, b] => (f0 a).bind fun x => (f1 b).bind fun y => some (x, y)
  | _ => none
def dec3 {α β γ : Type} (f0 : PyData → Option α) (f1 : PyData → Option β) (f2 : PyData → Option γ) : PyData → Option (α × β × γ)
  | .tuple [a, b, c] => (f0 a).bind fun x => (f1 b).bind fun y => (f2 c).bind fun z => some (x, y, z)
  | _ => none
end Mr

set_option Elab.async false
set_option linter.all false
set_option maxRecDepth 100000
set_option maxHeartbeats 2000000
/-! FmtD: {x} of any data in an f-string. -/
namespace L2
open PySem PySem.Spec PyProof.Rows
def FmtOk (d : PyData) : Prop := rok d = true ∧ rcost d + 10 ≤ 1000000 ∧ d.depth ≤ 50 ∧ ∀ y, d = .str y → y.length ≤ 1000000
def tFmtD (K : PySem.W.Frag) (te : TE) : TE := fun σ H Q => te σ H fun x H1 => ∃ d, Dp K H1 x d ∧ FmtOk d ∧ ∀ m : Str, m.length ≤ 1000000 → Q (.str m) H1
theorem pe_fmtD {X : Cx} {e : Expr} {te : TE} {pos : Pos} {k : Nat} (hr : Room k X.A) (he : PE X e te) : PE X (.FormattedValue e (-1) none pos) (tFmtD X.K te) := by
  refine ⟨fun pins s σ H Q I h => ?_⟩
  refine wpAny_FormattedValue_plain (thn (he.run pins s σ H _ I h) fun v s1 hv => ?_)
  obtain ⟨x, H1, I1, r1, d, hd, ⟨h1, h2, h3, h4⟩, q⟩ := hv
  obtain ⟨as, rd⟩ := Dp.reads I1 d x v hd r1
  have hu := hr.units
  have hz : (1000000 : Nat) ≤ sizeLine := by decide
  refine formatField_some rd h1 (by omega) (by omega) (fun y hy => Nat.le_trans (h4 y hy) hz) fun m h' u tk hm hk => ?_
  have hm' : m.length ≤ 1000000 := by
    rcases hm with z | z
    · omega
    · exact h4 m z
  refine ⟨.str m, H1, ?_, ⟨u, rfl⟩, q m hm'⟩
  exact I1.call' (ch := []) rfl (Un.kept hk) (I1.hok.kept hk) I1.bare fun b z => by simp at z
end L2

set_option Elab.async false
set_option linter.all false
set_option maxRecDepth 100000
set_option maxHeartbeats 2000000
/-! ExcP: C.__init__(self, ..) of an own exception class C without an own __init__. -/
namespace L2
open PySem PySem.Spec PyProof.Rows
/-- C's __init__ is ValueError's -/
structure InitC (K : PySem.W.Frag) (C : Addr) : Prop where
  ga : PySem.W.specialIn K (.ref C) "__getattribute__" = some (some (.builtin "type.__getattribute__"))
  ty : PySem.W.typeIn K (.ref C) = some (.type "type")
  rd : PySem.W.readsIn K C (.type "type") = true
  vi : PySem.W.findCls K (.ref C) (.type "type") "__init__" = some (.val (.builtin "ValueError.__init__"))
section
variable {X : Cx} {e : Expr} {es : List Expr} {ta : TA} {x : Str} {C0 : Addr} {p1 p2 pos : Pos}
theorem pe_oinit {pl : Sem Bool} (hg : Gl X x) (hm : X.mg x = some (.ref C0)) (T0 : InitC X.K C0) (ha : PA X (e :: es) ta)
    (hd : (x == ("__debug__" : Str)) = false := by decide)
    (hc : eval (.Call (.Attribute (.Name x p1) "__init__" p2) (e :: es) [] pos) X.env = (do
      let ov ← eval (.Name x p1) X.env
      standAt p2.atName
      let (f, first) ← holding [ov] (getMethod ov "__init__" pl)
      callWith pos f first (backTo pos (starEach (e :: es) X.env)) (backToKw pos (keywordEach [] X.env))) := by rfl)
    (he : starEach (e :: es) X.env = (false, eval e X.env) :: starEach es X.env := by rfl) (hpl : (backTo pos (starEach es X.env)).any (·.1) = false := by rfl) :
    PE X (.Call (.Attribute (.Name x p1) "__init__" p2) (e :: es) [] pos) (tVeI X.K ta) := by
  refine ⟨fun pins s σ H Q I h => ?_⟩
  refine PySem.W.methodCall_KW (ld_glob I hg hm ?_ hd) hc
  obtain ⟨m, fr⟩ := I.fr
  refine PySem.W.method_of_cls fr I.ok.mod.kin T0.ga ?_
  refine PySem.W.cls_val fr I.ok.mod.kin T0.ty T0.rd T0.vi (by decide +kernel) ?_
  show wpAny _ _ (callWith pos (Value.builtin "ValueError.__init__") [] (backTo pos (starEach (e :: es) X.env)) []) _ _ _
  refine PyProof.Rows.callWith_method1 (thn (ha.run pos pins _ σ H _ (I.tok _) h) fun us s1 ⟨vs, H1, I1, r1, a, C, ws, ev, hl, T, ea, q⟩ => ?_) he hpl
  subst ev
  cases r1 with
  | @cons _ u0 _ ur ra rw' =>
    obtain rfl : u0 = Value.ref a := ra
    have hlen : ur.length ≤ sizeLine := by
      rw [← Paired.length rw', sizeLine_eq]
      omega
    exact oinit_ok T I1 ea hlen fun s' J => ⟨.non, H1, J, rfl, q⟩
end
end L2

set_option Elab.async false
set_option linter.all false
set_option maxRecDepth 100000
set_option maxHeartbeats 4000000
/-! ExcQ: isinstance of a caught exception of an own class that holds fields. -/
namespace PySem.W
open PySem PySem.Spec PySem.Calls PyProof.Rows
section
variable {prog : Program} {w : World} {A : Around} {E : Value → Shared → Prop} {s : Shared} {K : Frag} {x D : Addr} {ox : Obj} {od : Obj}
theorem kin_classF {Q : Option Value → Shared → Prop} (C : L2.ExcC K D) (X : K.In s.heap) (I : InstAt s.heap x ox D (some od)) (h : Q (some (.ref D)) { s with toks := s.toks + 1 }) : wpAny (model prog w) A (getAttr? (.ref x) "__class__") Q E s := by
  have hf : findObj K D (some od) "__class__" = some (.bind (.builtin "getset_descriptor.__get__") (.builtin "object.__class__")) := findObj_data (by obtain ⟨cd, hc, _⟩ := any_some C.hd; rw [hc]; rfl) C.ha C.hn C.ht
  obtain ⟨hp, g, d, t, os⟩ := s
  have ty := I.type (M := model prog w)
  have sub : Looks (model prog w) hp (isInstance (.ref x) (.type "BaseException")) true := ty.andThen (looks_subIn X C.hs)
  have no : (Value.builtin "BaseException.__getattribute__" == Value.builtin "object.__getattribute__") = false := by decide +kernel
  unfold getAttr? getAttrBy? getAttrBy
  refine wpAny_bind (wpAny_mkText (wpAny_bind (wpAny_attempt (wpAny_holding (wpAny_bind (ty.at (wpAny_bind ((looks_findIn (M := model prog w) X C.hg).at ?_))))))))
  show wpAny _ _ (if (onTheHeap (Value.ref D) && Value.builtin "BaseException.__getattribute__" == Value.builtin "object.__getattribute__") = true then _ else _) _ _ _
  rw [no, Bool.and_false, if_neg Bool.false_ne_true]
  unfold getAttrByItsOwn hookBefore
  refine wpAny_bind ?_
  rw [if_pos (show onTheHeap (Value.ref D) = true from rfl)]
  refine (looks_findIn (M := model prog w) X C.hk).at (wpAny_bind (wpAny_attempt (wpAny_holding ?_)))
  unfold callGetattribute
  rw [show (false && onTheHeap (Value.builtin "BaseException.__getattribute__")) = false from rfl, if_neg Bool.false_ne_true]
  unfold boundAndCalled
  rw [PySem.F.excAttr_ValueError.ga.bind (.ref x)]
  refine wpAny_bind (wpAny_pure ?_)
  show wpAny _ _ (call (.builtin "BaseException.__getattribute__") [.ref x, .str "__class__" t]) _ _ _
  refine wpAny_call (codeAny_call_builtin PySem.F.excAttr_ValueError.ga.plain PySem.F.entry_bexc_ga ?_)
  refine @check_slot (model prog w) _ _ ⟨hp, g, d, t + 1, os⟩ "BaseException.__getattribute__" "BaseException" "__getattribute__" (.ref x) [.str "__class__" t] [] _ (by decide +kernel) (by decide +kernel) sub (PySem.F.args_bexc_ga (.ref x) (.str "__class__" t)) ?_
  unfold Builtin.«object.__getattribute__»
  refine wpAny_bind (wpAny_of_eq (a := ((Value.ref x : Value), [Value.str "__class__" t])) (by first | rfl | (simp only [slotArgs]; rfl)) ?_)
  refine wpAny_bind (wpAny_pure (wpAny_bind (ty.at (wpAny_bind ((looks_find (M := model prog w) X I hf).at ?_)))))
  show wpAny _ _ (holding [Value.builtin "object.__class__"] (call (.builtin "getset_descriptor.__get__") [.builtin "object.__class__", .ref x, .ref D]) >>= ret) _ _ _
  refine wpAny_bind (wpAny_holding (wpAny_call (class_get (s := ⟨hp, g, d, t + 1, os⟩) (ox := ox) (od := some od) X I C.hm ?_)))
  refine wpAny_pure ?_
  show wpAny _ _ (handedOut (.ref D)) _ _ _
  rw [handedOut_of (v := .ref D) rfl]
  first
    | exact wpAny_pure (wpAny_pure h)
    | exact wpAny_pure h
    | exact wpAny_pure (wpAny_bind (wpAny_pure (wpAny_pure h)))
theorem kitx_excF (C : L2.ExcC K D) : KitX K (.ref x) (.ref D) (fun h => InstAt h x ox D (some od)) :=
  let Z := handS_kitx_exc (x := x) (ox := ox) C.hg C.hk C.hs C.hd C.ha C.hn C.ht C.hm
  { ty := fun _ _ _ I => I.type
    it := fun _ _ X _ => by
      obtain ⟨cdD, hcD, _⟩ := any_some C.hd
      unfold clsIn at hcD
      split at hcD
      · rename_i c' d' cd' sl' ho
        intro A' Q' E' s' k q
        unfold isType loadHead
        exact wpAny_bind (wpAny_loadPart (k _ _ (X _ _ ho)) (wpAny_pure q))
      · cases hcD
    ne := Z.ne
    ca := fun X I k => kin_classF C X I k }
end
end PySem.W
namespace L2
open PySem PySem.Spec PyProof.Rows
/-- isinstance(e, c), e the exception that the suite holds, with fields -/
def rIsF (K : PySem.W.Frag) (D a : Addr) (d : Option Addr) : List V → Hp → VK → Prop := fun xs H Q => ∃ (c : V) (cv : Value) (b : Bool) (dd : Addr) (fs : List (Str × V)), d = some dd ∧ H dd = some (.xd fs) ∧ xs = [.ref a, c] ∧ (∀ u, RelV c u → u = cv) ∧ PySem.W.kitOne K (.ref D) cv = some b ∧ Q (.bl b) H
theorem call_isF {X : Cx} {a D : Addr} {oe : Obj} {d : Option Addr} {pn : List (Addr × Obj)} (C : ExcC X.K D) (hz : Zc (.ref D) d oe) (hf : ∃ vs, oe.data = .fields vs) : CallR (X.suite a ((a, oe) :: pn)) (.builtin "isinstance") (rIsF X.K D a d) := by
  intro pins s σ H xs us Q I r h
  obtain ⟨c, cv, b, dd, fs, rfl, ea, rfl, hcv, e, q⟩ := h
  cases r with
  | cons rx rr =>
    cases rr with
    | cons rt rr =>
      cases rr
      cases rx
      have ec := hcv _ rt
      subst ec
      obtain ⟨hget, _⟩ := I.pin (a, oe) (List.mem_append.mpr (.inl List.mem_cons_self))
      obtain ⟨vs, hv⟩ := hf
      have hx : ObjOk X.prog X.w H s.heap dd (.xd fs) := I.hok dd _ ea
      obtain ⟨mA, hns, hr⟩ := hx
      obtain ⟨od, ho, hl⟩ := lookIn_ns hns
      have J : PySem.W.InstAt s.heap a oe D (some od) := ⟨hget, hz.1, by unfold PySem.W.notCls; rw [hv] <;> rfl, by rw [hz.2]; exact ho⟩
      exact PySem.W.kia_one (PySem.W.kitx_excF C) I.kIn J e (fun z => nomatch z) fun tk => ⟨.bl b, H, I.kept (t' := tk) fun _ _ z => z, rfl, q⟩
end L2

set_option Elab.async false
set_option linter.all false
set_option maxRecDepth 100000
set_option maxHeartbeats 2000000
/-! MirX: data of any kind and exceptions of own classes, in worlds. -/
namespace Mr
open PySem PySem.Spec PyProof.Rows L2
/-! ### any data -/
section
variable {K : PySem.W.Frag} {G G' : Hp}
mutual
theorem dp_up (e : Ext G G') : ∀ (d : PyData) {v : V}, Dp K G v d → Dp K G' v d
  | .none, _, h => by cases h; exact .non
  | .bool b, _, h => by cases h; exact .bl b
  | .int i, _, h => by cases h; exact .int i
  | .str y, _, h => by cases h; exact .str y
  | .list ds, _, h => by
    cases h with
    | lst hs ha => exact .lst (sqL_up e hs) (dps_up e ds ha)
  | .tuple ds, _, h => by
    cases h with
    | tup hs ha => exact .tup (sqT_up e hs) (dps_up e ds ha)
  | .dict _, _, h => by cases h
theorem dps_up (e : Ext G G') : ∀ (ds : List PyData) {vs : List V}, DpAll K G vs ds → DpAll K G' vs ds
  | [], _, h => by cases h; exact .nil
  | d :: ds, _, h => by
    cases h with
    | cons h1 h2 => exact .cons (dp_up e d h1) (dps_up e ds h2)
end
end
def rAny (K : PySem.W.Frag) : R PyData := ⟨fun G v d => Dp K G v d, fun e h => dp_up e _ h⟩
section
variable {K : PySem.W.Frag} {G G' H : Hp} {O : Own} {v w : V} {vs : List V} {d e : PyData} {ds : List PyData} {Q : VK}
theorem al_dps : ∀ {vs : List V} {ds : List PyData}, Al (rAny K) G vs ds → DpAll K G vs ds
  | [], [], _ => .nil
  | _ :: _, _ :: _, h => .cons h.1 (al_dps h.2)
  | [], _ :: _, h => h.elim
  | _ :: _, [], h => h.elim
theorem dps_al : ∀ {vs : List V} {ds : List PyData}, DpAll K G vs ds → Al (rAny K) G vs ds
  | _, [], h => by cases h; exact True.intro
  | _, _ :: _, h => by
    cases h with
    | cons h1 h2 => exact ⟨h1, dps_al h2⟩
theorem any_T (h : (rT K (rAny K)).rel G v ds) : (rAny K).rel G v (.tuple ds) := by
  obtain ⟨p, vs, rfl, hs, ha⟩ := h
  exact .tup hs (al_dps ha)
theorem any_M (h : (rM (rAny K)).rel G v ds) : (rAny K).rel G v (.list ds) := by
  obtain ⟨p, vs, rfl, hs, ha⟩ := h
  exact .lst (.inl (.inl hs)) (al_dps ha)
theorem any_of {α : Type} [DecidableEq α] (d : RD K α) {x : α} (h : d.r.rel G v x) : (rAny K).rel G v (d.enc x) := d.dp h
theorem dp_get : ∀ {vs : List V} {ds : List PyData} {i : Nat} {d : PyData}, DpAll K G vs ds → ds[i]? = some d → ∃ v, vs[i]? = some v ∧ Dp K G v d
  | _, _, i, d, h, e => (dps_al h).get (r := rAny K) e
/-! what a kind of data is -/
theorem ty_A {c : String} (h : Dp K H v d) (hk : kindA d = some c) : TyX K H v (.type c) := by
  cases h with
  | non => cases hk; exact ty_N
  | bl b => cases hk; exact ty_B _
  | int i => cases hk; exact ty_I _
  | str x => cases hk; exact ty_S _
  | lst hs ha => cases hk; exact ty_L (K := K) (r := rAny K) ⟨_, _, rfl, hs, dps_al ha⟩
  | tup hs ha => cases hk; exact ty_sqT hs
theorem isA_kind {c : String} {b : Bool} (hc : c = "tuple" ∨ c = "list" ∨ c = "str" ∨ c = "bool" ∨ c = "int") (h : isA c d = some b) : ∃ k, kindA d = some k ∧ kitB k c = some b := by
  rcases hc with rfl | rfl | rfl | rfl | rfl <;> cases d <;> cases h <;> exact ⟨_, rfl, by decide +kernel⟩
theorem q_isiA {c : String} {b : Bool} (hc : c = "tuple" ∨ c = "list" ∨ c = "str" ∨ c = "bool" ∨ c = "int") (S : Sub G O H) (h : (rAny K).rel G v d) (e : isA c d = some b) (q : Q (.bl b) H) : rIsi K [v, .ty c] H Q := by
  obtain ⟨k, h1, h2⟩ := isA_kind hc e
  exact q_isi (ty_A (dp_up S.ext _ h) h1) h2 q
theorem q_lenA {n : Int} (S : Sub G O H) (h : (rAny K).rel G v d) (e : lenA d = some n) (q : Q (.int n) H) : rLenM K [v] H Q := by
  have h' : Dp K H v d := dp_up S.ext _ h
  cases h' with
  | tup hs ha =>
    cases e
    have := (dps_al ha).len
    refine ⟨_, _, rfl, .inr hs, ?_⟩
    rw [this]; exact q
  | lst hs ha =>
    cases e
    have := (dps_al ha).len
    refine ⟨_, _, rfl, .inl hs, ?_⟩
    rw [this]; exact q
  | _ => cases e
theorem q_ixA {i : Int} (S : Sub G O H) (h : (rAny K).rel G v d) (e' : ixA d i = some e) (q : ∀ w, (rAny K).rel G w e → Q w H) : rIxT K v (.int i) H Q := by
  have h' : Dp K G v d := h
  cases h' with
  | tup hs ha => exact q_ixT (r := rAny K) S ⟨_, _, rfl, hs, dps_al ha⟩ e' q
  | _ => cases e'
theorem shA_ok (h : shA d = some e) : SeqAt.shaped d = true ∧ d = e := shA_some h
theorem q_eqA {b : Bool} (S : Sub G O H) (h1 : (rAny K).rel H v d) (h2 : (rAny K).rel H w e) (e' : eqA d e = some b) (q : Q (.bl b) H) : rEqD K v w H Q := by
  obtain ⟨d', a1, e'⟩ := bindS e'
  obtain ⟨e2, a2, e'⟩ := bindS e'
  obtain ⟨s1, rfl⟩ := shA_ok a1
  obtain ⟨s2, rfl⟩ := shA_ok a2
  cases e'
  exact ⟨_, _, h1, h2, s1, s2, q⟩
theorem q_neA {b : Bool} (S : Sub G O H) (h1 : (rAny K).rel H v d) (h2 : (rAny K).rel H w e) (e' : eqA d e = some b) (q : Q (.bl (!b)) H) : rNeD K v w H Q := by
  obtain ⟨d', a1, e'⟩ := bindS e'
  obtain ⟨e2, a2, e'⟩ := bindS e'
  obtain ⟨s1, rfl⟩ := shA_ok a1
  obtain ⟨s2, rfl⟩ := shA_ok a2
  cases e'
  exact ⟨_, _, h1, h2, s1, s2, q⟩
theorem q_inA {b : Bool} (S : Sub G O H) (h1 : (rAny K).rel H v d) (h2 : (rAny K).rel H w (.list ds)) (e' : inA d ds = some b) (q : Q (.bl b) H) : rInD K v w H Q := by
  obtain ⟨d', a1, e'⟩ := bindS e'
  obtain ⟨e2, a2, e'⟩ := bindS e'
  obtain ⟨s1, rfl⟩ := shA_ok a1
  obtain ⟨s2, rfl⟩ := shA_ok a2
  cases e'
  exact ⟨_, _, h1, h2, s1, s2, q⟩
theorem q_niA {b : Bool} (S : Sub G O H) (h1 : (rAny K).rel H v d) (h2 : (rAny K).rel H w (.list ds)) (e' : inA d ds = some b) (q : Q (.bl (!b)) H) : rNotInD K v w H Q := by
  obtain ⟨d', a1, e'⟩ := bindS e'
  obtain ⟨e2, a2, e'⟩ := bindS e'
  obtain ⟨s1, rfl⟩ := shA_ok a1
  obtain ⟨s2, rfl⟩ := shA_ok a2
  cases e'
  exact ⟨_, _, h1, h2, s1, s2, q⟩
/-- a tuple display of written length -/
theorem q_tupN {α : Type} {r : R α} {xs : List α} (S : Sub G O H) (hl : vs.length ≤ 100000) (h : Al r G vs xs) (q : ∀ u G' H', Ext G G' → Sub G' O H' → (rT K r).rel G' u xs → Q u H') : mkTup vs H Q :=
  ⟨sz hl, fun p hp => q _ _ _ (S.extNew hp _) (S.new hp) ⟨p, vs, rfl, .inl (.inl upd_same), h.up (S.extNew hp _)⟩⟩
end
/-! ### back from any data to a type -/
section
variable {K : PySem.W.Frag} {α β γ δ : Type} {r0 : R α} {r1 : R β} {r2 : R γ} {r3 : R δ} {G : Hp} {v : V} {d : PyData}
def Dec (K : PySem.W.Frag) (r : R α) (f : PyData → Option α) : Prop := ∀ (G : Hp) (v : V) (d : PyData) (x : α), f d = some x → Dp K G v d → r.rel G v x
theorem dec_I : Dec K rInt decI := fun G v d x e h => by
  cases h <;> cases e
  rfl
theorem dec_B : Dec K rBool decB := fun G v d x e h => by
  cases h <;> cases e
  rfl
theorem dec_S : Dec K rStr decS := fun G v d x e h => by
  cases h <;> cases e
  rfl
theorem dec_En {e : α → Str} {tb : List α} : Dec K (rEn e) (decEn e tb) := fun G v d x h hd => by
  cases hd with
  | str y =>
    have h' : tb.find? (fun a => decide (e a = y)) = some x := h
    have := List.find?_some h'
    show V.str y = V.str (e x)
    rw [of_decide_eq_true this]
  | _ => cases h
theorem dps_2 {d0 d1 : PyData} {vs : List V} (h : DpAll K G vs [d0, d1]) : ∃ v0 v1, vs = [v0, v1] ∧ Dp K G v0 d0 ∧ Dp K G v1 d1 := by
  have h := dps_al h
  match vs, h with
  | [v0, v1], h => exact ⟨v0, v1, rfl, h.1, h.2.1⟩
theorem dps_3 {d0 d1 d2 : PyData} {vs : List V} (h : DpAll K G vs [d0, d1, d2]) : ∃ v0 v1 v2, vs = [v0, v1, v2] ∧ Dp K G v0 d0 ∧ Dp K G v1 d1 ∧ Dp K G v2 d2 := by
  have h := dps_al h
  match vs, h with
  | [v0, v1, v2], h => exact ⟨v0, v1, v2, rfl, h.1, h.2.1, h.2.2.1⟩
theorem dp_tup {ds : List PyData} (h : Dp K G v (.tuple ds)) : ∃ a vs, v = .ref a ∧ SqT K G a vs ∧ DpAll K G vs ds := by
  cases h with
  | tup hs ha => exact ⟨_, _, rfl, hs, ha⟩
theorem dec2_some {f0 : PyData → Option α} {f1 : PyData → Option β} {x : α × β} (e : dec2 f0 f1 d = some x) : ∃ a b, d = .tuple [a, b] ∧ f0 a = some x.1 ∧ f1 b = some x.2 := by
  unfold dec2 at e
  split at e
  · obtain ⟨x0, e0, e⟩ := bindS e
    obtain ⟨x1, e1, e⟩ := bindS e
    cases e
    exact ⟨_, _, rfl, e0, e1⟩
  · cases e
theorem dec3_some {f0 : PyData → Option α} {f1 : PyData → Option β} {f2 : PyData → Option γ} {x : α × β × γ} (e : dec3 f0 f1 f2 d = some x) : ∃ a b c, d = .tuple [a, b, c] ∧ f0 a = some x.1 ∧ f1 b = some x.2.1 ∧ f2 c = some x.2.2 := by
  unfold dec3 at e
  split at e
  · obtain ⟨x0, e0, e⟩ := bindS e
    obtain ⟨x1, e1, e⟩ := bindS e
    obtain ⟨x2, e2, e⟩ := bindS e
    cases e
    exact ⟨_, _, _, rfl, e0, e1, e2⟩
  · cases e
theorem dec_2 {f0 : PyData → Option α} {f1 : PyData → Option β} (h0 : Dec K r0 f0) (h1 : Dec K r1 f1) : Dec K (rP2 K r0 r1) (dec2 f0 f1) := fun G v d x e h => by
  obtain ⟨a, b, rfl, e0, e1⟩ := dec2_some e
  obtain ⟨p, vs, rfl, hs, ha⟩ := dp_tup h
  obtain ⟨v0, v1, rfl, a0, a1⟩ := dps_2 ha
  exact ⟨p, _, _, rfl, hs, h0 _ _ _ _ e0 a0, h1 _ _ _ _ e1 a1⟩
theorem dec_3 {f0 : PyData → Option α} {f1 : PyData → Option β} {f2 : PyData → Option γ} (h0 : Dec K r0 f0) (h1 : Dec K r1 f1) (h2 : Dec K r2 f2) : Dec K (rP3 K r0 r1 r2) (dec3 f0 f1 f2) := fun G v d x e h => by
  obtain ⟨a, b, c, rfl, e0, e1, e2⟩ := dec3_some e
  obtain ⟨p, vs, rfl, hs, ha⟩ := dp_tup h
  obtain ⟨v0, v1, v2, rfl, a0, a1, a2⟩ := dps_3 ha
  exact ⟨p, _, _, _, rfl, hs, h0 _ _ _ _ e0 a0, h1 _ _ _ _ e1 a1, h2 _ _ _ _ e2 a2⟩
end
/-! ### exceptions of own classes with an __init__ that keeps one or two values -/
def oexB1 (K : PySem.W.Frag) (C : Addr) : Bool := match K.lookup C with
  | some ⟨.type "type", _, .cls cdat, slts⟩ => (match cdat.mro, slts.toList with
    | .ref C2 :: rest, [_, _, _, _, some (.builtin nw), _] => C2 == C && (nw == "ValueError.__new__" && (!cdat.hasDel && (cdat.hasDict && PySem.HandSPX.refsVE rest)))
    | _, _ => false)
  | _ => false
theorem oexB1_ok {K : PySem.W.Frag} {C : Addr} (h : oexB1 K C = true) : ∃ nm q N bs bm sn sub ab col dd k0 k1 k2 k3 k5, K.lookup C = some (excClassObj nm q C N bs bm true sn sub ab col dd k0 k1 k2 k3 k5 "ValueError.__new__") ∧ PySem.HandSPX.refsVE bm = true := by
  unfold oexB1 at h
  split at h
  · rename_i dd cdat slts ho
    split at h
    · rename_i C2 rest k0 k1 k2 k3 nw k5 hm hs
      simp only [Bool.and_eq_true, beq_iff_eq, Bool.not_eq_true'] at h
      obtain ⟨rfl, rfl, hdel, hdc, hr⟩ := h
      obtain ⟨nm, bs, mro, ns, qn, hd, sn, sub, ab, col, del⟩ := cdat
      dsimp only at hm hdel hdc
      subst hm hdel hdc
      obtain ⟨sl⟩ := slts
      dsimp only at hs
      subst hs
      exact ⟨nm, qn, ns, bs, rest, sn, sub, ab, col, dd, k0, k1, k2, k3, k5, ho, hr⟩
    · cases h
  · cases h
/-- what is asked of the class x -/
structure XcT (K : PySem.W.Frag) (x : Str) : Prop where
  oex : OexC K (He.ga K x)
  xf : XfC K (He.ga K x)
  ex : ExcC K (He.ga K x)
  ini : PySem.W.findIn K (.ref (He.ga K x)) "__init__" = some (some (.ref (He.ma K (He.ga K x) "__init__")))
  tI : PySem.W.typeIn K (.ref (He.ma K (He.ga K x) "__init__")) = some (.type "function")
  isC : PySem.W.isClsIn K (He.ga K x) = true
def xcB (x : Str) : FrT := fun K =>
  oexB1 K (He.ga K x) && (He.eqO (PySem.W.findIn K (.ref (He.ga K x)) "__setattr__") (some (some (.builtin "object.__setattr__"))) && (decide (PySem.W.subIn K (.ref (He.ga K x)) (.type "BaseException") = some true) &&
  (decide (PySem.W.typeIn K (.ref (He.ga K x)) = some (.type "type")) && (PySem.W.keepIn K (.ref (He.ga K x)) && (xfB K (He.ga K x) &&
  (He.eqO (PySem.W.findIn K (.ref (He.ga K x)) "__class__") (some (some (.builtin "object.__class__"))) && (He.eqO (PySem.W.specialIn K (.builtin "object.__class__") "__get__") (some (some (.builtin "getset_descriptor.__get__"))) &&
  (decide (PySem.W.takesIn K (.builtin "object.__class__") = some true) && (decide (PySem.W.mroIn K (He.ga K x) (.type "object") = some true) && (He.eqO (PySem.W.findIn K (.ref (He.ga K x)) "__init__") (some (some (.ref (He.ma K (He.ga K x) "__init__")))) &&
  (decide (PySem.W.typeIn K (.ref (He.ma K (He.ga K x) "__init__")) = some (.type "function")) && PySem.W.isClsIn K (He.ga K x))))))))))))
theorem xcB_ok {x : Str} {K : PySem.W.Frag} (h : xcB x K = true) : XcT K x := by
  obtain ⟨h1, h⟩ := He.ba h
  obtain ⟨h2, h⟩ := He.ba h
  obtain ⟨h3, h⟩ := He.ba h
  obtain ⟨h4, h⟩ := He.ba h
  obtain ⟨h5, h⟩ := He.ba h
  obtain ⟨h6, h⟩ := He.ba h
  obtain ⟨h7, h⟩ := He.ba h
  obtain ⟨h8, h⟩ := He.ba h
  obtain ⟨h9, h⟩ := He.ba h
  obtain ⟨h10, h⟩ := He.ba h
  obtain ⟨h11, h⟩ := He.ba h
  obtain ⟨h12, h13⟩ := He.ba h
  have X := xfB_ok h6
  exact ⟨⟨oexB1_ok h1, He.eqO_ok h2, of_decide_eq_true h3, of_decide_eq_true h4, h5⟩, X, ⟨X.ga, X.gg, of_decide_eq_true h3, X.hdC, He.eqO_ok h7, He.eqO_ok h8, of_decide_eq_true h9, of_decide_eq_true h10⟩, He.eqO_ok h11, of_decide_eq_true h12, h13⟩
/-- the base class, whose __init__ is ValueError's -/
def ibB (x : Str) : FrT := fun K => He.eqO (PySem.W.specialIn K (.ref (He.ga K x)) "__getattribute__") (some (some (.builtin "type.__getattribute__"))) && (decide (PySem.W.typeIn K (.ref (He.ga K x)) = some (.type "type")) &&
  (PySem.W.readsIn K (He.ga K x) (.type "type") && (match PySem.W.findCls K (.ref (He.ga K x)) (.type "type") "__init__" with
  | some (.val (.builtin z)) => z == "ValueError.__init__"
  | _ => false)))
theorem ibB_ok {x : Str} {K : PySem.W.Frag} (h : ibB x K = true) : InitC K (He.ga K x) := by
  obtain ⟨h1, h⟩ := He.ba h
  obtain ⟨h2, h⟩ := He.ba h
  obtain ⟨h3, h4⟩ := He.ba h
  refine ⟨He.eqO_ok h1, of_decide_eq_true h2, h3, ?_⟩
  split at h4
  · rename_i z hz
    rw [hz, beq_iff_eq.mp h4]
  · cases h4
theorem fmtB_ok {d : PyData} (h : fmtB d = true) : FmtOk d := by
  unfold fmtB at h
  obtain ⟨h1, h⟩ := He.ba h
  obtain ⟨h2, h⟩ := He.ba h
  obtain ⟨h3, h4⟩ := He.ba h
  refine ⟨h1, of_decide_eq_true h2, of_decide_eq_true h3, fun y e => ?_⟩
  subst e
  exact of_decide_eq_true h4
/-- the __init__ with one value kept as f -/
def spX1 (K : PySem.W.Frag) (C : Addr) (f : Str) : Sp := fun vs H Q _ => ∃ (a : Addr) (v : V) (d : PyData), vs = [.ref a, v] ∧ H a = some (exo a C none) ∧ Dp K H v d ∧ FmtOk d ∧
  ∀ dx, H dx = none → dx ≠ a → Q .non (upd (upd H dx (exd dx [(f, v)])) a (exo a C (some dx)))
def mkO (C : Addr) (sp : Sp) (vs : List V) (H1 : Hp) (Q : XK) : Prop := vs.length ≤ 1000 ∧ ∀ a, H1 a = none → sp (.ref a :: (vs ++ [])) (upd H1 a (exo a C none))
  (fun v H2 => v = .non ∧ ∃ (d : Addr) (fs : List (Str × V)), H2 a = some (exo a C (some d)) ∧ H2 d = some (exd d fs) ∧ H1 d = none ∧ Q (.ref C) (some d) (upd (L2.del H2 a) d (.xd fs))) (fun _ _ _ => False)
theorem gRaise {C : Addr} {sp : Sp} {ta : TA} {σ : L2.St} {H : Hp} {W : XK} (h : ta σ H fun vs H1 => mkO C sp vs H1 W) : tMkO C sp [] ta σ H W := h
theorem heap_exc {H : Hp} {a dx : Addr} {o1 o2 o3 o4 : HO} (ha : H a = none) (hne : dx ≠ a) : upd (L2.del (upd (upd (upd H a o1) dx o2) a o3) a) dx o4 = upd H dx o4 := by
  funext b
  by_cases h1 : b = dx
  · subst h1; rw [upd_same, upd_same]
  · rw [upd_ne h1, upd_ne h1]
    by_cases h2 : b = a
    · subst h2; rw [del_same, ha]
    · rw [del_ne h2, upd_ne h2, upd_ne h1, upd_ne h2]
theorem q_mk1 {K : PySem.W.Frag} {G H : Hp} {O : Own} {C : Addr} {f : Str} {v : V} {d : PyData} {Q : XK} (S : Sub G O H) (h : (rAny K).rel G v d) (hf : fmtB d = true)
    (q : ∀ dd G' H', Ext G G' → Sub G' O H' → G' dd = some (.xd [(f, v)]) → Q (.ref C) (some dd) H') : mkO C (spX1 K C f) [v] H Q := by
  refine ⟨by simp, fun a ha => ⟨a, v, d, rfl, upd_same, dp_up (S.ext.trans (fun b o e => by rw [upd_ne (ne_of_none e ha)]; exact e)) _ h, fmtB_ok hf, fun dx hdx hne => ?_⟩⟩
  have hdx' : H dx = none := by rw [upd_ne hne] at hdx; exact hdx
  refine ⟨rfl, dx, [(f, v)], upd_same, by rw [upd_ne hne, upd_same], hdx', ?_⟩
  rw [heap_exc ha hne]
  exact q dx _ _ (S.extNew hdx' _) (S.new hdx') upd_same
theorem gJsC {t : TE} {ts : List TE} {acc : Str} {σ : L2.St} {H : Hp} {QS : Str → Hp → Prop} (h : t σ H fun x H1 => ∃ y : Str, x = .str y ∧ (acc ++ y).length ≤ sizeLine ∧ tJs ts (acc ++ y) σ H1 QS) : tJs (t :: ts) acc σ H QS := h
theorem gJsN {acc : Str} {σ : L2.St} {H : Hp} {QS : Str → Hp → Prop} (h : QS acc H) : tJs [] acc σ H QS := h
theorem gVeI {K : PySem.W.Frag} {ta : TA} {σ : L2.St} {H : Hp} {Q : VK} (h : ta σ H fun vs H1 => ∃ (a C : Addr) (ws : List V), vs = .ref a :: ws ∧ ws.length ≤ 1000 ∧ OexC K C ∧ H1 a = some (exo a C none) ∧ Q .non H1) : tVeI K ta σ H Q := h
theorem gFmtD {K : PySem.W.Frag} {te : TE} {σ : L2.St} {H : Hp} {Q : VK} (h : te σ H fun x H1 => ∃ d, Dp K H1 x d ∧ FmtOk d ∧ ∀ m : Str, m.length ≤ 1000000 → Q (.str m) H1) : tFmtD K te σ H Q := h
theorem gOst {K : PySem.W.Frag} {f : Str} {to te : TE} {D : Ends} {σ : L2.St} {H : Hp} (h : te σ H fun y H1 => to σ H1 fun x H2 => ∃ a C : Addr, x = .ref a ∧ OexC K C ∧ PySem.W.findIn K (.ref C) f = some none ∧
    ((H2 a = some (exo a C none) ∧ ∀ dx, H2 dx = none → dx ≠ a → D.nx σ (upd (upd H2 dx (exd dx [(f, y)])) a (exo a C (some dx)))) ∨
      ∃ (dx : Addr) (fs : List (Str × V)), H2 a = some (exo a C (some dx)) ∧ H2 dx = some (exd dx fs) ∧ fs.length ≤ 900 ∧ D.nx σ (upd H2 dx (exd dx ((f, y) :: fs))))) : tOst K f to te D σ H := h
/-- the texts of an f-string stay short -/
theorem js_len {a b : Str} {n m k : Nat} (h1 : a.length ≤ n) (h2 : b.length ≤ m) (h : n + m ≤ k) (hk : k ≤ 10000000) : (a ++ b).length ≤ k ∧ (a ++ b).length ≤ sizeLine := by
  have h3 : (10000000 : Nat) ≤ sizeLine := by decide
  rw [strLen_append]
  omega
/-- what is raised passes the def's own way out -/
theorem passE {P : Program} {w : World} {K : PySem.W.Frag} {mg : Str → Option Value} {base : Heap} {N : List Str} {qual : Str} {scope : Scope} {f : Addr} {cd : Value} {A : Around} {outer : List Env} {s : Shared} {H : Hp} {E : XK} :
    Passes (L2.CX P w) (cxOf (L2.CX P w) P w K mg base N qual scope f cd A outer s H E) E := passes_call (takes_of rfl rfl rfl rfl) fun _ _ _ _ h => h
end Mr

set_option Elab.async false
set_option linter.all false
set_option maxRecDepth 100000
/-! KwP: calls with some of the keyword-only parameters written, no other defaults. -/
namespace L2
open PySem PySem.Spec PyProof.Rows
section
variable {K : PySem.W.Frag} {x qual : Str} {params : Arguments} {body : List Stmt} {scope : Scope} {kws : List (Str × V)} {f : Addr} {fd : FuncData} {ps : List Str}
theorem kbn_mix (F : FunD K x qual params body scope [] kws f fd) (n : Nat) (ks : List Str) (ms : List (Str × V)) (hk : kws ≠ []) (hms : ∀ q ∈ ms, q ∈ kws) (pre : Bool)
    (h : ∀ (D : Addr) (doc pm : Value) (an : Option Addr) (cdv ct : Value) (us mv ws : List Value), us.length = n → mv.length = ms.length → ws.length = ks.length →
      KwChain D ((ms.map (·.1)).zip mv) (bindArgs (PySem.W.fnOf x qual params body scope .none (.ref D) doc pm an cdv ct) ⟨us, ks.zip ws⟩) (ps.zip (us ++ (cond pre (mv ++ ws) (ws ++ mv))))) :
    ∃ mv : List Value, KBn K fd ps n ks (fun us ws => us ++ (cond pre (mv ++ ws) (ws ++ mv))) (fun vs zs => vs ++ (cond pre (ms.map (·.2) ++ zs) (zs ++ ms.map (·.2)))) := by
  obtain ⟨oc, od, dV, kV, doc, pm, an, cdv, ct, osl, rfl, lk, hcd, hD, hK⟩ := F.ex
  rcases hD with ⟨_, rfl⟩ | ⟨e, _⟩
  · rcases hK with e | ⟨D, rfl, hq⟩
    · exact absurd e hk
    · obtain ⟨mv, hl, rk, hks⟩ := kwd_vals (ms := ms) fun q hm => hq q (hms q hm)
      refine ⟨mv, ⟨fun s us ws X l1 l2 => BindsTo.of_looks fun M => KwChain.looks X hks (h D doc pm an cdv ct us mv ws l1 hl l2), fun r1 r2 => r1.append ?_⟩⟩
      cases pre with
      | true => exact rk.append r2
      | false => exact r2.append rk
  · exact absurd rfl e
theorem kbn_full (F : FunD K x qual params body scope [] kws f fd) (n : Nat) (ks : List Str)
    (h : ∀ (kV doc pm : Value) (an : Option Addr) (cdv ct : Value) (us ws : List Value), us.length = n → ws.length = ks.length → bindArgs (PySem.W.fnOf x qual params body scope .none kV doc pm an cdv ct) ⟨us, ks.zip ws⟩ = pure (ps.zip (us ++ ws))) :
    KBn K fd ps n ks (fun us ws => us ++ ws) (fun vs zs => vs ++ zs) := by
  obtain ⟨oc, od, dV, kV, doc, pm, an, cdv, ct, osl, rfl, lk, hcd, hD, hK⟩ := F.ex
  rcases hD with ⟨_, rfl⟩ | ⟨e, _⟩
  · exact ⟨fun s us ws X l1 l2 => .of_eq (h kV doc pm an cdv ct us ws l1 l2), fun r1 r2 => r1.append r2⟩
  · exact absurd rfl e
end
end L2
namespace Mr
open PySem PySem.Spec PyProof.Rows L2
theorem gCallN {n m : Nat} {sp : Sp} {gV : List V → List V → List V} {E : XK} {t tk : TA} {σ : L2.St} {H : Hp} {Q : VK} (h : t σ H fun vs H1 => tk σ H1 fun zs H2 => vs.length = n ∧ zs.length = m ∧ sp (gV vs zs) H2 Q E) : tCallN n m sp gV E t tk σ H Q := h
end Mr

set_option linter.all false
/-! SortP: sorted, the plain part. -/
namespace Mr
open PySem
def sortM {α : Type} (k : α → PyData) (xs : List α) : Option (List α) := if xs.length ≤ 100000 then some (xs.mergeSort (PySem.W.dataLe false k)) else none
theorem sortM_some {α : Type} {k : α → PyData} {xs ys : List α} (h : sortM k xs = some ys) : xs.length ≤ 100000 ∧ xs.mergeSort (PySem.W.dataLe false k) = ys := by
  unfold sortM at h
  split at h
  · rename_i c; exact ⟨c, Option.some.inj h⟩
  · cases h
end Mr

set_option Elab.async false
set_option linter.all false
set_option maxRecDepth 100000
set_option maxHeartbeats 2000000
/-! SortD: sorted(list of data that are alike); list * int. -/
namespace Mr
open PySem PySem.Spec PyProof.Rows L2
def rSortD (K : PySem.W.Frag) : List V → Hp → VK → Prop := fun vs H Q => ∃ (α : Type) (r : R α) (G : Hp) (k : α → PyData) (a : Addr) (xs : List V) (bs : List α), vs = [V.ref a] ∧ SqL K H a xs ∧ Al r G xs bs ∧ (∀ v b, r.rel G v b → Dp K H v (k b)) ∧
  PySem.W.AllAlike (bs.map k) ∧ PySem.W.Sortable (bs.map k) ∧ bs.length ≤ sizeLine ∧ (∀ b, (k b).depth ≤ 60) ∧
  ∀ ys p, Al r G ys (bs.mergeSort (PySem.W.dataLe false k)) → H p = none → Q (.ref p) (upd H p (.lst ys))
theorem each_al {α : Type} {r : R α} {G : Hp} : ∀ {xs : List V} {us : List Value} {bs : List α}, Vals xs us → Al r G xs bs → PySem.W.EachIs (fun u b => ∃ v, RelV v u ∧ r.rel G v b) us bs
  | _, _, [], .nil, _ => .nil
  | _, _, _ :: _, .cons h1 h2, h => .cons ⟨_, h1, h.1⟩ (each_al h2 h.2)
  | _, _, _ :: _, .nil, h => h.elim
  | _, _, [], .cons _ _, h => h.elim
theorem al_each {α : Type} {r : R α} {G : Hp} : ∀ {us : List Value} {bs : List α}, PySem.W.EachIs (fun u b => ∃ v, RelV v u ∧ r.rel G v b) us bs → ∃ xs : List V, Vals xs us ∧ Al r G xs bs
  | _, _, .nil => ⟨[], .nil, True.intro⟩
  | _, _, .cons ⟨v, h1, h2⟩ t => by
    obtain ⟨xs, h3, h4⟩ := al_each t
    exact ⟨v :: xs, .cons h1 h3, h2, h4⟩
theorem call_sortD {X : Cx} {k0 : Nat} (hr : Room k0 X.A) : CallR X (.builtin "sorted") (rSortD X.K) := by
  intro pins s σ H vs us Q I r h
  obtain ⟨α, rr, G, k, a, xs, bs, rfl, hs, ha, hd, hal, hso, hL, hdep, q⟩ := h
  obtain ⟨its, rv, hl, hz⟩ := I.list hs
  obtain ⟨u, rfl, ru⟩ := vals1 r
  obtain rfl : u = Value.ref a := ru
  have e1 := each_al rv ha
  have hu := hr.units
  refine PySem.W.sorted_data (enc := k) hl.isList e1 (e1.mono fun u b ⟨v, h1, h2⟩ => Dp.reads I (k b) v u (hd v b h2) h1) hal hso hL (fun b _ => ?_) fun out hlen ho => ?_
  · have := hdep b
    omega
  · obtain ⟨ys, h3, h4⟩ := al_each ho
    have hp := I.hok.fresh (Nat.le_succ s.heap.objs.size)
    refine ⟨.ref (s.heap.objs.size + 1), upd H (s.heap.objs.size + 1) (.lst ys), I.laid (t' := s.toks) (fun b o e => sortedAll_old e) (Nat.le_succ _) ?_, rfl, q ys _ h4 hp⟩
    obtain ⟨n, hn⟩ := sortedAll_at s.heap its out.toArray
    refine ⟨?_, out, n, h3, hn⟩
    rw [h3.length, hlen]
    exact hL
section
variable {α : Type} [DecidableEq α] {r : R α} {G G' H : Hp} {O : Own} {K : PySem.W.Frag} {v w : V} {vs : List V} {x : α} {xs ys : List α} {a : Addr} {Q : VK}
theorem dp_up1 (d : RD K α) (S : Sub G O H) {v : V} {b : α} (h : d.r.rel G v b) : Dp K H v (d.enc b) := d.dp (R.up S.ext h)
theorem q_sortL (d : RD K α) (k : α → PyData) (hk : d.enc = k) (hd : d.dep ≤ 60) (S : Sub G O H) (h : (rL K d.r).rel G v xs) (e : sortM k xs = some ys) (hal : ∀ b b', PySem.W.alike (d.enc b) (d.enc b') = true) (hso : PySem.W.Sortable (xs.map d.enc))
    (q : ∀ u G' H', Ext G G' → Sub G' O H' → (rM d.r).rel G' u ys → Q u H') : rSortD K [v] H Q := by
  obtain ⟨hz, rfl⟩ := sortM_some e
  subst hk
  obtain ⟨p, vs, rfl, hs, ha⟩ := h
  exact ⟨α, d.r, G, d.enc, p, vs, xs, rfl, sqL_up S.ext hs, ha, fun v b h => dp_up1 d S h, PySem.W.AllAlike.of hal, hso, sz hz, fun b => Nat.le_trans (d.dpt b) hd, fun ys t hy ht => q _ _ _ (S.extNew ht _) (S.new ht) ⟨t, ys, rfl, upd_same, hy.up (S.extNew ht _)⟩⟩
theorem q_sortO (d : RD K α) (k : α → PyData) (hk : d.enc = k) (hd : d.dep ≤ 60) (S : Sub G ((a, .lst vs) :: O) H) (h : Al d.r G vs xs) (e : sortM k xs = some ys) (hal : ∀ b b', PySem.W.alike (d.enc b) (d.enc b') = true) (hso : PySem.W.Sortable (xs.map d.enc))
    (q : ∀ u G' H', Ext G G' → Sub G' ((a, .lst vs) :: O) H' → (rM d.r).rel G' u ys → Q u H') : rSortD K [V.ref a] H Q := by
  obtain ⟨hz, rfl⟩ := sortM_some e
  subst hk
  exact ⟨α, d.r, G, d.enc, a, vs, xs, rfl, .inl (.inl S.head), h, fun v b h => dp_up1 d S h, PySem.W.AllAlike.of hal, hso, sz hz, fun b => Nat.le_trans (d.dpt b) hd, fun ys t hy ht => q _ _ _ (S.extNew ht _) (S.new ht) ⟨t, ys, rfl, upd_same, hy.up (S.extNew ht _)⟩⟩
theorem q_sortOw (d : RD K α) (k : α → PyData) (hk : d.enc = k) (hd : d.dep ≤ 60) (S : Sub G ((a, .lst vs) :: O) H) (h : Al d.r G vs xs) (e : sortM k xs = some ys) (hal : ∀ b b', PySem.W.alike (d.enc b) (d.enc b') = true) (hso : PySem.W.Sortable (xs.map d.enc))
    (q : ∀ p ws H', Sub G ((p, .lst ws) :: (a, .lst vs) :: O) H' → Al d.r G ws ys → Q (.ref p) H') : rSortD K [V.ref a] H Q := by
  obtain ⟨hz, rfl⟩ := sortM_some e
  subst hk
  exact ⟨α, d.r, G, d.enc, a, vs, xs, rfl, .inl (.inl S.head), h, fun v b h => dp_up1 d S h, PySem.W.AllAlike.of hal, hso, sz hz, fun b => Nat.le_trans (d.dpt b) hd, fun ys t hy ht => q t ys _ (S.newOwn ht) hy⟩
end
section
variable {α : Type} [DecidableEq α] {G H : Hp} {O : Own} {K : PySem.W.Frag} {v w : V} {x : α} {xs : List α} {Q : VK}
theorem q_inDB (d : RD K α) (hd : d.dep + 1 ≤ 64) (h1 : d.r.rel H v x) (h2 : (rM d.r).rel H w xs) (o1 : d.ok x = true) (o2 : xs.all d.ok = true) (q : Q (.bl (memB x xs)) H) : rInD K v w H Q := q_inD d hd h1 h2 o1 o2 q
theorem q_niDB (d : RD K α) (hd : d.dep + 1 ≤ 64) (h1 : d.r.rel H v x) (h2 : (rM d.r).rel H w xs) (o1 : d.ok x = true) (o2 : xs.all d.ok = true) (q : Q (.bl (!memB x xs)) H) : rNotInD K v w H Q := q_niD d hd h1 h2 o1 o2 q
end
/-! ### list * int -/
section
variable {α : Type} {r : R α} {G G' H : Hp} {O : Own} {K : PySem.W.Frag} {v w : V} {vs : List V} {xs ys : List α} {Q : VK}
theorem Al.repl (h : Al r G vs xs) : ∀ k : Nat, Al r G (List.replicate k vs).flatten (List.replicate k xs).flatten
  | 0 => True.intro
  | k + 1 => by
    rw [List.replicate_succ, List.replicate_succ, List.flatten_cons, List.flatten_cons]
    exact h.app (Al.repl h k)
theorem q_rep {k : Int} (S : Sub G O H) (h1 : LsAt r G H v xs) (e : repM xs k = some ys) (q : ∀ u G' H', Ext G G' → Sub G' O H' → (rM r).rel G' u ys → Q u H') : rRep v (.int k) H Q := by
  obtain ⟨p, vs, rfl, h3, ha⟩ := h1
  obtain ⟨⟨c1, c2, c3⟩, rfl⟩ := repM_some e
  refine ⟨p, k, vs, rfl, rfl, h3, c1, c2, sz (by rw [ha.len]; exact c3), fun t ht => q _ _ _ (S.extNew ht _) (S.new ht) ⟨t, _, rfl, upd_same, ?_⟩⟩
  exact (ha.repl k.toNat).up (S.extNew ht _)
end
end Mr

set_option Elab.async false
set_option linter.all false
set_option maxRecDepth 100000
set_option maxHeartbeats 1000000
/-! OlW: None, or a list that is owned. -/
namespace Mr
open PySem PySem.Spec PyProof.Rows L2
variable {K : PySem.W.Frag} {α : Type} {r : R α} {G G' H : Hp} {B O : Own} {v : V} {Q : VK}
def OLR (r : R α) (G : Hp) (B : Own) (v : V) : Option (List α) → Prop
  | none => v = .non ∧ B = []
  | some xs => ∃ l w, v = .ref l ∧ B = [(l, .lst w)] ∧ Al r G w xs
theorem OLR.up {o : Option (List α)} (e : Ext G G') (h : OLR r G B v o) : OLR r G' B v o := by
  cases o with
  | none => exact h
  | some xs =>
    obtain ⟨l, w, h1, h2, h3⟩ := h
    exact ⟨l, w, h1, h2, h3.up e⟩
theorem OLR.isNone {o : Option (List α)} (h : OLR r G B v o) : decide (v = .non) = o.isNone := by
  cases o with
  | none => rw [h.1]; rfl
  | some xs =>
    obtain ⟨l, w, rfl, _⟩ := h
    rfl
theorem q_olNon {o : Option (List α)} (h : OLR r G B v o) (q : Q (.bl o.isNone) H) : rIsNon v .non H Q := ⟨rfl, by rw [h.isNone]; exact q⟩
theorem q_olNotNon {o : Option (List α)} (h : OLR r G B v o) (q : Q (.bl (!o.isNone)) H) : rIsNotNon v .non H Q := ⟨rfl, by rw [h.isNone]; exact q⟩
/-- the bundle as an owned list -/
theorem OLR.get {o : Option (List α)} {xs : List α} (h : OLR r G B v o) (e : o = some xs) : ∃ l w, v = .ref l ∧ B = [(l, .lst w)] ∧ Al r G w xs := by
  subst e; exact h
end Mr

set_option Elab.async false
set_option linter.all false
set_option maxRecDepth 100000
set_option maxHeartbeats 1000000
/-! TupIn: x in a tuple of data; xs[::step] with a step of 1 or -1. -/
namespace Mr
open PySem PySem.Spec PyProof.Rows L2
section
variable {X : Cx}
def rInDT (K : PySem.W.Frag) : R2 := fun x y H Q => ∃ d ds, Dp K H x d ∧ Dp K H y (.tuple ds) ∧ SeqAt.shaped d = true ∧ SeqAt.shaped (.tuple ds) = true ∧ Q (.bl (ds.any fun z => PyData.eqv z d)) H
theorem op_inDT (hu : X.A.units + 65 < cLine) : OpR X (compareOp .In) (rInDT X.K) := by
  intro pins s σ H x y v u Q I rx ry h
  obtain ⟨d, ds, hd, he, sd, se, q⟩ := h
  obtain ⟨as, r1⟩ := Dp.reads I d x v hd rx
  obtain ⟨bs, r2⟩ := Dp.reads I (.tuple ds) y u he ry
  exact SeqAt.in_tuple_reads r2 r1 (SeqAt.canLay_of_shaped se) (SeqAt.canLay_of_shaped sd) (room_in_shaped sd hu) ⟨.bl _, H, I, rfl, q⟩
theorem op_inDTK {K : PySem.W.Frag} (h : X.K = K) (hu : X.A.units + 65 < cLine) : OpR X (compareOp .In) (rInDT K) := h ▸ op_inDT hu
def tStpL (K : PySem.W.Frag) (te : TE) (tp : TO) : TE := fun σ H Q => te σ H fun x H1 => tp σ H1 fun o H2 => ∃ a xs, x = .ref a ∧ SqL K H2 a xs ∧ ((o = some 1 ∧ ∀ p, H2 p = none → Q (.ref p) (upd H2 p (.lst xs))) ∨ (o = some (-1) ∧ ∀ p, H2 p = none → Q (.ref p) (upd H2 p (.lst xs.reverse))))
theorem pe_stpL {e st : Expr} {te : TE} {tp : TO} {p3 pos : Pos} (he : PE X e te) (hst : PO X (some st) tp) : PE X (.Subscript e (.Slice none none (some st) p3) pos) (tStpL X.K te tp) := by
  refine ⟨fun pins s σ H Q I h => ?_⟩
  refine Subscript_ (thn (he.run pins s σ H _ I h) fun v s1 ⟨x, H1, I1, r1, q1⟩ => ?_)
  refine wpAny_Slice (thn (po_none.run pins s1 σ H1 (fun o H2 => o = none ∧ H2 = H1) I1 ⟨rfl, rfl⟩) fun vl s2 ⟨l, H2, I2, pl, el, e2⟩ => ?_)
  subst el e2
  refine thn (po_none.run pins s2 σ H2 (fun o H3 => o = none ∧ H3 = H2) I2 ⟨rfl, rfl⟩) fun vu s3 ⟨u, H3, I3, pu, eu, e3⟩ => ?_
  subst eu e3
  refine thn (hst.run pins s3 σ H3 _ I3 q1) fun vs s4 ⟨o, H4, I4, ps, a, xs, ex, hx, q⟩ => ?_
  subst ex
  cases r1
  have I5 : Inv X pins σ H4 { s4 with heap := s4.heap.push { cls := .type "slice", data := .fields #[vl, vu, vs] } } := I4.kept (t' := s4.toks) fun b ob q => Heap.get?_push_of_some _ q
  obtain ⟨its, r, ht, hz⟩ := I5.list hx
  have hlen := r.length
  show wpAny (model X.prog X.w) X.A (subscriptTail e (.Slice none none (some st) p3) (.ref a) (.ref s4.heap.objs.size)) (EP X pins σ Q) X.xe { s4 with heap := s4.heap.push { cls := .type "slice", data := .fields #[vl, vu, vs] } }
  refine tail_any (ops := [.ref a, .ref s4.heap.objs.size]) ht.isList.typeIs (PySem.slot_list_getitem.lookup) ?_ (by with_unfolding_all rfl)
  rcases q with ⟨eo, q⟩ | ⟨eo, q⟩ <;> subst eo
  · refine wpAny_getItem_list_slice ht.isList (Heap.IsSliceOf.new _ vl vu vs) pl pu ps (by decide) ?_ (by rw [List.size_toArray]; omega)
    rw [show slicePick its.toArray none none (some 1) = slicePick its.toArray none none none from rfl, slicePick_cut, ← hlen]
    have e1 : HT.sIx xs.length 0 none = 0 := rfl
    have e2 : HT.sIx xs.length xs.length none = xs.length := rfl
    rw [e1, e2, List.drop_zero, Nat.sub_zero, hlen, List.take_length]
    refine ⟨.ref _, _, I5.laid (t' := s4.toks) (o := .lst xs) (fun b ob q => Heap.get?_push_of_some _ q) (Nat.le_refl _) ?_, rfl, q _ (I5.hok.fresh (Nat.le_refl _))⟩
    exact ⟨hz, _, 0, r, Heap.get?_push_size _ rfl⟩
  · refine wpAny_getItem_list_slice ht.isList (Heap.IsSliceOf.new _ vl vu vs) pl pu ps (by decide) ?_ (by rw [List.size_toArray]; omega)
    rw [PySem.W.krv_pick]
    refine ⟨.ref _, _, I5.laid (t' := s4.toks) (o := .lst xs.reverse) (fun b ob q => Heap.get?_push_of_some _ q) (Nat.le_refl _) ?_, rfl, q _ (I5.hok.fresh (Nat.le_refl _))⟩
    exact ⟨by rw [List.length_reverse]; exact hz, _, 0, r.reverse, Heap.get?_push_size _ rfl⟩
end
section
variable {α : Type} [DecidableEq α] {K : PySem.W.Frag} {G H : Hp} {v w : V} {x : α} {xs : List α} {Q : VK}
theorem q_inDT (d : RD K α) (hd : d.dep + 1 ≤ 64) (h1 : d.r.rel H v x) (h2 : (rT K d.r).rel H w xs) (o1 : d.ok x = true) (o2 : xs.all d.ok = true) (q : Q (.bl (memB x xs)) H) : rInDT K v w H Q :=
  ⟨d.enc x, xs.map d.enc, d.dp h1, (dT d).dp h2, d.shaped (by omega) o1, (dT d).shaped hd o2, by rw [any_mem]; exact q⟩
end
def mkStp (K : PySem.W.Frag) (x : V) (o : Option Int) (H2 : Hp) (Q : VK) : Prop := ∃ a xs, x = .ref a ∧ SqL K H2 a xs ∧ ((o = some 1 ∧ ∀ p, H2 p = none → Q (.ref p) (upd H2 p (.lst xs))) ∨ (o = some (-1) ∧ ∀ p, H2 p = none → Q (.ref p) (upd H2 p (.lst xs.reverse))))
section
variable {α : Type} {r : R α} {K : PySem.W.Frag} {G H : Hp} {O : Own} {v w : V} {vs : List V} {xs ys : List α} {a : Addr} {Q : VK} {σ : L2.St}
theorem gStpL {te : TE} {tp : TO} (h : te σ H fun x H1 => tp σ H1 fun o H2 => mkStp K x o H2 Q) : tStpL K te tp σ H Q := h
theorem q_stpO {i : Int} (S : Sub G ((a, .lst vs) :: O) H) (h : Al r G vs xs) (e : stpM xs i = some ys) (q : ∀ w G' H', Ext G G' → Sub G' ((a, .lst vs) :: O) H' → (rM r).rel G' w ys → Q w H') : mkStp K (.ref a) (some i) H Q := by
  refine ⟨a, vs, rfl, .inl (.inl S.head), ?_⟩
  unfold stpM at e
  by_cases c : i = 1
  · rw [if_pos c] at e
    cases e
    exact .inl ⟨congrArg some c, fun t ht => q _ _ _ (S.extNew ht _) (S.new ht) ⟨t, _, rfl, upd_same, h.up (S.extNew ht _)⟩⟩
  · rw [if_neg c] at e
    by_cases c2 : i = -1
    · rw [if_pos c2] at e
      cases e
      exact .inr ⟨congrArg some c2, fun t ht => q _ _ _ (S.extNew ht _) (S.new ht) ⟨t, _, rfl, upd_same, (h.up (S.extNew ht _)).rev⟩⟩
    · rw [if_neg c2] at e
      cases e
/-- a, b = a list of two -/
theorem q_gl2 {p : α × α} {i0 i1 : Nat} {QS : L2.St → Hp → Prop} (S : Sub G O H) (h : (rL K r).rel G v xs) (e : two2M xs = some p) (q : ∀ v0 v1, r.rel G v0 p.1 → r.rel G v1 p.2 → QS ((σ.set i0 (some v0)).set i1 (some v1)) H) : L2.gLst K 2 (gCons (gName i0) (gCons (gName i1) gNil)) v σ H QS := by
  obtain ⟨a, vs, rfl, hs, ha⟩ := h
  have := two2M_some e
  subst this
  match vs, ha with
  | [v0, v1], ha => exact ⟨a, _, rfl, sqL_up S.ext hs, rfl, _, _, rfl, _, _, rfl, rfl, q v0 v1 ha.1 ha.2.1⟩
/-- an append to an owned list that is not looked at any more -/
theorem q_appU {w : V} {u : Unit} (S : Sub G ((a, .lst vs) :: O) H) (h : Al r G vs xs) (e : appU xs = some u) (q : ∀ H', Sub G O H' → Q .non H') : rAppend (.ref a) [w] H Q :=
  ⟨a, vs, w, rfl, rfl, S.head, szl (by rw [h.len]; exact appU_some e), q _ S.wr.tail⟩
/-- a list + a list, owned -/
theorem q_catw {w : V} {zs : List α} (S : Sub G O H) (h1 : LsAt r G H v xs) (h2 : LsAt r G H w ys) (e : catM xs ys = some zs) (q : ∀ p w H', Sub G ((p, .lst w) :: O) H' → Al r G w zs → Q (.ref p) H') : rCat v w H Q := by
  obtain ⟨p, vs, rfl, h3, ha⟩ := h1
  obtain ⟨p2, ws, rfl, h4, hb⟩ := h2
  obtain ⟨c, rfl⟩ := catM_some e
  exact ⟨p, p2, vs, ws, rfl, rfl, h3, h4, sz (by rw [ha.len, hb.len]; exact c), fun t ht => q t _ _ (S.newOwn ht) (ha.app hb)⟩
end
end Mr

set_option Elab.async false
set_option linter.all false
set_option maxRecDepth 100000
set_option maxHeartbeats 2000000
/-! LamW: lambdas handed to a def, in worlds: the tables of code objects are owned. -/
namespace Mr
open PySem PySem.Spec PyProof.Rows L2 LamX
/-! ### tables in worlds -/
def TbR (T : List (Addr × Str)) (B : Own) (G : Hp) : Prop := B.map (·.1) = T.map (·.1) ∧ ∀ p ∈ T, ∃ ps : Array Value, (p.1, HO.tbl ps) ∈ B ∧ TriplesOk ps.toList ∧
  ∀ (pos : Pos) (cv : Value), codeAmong pos ps.toList = some cv → ∃ c, cv = .ref c ∧ G c = some (CodeO c p.2)
/-- neither tables nor code objects -/
def NoC (O : Own) : Prop := ∀ p ∈ O, (∀ q, p.2 ≠ CodeO p.1 q) ∧ ∀ ps, p.2 ≠ .tbl ps
theorem NoC.nil : NoC [] := fun _ h => nomatch h
theorem NoC.lst {O : Own} {a : Addr} {w : List V} (h : NoC O) : NoC ((a, .lst w) :: O) := fun p hp => by
  rcases List.mem_cons.mp hp with e | hp
  · subst e
    exact ⟨fun q z => (by unfold CodeO at z; cases z), fun ps z => (by cases z)⟩
  · exact h p hp
theorem NoC.app {A B : Own} (h1 : NoC A) (h2 : NoC B) : NoC (A ++ B) := fun p hp => (List.mem_append.mp hp).elim (h1 p) (h2 p)
theorem NoC.tail {O : Own} {q : Addr × HO} (h : NoC (q :: O)) : NoC O := fun p hp => h p (List.mem_cons_of_mem _ hp)
section
variable {T : List (Addr × Str)} {B E O : Own} {G G' H H1 : Hp}
theorem TbR.up (h : TbR T B G) (e : Ext G G') : TbR T B G' := ⟨h.1, fun p hp => by
  obtain ⟨ps, h1, h2, h3⟩ := h.2 p hp
  refine ⟨ps, h1, h2, fun pos cv hc => ?_⟩
  obtain ⟨c, e1, e2⟩ := h3 pos cv hc
  exact ⟨c, e1, e _ _ e2⟩⟩
theorem TbR.tabs (h : TbR T B G) (S : Sub G (E ++ (B ++ O)) H) : Tabs T H := fun p hp => by
  obtain ⟨ps, h1, h2, h3⟩ := h.2 p hp
  have hm : (p.1, HO.tbl ps) ∈ E ++ (B ++ O) := List.mem_append_right _ (List.mem_append_left _ h1)
  refine ⟨ps, (S.own _ hm).1, h2, fun pos cv hc => ?_⟩
  obtain ⟨c, e1, e2⟩ := h3 pos cv hc
  exact ⟨c, e1, S.ext _ _ e2⟩
theorem TbR.uniq (h : TbR T B G) (S : Sub G (E ++ (B ++ O)) H) {P : Addr} {q : Str} (hm : (P, q) ∈ T) : ∀ p ∈ T, p.1 = P → p.2 = q := fun p hp e => by
  have nd : (T.map (·.1)).Nodup := by
    rw [← h.1]
    have := S.nd
    rw [List.map_append, List.map_append] at this
    exact (List.nodup_append.mp (List.nodup_append.mp this).2.1).1
  obtain ⟨i, hi, e1⟩ := List.mem_iff_getElem.mp hp
  obtain ⟨j, hj, e2⟩ := List.mem_iff_getElem.mp hm
  have h1 : (T.map (·.1))[i]? = (T.map (·.1))[j]? := by
    rw [List.getElem?_map, List.getElem?_map, List.getElem?_eq_getElem hi, List.getElem?_eq_getElem hj, e1, e2]
    show some p.1 = some P
    rw [e]
  have h2 : i = j := (List.getElem?_inj (by rw [List.length_map]; exact hi) nd).mp h1
  subst h2
  rw [← e1, e2]
open Classical in
/-- behind the making of a lambda -/
theorem tab_step (S : Sub G (E ++ (B ++ O)) H) (hB : TbR T B G) (hn : NoC (E ++ O)) (e : ExtN H H1) (t : Tabs T H1) : ∃ G1 B1, Ext G G1 ∧ Sub G1 (E ++ (B1 ++ O)) H1 ∧ TbR T B1 G1 := by
  have mB : ∀ p ∈ B, ∃ q ∈ T, q.1 = p.1 := fun p hp => by
    have h1 : p.1 ∈ B.map (·.1) := List.mem_map.mpr ⟨p, hp, rfl⟩
    rw [hB.1] at h1
    obtain ⟨q, h2, h3⟩ := List.mem_map.mp h1
    exact ⟨q, h2, h3⟩
  have mT : ∀ q ∈ T, ∃ p ∈ B, p.1 = q.1 := fun p hp => by
    have h1 : p.1 ∈ T.map (·.1) := List.mem_map.mpr ⟨p, hp, rfl⟩
    rw [← hB.1] at h1
    obtain ⟨q, h2, h3⟩ := List.mem_map.mp h1
    exact ⟨q, h2, h3⟩
  refine ⟨fun b => if ∃ q, H1 b = some (CodeO b q) then H1 b else G b, B.map fun p => (p.1, (H1 p.1).getD (.tbl #[])), fun b o hb => ?_, ⟨fun b o hb => ?_, fun p hp => ?_, ?_, fun b ps z => ?_⟩, ⟨?_, fun p hp => ?_⟩⟩
  · have h1 : H1 b = some o := e _ _ (S.ext _ _ hb) fun ps z => S.nt b ps (by rw [hb, z])
    by_cases c : ∃ q, H1 b = some (CodeO b q)
    · show (if _ then H1 b else G b) = some o
      rw [if_pos c]; exact h1
    · show (if _ then H1 b else G b) = some o
      rw [if_neg c]; exact hb
  · by_cases c : ∃ q, H1 b = some (CodeO b q)
    · have hb : (if _ then H1 b else G b) = some o := hb
      rw [if_pos c] at hb; exact hb
    · have hb : (if _ then H1 b else G b) = some o := hb
      rw [if_neg c] at hb
      exact e _ _ (S.ext _ _ hb) fun ps z => S.nt b ps (by rw [hb, z])
  · have go : ∀ p : Addr × HO, p ∈ E ++ O → H1 p.1 = some p.2 ∧ (if ∃ q, H1 p.1 = some (CodeO p.1 q) then H1 p.1 else G p.1) = none := fun p hp => by
      have hm : p ∈ E ++ (B ++ O) := (List.mem_append.mp hp).elim (fun z => List.mem_append_left _ z) fun z => List.mem_append_right _ (List.mem_append_right _ z)
      have h1 : H1 p.1 = some p.2 := e _ _ (S.own p hm).1 (hn p hp).2
      refine ⟨h1, ?_⟩
      rw [if_neg fun ⟨q, z⟩ => (hn p hp).1 q (Option.some.inj (h1.symm.trans z))]
      exact (S.own p hm).2
    rcases List.mem_append.mp hp with hp | hp
    · exact go p (List.mem_append_left _ hp)
    · rcases List.mem_append.mp hp with hp | hp
      · obtain ⟨p0, hp0, rfl⟩ := List.mem_map.mp hp
        obtain ⟨q, hq, eq⟩ := mB p0 hp0
        obtain ⟨ps, t1, _, _⟩ := t q hq
        rw [eq] at t1
        refine ⟨by show H1 p0.1 = some ((H1 p0.1).getD _); rw [t1]; rfl, ?_⟩
        show (if ∃ q, H1 p0.1 = some (CodeO p0.1 q) then H1 p0.1 else G p0.1) = none
        rw [if_neg fun ⟨q, z⟩ => (by rw [t1] at z; exact codeO_ne ps (Option.some.inj z).symm)]
        exact (S.own p0 (List.mem_append_right _ (List.mem_append_left _ hp0))).2
      · exact go p (List.mem_append_right _ hp)
  · have h1 : (B.map fun p => (p.1, (H1 p.1).getD (.tbl #[]))).map (·.1) = B.map (·.1) := by rw [List.map_map]; rfl
    have := S.nd
    rw [List.map_append, List.map_append] at this ⊢
    rw [h1]; exact this
  · have z : (if ∃ q, H1 b = some (CodeO b q) then H1 b else G b) = some (.tbl ps) := z
    by_cases c : ∃ q, H1 b = some (CodeO b q)
    · rw [if_pos c] at z
      obtain ⟨q, c⟩ := c
      rw [c] at z
      exact codeO_ne ps (Option.some.inj z)
    · rw [if_neg c] at z; exact S.nt b ps z
  · rw [List.map_map]; exact hB.1
  · obtain ⟨ps, t1, t2, t3⟩ := t p hp
    obtain ⟨b, hb, eb⟩ := mT p hp
    refine ⟨ps, List.mem_map.mpr ⟨b, hb, ?_⟩, t2, fun pos cv hc => ?_⟩
    · rw [eb, t1]; rfl
    · obtain ⟨c, e1, e2⟩ := t3 pos cv hc
      refine ⟨c, e1, ?_⟩
      show (if ∃ q, H1 c = some (CodeO c q) then H1 c else G c) = _
      rw [if_pos ⟨_, e2⟩]; exact e2
end
/-- at the law's begin -/
theorem TbR.start {T : List (Addr × Str)} {G : Hp} : TbR T (T.map fun p => (p.1, HO.tbl #[])) G := ⟨by rw [List.map_map]; rfl, fun p hp => ⟨#[], List.mem_map.mpr ⟨p, hp, rfl⟩, True.intro, fun pos cv hc => by
  have z : codeAmong pos [] = some cv := hc
  simp [codeAmong] at z⟩⟩
/-! ### the code of a def -/
theorem FunD_okC {P : Program} {w : World} {K : PySem.W.Frag} {mg : Str → Option Value} {base : Heap} {x qual : Str} {params : Arguments} {body : List Stmt} {scope : Scope} {dvs : List V} {kws : List (Str × V)} {d : Str × Option Str} {fd : FuncData}
    {CX : CXT} {N ps : List Str} {k : Nat} {sp : Sp} (F : FunD K x qual params body scope dvs kws (He.fAd K d) fd) (S : FnScope N ps scope) (len : ∀ vs H Q E, sp vs H Q E → vs.length = ps.length)
    (hbody : ∀ (A : Around) (outer : List Env) (s : Shared) (H : Hp) (vs : List V) (Q : VK) (E : XK), Room k (A.deeper (envOfC qual scope s.heap.objs.size (He.fAd K d) (.ref (He.codeOf K d)))) → sp vs H Q E →
      ∃ t, PSs (cxOf CX P w K mg base N qual scope (He.fAd K d) (.ref (He.codeOf K d)) A outer s H E) body t ∧ t { nx := fun _ H' => Q .non H', rt := Q } (L2.start N vs) H) : FnOk P w K mg base CX (k + 1) (He.fAd K d) fd ps sp := by
  obtain ⟨oc, od, dV, kV, doc, pm, an, cdv, ct, osl, rfl, lk, hcd, _, _⟩ := F.ex
  obtain ⟨c, rfl⟩ := He.codeIn_ref hcd
  have e : He.codeOf K d = c := He.codeOf_eq lk rfl
  subst e
  exact fn_of lk hcd S len fun A outer s H vs Q E hr hsp => hbody A outer s H vs Q E hr hsp
/-! ### the def that gets the lambda -/
theorem takes_len {X : Cx} {W : WX} (tk : Takes X W) : Takes X (fun cls d σ H => σ.length = X.N.length → W cls d σ H) := fun u s' ⟨a, B, sI, pins, σ, H, cls, d, e, I, nb, up, sky, na, os, ag, w⟩ =>
  tk u s' ⟨a, B, sI, pins, σ, H, cls, d, e, I, nb, up, sky, na, os, ag, w I.len⟩
theorem pe_lamF {X : Cx} {T : List (Addr × Str)} {TT : (XK → Hp → VK → Prop) → Hp → VK → Prop} {x a : Str} {g c P : Addr} {k : Nat} {pg : Arguments} {bg : List Stmt} {sg : Scope} {fd : FuncData} {Ng : List Str} {params : Arguments} {body : Expr} {scope : Scope} {t : XK → TE} {p lpos pos : Pos}
    (F : FunD X.K x x pg bg sg [] [] g fd) (hb : Binds X.K fd [a] []) (hg : Gl X x) (hm : X.mg x = some (.ref g)) (Sg : FnScope Ng [a] sg) (hNg : Ng[0]? = some a) (hva : Vis sg a)
    (hG : ∀ cdg, GivesTo X Ng x sg g cdg bg a (X.env.qual ++ "<lambda>") TT) (TB : TabB X.base X.mg c P) (hcode : X.env.code = .ref c) (hmT : (P, X.env.qual ++ "<lambda>") ∈ T) (hu : ∀ p ∈ T, p.1 = P → p.2 = X.env.qual ++ "<lambda>") (hr : Room (k + 2) X.A)
    (L : LamS X.env.scope scope) (hdef : defaultsOf params X.env = ([], [])) (hbind : ∀ (q : Str) (cl : List (Str × Addr)) (pm cv ctv : Value), bindArgs (PySem.W.kla_fn "<lambda>" q params body scope cl pm cv ctv) ⟨[], []⟩ = pure [])
    (hbody : ∀ (A : Around) (outer : List Env) (s : Shared) (H : Hp) (E : XK) (f c' : Addr), Room k (A.deeper (lamEnv X scope s.heap.objs.size f c')) → PE (lamCx X A outer s H E scope f c') body (t E))
    (hdb : (x == ("__debug__" : Str)) = false := by decide) (hd : (a == ("__debug__" : Str)) = false := by decide) (hcd : (a == ("__classdict__" : Str)) = false := by decide) :
    PE X (.Call (.Name x p) [.Lambda params body scope lpos] [] pos) (tLam T TT t) := by
  obtain ⟨oc, od, dV, kV, doc, pm, an, cdv, ct, osl, rfl, lk, hcg, hD, hK⟩ := F.ex
  exact pe_lamcall hg hm F.kp lk hcg hb Sg hNg hva (hG cdv) TB hcode hmT hu hr L hdef hbind hbody hdb hd hcd
theorem passLam {X : Cx} {A : Around} {outer : List Env} {s : Shared} {H : Hp} {E : XK} {scope : Scope} {f c' : Addr} : Passes (L2.CX X.prog X.w) (lamCx X A outer s H E scope f c') E := passes_call (takes_of rfl rfl rfl rfl) fun _ _ _ _ h => h
theorem gLam {T : List (Addr × Str)} {TT : (XK → Hp → VK → Prop) → Hp → VK → Prop} {t : XK → TE} {σ : L2.St} {H : Hp} {Q : VK} (h : Tabs T H ∧ ∀ H1, ExtN H H1 → Tabs T H1 → TT (fun E H' Q' => t E σ H' Q') H1 Q) : tLam T TT t σ H Q := h
section
variable {G H : Hp} {x : Addr × HO} {E B O : Own}
theorem Sub.bFr0 (S : Sub G (E ++ (B ++ O)) H) : Sub G (B ++ (E ++ O)) H := S.perm (by
  rw [← List.append_assoc, ← List.append_assoc]
  exact List.perm_append_comm.append_right O)
theorem Sub.bBk0 (S : Sub G (B ++ (E ++ O)) H) : Sub G (E ++ (B ++ O)) H := Sub.bFr0 S
theorem Sub.bFr1 (S : Sub G (x :: (E ++ (B ++ O))) H) : Sub G (x :: (B ++ (E ++ O))) H := S.perm (by
  rw [← List.append_assoc, ← List.append_assoc]
  exact List.Perm.cons x (List.perm_append_comm.append_right O))
theorem Sub.bBk1 (S : Sub G (x :: (B ++ (E ++ O))) H) : Sub G (x :: (E ++ (B ++ O))) H := Sub.bFr1 S
end
theorem gSeqTB {t tr : TS} {D : Ends} {σ : L2.St} {H : Hp} (h : t { D with nx := tr D } σ H) : tSeq t tr D σ H := h
theorem gXf {a : Addr} {cls : Value} {d : Option Addr} {C : Addr} {f : Str} {te : TE} {σ : L2.St} {H : Hp} {Q : VK} (h : te σ H fun x H1 => x = .ref a ∧ cls = .ref C ∧ ∃ (dd : Addr) (fs : List (Str × V)) (v : V), d = some dd ∧ H1 dd = some (.xd fs) ∧ fs.lookup f = some v ∧ Q v H1) : tXf a cls d C f te σ H Q := h
theorem call_isG {X : Cx} {a D : Addr} {oe : Obj} {cls : Value} {d : Option Addr} {pn : List (Addr × Obj)} (C : ExcC X.K D) (hz : Zc cls d oe) (hf : ∃ vs, oe.data = .fields vs) : CallR (X.suite a ((a, oe) :: pn)) (.builtin "isinstance") (fun xs H Q => cls = .ref D ∧ rIsF X.K D a d xs H Q) := by
  intro pins s σ H xs us Q I r h
  obtain ⟨rfl, h⟩ := h
  exact call_isF C hz hf pins s σ H xs us Q I r h
theorem len2 {σ : L2.St} (h : σ.length = 2) : ∃ a b, σ = [a, b] := by
  match σ, h with
  | [a, b], _ => exact ⟨a, b, rfl⟩
theorem len3 {σ : L2.St} (h : σ.length = 3) : ∃ a b c, σ = [a, b, c] := by
  match σ, h with
  | [a, b, c], _ => exact ⟨a, b, c, rfl⟩
theorem len4 {σ : L2.St} (h : σ.length = 4) : ∃ a b c d, σ = [a, b, c, d] := by
  match σ, h with
  | [a, b, c, d], _ => exact ⟨a, b, c, d, rfl⟩
/-- the law's begin with tables -/
theorem lam_start {K : PySem.W.Frag} {H : Hp} {T : List (Addr × Str)} {a : Addr} {xs : List V} (h : SqL K H a xs) (hT : ∀ p ∈ T, H p.1 = some (.tbl #[])) (hK : ∀ p ∈ T, K.lookup p.1 = none) (nd : (T.map (·.1)).Nodup) :
    ∃ G, Sub G ((T.map fun p => (p.1, HO.tbl #[])) ++ []) H ∧ SqL K G a xs := by
  refine Sub.start h (fun p hp => ?_) (by rw [List.append_nil, List.map_map]; exact nd)
  rw [List.append_nil] at hp
  obtain ⟨q, hq, rfl⟩ := List.mem_map.mp hp
  refine ⟨hT q hq, fun e => ?_⟩
  have e : q.1 = a := e
  have h1 := hT q hq
  rw [e] at h1
  rcases h with (h | ⟨o, h⟩) | ⟨o, its, n, h, _⟩
  · rw [h1] at h; cases h
  · rw [h1] at h; cases h
  · have h2 := hK q hq
    rw [e, h] at h2; cases h2
/-! ### the head with tables -/
def AlE : Type := He.AlD × Bool
/-- all but the empty tables; the statics stay -/
def frS (g : Addr → Option Obj) (as : List Addr) : PySem.W.Frag := (He.frG g as).filter fun q => !He.emptyTab q.2 || q.1 == cStatics
theorem frS_mem {g : Addr → Option Obj} {as : List Addr} {a : Addr} {o : Obj} (h : (frS g as).lookup a = some o) : g a = some o ∧ (He.emptyTab o = false ∨ a = cStatics) := by
  obtain ⟨h1, h2⟩ := List.mem_filter.mp (He.lookup_mem h)
  refine ⟨He.frG_mem h1, ?_⟩
  rcases (Bool.or_eq_true ..).mp h2 with h | h
  · exact .inl (by simpa using h)
  · exact .inr (by simpa using h)
theorem frS_in {as : List Addr} {h : Heap} : (frS h.get? as).In h := fun _ _ e => (frS_mem e).1
theorem frS_none {g : Addr → Option Obj} {as : List Addr} {a : Addr} {o : Obj} (h : g a = some o) (ht : He.emptyTab o = true) (hc : a ≠ cStatics) : (frS g as).lookup a = none := by
  cases e : (frS g as).lookup a with
  | none => rfl
  | some u =>
    obtain ⟨h1, h2⟩ := frS_mem e
    rw [h] at h1
    cases h1
    rcases h2 with h2 | h2
    · rw [ht] at h2; cases h2
    · exact absurd h2 hc
def asS (g : Addr → Option Obj) (n : Nat) : List Addr := cStatics :: He.asD g n
def tabsS (g : Addr → Option Obj) (tf : List He.Defn) (K : PySem.W.Frag) : Bool := He.tabsB g tf K && tf.all fun p => decide ((He.cT K p).2 ≠ cStatics)
def obsEGT (n : Nat) (fa : List He.Fa) (fn : List He5.DefA) (ex : List FrT) (tf : List He.Defn) (g : Addr → Option Obj) : He.AlD × Bool := (obsE fa fn ex (frS g (asS g n)), tabsS g tf (frS g (asS g n)))
structure SaysET (fa : List He.Fa) (fn : List He5.DefA) (ex : List FrT) (tf : List He.Defn) (h : Heap) (K : PySem.W.Frag) : Prop where
  t : SaysE fa fn ex K
  hd : ∀ p ∈ tf, PySem.W.codeHdIn K (He.cT K p).1 (He.cT K p).2 = true
  out : ∀ p ∈ tf, K.lookup (He.cT K p).2 = none
  empty : ∀ p ∈ tf, h.get? (He.cT K p).2 = some { cls := .none, data := .fields #[] }
theorem saysET_of {n : Nat} {fa : List He.Fa} {fn : List He5.DefA} {ex : List FrT} {tf : List He.Defn} {h : Heap} (e : obsEGT n fa fn ex tf h.get? = (valE fn, true)) : SaysET fa fn ex tf h (frS h.get? (asS h.get? n)) := by
  have e1 : obsE fa fn ex (frS h.get? (asS h.get? n)) = valE fn := congrArg (·.1) e
  have e2 : tabsS h.get? tf (frS h.get? (asS h.get? n)) = true := congrArg (·.2) e
  have ky : ∀ p ∈ tf, PySem.W.codeHdIn (frS h.get? (asS h.get? n)) (He.cT (frS h.get? (asS h.get? n)) p).1 (He.cT (frS h.get? (asS h.get? n)) p).2 = true ∧ ∃ o, h.get? (He.cT (frS h.get? (asS h.get? n)) p).2 = some o ∧ He.emptyTab o = true ∧ (He.cT (frS h.get? (asS h.get? n)) p).2 ≠ cStatics := by
    intro p hp
    obtain ⟨e3, e4⟩ := He.ba e2
    obtain ⟨a1, a2⟩ := He.ba (List.all_eq_true.mp e3 p hp)
    refine ⟨a1, ?_⟩
    split at a2
    · rename_i o q; exact ⟨o, q, a2, of_decide_eq_true (List.all_eq_true.mp e4 p hp)⟩
    · cases a2
  exact ⟨e1, fun p hp => (ky p hp).1, fun p hp => let ⟨_, o, q, z, n⟩ := ky p hp; frS_none q z n, fun p hp => let ⟨_, o, q, z, n⟩ := ky p hp; by rw [q, He.emptyTab_eq z]⟩
def hookET (n : Nat) (fa : List He.Fa) (fn : List He5.DefA) (ex : List FrT) (tf : List He.Defn) : PySem.W.Hook where
  α := He.AlD × Bool
  obs := fun s => obsEGT n fa fn ex tf s.heap.get?
  val := fun _ => (valE fn, true)
  says := fun _ h => ∃ K : PySem.W.Frag, K.In h ∧ SaysET fa fn ex tf h K
  of := fun _ _ e => ⟨_, frS_in, saysET_of e⟩
  keeps := fun _ _ _ ⟨K, hK, c⟩ k => ⟨K, PySem.W.Frag.In.keeps hK k, ⟨c.t, c.hd, c.out, fun p hp => k _ _ (c.empty p hp)⟩⟩
theorem obsEGT_eq {n : Nat} {fa : List He.Fa} {fn : List He5.DefA} {ex : List FrT} {tf : List He.Defn} {g : Addr → Option Obj} {s : Shared} (h : ∀ a, g a = s.heap.get? a) : obsEGT n fa fn ex tf g = (hookET n fa fn ex tf).obs s := by
  have e : g = s.heap.get? := funext h
  rw [e] <;> rfl
end Mr

set_option linter.all false
set_option maxRecDepth 100000
set_option synthInstance.maxSize 4000
set_option synthInstance.maxHeartbeats 400000
namespace Mr
open PySem
inductive Wd where
  | top | opn | kept
  deriving DecidableEq
def e_Wd : Wd → Str
  | .top => Str.ofString "top"
  | .opn => Str.ofString "open"
  | .kept => Str.ofString "kept"
def all_Wd : List Wd := [.top, .opn, .kept]
inductive ExM where
  | BadStanding (standing : PyData)
def m_law_refused_er : ExM → Option (Option (List PyData))
  | .BadStanding x0 => some (some ([x0] : List PyData))
def m_law_refused {α : Type} (res : Rs ExM α) : Option (Option (List PyData)) := match res with
  | .ok _ => some (none : (Option (List PyData)))
  | .er x => m_law_refused_er x

def m_standings_b2 (length1 : Int) (x1 : Int) : ((List (Wd × Int × Int))) → Int → Option ((List (Wd × Int × Int))) := fun found7 x2 => Option.bind (if ((decide (x1 < length1)) || (decide (x2 > (0 : Int)))) then (Option.bind (appM found7 (Wd.kept, x1, x2)) fun found10 =>
  some found10)
  else (some found7)) fun found9 =>
  some found9
def m_standings_b1 (length1 : Int) : ((List (Wd × Int × Int))) → Int → Option ((List (Wd × Int × Int))) := fun found2 x1 => Option.bind (if (decide (x1 < length1)) then (Option.bind (appM found2 (Wd.opn, x1, (0 : Int))) fun found5 =>
  some found5)
  else (some found2)) fun found4 =>
  Option.bind (rngM x1) fun xs2 =>
  Option.bind (folM (m_standings_b2 length1 x1) xs2 found4) fun found6 =>
  some found6
def m_standings (length1 : Int) : Option (List (Wd × Int × Int)) :=
  Option.bind (rng2M (1 : Int) (length1 + (1 : Int))) fun xs1 =>
  Option.bind (folM (m_standings_b1 length1) xs1 ([(Wd.top, (0 : Int), (0 : Int))] : List (Wd × Int × Int))) fun found1 =>
  Option.bind (sortM (fun z : (Wd × Int × Int) => (PyData.tuple [(PyData.str (e_Wd z.1)), (PyData.int z.2.1), (PyData.int z.2.2)])) found1) fun srt1 =>
  some srt1

def m_is_number (thing1 : Int) : Option Bool :=
  some (true && (!false))

def m_is_number__1 (thing1 : Bool) : Option Bool :=
  some (true && (!true))

def m_is_number__2 (thing1 : PyData) : Option Bool :=
  Option.bind (Option.bind (isA "int" thing1) fun b2 =>
  if b2 then (Option.bind (isA "bool" thing1) fun b4 =>
  some (!b4)) else some false) fun x1 =>
  some x1

def m_checked_standing (length1 : Int) (thing1 : (Wd × Int × Int)) : Option (Rs ExM (Wd × Int × Int)) :=
  if ((!true) || (!decide ((3 : Int) = (3 : Int)))) then (Option.bind (fmtM (PyData.tuple [(PyData.str (e_Wd thing1.1)), (PyData.int thing1.2.1), (PyData.int thing1.2.2)])) fun u1 =>
  some (Rs.er (ExM.BadStanding (PyData.tuple [(PyData.str (e_Wd thing1.1)), (PyData.int thing1.2.1), (PyData.int thing1.2.2)]))))
  else (Option.bind (if (!true) then some true else (Option.bind (m_is_number thing1.2.1) fun r2 =>
  if (!r2) then some true else (Option.bind (m_is_number thing1.2.2) fun r4 =>
  some (!r4)))) fun x1 =>
  if x1 then (Option.bind (fmtM (PyData.tuple [(PyData.str (e_Wd thing1.1)), (PyData.int thing1.2.1), (PyData.int thing1.2.2)])) fun u2 =>
  some (Rs.er (ExM.BadStanding (PyData.tuple [(PyData.str (e_Wd thing1.1)), (PyData.int thing1.2.1), (PyData.int thing1.2.2)]))))
  else (Option.bind (m_standings length1) fun r9 =>
  if (!memB thing1 r9) then (Option.bind (fmtM (PyData.tuple [(PyData.str (e_Wd thing1.1)), (PyData.int thing1.2.1), (PyData.int thing1.2.2)])) fun u3 =>
  some (Rs.er (ExM.BadStanding (PyData.tuple [(PyData.str (e_Wd thing1.1)), (PyData.int thing1.2.1), (PyData.int thing1.2.2)]))))
  else (some (Rs.ok thing1))))
def Px.res (len : Int) (st : Wd × Int × Int) : Px := if st.2.2 > 0 then { Px.new len with es := [(false, st.2.1 - st.2.2)], nl := 1, high := st.2.1, bar := decide (st.1 = Wd.kept), gh := 1, unk := none } else { Px.new len with high := st.2.1, bar := decide (st.1 = Wd.kept) }
def Px.resumed (len : Int) (st : Wd × Int × Int) : Option Px := (okR (m_checked_standing len st)).bind fun r => some (Px.res len r)

def m_checked_standing__1 (length1 : Int) (thing1 : PyData) : Option (Rs ExM (Wd × Int × Int)) :=
  Option.bind (Option.bind (isA "tuple" thing1) fun b2 =>
  if (!b2) then some true else (Option.bind (lenA thing1) fun k1 =>
  some (!decide (k1 = (3 : Int))))) fun x1 =>
  if x1 then (Option.bind (fmtM thing1) fun u1 =>
  some (Rs.er (ExM.BadStanding thing1)))
  else (Option.bind (Option.bind (ixA thing1 (0 : Int)) fun x3 =>
  Option.bind (isA "str" x3) fun b7 =>
  if (!b7) then some true else (Option.bind (ixA thing1 (1 : Int)) fun x7 =>
  Option.bind (m_is_number__2 x7) fun r2 =>
  if (!r2) then some true else (Option.bind (ixA thing1 (2 : Int)) fun x11 =>
  Option.bind (m_is_number__2 x11) fun r4 =>
  some (!r4)))) fun x12 =>
  if x12 then (Option.bind (fmtM thing1) fun u2 =>
  some (Rs.er (ExM.BadStanding thing1)))
  else (Option.bind (m_standings length1) fun r9 =>
  Option.bind (inA thing1 (r9.map fun z => (PyData.tuple [(PyData.str (e_Wd z.1)), (PyData.int z.2.1), (PyData.int z.2.2)]))) fun b11 =>
  if (!b11) then (Option.bind (fmtM thing1) fun u3 =>
  some (Rs.er (ExM.BadStanding thing1)))
  else (Option.bind ((dec3 (decEn e_Wd all_Wd) decI decI) thing1) fun j1 =>
  some (Rs.ok j1))))

def m_next_line (length1 : Int) (standing1 : (Wd × Int × Int)) : Option (Bool × Int) :=
  if (decide (standing1.1 = Wd.top)) then (some (true, (0 : Int)))
  else (some (false, (if (decide (standing1.2.1 = length1)) then standing1.2.2 else standing1.2.1)))

def m_parting_blocks (length1 : Int) (one1 : (Wd × Int × Int)) (two1 : (Wd × Int × Int)) : Option (Rs ExM (Option (List (Int × Int × Bool × Bool)))) :=
  Option.bind (m_checked_standing length1 one1) fun rs => match rs with
  | Rs.er x => some (Rs.er x)
  | Rs.ok r1 => Option.bind (m_checked_standing length1 two1) fun rs => match rs with
  | Rs.er x => some (Rs.er x)
  | Rs.ok r2 => Option.bind (m_next_line length1 one1) fun r3 =>
  Option.bind (m_next_line length1 two1) fun r4 =>
  if (!decide (r4 = (r3.1, r3.2))) then (some (Rs.ok (some ([((1 : Int), (0 : Int), false, false)] : List (Int × Int × Bool × Bool)))))
  else (if ((decide (one1 = two1)) || ((memB one1 ([(Wd.kept, r3.2, (0 : Int)), (Wd.kept, length1, r3.2)] : List (Wd × Int × Int))) && (memB two1 ([(Wd.kept, r3.2, (0 : Int)), (Wd.kept, length1, r3.2)] : List (Wd × Int × Int))))) then (some (Rs.ok (none : (Option (List (Int × Int × Bool × Bool))))))
  else (Option.bind (repM ([((1 : Int), (0 : Int), true, false)] : List (Int × Int × Bool × Bool)) (length1 - r3.2)) fun z1 =>
  Option.bind (catM z1 ([((1 : Int), (0 : Int), false, false)] : List (Int × Int × Bool × Bool))) fun z2 =>
  some (Rs.ok (some z2))))

def m_parting_blocks__1 (length1 : Int) (one1 : PyData) (two1 : Unit) : Option (Rs ExM (Option (List (Int × Int × Bool × Bool)))) :=
  Option.bind (m_checked_standing__1 length1 one1) fun rs => match rs with
  | Rs.er x => some (Rs.er x)
  | Rs.ok r1 => none

def m_parting_blocks__2 (length1 : Int) (one1 : (Wd × Int × Int)) (two1 : PyData) : Option (Rs ExM (Option (List (Int × Int × Bool × Bool)))) :=
  Option.bind (m_checked_standing length1 one1) fun rs => match rs with
  | Rs.er x => some (Rs.er x)
  | Rs.ok r1 => Option.bind (m_checked_standing__1 length1 two1) fun rs => match rs with
  | Rs.er x => some (Rs.er x)
  | Rs.ok r2 => none

def m_law_bag_b1 : (Int) → (Int × Int) → Option (Int) := fun s x => match s, x with
  | mixed2, (k3, x4) => some ((((mixed2 * (16807 : Int)) + (x4 % (2147483629 : Int))) + ((13 : Int) * k3)) % (2147483647 : Int))
def m_law_bag (script1 : (List Int)) (at1 : Int) : Option (List Int) :=
  Option.bind (if (decide (at1 < (script1.length : Int))) then (Option.bind (getM script1 at1) fun x1 =>
  some (if x1 < 0 then -x1 else x1)) else (some (0 : Int))) fun x2 =>
  Option.bind (folM (m_law_bag_b1) (enumM (cutM script1 none (some (63 : Int)))) ((1009 : Int) + ((77 : Int) * at1))) fun mixed1 =>
  some ([(if (decide (x2 ≥ ((10 : Int) ^ (18 : Int).toNat))) then x2 else (0 : Int)), mixed1, (0 : Int)] : List Int)

def m_law_draw (bag_here1 : (List Int)) (many1 : Int) : Option (Int × (List Int)) :=
  Option.bind (getM bag_here1 (0 : Int)) fun x1 =>
  if (decide (x1 > (0 : Int))) then (Option.bind (getM bag_here1 (0 : Int)) fun x2 =>
  Option.bind (modM x2 many1) fun x3 =>
  Option.bind (getM bag_here1 (0 : Int)) fun x4 =>
  Option.bind (fdivM x4 many1) fun x5 =>
  Option.bind (setM bag_here1 (0 : Int) x5) fun bag_here2 =>
  some (x3, bag_here2))
  else (Option.bind (getM bag_here1 (2 : Int)) fun x6 =>
  Option.bind (setM bag_here1 (2 : Int) (x6 + (1 : Int))) fun bag_here3 =>
  Option.bind (getM bag_here3 (1 : Int)) fun x7 =>
  Option.bind (getM bag_here3 (2 : Int)) fun x8 =>
  Option.bind (setM bag_here3 (1 : Int) ((((x7 * (48271 : Int)) + ((11 : Int) * x8)) + (7 : Int)) % (2147483647 : Int))) fun bag_here4 =>
  Option.bind (getM bag_here4 (1 : Int)) fun x9 =>
  Option.bind (getM bag_here4 (2 : Int)) fun x10 =>
  Option.bind (modM ((((x9 * (69621 : Int)) + ((4099 : Int) * x10)) % (2147483629 : Int)) / (128 : Int)) many1) fun x11 =>
  some (x11, bag_here4))

def m_law_number (thing1 : Int) : Option Bool :=
  some (true && (!false))

def m_law_lines_b2 (barred2 : Bool) (due2 : Bool) (x1 : (Int × Int × Bool × Bool)) : ((List (Int × Bool × Bool))) → Int → Option ((List (Int × Bool × Bool))) := fun lines_here4 x2 => Option.bind (if (decide (x2 = (0 : Int))) then (some (x1.2.1, barred2, (due2 || x1.2.2.2))) else (some ((0 : Int), (decide (x2 ∈ ([(1 : Int), (x1.1 - (1 : Int))] : List Int))), false))) fun x3 =>
  Option.bind (appM lines_here4 x3) fun lines_here5 =>
  some lines_here5
def m_law_lines_b1 : ((List (Int × Bool × Bool)) × Bool × Bool) → (Int × Int × Bool × Bool) → Option ((List (Int × Bool × Bool)) × Bool × Bool) := fun s x1 => match s with
  | (lines_here2, barred2, due2) => Option.bind (rngM x1.1) fun xs1 =>
  Option.bind (folM (m_law_lines_b2 barred2 due2 x1) xs1 lines_here2) fun lines_here3 =>
  some (lines_here3, (if (decide (x1.1 > (0 : Int))) then x1.2.2.1 else barred2), ((due2 || x1.2.2.2) && (decide (x1.1 = (0 : Int)))))
def m_law_lines (blocks1 : (List (Int × Int × Bool × Bool))) : Option ((List (Int × Bool × Bool)) × Bool × Bool) :=
  Option.bind (folM (m_law_lines_b1) blocks1 (([] : List (Int × Bool × Bool)), false, true)) fun (lines_here1, barred1, due1) =>
  some (lines_here1, barred1, due1)

def m_law_cut_c2 (lines_here1 : (List (Int × Bool × Bool))) : ((List Int)) → Int → Option ((List Int)) := fun acc2 x7 => Option.bind (getM lines_here1 x7) fun x9 =>
  if (!x9.2.1) then (Option.bind (appM acc2 x7) fun acc3 =>
  some acc3)
  else (some acc2)
def m_law_cut_b1 (length_here1 : Int) (lines_here1 : (List (Int × Bool × Bool))) (start1 : Int) : (Int) → Int → Option (Bf (Int) Int) := fun row2 x1 => Option.bind (getM lines_here1 x1) fun x2 =>
  Option.bind (getM lines_here1 x1) fun x4 =>
  if x4.2.2 then (some (Bf.rt x1))
  else (if (decide (((row2 + x2.1) + (1 : Int)) ≥ length_here1)) then (Option.bind (rng2M (start1 + (1 : Int)) (x1 + (1 : Int))) fun xs2 =>
  Option.bind (folM (m_law_cut_c2 lines_here1) xs2 ([] : (List Int))) fun acc1 =>
  Option.bind (if (!decide (acc1 = ([] : (List Int)))) then (Option.bind (getM acc1 (-(1 : Int))) fun x10 =>
  some x10) else (some x1)) fun x11 =>
  some (Bf.rt x11))
  else (some (Bf.go ((row2 + x2.1) + (1 : Int)))))
def m_law_cut (length_here1 : Int) (lines_here1 : (List (Int × Bool × Bool))) (start1 : Int) : Option Int :=
  Option.bind (rng2M (start1 + (1 : Int)) (lines_here1.length : Int)) fun xs1 =>
  Option.bind (forL (m_law_cut_b1 length_here1 lines_here1 start1) xs1 (0 : Int)) fun res => match res with
  | Fl.rt r => some r
  | Fl.nx row1 => some (lines_here1.length : Int)

def m_law_pages_b1 (length_here1 : Int) (lines_here1 : (List (Int × Bool × Bool))) : ((List (Bool × Int)) × Int) → Int → Option ((List (Bool × Int)) × Int) := fun s x1 => match s with
  | (rows2, start2) => Option.bind (if (decide (x1 = start2)) then (Option.bind (appM rows2 (true, (0 : Int))) fun rows6 =>
  Option.bind (m_law_cut length_here1 lines_here1 x1) fun r2 =>
  some (rows6, r2))
  else (Option.bind (getM rows2 (-(1 : Int))) fun x4 =>
  Option.bind (getM lines_here1 x1) fun x5 =>
  Option.bind (appM rows2 (false, ((x4.2 + x5.1) + (1 : Int)))) fun rows7 =>
  some (rows7, start2))) fun (rows5, start3) =>
  some (rows5, start3)
def m_law_pages (length_here1 : Int) (lines_here1 : (List (Int × Bool × Bool))) : Option (List (Bool × Int)) :=
  Option.bind (rngM (lines_here1.length : Int)) fun xs1 =>
  Option.bind (folM (m_law_pages_b1 length_here1 lines_here1) xs1 (([] : List (Bool × Int)), (0 : Int))) fun (rows1, start1) =>
  some rows1

def m_law_standings_c2 (length_here1 : Int) (x1 : Int) : ((List (Wd × Int × Int))) → Int → Option ((List (Wd × Int × Int))) := fun acc2 x2 => if ((decide (x1 < length_here1)) || (decide (x2 > (0 : Int)))) then (Option.bind (appM acc2 (Wd.kept, x1, x2)) fun acc3 =>
  some acc3)
  else (some acc2)
def m_law_standings_b1 (length_here1 : Int) : ((List (Wd × Int × Int))) → Int → Option ((List (Wd × Int × Int))) := fun found2 x1 => Option.bind (rngM x1) fun xs2 =>
  Option.bind (folM (m_law_standings_c2 length_here1 x1) xs2 ([] : (List (Wd × Int × Int)))) fun acc1 =>
  Option.bind (catM found2 acc1) fun z1 =>
  some z1
def m_law_standings_c3 : ((List (Wd × Int × Int))) → Int → Option ((List (Wd × Int × Int))) := fun acc5 x3 => Option.bind (appM acc5 (Wd.opn, x3, (0 : Int))) fun acc6 =>
  some acc6
def m_law_standings (length_here1 : Int) : Option (List (Wd × Int × Int)) :=
  Option.bind (rng2M (1 : Int) (length_here1 + (1 : Int))) fun xs1 =>
  Option.bind (folM (m_law_standings_b1 length_here1) xs1 ([] : List (Wd × Int × Int))) fun found1 =>
  Option.bind (rng2M (1 : Int) length_here1) fun xs3 =>
  Option.bind (folM (m_law_standings_c3) xs3 ([] : (List (Wd × Int × Int)))) fun acc4 =>
  Option.bind (catM found1 acc4) fun z2 =>
  Option.bind (catM z2 ([(Wd.top, (0 : Int), (0 : Int))] : List (Wd × Int × Int))) fun z3 =>
  some z3

def m_law_lead (standing_here1 : (Wd × Int × Int)) : Option (List (Int × Int × Bool × Bool)) :=
  if (!decide (standing_here1.1 = Wd.kept)) then (Option.bind (repM ([((1 : Int), (0 : Int), false, false)] : List (Int × Int × Bool × Bool)) standing_here1.2.1) fun z1 =>
  some z1)
  else (if (decide (standing_here1.2.2 = (0 : Int))) then (Option.bind (repM ([((1 : Int), (0 : Int), true, false)] : List (Int × Int × Bool × Bool)) standing_here1.2.1) fun z2 =>
  some z2)
  else (Option.bind (repM ([((1 : Int), (0 : Int), false, false)] : List (Int × Int × Bool × Bool)) (standing_here1.2.1 - standing_here1.2.2)) fun z3 =>
  Option.bind (repM ([((1 : Int), (0 : Int), true, false)] : List (Int × Int × Bool × Bool)) standing_here1.2.2) fun z4 =>
  Option.bind (catM z3 z4) fun z5 =>
  some z5))

def m_law_block (bag_here1 : (List Int)) (most1 : Int) : Option ((Int × Int × Bool × Bool) × (List Int)) :=
  Option.bind (Option.bind (m_law_draw bag_here1 (4 : Int)) fun (r1, bag_here2) =>
  if (decide (r1 = (3 : Int))) then (Option.bind (m_law_draw bag_here2 (most1 + (1 : Int))) fun (r2, bag_here3) =>
  some (r2, bag_here3)) else (Option.bind (m_law_draw bag_here2 (5 : Int)) fun (r3, bag_here4) =>
  some (r3, bag_here4))) fun (x1, bag_here5) =>
  Option.bind (m_law_draw bag_here5 (3 : Int)) fun (r7, bag_here9) =>
  Option.bind (m_law_draw bag_here9 (2 : Int)) fun (r8, bag_here10) =>
  Option.bind (m_law_draw bag_here10 (8 : Int)) fun (r9, bag_here11) =>
  some ((x1, r7, (decide (r8 = (1 : Int))), (decide (r9 = (7 : Int)))), bag_here11)

def m_law_length (bag_here1 : (List Int)) : Option (Int × (List Int)) :=
  Option.bind (Option.bind (m_law_draw bag_here1 (4 : Int)) fun (r1, bag_here2) =>
  if (decide (r1 = (3 : Int))) then (Option.bind (m_law_draw bag_here2 (8 : Int)) fun (r2, bag_here3) =>
  some (r2, bag_here3)) else (Option.bind (m_law_draw bag_here2 (3 : Int)) fun (r3, bag_here4) =>
  some (r3, bag_here4))) fun (x1, bag_here5) =>
  some (((2 : Int) + x1), bag_here5)

def m_law_odd (bag_here1 : (List Int)) (length_here1 : Int) : Option (PyData × (List Int)) :=
  Option.bind (m_law_draw bag_here1 ((10 : Int) ^ (20 : Int).toNat)) fun (r1, bag_here2) =>
  Option.bind (catM ([PyData.none, (PyData.int (0 : Int)), (PyData.str (Str.ofString "top")), (PyData.tuple ([] : List PyData)), (PyData.tuple ([(PyData.str (Str.ofString "top"))] : List PyData)), (PyData.tuple ([(PyData.str (Str.ofString "top")), (PyData.int (0 : Int))] : List PyData)), (PyData.tuple ([(PyData.str (Str.ofString "top")), (PyData.int (0 : Int)), (PyData.int (0 : Int)), (PyData.int (0 : Int))] : List PyData)), (PyData.list ([(PyData.str (Str.ofString "top")), (PyData.int (0 : Int)), (PyData.int (0 : Int))] : List PyData)), (PyData.list ([(PyData.str (Str.ofString "open")), (PyData.int (1 : Int)), (PyData.int (0 : Int))] : List PyData)), (PyData.tuple ([(PyData.str (Str.ofString "top")), (PyData.int (0 : Int)), (PyData.int (1 : Int))] : List PyData))] : List PyData) ([(PyData.tuple ([(PyData.str (Str.ofString "top")), (PyData.bool false), (PyData.int (0 : Int))] : List PyData)), (PyData.tuple ([(PyData.str (Str.ofString "top")), (PyData.int (0 : Int)), (PyData.bool false)] : List PyData)), (PyData.tuple ([(PyData.str (Str.ofString "open")), (PyData.bool true), (PyData.int (0 : Int))] : List PyData)), (PyData.tuple ([(PyData.str (Str.ofString "open")), (PyData.int (1 : Int)), (PyData.bool false)] : List PyData)), (PyData.tuple ([(PyData.str (Str.ofString "kept")), (PyData.bool true), (PyData.int (0 : Int))] : List PyData))] : List PyData)) fun z1 =>
  Option.bind (catM z1 ([(PyData.tuple ([(PyData.str (Str.ofString "open")), (PyData.int (0 : Int)), (PyData.int (0 : Int))] : List PyData)), (PyData.tuple ([(PyData.str (Str.ofString "open")), (PyData.int (1 : Int)), (PyData.int (1 : Int))] : List PyData)), (PyData.tuple ([(PyData.str (Str.ofString "open")), (PyData.int length_here1), (PyData.int (0 : Int))] : List PyData)), (PyData.tuple ([(PyData.str (Str.ofString "kept")), (PyData.int length_here1), (PyData.int (0 : Int))] : List PyData)), (PyData.tuple ([(PyData.str (Str.ofString "kept")), (PyData.int (0 : Int)), (PyData.int (0 : Int))] : List PyData))] : List PyData)) fun z2 =>
  Option.bind (catM z2 ([(PyData.tuple ([(PyData.str (Str.ofString "kept")), (PyData.int (1 : Int)), (PyData.int (1 : Int))] : List PyData)), (PyData.tuple ([(PyData.str (Str.ofString "kept")), (PyData.int (1 : Int)), (PyData.int (-(1 : Int)))] : List PyData)), (PyData.tuple ([(PyData.str (Str.ofString "kept")), (PyData.int length_here1), (PyData.int length_here1)] : List PyData)), (PyData.tuple ([(PyData.str (Str.ofString "kept")), (PyData.int (length_here1 + ((1 : Int) + r1))), (PyData.int (1 : Int))] : List PyData))] : List PyData)) fun z3 =>
  Option.bind (catM z3 ([(PyData.tuple ([(PyData.str (Str.ofString "open")), (PyData.int (length_here1 + ((1 : Int) + r1))), (PyData.int (0 : Int))] : List PyData)), (PyData.tuple ([(PyData.str (Str.ofString "open")), (PyData.int (-((1 : Int) + r1))), (PyData.int (0 : Int))] : List PyData)), (PyData.tuple ([(PyData.str (Str.ofString "Open")), (PyData.int (1 : Int)), (PyData.int (0 : Int))] : List PyData)), (PyData.tuple ([(PyData.str (Str.ofString "")), (PyData.int (1 : Int)), (PyData.int (0 : Int))] : List PyData)), (PyData.tuple ([(PyData.int (0 : Int)), (PyData.int (1 : Int)), (PyData.int (0 : Int))] : List PyData))] : List PyData)) fun z4 =>
  Option.bind (catM z4 ([(PyData.tuple ([(PyData.str (Str.ofString "kept")), (PyData.str (Str.ofString "1")), (PyData.int (0 : Int))] : List PyData)), (PyData.tuple ([(PyData.str (Str.ofString "kept")), (PyData.int (1 : Int)), PyData.none] : List PyData)), (PyData.tuple ([(PyData.tuple ([(PyData.str (Str.ofString "top")), (PyData.int (0 : Int)), (PyData.int (0 : Int))] : List PyData))] : List PyData)), (PyData.tuple ([(PyData.str (Str.ofString "kept")), (PyData.tuple ([(PyData.int (1 : Int)), (PyData.int (0 : Int))] : List PyData))] : List PyData)), (PyData.tuple ([(PyData.str (Str.ofString "top")), (PyData.int (1 : Int)), (PyData.int (0 : Int))] : List PyData))] : List PyData)) fun z5 =>
  Option.bind (m_law_draw bag_here2 (z5.length : Int)) fun (r2, bag_here3) =>
  Option.bind (getM z5 r2) fun x1 =>
  some (x1, bag_here3)

def m_law_behind (length_here1 : Int) (standing_here1 : (Wd × Int × Int)) (blocks1 : (List (Int × Int × Bool × Bool))) : Option (List (Bool × Int)) :=
  Option.bind (m_law_lead standing_here1) fun r1 =>
  Option.bind (catM r1 blocks1) fun z1 =>
  Option.bind (m_law_lines z1) fun r2 =>
  Option.bind (m_law_pages length_here1 r2.1) fun r3 =>
  Option.bind (m_law_lines r1) fun r4 =>
  some (cutM r3 (some (r4.1.length : Int)) none)

def m_law_resumed_b1 : (Px) → (Int × Int × Bool × Bool) → Option (Px) := fun page2 x1 => Option.bind (Px.block page2 x1.1 x1.2.1 x1.2.2.1 x1.2.2.2) fun pg2 =>
  some pg2
def m_law_resumed (length_here1 : Int) (standing_here1 : (Wd × Int × Int)) (blocks1 : (List (Int × Int × Bool × Bool))) : Option (List (Bool × Int)) :=
  Option.bind (Px.resumed length_here1 standing_here1) fun pg1 =>
  Option.bind (folM (m_law_resumed_b1) blocks1 pg1) fun page1 =>
  Option.bind (Px.fin page1) fun r1 =>
  some r1

def m_law_is_block (block_here1 : (Int × Int × Bool × Bool)) : Option Bool :=
  Option.bind (if (!true) then some true else (if (!decide ((4 : Int) = (4 : Int))) then some true else (Option.bind (m_law_number block_here1.1) fun r2 =>
  if (!r2) then some true else (Option.bind (m_law_number block_here1.2.1) fun r4 =>
  some (!r4))))) fun x1 =>
  if x1 then (some false)
  else (some (((decide ((0 : Int) ≤ block_here1.1)) && (decide (block_here1.1 ≤ (200 : Int)))) && (((decide ((0 : Int) ≤ block_here1.2.1)) && (decide (block_here1.2.1 ≤ (2 : Int)))) && (true && true))))

def m_law_right_c1 (length_here1 : Int) (one1 : (Wd × Int × Int)) (two1 : (Wd × Int × Int)) : ((List (Wd × Int × Int))) → Int → Option ((List (Wd × Int × Int))) := fun acc2 x1 => if (memB (Wd.kept, x1, (0 : Int)) ([one1, two1] : List (Wd × Int × Int))) then (Option.bind (appM acc2 (Wd.kept, length_here1, x1)) fun acc3 =>
  some acc3)
  else (some acc2)
def m_law_right_c2 (one1 : (Wd × Int × Int)) (two1 : (Wd × Int × Int)) : ((List (Wd × Int × Int))) → (Wd × Int × Int) → Option ((List (Wd × Int × Int))) := fun acc8 x4 => if (memB x4 ([one1, two1] : List (Wd × Int × Int))) then (Option.bind (appM acc8 x4) fun acc9 =>
  some acc9)
  else (some acc8)
def m_law_right_c3 (length_here1 : Int) (one1 : (Wd × Int × Int)) (two1 : (Wd × Int × Int)) : ((List (Wd × Int × Int))) → Int → Option ((List (Wd × Int × Int))) := fun acc11 x6 => if (memB (Wd.kept, x6, (0 : Int)) ([one1, two1] : List (Wd × Int × Int))) then (Option.bind (appM acc11 (Wd.kept, length_here1, x6)) fun acc12 =>
  some acc12)
  else (some acc11)
def m_law_right_c4 (one1 : (Wd × Int × Int)) (two1 : (Wd × Int × Int)) : ((List (Wd × Int × Int))) → (Wd × Int × Int) → Option ((List (Wd × Int × Int))) := fun acc17 x9 => if (memB x9 ([one1, two1] : List (Wd × Int × Int))) then (Option.bind (appM acc17 x9) fun acc18 =>
  some acc18)
  else (some acc17)
def m_law_right_c5 : ((List Bool)) → (Int × Int × Bool × Bool) → Option ((List Bool)) := fun acc41 x22 => Option.bind (m_law_is_block x22) fun r23 =>
  Option.bind (appM acc41 r23) fun acc42 =>
  some acc42
def m_law_right (length_here1 : Int) (one1 : (Wd × Int × Int)) (two1 : (Wd × Int × Int)) (blocks1 : (List (Int × Int × Bool × Bool))) : Option Bool :=
  Option.bind (okR (m_parting_blocks length_here1 one1 two1)) fun r1 =>
  match r1 with
  | none => (Option.bind (rng2M (1 : Int) length_here1) fun xs1 =>
  Option.bind (folM (m_law_right_c1 length_here1 one1 two1) xs1 ([] : (List (Wd × Int × Int)))) fun acc1 =>
  Option.bind (if (decide (one1 = two1)) then some true else (Option.bind (folM (m_law_right_c2 one1 two1) acc1 ([] : (List (Wd × Int × Int)))) fun acc4 =>
  some (!decide (acc4 = ([] : (List (Wd × Int × Int))))))) fun x3 =>
  if x3 then (Option.bind (Option.bind (m_law_resumed length_here1 one1 blocks1) fun r2 =>
  Option.bind (m_law_resumed length_here1 two1 blocks1) fun r3 =>
  some (!decide (r2 = r3))) fun x5 =>
  if x5 then (some false)
  else (Option.bind (m_law_behind length_here1 one1 blocks1) fun r6 =>
  Option.bind (m_law_behind length_here1 two1 blocks1) fun r7 =>
  some (decide (r6 = r7))))
  else (some false))
  | some told1 => (Option.bind (rng2M (1 : Int) length_here1) fun xs2 =>
  Option.bind (folM (m_law_right_c3 length_here1 one1 two1) xs2 ([] : (List (Wd × Int × Int)))) fun acc10 =>
  Option.bind (if (decide (one1 = two1)) then some true else (Option.bind (folM (m_law_right_c4 one1 two1) acc10 ([] : (List (Wd × Int × Int)))) fun acc13 =>
  some (!decide (acc13 = ([] : (List (Wd × Int × Int))))))) fun x8 =>
  if x8 then (some false)
  else (Option.bind (if (decide ((told1.length : Int) > (length_here1 + (1 : Int)))) then some true else (Option.bind (Option.bind (folM (m_law_right_c5) told1 ([] : (List Bool))) fun acc25 =>
  some (acc25.all id)) fun x14 =>
  some (!x14))) fun x16 =>
  if x16 then (some false)
  else (Option.bind (Option.bind (m_law_behind length_here1 one1 told1) fun r24 =>
  Option.bind (m_law_behind length_here1 two1 told1) fun r25 =>
  some (decide (r24 = r25))) fun x23 =>
  if x23 then (some false)
  else (Option.bind (appU told1) fun u1 =>
  Option.bind (okR (m_parting_blocks length_here1 two1 one1)) fun r28 =>
  match r28 with
  | none => (some false)
  | some again1 => (Option.bind (Option.bind (Option.bind (m_law_behind length_here1 one1 again1) fun r29 =>
  Option.bind (m_law_behind length_here1 two1 again1) fun r30 =>
  some (decide (r29 = r30))) fun x24 =>
  some x24) fun x25 =>
  if x25 then (some false)
  else (Option.bind (m_law_resumed length_here1 one1 told1) fun r37 =>
  Option.bind (m_law_resumed length_here1 two1 told1) fun r38 =>
  some (!decide (r37 = r38))))))))

def m_law_c2 : ((List Int) × (List (Int × Int × Bool × Bool))) → Int → Option ((List Int) × (List (Int × Int × Bool × Bool))) := fun s x4 => match s with
  | (bag_here5, acc2) => Option.bind (m_law_block bag_here5 (20 : Int)) fun (r17, bag_here6) =>
  Option.bind (appM acc2 r17) fun acc3 =>
  some (bag_here6, acc3)
def m_law_b1 (script1 : (List Int)) : (Unit) → Int → Option (Bf (Unit) Bool) := fun _ x1 => Option.bind (m_law_bag script1 x1) fun r1 =>
  Option.bind (m_law_length r1) fun (r2, r3) =>
  Option.bind (m_law_standings r2) fun r4 =>
  Option.bind (m_law_draw r3 (8 : Int)) fun (r5, r6) =>
  Option.bind (m_law_draw r6 (r4.length : Int)) fun (r7, r8) =>
  Option.bind (getM r4 r7) fun x2 =>
  Option.bind (m_law_draw r8 (r4.length : Int)) fun (r9, r10) =>
  Option.bind (getM r4 r9) fun x3 =>
  Option.bind (if (decide (r5 < (2 : Int))) then (Option.bind (m_law_draw r10 (r2 - (1 : Int))) fun (r13, r14) =>
  Option.bind (stpM ([(Wd.kept, r2, ((1 : Int) + r13)), (Wd.kept, ((1 : Int) + r13), (0 : Int))] : List (Wd × Int × Int)) ((1 : Int) - ((2 : Int) * r5))) fun z2 =>
  Option.bind (two2M z2) fun p2 =>
  some (r14, p2.1, p2.2))
  else (some (r10, (x2, x3).1, (x2, x3).2))) fun (bag_here1, one1, two1) =>
  Option.bind (if (decide (r5 = (2 : Int))) then (some one1)
  else (some two1)) fun two2 =>
  Option.bind (m_law_draw bag_here1 (9 : Int)) fun (r15, bag_here2) =>
  Option.bind (rngM r15) fun xs2 =>
  Option.bind (folM (m_law_c2) xs2 (bag_here2, ([] : (List (Int × Int × Bool × Bool))))) fun (bag_here4, acc1) =>
  Option.bind (m_law_right r2 one1 two2 acc1) fun r19 =>
  if (!r19) then (some (Bf.rt false))
  else (Option.bind (m_law_odd bag_here4 r2) fun (r20, bag_here7) =>
  Option.bind (m_parting_blocks__1 r2 r20 ()) fun rs1 =>
  Option.bind (m_law_refused rs1) fun told1 =>
  Option.bind (told1) fun j1 =>
  Option.bind (eqA (PyData.tuple j1) (PyData.tuple ([r20] : List PyData))) fun b2 =>
  if (!b2) then (some (Bf.rt false))
  else (Option.bind (m_parting_blocks__2 r2 one1 r20) fun rs2 =>
  Option.bind (m_law_refused rs2) fun told2 =>
  Option.bind (told2) fun j2 =>
  Option.bind (eqA (PyData.tuple j2) (PyData.tuple ([r20] : List PyData))) fun b3 =>
  if (!b3) then (some (Bf.rt false))
  else (some (Bf.go ()))))
def m_law (script1 : (List Int)) : Option Bool :=
  Option.bind (rngM (if (if (12 : Int) < (script1.length : Int) then (12 : Int) else (script1.length : Int)) > (1 : Int) then (if (12 : Int) < (script1.length : Int) then (12 : Int) else (script1.length : Int)) else (1 : Int))) fun xs1 =>
  Option.bind (forL (m_law_b1 script1) xs1 ()) fun res => match res with
  | Fl.rt r => some r
  | Fl.nx _ => some true
end Mr

set_option Elab.async false
set_option linter.all false
set_option maxRecDepth 100000
set_option maxHeartbeats 4000000
set_option synthInstance.maxSize 4000
set_option synthInstance.maxHeartbeats 400000
namespace Mr
open PySem PySem.Spec PyProof.Rows L2
def clsX (i : Nat) (s : Stmt) : Stmt := match s with
  | .ClassDef _ _ _ body _ _ _ _ _ _ _ => body.getD i (.Pass ⟨0, 0, 0, 0⟩)
  | s => s
def top (i : Nat) : Stmt := PySem.Challenge.pw_pressalike_k32_whole_standings_parted.main.body.getD i (.Pass ⟨0, 0, 0, 0⟩)
abbrev s_law_refused : Stmt := top 27
abbrev s_standings : Stmt := top 6
abbrev s_is_number : Stmt := top 7
abbrev s_checked_standing : Stmt := top 8
abbrev s_next_line : Stmt := top 10
abbrev s_parting_blocks : Stmt := top 11
abbrev s_law_bag : Stmt := top 15
abbrev s_law_draw : Stmt := top 16
abbrev s_law_number : Stmt := top 17
abbrev s_law_lines : Stmt := top 18
abbrev s_law_cut : Stmt := top 19
abbrev s_law_pages : Stmt := top 20
abbrev s_law_standings : Stmt := top 22
abbrev s_law_lead : Stmt := top 23
abbrev s_law_block : Stmt := top 24
abbrev s_law_length : Stmt := top 25
abbrev s_law_odd : Stmt := top 26
abbrev s_law_behind : Stmt := top 28
abbrev s_law_resumed : Stmt := top 29
abbrev s_law_is_block : Stmt := top 30
abbrev s_law_right : Stmt := top 31
abbrev s_law : Stmt := top 32
theorem e_Wd_inj : ∀ x y, e_Wd x = e_Wd y → x = y := by
  intro x y h
  cases x <;> cases y <;> first | rfl | (exfalso; revert h; decide +kernel)
theorem e_Wd_ok : ∀ x, PyData.strOk (e_Wd x) = true := by
  intro x
  cases x <;> decide +kernel
def s_x_BadStanding : Stmt := clsX 0 (top 3)
def exR (K : PySem.W.Frag) (G : Hp) (c : Value) (d : Option Addr) : ExM → Prop
  | .BadStanding x0 => c = .ref (He.ga K "BadStanding") ∧ ∃ dd v0, d = some dd ∧ G dd = some (.xd [("standing", v0)]) ∧ R.rel (rAny K) G v0 x0
structure Tx (K : PySem.W.Frag) (mg : Str → Option Value) where
  fd_law_refused : FuncData
  F_law_refused : FunD K "_law_refused" "_law_refused" (defArgs s_law_refused) (defBody s_law_refused) (defScope s_law_refused) [] [] (He.fAd K ("_law_refused", none)) fd_law_refused
  g_law_refused : mg "_law_refused" = some (.ref (He.fAd K ("_law_refused", none)))
  b_law_refused : Binds K fd_law_refused ["_law_ask"] []
  fd_standings : FuncData
  F_standings : FunD K "standings" "standings" (defArgs s_standings) (defBody s_standings) (defScope s_standings) [] [] (He.fAd K ("standings", none)) fd_standings
  g_standings : mg "standings" = some (.ref (He.fAd K ("standings", none)))
  b_standings : Binds K fd_standings ["length"] []
  fd_is_number : FuncData
  F_is_number : FunD K "is_number" "is_number" (defArgs s_is_number) (defBody s_is_number) (defScope s_is_number) [] [] (He.fAd K ("is_number", none)) fd_is_number
  g_is_number : mg "is_number" = some (.ref (He.fAd K ("is_number", none)))
  b_is_number : Binds K fd_is_number ["thing"] []
  fd_checked_standing : FuncData
  F_checked_standing : FunD K "checked_standing" "checked_standing" (defArgs s_checked_standing) (defBody s_checked_standing) (defScope s_checked_standing) [] [] (He.fAd K ("checked_standing", none)) fd_checked_standing
  g_checked_standing : mg "checked_standing" = some (.ref (He.fAd K ("checked_standing", none)))
  b_checked_standing : Binds K fd_checked_standing ["length", "thing"] []
  fd_next_line : FuncData
  F_next_line : FunD K "next_line" "next_line" (defArgs s_next_line) (defBody s_next_line) (defScope s_next_line) [] [] (He.fAd K ("next_line", none)) fd_next_line
  g_next_line : mg "next_line" = some (.ref (He.fAd K ("next_line", none)))
  b_next_line : Binds K fd_next_line ["length", "standing"] []
  fd_parting_blocks : FuncData
  F_parting_blocks : FunD K "parting_blocks" "parting_blocks" (defArgs s_parting_blocks) (defBody s_parting_blocks) (defScope s_parting_blocks) [] [] (He.fAd K ("parting_blocks", none)) fd_parting_blocks
  g_parting_blocks : mg "parting_blocks" = some (.ref (He.fAd K ("parting_blocks", none)))
  b_parting_blocks : Binds K fd_parting_blocks ["length", "one", "two"] []
  fd_law_bag : FuncData
  F_law_bag : FunD K "_law_bag" "_law_bag" (defArgs s_law_bag) (defBody s_law_bag) (defScope s_law_bag) [] [] (He.fAd K ("_law_bag", none)) fd_law_bag
  g_law_bag : mg "_law_bag" = some (.ref (He.fAd K ("_law_bag", none)))
  b_law_bag : Binds K fd_law_bag ["_law_script", "_law_at"] []
  fd_law_draw : FuncData
  F_law_draw : FunD K "_law_draw" "_law_draw" (defArgs s_law_draw) (defBody s_law_draw) (defScope s_law_draw) [] [] (He.fAd K ("_law_draw", none)) fd_law_draw
  g_law_draw : mg "_law_draw" = some (.ref (He.fAd K ("_law_draw", none)))
  b_law_draw : Binds K fd_law_draw ["_law_bag_here", "_law_many"] []
  fd_law_number : FuncData
  F_law_number : FunD K "_law_number" "_law_number" (defArgs s_law_number) (defBody s_law_number) (defScope s_law_number) [] [] (He.fAd K ("_law_number", none)) fd_law_number
  g_law_number : mg "_law_number" = some (.ref (He.fAd K ("_law_number", none)))
  b_law_number : Binds K fd_law_number ["_law_thing"] []
  fd_law_lines : FuncData
  F_law_lines : FunD K "_law_lines" "_law_lines" (defArgs s_law_lines) (defBody s_law_lines) (defScope s_law_lines) [] [] (He.fAd K ("_law_lines", none)) fd_law_lines
  g_law_lines : mg "_law_lines" = some (.ref (He.fAd K ("_law_lines", none)))
  b_law_lines : Binds K fd_law_lines ["_law_blocks"] []
  fd_law_cut : FuncData
  F_law_cut : FunD K "_law_cut" "_law_cut" (defArgs s_law_cut) (defBody s_law_cut) (defScope s_law_cut) [] [] (He.fAd K ("_law_cut", none)) fd_law_cut
  g_law_cut : mg "_law_cut" = some (.ref (He.fAd K ("_law_cut", none)))
  b_law_cut : Binds K fd_law_cut ["_law_length_here", "_law_lines_here", "_law_start"] []
  fd_law_pages : FuncData
  F_law_pages : FunD K "_law_pages" "_law_pages" (defArgs s_law_pages) (defBody s_law_pages) (defScope s_law_pages) [] [] (He.fAd K ("_law_pages", none)) fd_law_pages
  g_law_pages : mg "_law_pages" = some (.ref (He.fAd K ("_law_pages", none)))
  b_law_pages : Binds K fd_law_pages ["_law_length_here", "_law_lines_here"] []
  fd_law_standings : FuncData
  F_law_standings : FunD K "_law_standings" "_law_standings" (defArgs s_law_standings) (defBody s_law_standings) (defScope s_law_standings) [] [] (He.fAd K ("_law_standings", none)) fd_law_standings
  g_law_standings : mg "_law_standings" = some (.ref (He.fAd K ("_law_standings", none)))
  b_law_standings : Binds K fd_law_standings ["_law_length_here"] []
  fd_law_lead : FuncData
  F_law_lead : FunD K "_law_lead" "_law_lead" (defArgs s_law_lead) (defBody s_law_lead) (defScope s_law_lead) [] [] (He.fAd K ("_law_lead", none)) fd_law_lead
  g_law_lead : mg "_law_lead" = some (.ref (He.fAd K ("_law_lead", none)))
  b_law_lead : Binds K fd_law_lead ["_law_standing_here"] []
  fd_law_block : FuncData
  F_law_block : FunD K "_law_block" "_law_block" (defArgs s_law_block) (defBody s_law_block) (defScope s_law_block) [] [] (He.fAd K ("_law_block", none)) fd_law_block
  g_law_block : mg "_law_block" = some (.ref (He.fAd K ("_law_block", none)))
  b_law_block : Binds K fd_law_block ["_law_bag_here", "_law_most"] []
  fd_law_length : FuncData
  F_law_length : FunD K "_law_length" "_law_length" (defArgs s_law_length) (defBody s_law_length) (defScope s_law_length) [] [] (He.fAd K ("_law_length", none)) fd_law_length
  g_law_length : mg "_law_length" = some (.ref (He.fAd K ("_law_length", none)))
  b_law_length : Binds K fd_law_length ["_law_bag_here"] []
  fd_law_odd : FuncData
  F_law_odd : FunD K "_law_odd" "_law_odd" (defArgs s_law_odd) (defBody s_law_odd) (defScope s_law_odd) [] [] (He.fAd K ("_law_odd", none)) fd_law_odd
  g_law_odd : mg "_law_odd" = some (.ref (He.fAd K ("_law_odd", none)))
  b_law_odd : Binds K fd_law_odd ["_law_bag_here", "_law_length_here"] []
  fd_law_behind : FuncData
  F_law_behind : FunD K "_law_behind" "_law_behind" (defArgs s_law_behind) (defBody s_law_behind) (defScope s_law_behind) [] [] (He.fAd K ("_law_behind", none)) fd_law_behind
  g_law_behind : mg "_law_behind" = some (.ref (He.fAd K ("_law_behind", none)))
  b_law_behind : Binds K fd_law_behind ["_law_length_here", "_law_standing_here", "_law_blocks"] []
  fd_law_resumed : FuncData
  F_law_resumed : FunD K "_law_resumed" "_law_resumed" (defArgs s_law_resumed) (defBody s_law_resumed) (defScope s_law_resumed) [] [] (He.fAd K ("_law_resumed", none)) fd_law_resumed
  g_law_resumed : mg "_law_resumed" = some (.ref (He.fAd K ("_law_resumed", none)))
  b_law_resumed : Binds K fd_law_resumed ["_law_length_here", "_law_standing_here", "_law_blocks"] []
  fd_law_is_block : FuncData
  F_law_is_block : FunD K "_law_is_block" "_law_is_block" (defArgs s_law_is_block) (defBody s_law_is_block) (defScope s_law_is_block) [] [] (He.fAd K ("_law_is_block", none)) fd_law_is_block
  g_law_is_block : mg "_law_is_block" = some (.ref (He.fAd K ("_law_is_block", none)))
  b_law_is_block : Binds K fd_law_is_block ["_law_block_here"] []
  fd_law_right : FuncData
  F_law_right : FunD K "_law_right" "_law_right" (defArgs s_law_right) (defBody s_law_right) (defScope s_law_right) [] [] (He.fAd K ("_law_right", none)) fd_law_right
  g_law_right : mg "_law_right" = some (.ref (He.fAd K ("_law_right", none)))
  b_law_right : Binds K fd_law_right ["_law_length_here", "_law_one", "_law_two", "_law_blocks"] []
  fd_law : FuncData
  F_law : FunD K "law" "law" (defArgs s_law) (defBody s_law) (defScope s_law) [] [] (He.fAd K ("law", none)) fd_law
  g_law : mg "law" = some (.ref (He.fAd K ("law", none)))
  b_law : Binds K fd_law ["_law_script"] []
  z_abs : mg "abs" = none
  z_all : mg "all" = none
  z_bool : mg "bool" = none
  z_enumerate : mg "enumerate" = none
  z_int : mg "int" = none
  z_isinstance : mg "isinstance" = none
  z_len : mg "len" = none
  z_list : mg "list" = none
  z_max : mg "max" = none
  z_min : mg "min" = none
  z_range : mg "range" = none
  z_sorted : mg "sorted" = none
  z_str : mg "str" = none
  z_tuple : mg "tuple" = none
  c_TOP : mg "TOP" = some (.ref (He.ga K "TOP"))
  v_TOP : ∀ G : Hp, R.rel (rP3 K (rEn e_Wd) rInt rInt) G (V.ref (He.ga K "TOP")) (Wd.top, (0 : Int), (0 : Int))
  fdx_BadStanding : FuncData
  Fx_BadStanding : FunD K "__init__" "BadStanding.__init__" (defArgs s_x_BadStanding) (defBody s_x_BadStanding) (defScope s_x_BadStanding) [] [] (He.ma K (He.ga K "BadStanding") "__init__") fdx_BadStanding
  bx_BadStanding : Binds K fdx_BadStanding ["self", "standing"] []
  gx_BadStanding : mg "BadStanding" = some (.ref (He.ga K "BadStanding"))
  x_BadStanding : XcT K "BadStanding"
  nx_BadStanding_standing : PySem.W.findIn K (.ref (He.ga K "BadStanding")) "standing" = some none
  exm_BadStanding : PySem.W.exmOne K (.ref (He.ga K "BadStanding")) (.ref (He.ga K "BadStanding")) = some true
  gx_PressError : mg "PressError" = some (.ref (He.ga K "PressError"))
  ib_PressError : InitC K (He.ga K "PressError")
abbrev tfs : List He.Defn := [("law", none)]
abbrev tbs (K : PySem.W.Frag) : List (Addr × Str) := [((He.cT K ("law", none)).2, (("law" : Str) ++ ".<locals>.") ++ "<lambda>")]
abbrev Tbs (K : PySem.W.Frag) (mg : Str → Option Value) (base : Heap) : Prop := ∀ p ∈ tfs, LamX.TabB base mg (He.cT K p).1 (He.cT K p).2
def TO_law_refused (K : PySem.W.Frag) : (XK → Hp → VK → Prop) → Hp → VK → Prop := fun tl H Q => tl (fun cls d H' => ∃ (x : ExM) (G : Hp) (O : Own) (out : (Option (List PyData))), Sub G O H' ∧ exR K G cls d x ∧ m_law_refused_er x = some out ∧ ∀ (v : V) (G2 H2 : Hp), Ext G G2 → Sub G2 O H2 → R.rel (rO (rT K (rAny K))) G2 v out → Q v H2) H (fun _ H1 => Q V.non H1)
theorem gTO_law_refused {K : PySem.W.Frag} {tl : XK → Hp → VK → Prop} {H : Hp} {Q : VK} (h : tl (fun cls d H' => ∃ (x : ExM) (G : Hp) (O : Own) (out : (Option (List PyData))), Sub G O H' ∧ exR K G cls d x ∧ m_law_refused_er x = some out ∧ ∀ (v : V) (G2 H2 : Hp), Ext G G2 → Sub G2 O H2 → R.rel (rO (rT K (rAny K))) G2 v out → Q v H2) H (fun _ H1 => Q V.non H1)) : TO_law_refused K tl H Q := h
def sp_standings (K : PySem.W.Frag) : Sp := fun vs H Q _ => ∃ (G : Hp) (O : Own) (length1 : Int), vs = [(V.int length1)] ∧ Sub G (O) H ∧ ∃ res, m_standings length1 = some res ∧
  ∀ (p : Addr) (w : List V) (G' H' : Hp), Ext G G' → Sub G' ((p, HO.lst w) :: O) H' → Al (rP3 K (rEn e_Wd) rInt rInt) G' w res → Q (V.ref p) H'
def sp_is_number (K : PySem.W.Frag) : Sp := fun vs H Q _ => ∃ (G : Hp) (O : Own) (thing1 : Int), vs = [(V.int thing1)] ∧ Sub G (O) H ∧ ∃ res, m_is_number thing1 = some res ∧
  ∀ (G' H' : Hp), Ext G G' → Sub G' (O) H' → Q (V.bl res) H'
def sp_is_number__1 (K : PySem.W.Frag) : Sp := fun vs H Q _ => ∃ (G : Hp) (O : Own) (thing1 : Bool), vs = [(V.bl thing1)] ∧ Sub G (O) H ∧ ∃ res, m_is_number__1 thing1 = some res ∧
  ∀ (G' H' : Hp), Ext G G' → Sub G' (O) H' → Q (V.bl res) H'
def sp_is_number__2 (K : PySem.W.Frag) : Sp := fun vs H Q _ => ∃ (G : Hp) (O : Own) (v1 : V) (thing1 : PyData), vs = [v1] ∧ Sub G (O) H ∧ R.rel (rAny K) G v1 thing1 ∧ ∃ res, m_is_number__2 thing1 = some res ∧
  ∀ (G' H' : Hp), Ext G G' → Sub G' (O) H' → Q (V.bl res) H'
def sp_checked_standing (K : PySem.W.Frag) : Sp := fun vs H Q E => ∃ (G : Hp) (O : Own) (length1 : Int) (v1 : V) (thing1 : (Wd × Int × Int)), vs = [(V.int length1), v1] ∧ Sub G (O) H ∧ R.rel (rP3 K (rEn e_Wd) rInt rInt) G v1 thing1 ∧ ∃ res, m_checked_standing length1 thing1 = some res ∧
  (∀ r, res = Rs.ok r → ∀ (v : V) (G' H' : Hp), Ext G G' → Sub G' (O) H' → R.rel (rP3 K (rEn e_Wd) rInt rInt) G' v r → Q v H') ∧ ∀ x, res = Rs.er x → ∀ (c : Value) (d : Option Addr) (G' H' : Hp), Ext G G' → Sub G' (O) H' → exR K G' c d x → E c d H'
def sp_checked_standing__1 (K : PySem.W.Frag) : Sp := fun vs H Q E => ∃ (G : Hp) (O : Own) (length1 : Int) (v1 : V) (thing1 : PyData), vs = [(V.int length1), v1] ∧ Sub G (O) H ∧ R.rel (rAny K) G v1 thing1 ∧ ∃ res, m_checked_standing__1 length1 thing1 = some res ∧
  (∀ r, res = Rs.ok r → ∀ (v : V) (G' H' : Hp), Ext G G' → Sub G' (O) H' → R.rel (rP3 K (rEn e_Wd) rInt rInt) G' v r → Q v H') ∧ ∀ x, res = Rs.er x → ∀ (c : Value) (d : Option Addr) (G' H' : Hp), Ext G G' → Sub G' (O) H' → exR K G' c d x → E c d H'
def sp_next_line (K : PySem.W.Frag) : Sp := fun vs H Q _ => ∃ (G : Hp) (O : Own) (length1 : Int) (v1 : V) (standing1 : (Wd × Int × Int)), vs = [(V.int length1), v1] ∧ Sub G (O) H ∧ R.rel (rP3 K (rEn e_Wd) rInt rInt) G v1 standing1 ∧ ∃ res, m_next_line length1 standing1 = some res ∧
  ∀ (v : V) (G' H' : Hp), Ext G G' → Sub G' (O) H' → R.rel (rP2 K rBool rInt) G' v res → Q v H'
def sp_parting_blocks (K : PySem.W.Frag) : Sp := fun vs H Q E => ∃ (G : Hp) (O : Own) (length1 : Int) (v1 : V) (one1 : (Wd × Int × Int)) (v2 : V) (two1 : (Wd × Int × Int)), vs = [(V.int length1), v1, v2] ∧ Sub G (O) H ∧ R.rel (rP3 K (rEn e_Wd) rInt rInt) G v1 one1 ∧ R.rel (rP3 K (rEn e_Wd) rInt rInt) G v2 two1 ∧ ∃ res, m_parting_blocks length1 one1 two1 = some res ∧
  (∀ r, res = Rs.ok r → ∀ (B : Own) (v : V) (G' H' : Hp), Ext G G' → Sub G' (B ++ O) H' → OLR (rP4 K rInt rInt rBool rBool) G' B v r → Q v H') ∧ ∀ x, res = Rs.er x → ∀ (c : Value) (d : Option Addr) (G' H' : Hp), Ext G G' → Sub G' (O) H' → exR K G' c d x → E c d H'
def sp_parting_blocks__1 (K : PySem.W.Frag) : Sp := fun vs H Q E => ∃ (G : Hp) (O : Own) (length1 : Int) (v1 : V) (one1 : PyData) (two1 : Unit), vs = [(V.int length1), v1, V.non] ∧ Sub G (O) H ∧ R.rel (rAny K) G v1 one1 ∧ ∃ res, m_parting_blocks__1 length1 one1 two1 = some res ∧
  (∀ r, res = Rs.ok r → ∀ (v : V) (G' H' : Hp), Ext G G' → Sub G' (O) H' → R.rel (rO (rM (rP4 K rInt rInt rBool rBool))) G' v r → Q v H') ∧ ∀ x, res = Rs.er x → ∀ (c : Value) (d : Option Addr) (G' H' : Hp), Ext G G' → Sub G' (O) H' → exR K G' c d x → E c d H'
def sp_parting_blocks__2 (K : PySem.W.Frag) : Sp := fun vs H Q E => ∃ (G : Hp) (O : Own) (length1 : Int) (v1 : V) (one1 : (Wd × Int × Int)) (v2 : V) (two1 : PyData), vs = [(V.int length1), v1, v2] ∧ Sub G (O) H ∧ R.rel (rP3 K (rEn e_Wd) rInt rInt) G v1 one1 ∧ R.rel (rAny K) G v2 two1 ∧ ∃ res, m_parting_blocks__2 length1 one1 two1 = some res ∧
  (∀ r, res = Rs.ok r → ∀ (v : V) (G' H' : Hp), Ext G G' → Sub G' (O) H' → R.rel (rO (rM (rP4 K rInt rInt rBool rBool))) G' v r → Q v H') ∧ ∀ x, res = Rs.er x → ∀ (c : Value) (d : Option Addr) (G' H' : Hp), Ext G G' → Sub G' (O) H' → exR K G' c d x → E c d H'
def sp_law_bag (K : PySem.W.Frag) : Sp := fun vs H Q _ => ∃ (G : Hp) (O : Own) (v1 : V) (script1 : (List Int)) (at1 : Int), vs = [v1, (V.int at1)] ∧ Sub G (O) H ∧ R.rel (rL K rInt) G v1 script1 ∧ ∃ res, m_law_bag script1 at1 = some res ∧
  ∀ (p : Addr) (w : List V) (G' H' : Hp), Ext G G' → Sub G' ((p, HO.lst w) :: O) H' → Al rInt G' w res → Q (V.ref p) H'
def sp_law_draw (K : PySem.W.Frag) : Sp := fun vs H Q _ => ∃ (G : Hp) (O : Own) (a1 : Addr) (w1 : List V) (bag_here1 : List Int) (many1 : Int), vs = [V.ref a1, (V.int many1)] ∧ Sub G ((a1, HO.lst w1) :: O) H ∧ Al rInt G w1 bag_here1 ∧ ∃ res, m_law_draw bag_here1 many1 = some res ∧
  ∀ (G' H' : Hp) (w'0 : List V), Ext G G' → Sub G' ((a1, HO.lst w'0) :: O) H' → Al rInt G' w'0 res.2 → Q (V.int res.1) H'
def sp_law_number (K : PySem.W.Frag) : Sp := fun vs H Q _ => ∃ (G : Hp) (O : Own) (thing1 : Int), vs = [(V.int thing1)] ∧ Sub G (O) H ∧ ∃ res, m_law_number thing1 = some res ∧
  ∀ (G' H' : Hp), Ext G G' → Sub G' (O) H' → Q (V.bl res) H'
def sp_law_lines (K : PySem.W.Frag) : Sp := fun vs H Q _ => ∃ (G : Hp) (O : Own) (v1 : V) (blocks1 : (List (Int × Int × Bool × Bool))), vs = [v1] ∧ Sub G (O) H ∧ R.rel (rM (rP4 K rInt rInt rBool rBool)) G v1 blocks1 ∧ ∃ res, m_law_lines blocks1 = some res ∧
  ∀ (v : V) (G' H' : Hp), Ext G G' → Sub G' (O) H' → R.rel (rP3 K (rM (rP3 K rInt rBool rBool)) rBool rBool) G' v res → Q v H'
def sp_law_cut (K : PySem.W.Frag) : Sp := fun vs H Q _ => ∃ (G : Hp) (O : Own) (length_here1 : Int) (v1 : V) (lines_here1 : (List (Int × Bool × Bool))) (start1 : Int), vs = [(V.int length_here1), v1, (V.int start1)] ∧ Sub G (O) H ∧ R.rel (rM (rP3 K rInt rBool rBool)) G v1 lines_here1 ∧ ∃ res, m_law_cut length_here1 lines_here1 start1 = some res ∧
  ∀ (G' H' : Hp), Ext G G' → Sub G' (O) H' → Q (V.int res) H'
def sp_law_pages (K : PySem.W.Frag) : Sp := fun vs H Q _ => ∃ (G : Hp) (O : Own) (length_here1 : Int) (v1 : V) (lines_here1 : (List (Int × Bool × Bool))), vs = [(V.int length_here1), v1] ∧ Sub G (O) H ∧ R.rel (rM (rP3 K rInt rBool rBool)) G v1 lines_here1 ∧ ∃ res, m_law_pages length_here1 lines_here1 = some res ∧
  ∀ (v : V) (G' H' : Hp), Ext G G' → Sub G' (O) H' → R.rel (rM (rP2 K rBool rInt)) G' v res → Q v H'
def sp_law_standings (K : PySem.W.Frag) : Sp := fun vs H Q _ => ∃ (G : Hp) (O : Own) (length_here1 : Int), vs = [(V.int length_here1)] ∧ Sub G (O) H ∧ ∃ res, m_law_standings length_here1 = some res ∧
  ∀ (v : V) (G' H' : Hp), Ext G G' → Sub G' (O) H' → R.rel (rM (rP3 K (rEn e_Wd) rInt rInt)) G' v res → Q v H'
def sp_law_lead (K : PySem.W.Frag) : Sp := fun vs H Q _ => ∃ (G : Hp) (O : Own) (v1 : V) (standing_here1 : (Wd × Int × Int)), vs = [v1] ∧ Sub G (O) H ∧ R.rel (rP3 K (rEn e_Wd) rInt rInt) G v1 standing_here1 ∧ ∃ res, m_law_lead standing_here1 = some res ∧
  ∀ (v : V) (G' H' : Hp), Ext G G' → Sub G' (O) H' → R.rel (rM (rP4 K rInt rInt rBool rBool)) G' v res → Q v H'
def sp_law_block (K : PySem.W.Frag) : Sp := fun vs H Q _ => ∃ (G : Hp) (O : Own) (a1 : Addr) (w1 : List V) (bag_here1 : List Int) (most1 : Int), vs = [V.ref a1, (V.int most1)] ∧ Sub G ((a1, HO.lst w1) :: O) H ∧ Al rInt G w1 bag_here1 ∧ ∃ res, m_law_block bag_here1 most1 = some res ∧
  ∀ (v : V) (G' H' : Hp) (w'0 : List V), Ext G G' → Sub G' ((a1, HO.lst w'0) :: O) H' → R.rel (rP4 K rInt rInt rBool rBool) G' v res.1 → Al rInt G' w'0 res.2 → Q v H'
def sp_law_length (K : PySem.W.Frag) : Sp := fun vs H Q _ => ∃ (G : Hp) (O : Own) (a1 : Addr) (w1 : List V) (bag_here1 : List Int), vs = [V.ref a1] ∧ Sub G ((a1, HO.lst w1) :: O) H ∧ Al rInt G w1 bag_here1 ∧ ∃ res, m_law_length bag_here1 = some res ∧
  ∀ (G' H' : Hp) (w'0 : List V), Ext G G' → Sub G' ((a1, HO.lst w'0) :: O) H' → Al rInt G' w'0 res.2 → Q (V.int res.1) H'
def sp_law_odd (K : PySem.W.Frag) : Sp := fun vs H Q _ => ∃ (G : Hp) (O : Own) (a1 : Addr) (w1 : List V) (bag_here1 : List Int) (length_here1 : Int), vs = [V.ref a1, (V.int length_here1)] ∧ Sub G ((a1, HO.lst w1) :: O) H ∧ Al rInt G w1 bag_here1 ∧ ∃ res, m_law_odd bag_here1 length_here1 = some res ∧
  ∀ (v : V) (G' H' : Hp) (w'0 : List V), Ext G G' → Sub G' ((a1, HO.lst w'0) :: O) H' → R.rel (rAny K) G' v res.1 → Al rInt G' w'0 res.2 → Q v H'
def sp_law_behind (K : PySem.W.Frag) : Sp := fun vs H Q _ => ∃ (G : Hp) (O : Own) (length_here1 : Int) (v1 : V) (standing_here1 : (Wd × Int × Int)) (v2 : V) (blocks1 : (List (Int × Int × Bool × Bool))), vs = [(V.int length_here1), v1, v2] ∧ Sub G (O) H ∧ R.rel (rP3 K (rEn e_Wd) rInt rInt) G v1 standing_here1 ∧ R.rel (rM (rP4 K rInt rInt rBool rBool)) G v2 blocks1 ∧ ∃ res, m_law_behind length_here1 standing_here1 blocks1 = some res ∧
  ∀ (v : V) (G' H' : Hp), Ext G G' → Sub G' (O) H' → R.rel (rM (rP2 K rBool rInt)) G' v res → Q v H'
def sp_law_resumed (K : PySem.W.Frag) : Sp := fun vs H Q _ => ∃ (G : Hp) (O : Own) (length_here1 : Int) (v1 : V) (standing_here1 : (Wd × Int × Int)) (v2 : V) (blocks1 : (List (Int × Int × Bool × Bool))), vs = [(V.int length_here1), v1, v2] ∧ Sub G (O) H ∧ R.rel (rP3 K (rEn e_Wd) rInt rInt) G v1 standing_here1 ∧ R.rel (rM (rP4 K rInt rInt rBool rBool)) G v2 blocks1 ∧ ∃ res, m_law_resumed length_here1 standing_here1 blocks1 = some res ∧
  ∀ (v : V) (G' H' : Hp), Ext G G' → Sub G' (O) H' → R.rel (rM (rP2 K rBool rInt)) G' v res → Q v H'
def sp_law_is_block (K : PySem.W.Frag) : Sp := fun vs H Q _ => ∃ (G : Hp) (O : Own) (v1 : V) (block_here1 : (Int × Int × Bool × Bool)), vs = [v1] ∧ Sub G (O) H ∧ R.rel (rP4 K rInt rInt rBool rBool) G v1 block_here1 ∧ ∃ res, m_law_is_block block_here1 = some res ∧
  ∀ (G' H' : Hp), Ext G G' → Sub G' (O) H' → Q (V.bl res) H'
def sp_law_right (K : PySem.W.Frag) : Sp := fun vs H Q _ => ∃ (G : Hp) (O : Own) (length_here1 : Int) (v1 : V) (one1 : (Wd × Int × Int)) (v2 : V) (two1 : (Wd × Int × Int)) (v3 : V) (blocks1 : (List (Int × Int × Bool × Bool))), vs = [(V.int length_here1), v1, v2, v3] ∧ Sub G (O) H ∧ R.rel (rP3 K (rEn e_Wd) rInt rInt) G v1 one1 ∧ R.rel (rP3 K (rEn e_Wd) rInt rInt) G v2 two1 ∧ R.rel (rM (rP4 K rInt rInt rBool rBool)) G v3 blocks1 ∧ ∃ res, m_law_right length_here1 one1 two1 blocks1 = some res ∧
  ∀ (G' H' : Hp), Ext G G' → Sub G' (O) H' → Q (V.bl res) H'
def sp_law (K : PySem.W.Frag) : Sp := fun vs H Q _ => ∃ (G : Hp) (O : Own) (v1 : V) (script1 : (List Int)) (B1 : Own), vs = [v1] ∧ Sub G ((B1 ++ O)) H ∧ R.rel (rL K rInt) G v1 script1 ∧ TbR (tbs K) B1 G ∧ NoC O ∧ ∃ res, m_law script1 = some res ∧
  ∀ (G' H' : Hp) (w'0 : Own), Ext G G' → Sub G' ((w'0 ++ O)) H' → TbR (tbs K) w'0 G' → Q (V.bl res) H'
end Mr

set_option Elab.async false
set_option linter.all false
set_option maxRecDepth 100000
set_option maxHeartbeats 4000000
set_option synthInstance.maxSize 4000
set_option synthInstance.maxHeartbeats 400000
namespace Mr
open PySem PySem.Spec PyProof.Rows L2
section
variable {P : Program} {w : World} {K : PySem.W.Frag} {mg : Str → Option Value} {base : Heap}
theorem sc_x_BadStanding : FnScope ["self", "standing"] ["self", "standing"] (defScope s_x_BadStanding) := ⟨rfl, rfl, rfl, by decide +kernel, rfl, by decide +kernel, by decide +kernel⟩
theorem ok_x_BadStanding (T : Tx K mg) : FnOk P w K mg base CX0 1 (He.ma K (He.ga K "BadStanding") "__init__") T.fdx_BadStanding ["self", "standing"] (spX1 K (He.ga K "BadStanding") "standing") := by
  refine T.Fx_BadStanding.ok sc_x_BadStanding (fun vs H Q E h => ?_) (fun cdv A outer s H0 vs Q E hr h => ?_)
  · obtain ⟨a, v, d, rfl, _⟩ := h
    rfl
  · obtain ⟨a, v, d, rfl, ha, hd, hf, q⟩ := h
    refine ⟨_, PSs.nox (pss_cons (ps_expr (pe_oinit (by rfl) T.gx_PressError T.ib_PressError (pa_cons (pv 0) (pa_cons (pe_joined (.cons pe_str (.cons (pe_fmtD hr (pv 1)) .nil))) pa_nil)))) (pss_one (ps_ost (pv 0) (pv 1)))), ?_⟩
    refine gS_Drop ?_
    refine gVeI ?_
    refine gCons' ?_
    refine gV rfl ?_
    refine gCons' ?_
    have l0 : (Str.empty : Str).length ≤ 0 := by decide +kernel
    refine gJsC ?_
    refine gC ?_
    have j0 := js_len (b := Str.ofString "no standing: ") l0 (by decide +kernel : _ ≤ 100) (show 0 + 100 ≤ 100 by decide) (by decide)
    refine ⟨_, rfl, j0.2, ?_⟩
    have l1 := j0.1
    refine gJsC ?_
    refine gFmtD ?_
    refine gV rfl ?_
    refine ⟨d, hd, hf, fun m1 hm1 => ?_⟩
    have j1 := js_len l1 hm1 (show 100 + 1000000 ≤ 1000100 by decide) (by decide)
    refine ⟨m1, rfl, j1.2, ?_⟩
    have l2 := j1.1
    refine gJsN ?_
    refine gNil' ?_
    refine ⟨a, He.ga K "BadStanding", _, rfl, by simp, T.x_BadStanding.oex, ha, ?_⟩
    refine gOst ?_
    refine gV rfl ?_
    refine gV rfl ?_
    exact ⟨a, He.ga K "BadStanding", rfl, T.x_BadStanding.oex, T.nx_BadStanding_standing, .inl ⟨ha, fun dx n ne => q dx n ne⟩⟩
end
end Mr

set_option Elab.async false
set_option linter.all false
set_option maxRecDepth 100000
set_option maxHeartbeats 4000000
set_option synthInstance.maxSize 4000
set_option synthInstance.maxHeartbeats 400000
namespace Mr
open PySem PySem.Spec PyProof.Rows L2
section
variable {P : Program} {w : World} {K : PySem.W.Frag} {mg : Str → Option Value} {base : Heap}
theorem sc_law_refused : FnScope ["_law_ask", "e"] ["_law_ask"] (defScope s_law_refused) := ⟨rfl, rfl, rfl, by decide +kernel, rfl, by decide +kernel, by decide +kernel⟩
theorem gives_law_refused {X : Cx} (T : Tx X.K X.mg) (q : Str) (g : Addr) (cdg : Value) : LamX.GivesTo X ["_law_ask", "e"] "_law_refused" (defScope s_law_refused) g cdg (defBody s_law_refused) "_law_ask" q (TO_law_refused X.K) := by
  intro f c' s H Q tl act hc h
  refine ⟨_, pss_cons (ps_try_as (X := (cxOf C8.CX0 X.prog X.w X.K X.mg X.base ["_law_ask", "e"] "_law_refused" (defScope s_law_refused) g cdg X.A X.stack s H C8.E0).nox) (i := 1) (c := .ref (He.ga X.K "BadStanding")) (tb := fun W D σ H => ∃ Ech : XK, (∀ cls d σ' H', Ech cls d H' → σ'.length = (["_law_ask", "e"] : List Str).length → W cls d σ' H') ∧ σ[0]? = some (some (.ref f)) ∧ H c' = some (LamX.CodeO c' q) ∧ tl Ech H (fun _ H1 => D.nx σ H1)) rfl rfl sc_law_refused.nd rfl rfl ⟨(by rfl), by decide, .inl T.gx_BadStanding⟩ takes0
    (fun W pn xe tk _ => ⟨fun pins s' σ H' D I h' => ?_⟩) (fun a oe cls d pn hz hf => (pss_one (ps_ret (pe_tup (pa_cons (pe_xf T.x_BadStanding.xf T.nx_BadStanding_standing hz hf (pv 1)) pa_nil)))))) (pss_one (ps_ret pe_non)), ?_⟩
  · obtain ⟨Ech, hW, h1, h2, h3⟩ := h'
    exact (pss_one (ps_expr (act (fun cls d σ H => σ.length = (["_law_ask", "e"] : List Str).length → W cls d σ H) pn xe Ech _ _ (takes_len tk) hW))).run pins s' σ H' D I ⟨h1, h2, h3⟩
  · refine gSeqTB ?_
    refine ⟨_, ?_, rfl, hc, h⟩
    rintro cls d σ' H' ⟨x, G0, O, out, S0, hx, hm0, q⟩ hlen
    cases x with
    | BadStanding x0 =>
    obtain ⟨rfl, dd, v0, rfl, hdd, h0_⟩ := hx
    obtain ⟨y0, y1, rfl⟩ := len2 hlen
    refine ⟨true, T.exm_BadStanding, fun _ a ha => ?_, fun z => by cases z⟩
    have E0 := Ext.refl G0
    have hm0 : (some (some ([x0] : List PyData))) = some out := hm0
    refine gRet ?_
    refine gTup' ?_
    refine gCons' ?_
    refine gXf ?_
    refine gV rfl ?_
    refine ⟨rfl, rfl, dd, _, v0, rfl, S0.ext _ _ ((Ext.refl _) _ _ hdd), rfl, ?_⟩
    have h1 := R.up (Ext.refl _) h0_
    refine gNil' ?_
    have h2 : Al (rAny X.K) G0 [v0] ([x0] : List PyData) := ⟨h1, True.intro⟩
    refine q_tupN (K := X.K) S0 (by show 1 ≤ 100000; decide) h2 (fun v1 G1 H1 e1 S1 h3 => ?_)
    have E1 := E0.trans e1
    cases hm0
    exact q v1 G1 H1 E1 S1 (rO_some (nn_T h3) (show R.rel (rT X.K (rAny X.K)) G1 v1 ([x0] : List PyData) from h3))
end
end Mr

set_option Elab.async false
set_option linter.all false
set_option maxRecDepth 100000
set_option maxHeartbeats 4000000
set_option synthInstance.maxSize 4000
set_option synthInstance.maxHeartbeats 400000
namespace Mr
open PySem PySem.Spec PyProof.Rows L2
section
variable {P : Program} {w : World} {K : PySem.W.Frag} {mg : Str → Option Value} {base : Heap}
theorem sc_standings : FnScope ["length", "found", "high", "back"] ["length"] (defScope s_standings) := ⟨rfl, rfl, rfl, by decide +kernel, rfl, by decide +kernel, by decide +kernel⟩
theorem ok_standings (T : Tx K mg) : FnOk P w K mg base CX0 1 (He.fAd K ("standings", none)) T.fd_standings ["length"] (sp_standings K) := by
  refine T.F_standings.ok sc_standings (fun vs H Q E h => ?_) (fun cdv A outer s H0 vs Q E hr h => ?_)
  · obtain ⟨G, O, length1, rfl, _⟩ := h
    rfl
  · obtain ⟨G0, O, length1, rfl, S0, res, hm, q⟩ := h
    refine ⟨_, PSs.nox (pss_cons (ps_set (i := 1) sc_standings.nd rfl (.inl rfl) (pe_lst (pa_cons (pe_glob (v := V.ref (He.ga K "TOP")) (by rfl) T.c_TOP rfl) pa_nil)))
      (pss_cons (ps_cut (ps_for PassesOwn.never rfl (pi_range2 (by rfl) T.z_range (pa_cons pe_int (pa_cons (pe_op op_add (pv 0) pe_int) pa_nil))) (pg_name (i := 2) sc_standings.nd rfl (.inl rfl))
      (pss_cons (ps_cut (ps_if (pt_cmpR op_lt (pv 2) (pv 0) (nomark _)) (pss_one (ps_expr (pe_bm PySem.F.plainAttrs_list PySem.F.slot_list_append PySem.F.type_list_append mt_append (pv 1) (pa_cons (pe_tup (pa_cons pe_str (pa_cons (pv 2) (pa_cons pe_int pa_nil)))) pa_nil)))) pss_nil))
      (pss_one (ps_cut (ps_for PassesOwn.never rfl (pi_range1 (by rfl) T.z_range (pa_cons (pv 2) pa_nil)) (pg_name (i := 3) sc_standings.nd rfl (.inl rfl))
      (pss_one (ps_cut (ps_if (pt_cut (PW.pt (pw_or (pt_cmpR op_lt (pv 2) (pv 0) (nomark _)) (pw_or1 (pt_cmpR op_gt (pv 3) pe_int (nomark _)))))) (pss_one (ps_expr (pe_bm PySem.F.plainAttrs_list PySem.F.slot_list_append PySem.F.type_list_append mt_append (pv 1) (pa_cons (pe_tup (pa_cons pe_str (pa_cons (pv 2) (pa_cons (pv 3) pa_nil)))) pa_nil)))) pss_nil)))))))))
      (pss_one (ps_ret (pe_callB (call_sortD hr) (by rfl) T.z_sorted boot_sorted (pa_cons (pv 1) pa_nil)))))), ?_⟩
    have E0 := Ext.refl G0
    have hm0 : (Option.bind (rng2M (1 : Int) (length1 + (1 : Int))) fun xs1 =>
  Option.bind (folM (m_standings_b1 length1) xs1 ([(Wd.top, (0 : Int), (0 : Int))] : List (Wd × Int × Int))) fun found1 =>
  Option.bind (sortM (fun z : (Wd × Int × Int) => (PyData.tuple [(PyData.str (e_Wd z.1)), (PyData.int z.2.1), (PyData.int z.2.2)])) found1) fun srt1 =>
  some srt1) = some res := hm
    refine gS_AsgN ?_
    refine gLst ?_
    refine gCons' ?_
    refine gC ?_
    refine gNil' ?_
    have h1 : Al (rP3 K (rEn e_Wd) rInt rInt) G0 [(V.ref (He.ga K "TOP"))] [(Wd.top, (0 : Int), (0 : Int))] := ⟨(T.v_TOP G0), True.intro⟩
    refine q_lst S0 h1 (by show 1 ≤ 100000; decide) (fun a1 H1 w1 S1 h2 => ?_)
    obtain ⟨xs1, hq1, hm1⟩ := bindS hm0
    obtain ⟨found1, hl1, hm2⟩ := bindS hm1
    refine gS_CS (fun (σ : L2.St) (H : Hp) => ∃ (G : Hp) (w2 : List V) (y1 : Option V) (y2 : Option V), Ext G0 G ∧ Sub G ((a1, HO.lst w2) :: O) H ∧ σ = [some (V.int length1), some (V.ref a1), y1, y2] ∧ Al (rP3 K (rEn e_Wd) rInt rInt) G w2 found1) ?_ ?_
    · skip
      refine gFor ?_
      refine gIR2 ?_
      refine gCons' ?_
      refine gC ?_
      refine gCons' ?_
      refine gOp ?_
      refine gV rfl ?_
      refine gC ?_
      refine ⟨_, _, rfl, rfl, ?_⟩
      refine gNil' ?_
      refine lp_R2 hq1 (fol_for Empty hl1) (fun (s : (List (Wd × Int × Int))) (σ : L2.St) (H : Hp) => ∃ (G : Hp) (w2 : List V) (y1 : Option V) (y2 : Option V), Ext G0 G ∧ Sub G ((a1, HO.lst w2) :: O) H ∧ σ = [some (V.int length1), some (V.ref a1), y1, y2] ∧ Al (rP3 K (rEn e_Wd) rInt rInt) G w2 s) ⟨G0, w1, _, _, (Ext.refl _), S1, rfl, h2⟩ ?_ ?_
      · intro i1 x1 found2 b1 hb1 hr1 σ1 H2 hI1
        obtain ⟨s2, hb2, hb3⟩ := goF_some hb1
        subst hb3
        obtain ⟨G1, w3, y3, y4, e1, S2, rfl, h4⟩ := hI1
        have E1 := E0.trans e1
        have hm3 : (Option.bind (if (decide (x1 < length1)) then (Option.bind (appM found2 (Wd.opn, x1, (0 : Int))) fun found5 =>   some found5)   else (some found2)) fun found4 =>   Option.bind (rngM x1) fun xs2 =>   Option.bind (folM (m_standings_b2 length1 x1) xs2 found4) fun found6 =>   some found6) = some s2 := hb2
        obtain ⟨found4, hq3, hm5⟩ := bindS hm3
        refine gS_CS (fun (σ : L2.St) (H : Hp) => ∃ (G : Hp) (w5 : List V) (y5 : Option V), Ext G1 G ∧ Sub G ((a1, HO.lst w5) :: O) H ∧ σ = [some (V.int length1), some (V.ref a1), some (V.int x1), y5] ∧ Al (rP3 K (rEn e_Wd) rInt rInt) G w5 found4) ?_ ?_
        · skip
          refine gIfS ?_
          refine gTest ?_
          refine gOp ?_
          refine gV rfl ?_
          refine gV rfl ?_
          refine ⟨_, _, rfl, rfl, ?_⟩
          refine ⟨(decide (x1 < length1)), rfl, ?_⟩
          refine ite2 (fun c1 => ?_) (fun c1 => ?_)
          · skip
            have hm6 := (if_pos c1).symm.trans hq3
            refine gDrop ?_
            refine gBM ?_
            refine gV rfl ?_
            refine ⟨.inl ⟨rfl, _, .inl (.inl S2.head)⟩, ?_⟩
            refine gCons' ?_
            refine gTup' ?_
            refine gCons' ?_
            refine gC ?_
            refine gCons' ?_
            refine gV rfl ?_
            refine gCons' ?_
            refine gC ?_
            refine gNil' ?_
            refine q_tup3 (K := K) S2 (show R.rel (rEn e_Wd) G1 (V.str (e_Wd Wd.opn)) Wd.opn from rfl) (show R.rel rInt G1 (V.int x1) x1 from rfl) (show R.rel rInt G1 (V.int (0 : Int)) (0 : Int) from rfl) (fun v3 G3 H5 e3 S5 h8 => ?_)
            have h9 := Al.up e3 h4
            have E3 := E1.trans e3
            refine gNil' ?_
            obtain ⟨found5, hq4, hm7⟩ := bindS hm6
            refine q_app S5 h9 (show R.rel (rP3 K (rEn e_Wd) rInt rInt) G3 v3 (Wd.opn, x1, (0 : Int)) from h8) hq4 (fun H6 w6 S6 h10 => ?_)
            cases hm7
            exact ⟨G3, w6, _, e3, S6, rfl, h10⟩
          · skip
            have hm8 := (if_neg c1).symm.trans hq3
            refine gNext ?_
            cases hm8
            exact ⟨G1, w3, _, (Ext.refl _), S2, rfl, h4⟩
        · intro σ2 H7 hJ1
          obtain ⟨G4, w7, y6, e4, S7, rfl, h11⟩ := hJ1
          have E4 := E1.trans e4
          obtain ⟨xs2, hq5, hm9⟩ := bindS hm5
          obtain ⟨found6, hl2, hm10⟩ := bindS hm9
          refine gCS (fun (σ : L2.St) (H : Hp) => ∃ (G : Hp) (w8 : List V) (y7 : Option V), Ext G4 G ∧ Sub G ((a1, HO.lst w8) :: O) H ∧ σ = [some (V.int length1), some (V.ref a1), some (V.int x1), y7] ∧ Al (rP3 K (rEn e_Wd) rInt rInt) G w8 found6) ?_ ?_
          · skip
            refine gFor ?_
            refine gIR ?_
            refine gCons' ?_
            refine gV rfl ?_
            refine gNil' ?_
            refine lp_R hq5 (fol_for Empty hl2) (fun (s : (List (Wd × Int × Int))) (σ : L2.St) (H : Hp) => ∃ (G : Hp) (w8 : List V) (y7 : Option V), Ext G4 G ∧ Sub G ((a1, HO.lst w8) :: O) H ∧ σ = [some (V.int length1), some (V.ref a1), some (V.int x1), y7] ∧ Al (rP3 K (rEn e_Wd) rInt rInt) G w8 s) ⟨G4, w7, _, (Ext.refl _), S7, rfl, h11⟩ ?_ ?_
            · intro i2 x2 found7 b2 hb4 hr2 σ3 H8 hI2
              obtain ⟨s4, hb5, hb6⟩ := goF_some hb4
              subst hb6
              obtain ⟨G5, w9, y8, e5, S8, rfl, h13⟩ := hI2
              have E5 := E4.trans e5
              have hm11 : (Option.bind (if ((decide (x1 < length1)) || (decide (x2 > (0 : Int)))) then (Option.bind (appM found7 (Wd.kept, x1, x2)) fun found10 =>   some found10)   else (some found7)) fun found9 =>   some found9) = some s4 := hb5
              obtain ⟨found9, hq7, hm13⟩ := bindS hm11
              refine gCS (fun (σ : L2.St) (H : Hp) => ∃ (G : Hp) (w11 : List V), Ext G5 G ∧ Sub G ((a1, HO.lst w11) :: O) H ∧ σ = [some (V.int length1), some (V.ref a1), some (V.int x1), some (V.int x2)] ∧ Al (rP3 K (rEn e_Wd) rInt rInt) G w11 found9) ?_ ?_
              · skip
                refine gIfS ?_
                refine gCT (fun (b : Bool) (H : Hp) => ∃ (G : Hp), Ext G5 G ∧ Sub G ((a1, HO.lst w9) :: O) H ∧ b = ((decide (x1 < length1)) || (decide (x2 > (0 : Int))))) ?_ ?_
                · skip
                  refine gOr ?_
                  refine gTest ?_
                  refine gOp ?_
                  refine gV rfl ?_
                  refine gV rfl ?_
                  refine ⟨_, _, rfl, rfl, ?_⟩
                  refine ⟨(decide (x1 < length1)), rfl, ?_⟩
                  refine ite2 (fun c3 => ?_) (fun c3 => ?_)
                  · skip
                    exact ⟨G5, (Ext.refl _), S8, (by rw [c3, Bool.true_or])⟩
                  · skip
                    refine gTest ?_
                    refine gOp ?_
                    refine gV rfl ?_
                    refine gC ?_
                    refine ⟨_, _, rfl, rfl, ?_⟩
                    refine ⟨(decide (x2 > (0 : Int))), rfl, ?_⟩
                    exact ⟨G5, (Ext.refl _), S8, (by rw [ne_false c3, Bool.false_or])⟩
                · intro b4 H12 hJ
                  obtain ⟨G8, e8, S12, rfl⟩ := hJ
                  have h18 := Al.up e8 h13
                  have E8 := E5.trans e8
                  refine ite2 (fun c4 => ?_) (fun c4 => ?_)
                  · skip
                    have hm14 := (if_pos c4).symm.trans hq7
                    refine gDrop ?_
                    refine gBM ?_
                    refine gV rfl ?_
                    refine ⟨.inl ⟨rfl, _, .inl (.inl S12.head)⟩, ?_⟩
                    refine gCons' ?_
                    refine gTup' ?_
                    refine gCons' ?_
                    refine gC ?_
                    refine gCons' ?_
                    refine gV rfl ?_
                    refine gCons' ?_
                    refine gV rfl ?_
                    refine gNil' ?_
                    refine q_tup3 (K := K) S12 (show R.rel (rEn e_Wd) G8 (V.str (e_Wd Wd.kept)) Wd.kept from rfl) (show R.rel rInt G8 (V.int x1) x1 from rfl) (show R.rel rInt G8 (V.int x2) x2 from rfl) (fun v6 G9 H13 e9 S13 h19 => ?_)
                    have h20 := Al.up e9 h18
                    have E9 := E8.trans e9
                    refine gNil' ?_
                    obtain ⟨found10, hq8, hm15⟩ := bindS hm14
                    refine q_app S13 h20 (show R.rel (rP3 K (rEn e_Wd) rInt rInt) G9 v6 (Wd.kept, x1, x2) from h19) hq8 (fun H14 w12 S14 h21 => ?_)
                    cases hm15
                    exact ⟨G9, w12, (e8.trans e9), S14, rfl, h21⟩
                  · skip
                    have hm16 := (if_neg c4).symm.trans hq7
                    refine gNext ?_
                    cases hm16
                    exact ⟨G8, w9, e8, S12, rfl, h18⟩
              · intro σ4 H15 hJ2
                obtain ⟨G10, w13, e10, S15, rfl, h22⟩ := hJ2
                have E10 := E5.trans e10
                cases hm13
                exact ⟨_, ⟨G10, w13, _, (e5.trans e10), S15, rfl, h22⟩, hr2⟩
            · intro s σ H h1 h2
              cases h1
              obtain ⟨G, k4, k5, ie, irest⟩ := h2
              exact ⟨G, k4, k5, (ie), irest⟩
          · intro σ5 H16 hJ3
            obtain ⟨G11, w14, y9, e11, S16, rfl, h23⟩ := hJ3
            have E11 := E4.trans e11
            cases hm10
            exact ⟨_, ⟨G11, w14, _, _, ((e1.trans e4).trans e11), S16, rfl, h23⟩, hr1⟩
      · intro s σ H h1 h2
        cases h1
        obtain ⟨G, k1, k2, k3, ie, irest⟩ := h2
        exact ⟨G, k1, k2, k3, (ie), irest⟩
    · intro σ6 H17 hJ4
      obtain ⟨G12, w15, y10, y11, e12, S17, rfl, h24⟩ := hJ4
      have E12 := E0.trans e12
      refine gRet ?_
      refine gCB ?_
      refine gCons' ?_
      refine gV rfl ?_
      refine gNil' ?_
      obtain ⟨srt1, hq9, hm17⟩ := bindS hm2
      refine q_sortOw (dP3 (dEn (K := K) e_Wd e_Wd_inj e_Wd_ok) (dInt (K := K)) (dInt (K := K))) (fun z : (Wd × Int × Int) => (PyData.tuple [(PyData.str (e_Wd z.1)), (PyData.int z.2.1), (PyData.int z.2.2)])) rfl (by show 4 ≤ 60; decide) S17 h24 hq9 (fun _ _ => rfl) (PySem.W.Sortable.tuples (fun _ => ⟨_, _, rfl⟩)) (fun a2 w16 H18 S18 h25 => ?_)
      have S19 : Sub G12 ((a1, HO.lst w15) :: (a2, HO.lst w16) :: O) H18 := S18.front 1 rfl rfl
      have S20 := S19.tail
      cases hm17
      exact q a2 w16 G12 H18 E12 S20 h25
end
end Mr

set_option Elab.async false
set_option linter.all false
set_option maxRecDepth 100000
set_option maxHeartbeats 4000000
set_option synthInstance.maxSize 4000
set_option synthInstance.maxHeartbeats 400000
namespace Mr
open PySem PySem.Spec PyProof.Rows L2
section
variable {P : Program} {w : World} {K : PySem.W.Frag} {mg : Str → Option Value} {base : Heap}
theorem sc_is_number : FnScope ["thing"] ["thing"] (defScope s_is_number) := ⟨rfl, rfl, rfl, by decide +kernel, rfl, by decide +kernel, by decide +kernel⟩
theorem ok_is_number (T : Tx K mg) : FnOk P w K mg base CX0 1 (He.fAd K ("is_number", none)) T.fd_is_number ["thing"] (sp_is_number K) := by
  refine T.F_is_number.ok sc_is_number (fun vs H Q E h => ?_) (fun cdv A outer s H0 vs Q E hr h => ?_)
  · obtain ⟨G, O, thing1, rfl, _⟩ := h
    rfl
  · obtain ⟨G0, O, thing1, rfl, S0, res, hm, q⟩ := h
    refine ⟨_, PSs.nox (pss_one (ps_ret (pe_cut (pe_and (pe_callB (r := rIsi K) call_isi (by rfl) T.z_isinstance boot_isinstance (pa_cons (pv 0) (pa_cons (pe_bltn (v := .ty "int") (by rfl) T.z_int boot_int rfl) pa_nil))) (pe_one (pe_not (pe_callB (r := rIsi K) call_isi (by rfl) T.z_isinstance boot_isinstance (pa_cons (pv 0) (pa_cons (pe_bltn (v := .ty "bool") (by rfl) T.z_bool boot_bool rfl) pa_nil))))))))), ?_⟩
    have E0 := Ext.refl G0
    have hm0 : (some (true && (!false))) = some res := hm
    refine gRet ?_
    refine gCE (fun (b : V) (H : Hp) => ∃ (G : Hp), Ext G0 G ∧ Sub G (O) H ∧ b = V.bl (true && (!false))) ?_ ?_
    · skip
      refine gAndV ?_
      refine gCB ?_
      refine gCons' ?_
      refine gV rfl ?_
      refine gCons' ?_
      refine gC ?_
      refine gNil' ?_
      refine q_isi (ty_I _) (by decide +kernel : kitB "int" "int" = some true) ?_
      refine ⟨true, rfl, ?_⟩
      refine ite2 (fun c1 => ?_) (fun c1 => ?_)
      · skip
        refine gNotV ?_
        refine gCB ?_
        refine gCons' ?_
        refine gV rfl ?_
        refine gCons' ?_
        refine gC ?_
        refine gNil' ?_
        refine q_isi (ty_I _) (by decide +kernel : kitB "int" "bool" = some false) ?_
        refine ⟨_, rfl, ?_⟩
        exact ⟨G0, (Ext.refl _), S0, congrArg V.bl (by rw [c1, Bool.true_and])⟩
      · skip
        exact ⟨G0, (Ext.refl _), S0, congrArg V.bl (by rw [ne_false c1, Bool.false_and])⟩
    · intro b1 H1 hJ
      obtain ⟨G1, e1, S1, rfl⟩ := hJ
      have E1 := E0.trans e1
      cases hm0
      exact q G1 H1 E1 S1
end
end Mr

set_option Elab.async false
set_option linter.all false
set_option maxRecDepth 100000
set_option maxHeartbeats 4000000
set_option synthInstance.maxSize 4000
set_option synthInstance.maxHeartbeats 400000
namespace Mr
open PySem PySem.Spec PyProof.Rows L2
section
variable {P : Program} {w : World} {K : PySem.W.Frag} {mg : Str → Option Value} {base : Heap}
theorem ok_is_number__1 (T : Tx K mg) : FnOk P w K mg base CX0 1 (He.fAd K ("is_number", none)) T.fd_is_number ["thing"] (sp_is_number__1 K) := by
  refine T.F_is_number.ok sc_is_number (fun vs H Q E h => ?_) (fun cdv A outer s H0 vs Q E hr h => ?_)
  · obtain ⟨G, O, thing1, rfl, _⟩ := h
    rfl
  · obtain ⟨G0, O, thing1, rfl, S0, res, hm, q⟩ := h
    refine ⟨_, PSs.nox (pss_one (ps_ret (pe_cut (pe_and (pe_callB (r := rIsi K) call_isi (by rfl) T.z_isinstance boot_isinstance (pa_cons (pv 0) (pa_cons (pe_bltn (v := .ty "int") (by rfl) T.z_int boot_int rfl) pa_nil))) (pe_one (pe_not (pe_callB (r := rIsi K) call_isi (by rfl) T.z_isinstance boot_isinstance (pa_cons (pv 0) (pa_cons (pe_bltn (v := .ty "bool") (by rfl) T.z_bool boot_bool rfl) pa_nil))))))))), ?_⟩
    have E0 := Ext.refl G0
    have hm0 : (some (true && (!true))) = some res := hm
    refine gRet ?_
    refine gCE (fun (b : V) (H : Hp) => ∃ (G : Hp), Ext G0 G ∧ Sub G (O) H ∧ b = V.bl (true && (!true))) ?_ ?_
    · skip
      refine gAndV ?_
      refine gCB ?_
      refine gCons' ?_
      refine gV rfl ?_
      refine gCons' ?_
      refine gC ?_
      refine gNil' ?_
      refine q_isi (ty_B _) (by decide +kernel : kitB "bool" "int" = some true) ?_
      refine ⟨true, rfl, ?_⟩
      refine ite2 (fun c1 => ?_) (fun c1 => ?_)
      · skip
        refine gNotV ?_
        refine gCB ?_
        refine gCons' ?_
        refine gV rfl ?_
        refine gCons' ?_
        refine gC ?_
        refine gNil' ?_
        refine q_isi (ty_B _) (by decide +kernel : kitB "bool" "bool" = some true) ?_
        refine ⟨_, rfl, ?_⟩
        exact ⟨G0, (Ext.refl _), S0, congrArg V.bl (by rw [c1, Bool.true_and])⟩
      · skip
        exact ⟨G0, (Ext.refl _), S0, congrArg V.bl (by rw [ne_false c1, Bool.false_and])⟩
    · intro b1 H1 hJ
      obtain ⟨G1, e1, S1, rfl⟩ := hJ
      have E1 := E0.trans e1
      cases hm0
      exact q G1 H1 E1 S1
end
end Mr

set_option Elab.async false
set_option linter.all false
set_option maxRecDepth 100000
set_option maxHeartbeats 4000000
set_option synthInstance.maxSize 4000
set_option synthInstance.maxHeartbeats 400000
namespace Mr
open PySem PySem.Spec PyProof.Rows L2
section
variable {P : Program} {w : World} {K : PySem.W.Frag} {mg : Str → Option Value} {base : Heap}
theorem ok_is_number__2 (T : Tx K mg) : FnOk P w K mg base CX0 1 (He.fAd K ("is_number", none)) T.fd_is_number ["thing"] (sp_is_number__2 K) := by
  refine T.F_is_number.ok sc_is_number (fun vs H Q E h => ?_) (fun cdv A outer s H0 vs Q E hr h => ?_)
  · obtain ⟨G, O, v1, thing1, rfl, _⟩ := h
    rfl
  · obtain ⟨G0, O, v1, thing1, rfl, S0, h1, res, hm, q⟩ := h
    refine ⟨_, PSs.nox (pss_one (ps_ret (pe_cut (pe_and (pe_callB (r := rIsi K) call_isi (by rfl) T.z_isinstance boot_isinstance (pa_cons (pv 0) (pa_cons (pe_bltn (v := .ty "int") (by rfl) T.z_int boot_int rfl) pa_nil))) (pe_one (pe_not (pe_callB (r := rIsi K) call_isi (by rfl) T.z_isinstance boot_isinstance (pa_cons (pv 0) (pa_cons (pe_bltn (v := .ty "bool") (by rfl) T.z_bool boot_bool rfl) pa_nil))))))))), ?_⟩
    have E0 := Ext.refl G0
    have hm0 : (Option.bind (Option.bind (isA "int" thing1) fun b2 =>
  if b2 then (Option.bind (isA "bool" thing1) fun b4 =>
  some (!b4)) else some false) fun x1 =>
  some x1) = some res := hm
    refine gRet ?_
    obtain ⟨x1, hq5, hm5⟩ := bindS hm0
    refine gCE (fun (b : V) (H : Hp) => ∃ (G : Hp), Ext G0 G ∧ Sub G (O) H ∧ b = V.bl x1) ?_ ?_
    · skip
      refine gAndV ?_
      refine gCB ?_
      refine gCons' ?_
      refine gV rfl ?_
      refine gCons' ?_
      refine gC ?_
      refine gNil' ?_
      obtain ⟨b5, hq6, hm6⟩ := bindS hq5
      refine q_isiA (by decide) S0 h1 hq6 ?_
      refine ⟨b5, rfl, ?_⟩
      refine ite2 (fun c1 => ?_) (fun c1 => ?_)
      · skip
        have hm7 := (if_pos c1).symm.trans hm6
        refine gNotV ?_
        refine gCB ?_
        refine gCons' ?_
        refine gV rfl ?_
        refine gCons' ?_
        refine gC ?_
        refine gNil' ?_
        obtain ⟨b6, hq7, hm8⟩ := bindS hm7
        refine q_isiA (by decide) S0 h1 hq7 ?_
        refine ⟨_, rfl, ?_⟩
        cases hm8
        exact ⟨G0, (Ext.refl _), S0, rfl⟩
      · skip
        have hm9 := (if_neg c1).symm.trans hm6
        cases hm9
        exact ⟨G0, (Ext.refl _), S0, rfl⟩
    · intro b7 H1 hJ
      obtain ⟨G1, e1, S1, rfl⟩ := hJ
      have h2 := R.up e1 h1
      have E1 := E0.trans e1
      cases hm5
      exact q G1 H1 E1 S1
end
end Mr

set_option Elab.async false
set_option linter.all false
set_option maxRecDepth 100000
set_option maxHeartbeats 4000000
set_option synthInstance.maxSize 4000
set_option synthInstance.maxHeartbeats 400000
namespace Mr
open PySem PySem.Spec PyProof.Rows L2
section
variable {P : Program} {w : World} {K : PySem.W.Frag} {mg : Str → Option Value} {base : Heap}
theorem sc_checked_standing : FnScope ["length", "thing"] ["length", "thing"] (defScope s_checked_standing) := ⟨rfl, rfl, rfl, by decide +kernel, rfl, by decide +kernel, by decide +kernel⟩
theorem ok_checked_standing (T : Tx K mg) : FnOk P w K mg base (L2.CX P w) 3 (He.fAd K ("checked_standing", none)) T.fd_checked_standing ["length", "thing"] (sp_checked_standing K) := by
  have G_is_number := ok_is_number (P := P) (w := w) (base := base) T
  have G_standings := ok_standings (P := P) (w := w) (base := base) T
  refine T.F_checked_standing.ok sc_checked_standing (fun vs H Q E h => ?_) (fun cdv A outer s H0 vs Q E hr h => ?_)
  · obtain ⟨G, O, length1, v1, thing1, rfl, _⟩ := h
    rfl
  · obtain ⟨G0, O, length1, v1, thing1, rfl, S0, h1, res, hm, q, qE⟩ := h
    refine ⟨_, (pss_cons (ps_if (pt_cut (PW.pt (pw_or (pt_not (pt_val (pe_callB (r := rIsi K) call_isi (by rfl) T.z_isinstance boot_isinstance (pa_cons (pv 1) (pa_cons (pe_bltn (v := .ty "tuple") (by rfl) T.z_tuple boot_tuple rfl) pa_nil))))) (pw_or1 (pt_cmpR op_neI (pe_callB (r := rLenM K) call_lenM (by rfl) T.z_len boot_len (pa_cons (pv 1) pa_nil)) pe_int (nomark _)))))) (pss_one (ps_raise rfl (takes_of rfl rfl rfl rfl) (pmk_oex T.x_BadStanding.oex T.x_BadStanding.ini T.x_BadStanding.tI (ok_x_BadStanding T) (hr.mono (by decide)) T.bx_BadStanding .nil pass0 (by rfl) T.gx_BadStanding (pa_cons (pv 1) pa_nil)))) pss_nil)
      (pss_cons (ps_if (pt_cut (PW.pt (pw_or (pt_not (pt_val (pe_callB (r := rIsi K) call_isi (by rfl) T.z_isinstance boot_isinstance (pa_cons (pe_ix ix_tup (pv 1) pe_int (fun _ _ => rfl)) (pa_cons (pe_bltn (v := .ty "str") (by rfl) T.z_str boot_str rfl) pa_nil))))) (pw_or (pt_not (pt_val (pe_call G_is_number (hr.mono (by decide)) (by rfl) T.g_is_number T.F_is_number.kp T.b_is_number .nil pass0 (pa_cons (pe_ix ix_tup (pv 1) pe_int (fun _ _ => rfl)) pa_nil)))) (pw_or1 (pt_not (pt_val (pe_call G_is_number (hr.mono (by decide)) (by rfl) T.g_is_number T.F_is_number.kp T.b_is_number .nil pass0 (pa_cons (pe_ix ix_tup (pv 1) pe_int (fun _ _ => rfl)) pa_nil))))))))) (pss_one (ps_raise rfl (takes_of rfl rfl rfl rfl) (pmk_oex T.x_BadStanding.oex T.x_BadStanding.ini T.x_BadStanding.tI (ok_x_BadStanding T) (hr.mono (by decide)) T.bx_BadStanding .nil pass0 (by rfl) T.gx_BadStanding (pa_cons (pv 1) pa_nil)))) pss_nil)
      (pss_cons (ps_if (pt_cmpR (op_notInD (un65 hr)) (pv 1) (pe_call G_standings (hr.mono (by decide)) (by rfl) T.g_standings T.F_standings.kp T.b_standings .nil pass0 (pa_cons (pv 0) pa_nil)) (by with_unfolding_all rfl)) (pss_one (ps_raise rfl (takes_of rfl rfl rfl rfl) (pmk_oex T.x_BadStanding.oex T.x_BadStanding.ini T.x_BadStanding.tI (ok_x_BadStanding T) (hr.mono (by decide)) T.bx_BadStanding .nil pass0 (by rfl) T.gx_BadStanding (pa_cons (pv 1) pa_nil)))) pss_nil)
      (pss_one (ps_ret (pv 1)))))), ?_⟩
    have E0 := Ext.refl G0
    have hm0 : (if ((!true) || (!decide ((3 : Int) = (3 : Int)))) then (Option.bind (fmtM (PyData.tuple [(PyData.str (e_Wd thing1.1)), (PyData.int thing1.2.1), (PyData.int thing1.2.2)])) fun u1 =>
  some (Rs.er (ExM.BadStanding (PyData.tuple [(PyData.str (e_Wd thing1.1)), (PyData.int thing1.2.1), (PyData.int thing1.2.2)]))))
  else (Option.bind (if (!true) then some true else (Option.bind (m_is_number thing1.2.1) fun r2 =>
  if (!r2) then some true else (Option.bind (m_is_number thing1.2.2) fun r4 =>
  some (!r4)))) fun x1 =>
  if x1 then (Option.bind (fmtM (PyData.tuple [(PyData.str (e_Wd thing1.1)), (PyData.int thing1.2.1), (PyData.int thing1.2.2)])) fun u2 =>
  some (Rs.er (ExM.BadStanding (PyData.tuple [(PyData.str (e_Wd thing1.1)), (PyData.int thing1.2.1), (PyData.int thing1.2.2)]))))
  else (Option.bind (m_standings length1) fun r9 =>
  if (!memB thing1 r9) then (Option.bind (fmtM (PyData.tuple [(PyData.str (e_Wd thing1.1)), (PyData.int thing1.2.1), (PyData.int thing1.2.2)])) fun u3 =>
  some (Rs.er (ExM.BadStanding (PyData.tuple [(PyData.str (e_Wd thing1.1)), (PyData.int thing1.2.1), (PyData.int thing1.2.2)]))))
  else (some (Rs.ok thing1))))) = some res := hm
    refine gS_IfS ?_
    refine gCT (fun (b : Bool) (H : Hp) => ∃ (G : Hp), Ext G0 G ∧ Sub G (O) H ∧ b = ((!true) || (!decide ((3 : Int) = (3 : Int))))) ?_ ?_
    · skip
      refine gOr ?_
      refine gNot ?_
      refine gB ?_
      refine gCB ?_
      refine gCons' ?_
      refine gV rfl ?_
      refine gCons' ?_
      refine gC ?_
      refine gNil' ?_
      refine q_isi (ty_P3 (R.up S0.ext h1)) (by decide +kernel : kitB "tuple" "tuple" = some true) ?_
      refine ⟨true, rfl, ?_⟩
      refine ite2 (fun c1 => ?_) (fun c1 => ?_)
      · skip
        exact ⟨G0, (Ext.refl _), S0, (by rw [c1, Bool.true_or])⟩
      · skip
        refine gTest ?_
        refine gOp ?_
        refine gCB ?_
        refine gCons' ?_
        refine gV rfl ?_
        refine gNil' ?_
        refine q_len3 S0 h1 ?_
        refine gC ?_
        refine ⟨_, _, rfl, rfl, ?_⟩
        refine ⟨(!decide ((3 : Int) = (3 : Int))), rfl, ?_⟩
        exact ⟨G0, (Ext.refl _), S0, (by rw [ne_false c1, Bool.false_or])⟩
    · intro b1 H1 hJ
      obtain ⟨G1, e1, S1, rfl⟩ := hJ
      have h2 := R.up e1 h1
      have E1 := E0.trans e1
      refine ite2 (fun c2 => ?_) (fun c2 => ?_)
      · skip
        have hm1 := (if_pos c2).symm.trans hm0
        refine gRaise ?_
        refine gCons' ?_
        refine gV rfl ?_
        refine gNil' ?_
        obtain ⟨u1, hq1, hm2⟩ := bindS hm1
        refine q_mk1 S1 (show (rAny K).rel G1 v1 (PyData.tuple [(PyData.str (e_Wd thing1.1)), (PyData.int thing1.2.1), (PyData.int thing1.2.2)]) from any_of (dP3 (dEn (K := K) e_Wd e_Wd_inj e_Wd_ok) (dInt (K := K)) (dInt (K := K))) (show R.rel (rP3 K (rEn e_Wd) rInt rInt) G1 v1 thing1 from h2)) (fmtM_some hq1) (fun dd1 G2 H2 e2 S2 h3 => ?_)
        cases hm2
        exact qE _ rfl _ _ G2 H2 (E1.trans e2) S2 ⟨rfl, dd1, _, rfl, h3, R.up e2 (show (rAny K).rel G1 v1 (PyData.tuple [(PyData.str (e_Wd thing1.1)), (PyData.int thing1.2.1), (PyData.int thing1.2.2)]) from any_of (dP3 (dEn (K := K) e_Wd e_Wd_inj e_Wd_ok) (dInt (K := K)) (dInt (K := K))) (show R.rel (rP3 K (rEn e_Wd) rInt rInt) G1 v1 thing1 from h2))⟩
      · skip
        have hm3 := (if_neg c2).symm.trans hm0
        refine gNext ?_
        refine gE ?_
        refine gS_IfS ?_
        obtain ⟨x1, hq6, hm8⟩ := bindS hm3
        refine gCT (fun (b : Bool) (H : Hp) => ∃ (G : Hp), Ext G1 G ∧ Sub G (O) H ∧ b = x1) ?_ ?_
        · skip
          refine gOr ?_
          refine gNot ?_
          refine gB ?_
          refine gCB ?_
          refine gCons' ?_
          refine gOp ?_
          refine gV rfl ?_
          refine gC ?_
          refine q_p3_0 S1 h2 (fun v13 h19 => ?_)
          obtain rfl := (show v13 = (V.str (e_Wd thing1.1)) from h19)
          refine gCons' ?_
          refine gC ?_
          refine gNil' ?_
          refine q_isi (ty_S _) (by decide +kernel : kitB "str" "str" = some true) ?_
          refine ⟨true, rfl, ?_⟩
          refine ite2 (fun c3 => ?_) (fun c3 => ?_)
          · skip
            have hm9 := (if_pos c3).symm.trans hq6
            cases hm9
            exact ⟨G1, (Ext.refl _), S1, rfl⟩
          · skip
            have hm10 := (if_neg c3).symm.trans hq6
            refine gOr ?_
            refine gNot ?_
            refine gB ?_
            refine gCall ?_
            refine gCons' ?_
            refine gOp ?_
            refine gV rfl ?_
            refine gC ?_
            refine q_p3_1 S1 h2 (fun v17 h24 => ?_)
            obtain rfl := (show v17 = (V.int thing1.2.1) from h24)
            refine gNil' ?_
            obtain ⟨r6, hq8, hm12⟩ := bindS hm10
            refine ⟨G1, (O), thing1.2.1, rfl, S1, r6, hq8, fun G8 H8 e8 S8 => ?_⟩
            have h25 := R.up e8 h2
            have E7 := E1.trans e8
            refine ⟨r6, rfl, ?_⟩
            refine ite2 (fun c4 => ?_) (fun c4 => ?_)
            · skip
              have hm13 := (if_pos c4).symm.trans hm12
              cases hm13
              exact ⟨G8, e8, S8, rfl⟩
            · skip
              have hm14 := (if_neg c4).symm.trans hm12
              refine gNot ?_
              refine gB ?_
              refine gCall ?_
              refine gCons' ?_
              refine gOp ?_
              refine gV rfl ?_
              refine gC ?_
              refine q_p3_2 S8 h25 (fun v21 h30 => ?_)
              obtain rfl := (show v21 = (V.int thing1.2.2) from h30)
              refine gNil' ?_
              obtain ⟨r8, hq10, hm16⟩ := bindS hm14
              refine ⟨G8, (O), thing1.2.2, rfl, S8, r8, hq10, fun G10 H10 e10 S10 => ?_⟩
              have h31 := R.up e10 h25
              have E9 := E7.trans e10
              refine ⟨r8, rfl, ?_⟩
              cases hm16
              exact ⟨G10, (e8.trans e10), S10, rfl⟩
        · intro b2 H11 hJ
          obtain ⟨G11, e11, S11, rfl⟩ := hJ
          have h32 := R.up e11 h2
          have E10 := E1.trans e11
          refine ite2 (fun c5 => ?_) (fun c5 => ?_)
          · skip
            have hm17 := (if_pos c5).symm.trans hm8
            refine gRaise ?_
            refine gCons' ?_
            refine gV rfl ?_
            refine gNil' ?_
            obtain ⟨u2, hq11, hm18⟩ := bindS hm17
            refine q_mk1 S11 (show (rAny K).rel G11 v1 (PyData.tuple [(PyData.str (e_Wd thing1.1)), (PyData.int thing1.2.1), (PyData.int thing1.2.2)]) from any_of (dP3 (dEn (K := K) e_Wd e_Wd_inj e_Wd_ok) (dInt (K := K)) (dInt (K := K))) (show R.rel (rP3 K (rEn e_Wd) rInt rInt) G11 v1 thing1 from h32)) (fmtM_some hq11) (fun dd2 G12 H12 e12 S12 h33 => ?_)
            cases hm18
            exact qE _ rfl _ _ G12 H12 (E10.trans e12) S12 ⟨rfl, dd2, _, rfl, h33, R.up e12 (show (rAny K).rel G11 v1 (PyData.tuple [(PyData.str (e_Wd thing1.1)), (PyData.int thing1.2.1), (PyData.int thing1.2.2)]) from any_of (dP3 (dEn (K := K) e_Wd e_Wd_inj e_Wd_ok) (dInt (K := K)) (dInt (K := K))) (show R.rel (rP3 K (rEn e_Wd) rInt rInt) G11 v1 thing1 from h32))⟩
          · skip
            have hm19 := (if_neg c5).symm.trans hm8
            refine gNext ?_
            refine gE ?_
            refine gS_IfS ?_
            refine gTest ?_
            refine gOp ?_
            refine gV rfl ?_
            refine gCall ?_
            refine gCons' ?_
            refine gV rfl ?_
            refine gNil' ?_
            obtain ⟨r9, hq12, hm20⟩ := bindS hm19
            refine ⟨G11, (O), length1, rfl, S11, r9, hq12, fun a1 w1 G13 H13 e13 S13 h34 => ?_⟩
            have h35 := R.up e13 h32
            have E11 := E10.trans e13
            obtain ⟨G14, e14, S14, h36⟩ := frz_M S13 h34
            have h37 := R.up e14 h35
            have E12 := E11.trans e14
            refine q_niDB (dP3 (dEn (K := K) e_Wd e_Wd_inj e_Wd_ok) (dInt (K := K)) (dInt (K := K))) (by show 5 ≤ 64; decide) (R.up S14.ext h37) (R.up S14.ext h36) ((okP3 okEn okI okI) _) (ok_all (okP3 okEn okI okI) _) ?_
            refine ⟨(!memB thing1 r9), rfl, ?_⟩
            refine ite2 (fun c6 => ?_) (fun c6 => ?_)
            · skip
              have hm21 := (if_pos c6).symm.trans hm20
              refine gRaise ?_
              refine gCons' ?_
              refine gV rfl ?_
              refine gNil' ?_
              obtain ⟨u3, hq13, hm22⟩ := bindS hm21
              refine q_mk1 S14 (show (rAny K).rel G14 v1 (PyData.tuple [(PyData.str (e_Wd thing1.1)), (PyData.int thing1.2.1), (PyData.int thing1.2.2)]) from any_of (dP3 (dEn (K := K) e_Wd e_Wd_inj e_Wd_ok) (dInt (K := K)) (dInt (K := K))) (show R.rel (rP3 K (rEn e_Wd) rInt rInt) G14 v1 thing1 from h37)) (fmtM_some hq13) (fun dd3 G15 H14 e15 S15 h38 => ?_)
              cases hm22
              exact qE _ rfl _ _ G15 H14 (E12.trans e15) S15 ⟨rfl, dd3, _, rfl, h38, R.up e15 (show (rAny K).rel G14 v1 (PyData.tuple [(PyData.str (e_Wd thing1.1)), (PyData.int thing1.2.1), (PyData.int thing1.2.2)]) from any_of (dP3 (dEn (K := K) e_Wd e_Wd_inj e_Wd_ok) (dInt (K := K)) (dInt (K := K))) (show R.rel (rP3 K (rEn e_Wd) rInt rInt) G14 v1 thing1 from h37))⟩
            · skip
              have hm23 := (if_neg c6).symm.trans hm20
              refine gNext ?_
              refine gE ?_
              refine gRet ?_
              refine gV rfl ?_
              cases hm23
              exact q _ rfl v1 G14 H13 E12 S14 h37
end
end Mr

set_option Elab.async false
set_option linter.all false
set_option maxRecDepth 100000
set_option maxHeartbeats 4000000
set_option synthInstance.maxSize 4000
set_option synthInstance.maxHeartbeats 400000
namespace Mr
open PySem PySem.Spec PyProof.Rows L2
section
variable {P : Program} {w : World} {K : PySem.W.Frag} {mg : Str → Option Value} {base : Heap}
theorem ok_checked_standing__1 (T : Tx K mg) : FnOk P w K mg base (L2.CX P w) 3 (He.fAd K ("checked_standing", none)) T.fd_checked_standing ["length", "thing"] (sp_checked_standing__1 K) := by
  have G_is_number__2 := ok_is_number__2 (P := P) (w := w) (base := base) T
  have G_standings := ok_standings (P := P) (w := w) (base := base) T
  refine T.F_checked_standing.ok sc_checked_standing (fun vs H Q E h => ?_) (fun cdv A outer s H0 vs Q E hr h => ?_)
  · obtain ⟨G, O, length1, v1, thing1, rfl, _⟩ := h
    rfl
  · obtain ⟨G0, O, length1, v1, thing1, rfl, S0, h1, res, hm, q, qE⟩ := h
    refine ⟨_, (pss_cons (ps_if (pt_cut (PW.pt (pw_or (pt_not (pt_val (pe_callB (r := rIsi K) call_isi (by rfl) T.z_isinstance boot_isinstance (pa_cons (pv 1) (pa_cons (pe_bltn (v := .ty "tuple") (by rfl) T.z_tuple boot_tuple rfl) pa_nil))))) (pw_or1 (pt_cmpR op_neI (pe_callB (r := rLenM K) call_lenM (by rfl) T.z_len boot_len (pa_cons (pv 1) pa_nil)) pe_int (nomark _)))))) (pss_one (ps_raise rfl (takes_of rfl rfl rfl rfl) (pmk_oex T.x_BadStanding.oex T.x_BadStanding.ini T.x_BadStanding.tI (ok_x_BadStanding T) (hr.mono (by decide)) T.bx_BadStanding .nil pass0 (by rfl) T.gx_BadStanding (pa_cons (pv 1) pa_nil)))) pss_nil)
      (pss_cons (ps_if (pt_cut (PW.pt (pw_or (pt_not (pt_val (pe_callB (r := rIsi K) call_isi (by rfl) T.z_isinstance boot_isinstance (pa_cons (pe_ix ix_tup (pv 1) pe_int (fun _ _ => rfl)) (pa_cons (pe_bltn (v := .ty "str") (by rfl) T.z_str boot_str rfl) pa_nil))))) (pw_or (pt_not (pt_val (pe_call G_is_number__2 (hr.mono (by decide)) (by rfl) T.g_is_number T.F_is_number.kp T.b_is_number .nil pass0 (pa_cons (pe_ix ix_tup (pv 1) pe_int (fun _ _ => rfl)) pa_nil)))) (pw_or1 (pt_not (pt_val (pe_call G_is_number__2 (hr.mono (by decide)) (by rfl) T.g_is_number T.F_is_number.kp T.b_is_number .nil pass0 (pa_cons (pe_ix ix_tup (pv 1) pe_int (fun _ _ => rfl)) pa_nil))))))))) (pss_one (ps_raise rfl (takes_of rfl rfl rfl rfl) (pmk_oex T.x_BadStanding.oex T.x_BadStanding.ini T.x_BadStanding.tI (ok_x_BadStanding T) (hr.mono (by decide)) T.bx_BadStanding .nil pass0 (by rfl) T.gx_BadStanding (pa_cons (pv 1) pa_nil)))) pss_nil)
      (pss_cons (ps_if (pt_cmpR (op_notInD (un65 hr)) (pv 1) (pe_call G_standings (hr.mono (by decide)) (by rfl) T.g_standings T.F_standings.kp T.b_standings .nil pass0 (pa_cons (pv 0) pa_nil)) (by with_unfolding_all rfl)) (pss_one (ps_raise rfl (takes_of rfl rfl rfl rfl) (pmk_oex T.x_BadStanding.oex T.x_BadStanding.ini T.x_BadStanding.tI (ok_x_BadStanding T) (hr.mono (by decide)) T.bx_BadStanding .nil pass0 (by rfl) T.gx_BadStanding (pa_cons (pv 1) pa_nil)))) pss_nil)
      (pss_one (ps_ret (pv 1)))))), ?_⟩
    have E0 := Ext.refl G0
    have hm0 : (Option.bind (Option.bind (isA "tuple" thing1) fun b2 =>
  if (!b2) then some true else (Option.bind (lenA thing1) fun k1 =>
  some (!decide (k1 = (3 : Int))))) fun x1 =>
  if x1 then (Option.bind (fmtM thing1) fun u1 =>
  some (Rs.er (ExM.BadStanding thing1)))
  else (Option.bind (Option.bind (ixA thing1 (0 : Int)) fun x3 =>
  Option.bind (isA "str" x3) fun b7 =>
  if (!b7) then some true else (Option.bind (ixA thing1 (1 : Int)) fun x7 =>
  Option.bind (m_is_number__2 x7) fun r2 =>
  if (!r2) then some true else (Option.bind (ixA thing1 (2 : Int)) fun x11 =>
  Option.bind (m_is_number__2 x11) fun r4 =>
  some (!r4)))) fun x12 =>
  if x12 then (Option.bind (fmtM thing1) fun u2 =>
  some (Rs.er (ExM.BadStanding thing1)))
  else (Option.bind (m_standings length1) fun r9 =>
  Option.bind (inA thing1 (r9.map fun z => (PyData.tuple [(PyData.str (e_Wd z.1)), (PyData.int z.2.1), (PyData.int z.2.2)]))) fun b11 =>
  if (!b11) then (Option.bind (fmtM thing1) fun u3 =>
  some (Rs.er (ExM.BadStanding thing1)))
  else (Option.bind ((dec3 (decEn e_Wd all_Wd) decI decI) thing1) fun j1 =>
  some (Rs.ok j1))))) = some res := hm
    refine gS_IfS ?_
    obtain ⟨x1, hq4, hm4⟩ := bindS hm0
    refine gCT (fun (b : Bool) (H : Hp) => ∃ (G : Hp), Ext G0 G ∧ Sub G (O) H ∧ b = x1) ?_ ?_
    · skip
      refine gOr ?_
      refine gNot ?_
      refine gB ?_
      refine gCB ?_
      refine gCons' ?_
      refine gV rfl ?_
      refine gCons' ?_
      refine gC ?_
      refine gNil' ?_
      obtain ⟨b4, hq6, hm6⟩ := bindS hq4
      refine q_isiA (by decide) S0 h1 hq6 ?_
      refine ⟨b4, rfl, ?_⟩
      refine ite2 (fun c1 => ?_) (fun c1 => ?_)
      · skip
        have hm7 := (if_pos c1).symm.trans hm6
        cases hm7
        exact ⟨G0, (Ext.refl _), S0, rfl⟩
      · skip
        have hm8 := (if_neg c1).symm.trans hm6
        refine gTest ?_
        refine gOp ?_
        refine gCB ?_
        refine gCons' ?_
        refine gV rfl ?_
        refine gNil' ?_
        obtain ⟨k2, hq7, hm9⟩ := bindS hm8
        refine q_lenA S0 h1 hq7 ?_
        refine gC ?_
        refine ⟨_, _, rfl, rfl, ?_⟩
        refine ⟨(!decide (k2 = (3 : Int))), rfl, ?_⟩
        cases hm9
        exact ⟨G0, (Ext.refl _), S0, rfl⟩
    · intro b5 H1 hJ
      obtain ⟨G1, e1, S1, rfl⟩ := hJ
      have h2 := R.up e1 h1
      have E1 := E0.trans e1
      refine ite2 (fun c2 => ?_) (fun c2 => ?_)
      · skip
        have hm10 := (if_pos c2).symm.trans hm4
        refine gRaise ?_
        refine gCons' ?_
        refine gV rfl ?_
        refine gNil' ?_
        obtain ⟨u1, hq8, hm11⟩ := bindS hm10
        refine q_mk1 S1 h2 (fmtM_some hq8) (fun dd1 G2 H2 e2 S2 h3 => ?_)
        cases hm11
        exact qE _ rfl _ _ G2 H2 (E1.trans e2) S2 ⟨rfl, dd1, _, rfl, h3, R.up e2 h2⟩
      · skip
        have hm12 := (if_neg c2).symm.trans hm4
        refine gNext ?_
        refine gE ?_
        refine gS_IfS ?_
        obtain ⟨x12, hq25, hm29⟩ := bindS hm12
        refine gCT (fun (b : Bool) (H : Hp) => ∃ (G : Hp), Ext G1 G ∧ Sub G (O) H ∧ b = x12) ?_ ?_
        · skip
          refine gOr ?_
          refine gNot ?_
          refine gB ?_
          refine gCB ?_
          refine gCons' ?_
          refine gOp ?_
          refine gV rfl ?_
          refine gC ?_
          obtain ⟨x14, hq28, hm32⟩ := bindS hq25
          refine q_ixA S1 h2 hq28 (fun v13 h19 => ?_)
          refine gCons' ?_
          refine gC ?_
          refine gNil' ?_
          obtain ⟨b9, hq29, hm33⟩ := bindS hm32
          refine q_isiA (by decide) S1 h19 hq29 ?_
          refine ⟨b9, rfl, ?_⟩
          refine ite2 (fun c3 => ?_) (fun c3 => ?_)
          · skip
            have hm34 := (if_pos c3).symm.trans hm33
            cases hm34
            exact ⟨G1, (Ext.refl _), S1, rfl⟩
          · skip
            have hm35 := (if_neg c3).symm.trans hm33
            refine gOr ?_
            refine gNot ?_
            refine gB ?_
            refine gCall ?_
            refine gCons' ?_
            refine gOp ?_
            refine gV rfl ?_
            refine gC ?_
            obtain ⟨x18, hq34, hm40⟩ := bindS hm35
            refine q_ixA S1 h2 hq34 (fun v17 h24 => ?_)
            refine gNil' ?_
            obtain ⟨r6, hq35, hm41⟩ := bindS hm40
            refine ⟨G1, (O), v17, x18, rfl, S1, h24, r6, hq35, fun G8 H8 e8 S8 => ?_⟩
            have h25 := R.up e8 h2
            have E7 := E1.trans e8
            refine ⟨r6, rfl, ?_⟩
            refine ite2 (fun c4 => ?_) (fun c4 => ?_)
            · skip
              have hm42 := (if_pos c4).symm.trans hm41
              cases hm42
              exact ⟨G8, e8, S8, rfl⟩
            · skip
              have hm43 := (if_neg c4).symm.trans hm41
              refine gNot ?_
              refine gB ?_
              refine gCall ?_
              refine gCons' ?_
              refine gOp ?_
              refine gV rfl ?_
              refine gC ?_
              obtain ⟨x22, hq40, hm48⟩ := bindS hm43
              refine q_ixA S8 h25 hq40 (fun v21 h30 => ?_)
              refine gNil' ?_
              obtain ⟨r8, hq41, hm49⟩ := bindS hm48
              refine ⟨G8, (O), v21, x22, rfl, S8, h30, r8, hq41, fun G10 H10 e10 S10 => ?_⟩
              have h31 := R.up e10 h25
              have E9 := E7.trans e10
              refine ⟨r8, rfl, ?_⟩
              cases hm49
              exact ⟨G10, (e8.trans e10), S10, rfl⟩
        · intro b10 H11 hJ
          obtain ⟨G11, e11, S11, rfl⟩ := hJ
          have h32 := R.up e11 h2
          have E10 := E1.trans e11
          refine ite2 (fun c5 => ?_) (fun c5 => ?_)
          · skip
            have hm50 := (if_pos c5).symm.trans hm29
            refine gRaise ?_
            refine gCons' ?_
            refine gV rfl ?_
            refine gNil' ?_
            obtain ⟨u2, hq42, hm51⟩ := bindS hm50
            refine q_mk1 S11 h32 (fmtM_some hq42) (fun dd2 G12 H12 e12 S12 h33 => ?_)
            cases hm51
            exact qE _ rfl _ _ G12 H12 (E10.trans e12) S12 ⟨rfl, dd2, _, rfl, h33, R.up e12 h32⟩
          · skip
            have hm52 := (if_neg c5).symm.trans hm29
            refine gNext ?_
            refine gE ?_
            refine gS_IfS ?_
            refine gTest ?_
            refine gOp ?_
            refine gV rfl ?_
            refine gCall ?_
            refine gCons' ?_
            refine gV rfl ?_
            refine gNil' ?_
            obtain ⟨r9, hq43, hm53⟩ := bindS hm52
            refine ⟨G11, (O), length1, rfl, S11, r9, hq43, fun a1 w1 G13 H13 e13 S13 h34 => ?_⟩
            have h35 := R.up e13 h32
            have E11 := E10.trans e13
            obtain ⟨G14, e14, S14, h36⟩ := frz_M S13 h34
            have h37 := R.up e14 h35
            have E12 := E11.trans e14
            obtain ⟨b11, hq44, hm54⟩ := bindS hm53
            refine q_niA S14 (R.up S14.ext h37) (R.up S14.ext (show (rAny K).rel G14 (V.ref a1) (PyData.list (r9.map fun z => (PyData.tuple [(PyData.str (e_Wd z.1)), (PyData.int z.2.1), (PyData.int z.2.2)]))) from any_of (dM (dP3 (dEn (K := K) e_Wd e_Wd_inj e_Wd_ok) (dInt (K := K)) (dInt (K := K)))) (show R.rel (rM (rP3 K (rEn e_Wd) rInt rInt)) G14 (V.ref a1) r9 from h36))) hq44 ?_
            refine ⟨(!b11), rfl, ?_⟩
            refine ite2 (fun c6 => ?_) (fun c6 => ?_)
            · skip
              have hm55 := (if_pos c6).symm.trans hm54
              refine gRaise ?_
              refine gCons' ?_
              refine gV rfl ?_
              refine gNil' ?_
              obtain ⟨u3, hq45, hm56⟩ := bindS hm55
              refine q_mk1 S14 h37 (fmtM_some hq45) (fun dd3 G15 H14 e15 S15 h38 => ?_)
              cases hm56
              exact qE _ rfl _ _ G15 H14 (E12.trans e15) S15 ⟨rfl, dd3, _, rfl, h38, R.up e15 h37⟩
            · skip
              have hm57 := (if_neg c6).symm.trans hm54
              refine gNext ?_
              refine gE ?_
              refine gRet ?_
              refine gV rfl ?_
              obtain ⟨j1, hq46, hm58⟩ := bindS hm57
              have h39 : R.rel (rP3 K (rEn e_Wd) rInt rInt) G14 v1 j1 := (dec_3 dec_En dec_I dec_I) _ _ _ _ hq46 h37
              cases hm58
              exact q _ rfl v1 G14 H13 E12 S14 h39
end
end Mr

set_option Elab.async false
set_option linter.all false
set_option maxRecDepth 100000
set_option maxHeartbeats 4000000
set_option synthInstance.maxSize 4000
set_option synthInstance.maxHeartbeats 400000
namespace Mr
open PySem PySem.Spec PyProof.Rows L2
section
variable {P : Program} {w : World} {K : PySem.W.Frag} {mg : Str → Option Value} {base : Heap}
theorem sc_next_line : FnScope ["length", "standing", "word", "high", "back"] ["length", "standing"] (defScope s_next_line) := ⟨rfl, rfl, rfl, by decide +kernel, rfl, by decide +kernel, by decide +kernel⟩
theorem ok_next_line (T : Tx K mg) : FnOk P w K mg base CX0 1 (He.fAd K ("next_line", none)) T.fd_next_line ["length", "standing"] (sp_next_line K) := by
  refine T.F_next_line.ok sc_next_line (fun vs H Q E h => ?_) (fun cdv A outer s H0 vs Q E hr h => ?_)
  · obtain ⟨G, O, length1, v1, standing1, rfl, _⟩ := h
    rfl
  · obtain ⟨G0, O, length1, v1, standing1, rfl, S0, h1, res, hm, q⟩ := h
    refine ⟨_, PSs.nox (pss_cons (ps_asg (pv 1) (pg_tup rfl (pgs_cons (pg_name (i := 2) sc_next_line.nd rfl (.inl rfl)) (pgs_cons (pg_name (i := 3) sc_next_line.nd rfl (.inl rfl)) (pgs_cons (pg_name (i := 4) sc_next_line.nd rfl (.inl rfl)) pgs_nil)))))
      (pss_cons (ps_if (pt_cmpR (op_eqE e_Wd_inj) (pv 2) pe_str (nomark _)) (pss_one (ps_ret (pe_tup (pa_cons pe_bl (pa_cons pe_int pa_nil))))) pss_nil)
      (pss_one (ps_ret (pe_tup (pa_cons pe_bl (pa_cons (pe_cut (pe_ifExp (pt_cmpR op_eqI (pv 3) (pv 0) (nomark _)) (pv 4) (pv 3))) pa_nil))))))), ?_⟩
    have E0 := Ext.refl G0
    have hm0 : (if (decide (standing1.1 = Wd.top)) then (some (true, (0 : Int)))
  else (some (false, (if (decide (standing1.2.1 = length1)) then standing1.2.2 else standing1.2.1)))) = some res := hm
    refine gS_Asg ?_
    refine gV rfl ?_
    refine q_gt3 S0 h1 (fun v2 v3 v4 h2 h3 h4 => ?_)
    obtain rfl := (show v2 = (V.str (e_Wd standing1.1)) from h2)
    obtain rfl := (show v3 = (V.int standing1.2.1) from h3)
    obtain rfl := (show v4 = (V.int standing1.2.2) from h4)
    refine gS_IfS ?_
    refine gTest ?_
    refine gOp ?_
    refine gV rfl ?_
    refine gC ?_
    refine ⟨standing1.1, Wd.top, rfl, rfl, ?_⟩
    refine ⟨(decide (standing1.1 = Wd.top)), rfl, ?_⟩
    refine ite2 (fun c1 => ?_) (fun c1 => ?_)
    · skip
      have hm1 := (if_pos c1).symm.trans hm0
      refine gRet ?_
      refine gTup' ?_
      refine gCons' ?_
      refine gC ?_
      refine gCons' ?_
      refine gC ?_
      refine gNil' ?_
      refine q_tup2 (K := K) S0 (show R.rel rBool G0 (V.bl true) true from rfl) (show R.rel rInt G0 (V.int (0 : Int)) (0 : Int) from rfl) (fun v5 G1 H1 e1 S1 h5 => ?_)
      have h6 := R.up e1 h1
      have E1 := E0.trans e1
      cases hm1
      exact q v5 G1 H1 E1 S1 h5
    · skip
      have hm2 := (if_neg c1).symm.trans hm0
      refine gNext ?_
      refine gE ?_
      refine gRet ?_
      refine gTup' ?_
      refine gCons' ?_
      refine gC ?_
      refine gCons' ?_
      refine gCE (fun (v : V) (H : Hp) => ∃ (G : Hp), Ext G0 G ∧ Sub G (O) H ∧ v = (V.int (if (decide (standing1.2.1 = length1)) then standing1.2.2 else standing1.2.1))) ?_ ?_
      · skip
        refine gIf ?_
        refine gTest ?_
        refine gOp ?_
        refine gV rfl ?_
        refine gV rfl ?_
        refine ⟨_, _, rfl, rfl, ?_⟩
        refine ⟨(decide (standing1.2.1 = length1)), rfl, ?_⟩
        refine ite2 (fun c2 => ?_) (fun c2 => ?_)
        · skip
          refine gV rfl ?_
          exact ⟨G0, (Ext.refl _), S0, congrArg V.int (if_pos c2).symm⟩
        · skip
          refine gV rfl ?_
          exact ⟨G0, (Ext.refl _), S0, congrArg V.int (if_neg c2).symm⟩
      · intro v6 H2 hJ
        obtain ⟨G2, e2, S2, rfl⟩ := hJ
        have h8 := R.up e2 h1
        have E2 := E0.trans e2
        refine gNil' ?_
        refine q_tup2 (K := K) S2 (show R.rel rBool G2 (V.bl false) false from rfl) (show R.rel rInt G2 (V.int (if (decide (standing1.2.1 = length1)) then standing1.2.2 else standing1.2.1)) (if (decide (standing1.2.1 = length1)) then standing1.2.2 else standing1.2.1) from rfl) (fun v7 G3 H3 e3 S3 h9 => ?_)
        have h10 := R.up e3 h8
        have E3 := E2.trans e3
        cases hm2
        exact q v7 G3 H3 E3 S3 h9
end
end Mr

set_option Elab.async false
set_option linter.all false
set_option maxRecDepth 100000
set_option maxHeartbeats 4000000
set_option synthInstance.maxSize 4000
set_option synthInstance.maxHeartbeats 400000
namespace Mr
open PySem PySem.Spec PyProof.Rows L2
section
variable {P : Program} {w : World} {K : PySem.W.Frag} {mg : Str → Option Value} {base : Heap}
theorem sc_parting_blocks : FnScope ["length", "one", "two", "starts", "row", "twins"] ["length", "one", "two"] (defScope s_parting_blocks) := ⟨rfl, rfl, rfl, by decide +kernel, rfl, by decide +kernel, by decide +kernel⟩
theorem ok_parting_blocks (T : Tx K mg) : FnOk P w K mg base (L2.CX P w) 4 (He.fAd K ("parting_blocks", none)) T.fd_parting_blocks ["length", "one", "two"] (sp_parting_blocks K) := by
  have G_checked_standing := ok_checked_standing (P := P) (w := w) (base := base) T
  have G_next_line := ok_next_line (P := P) (w := w) (base := base) T
  refine T.F_parting_blocks.ok sc_parting_blocks (fun vs H Q E h => ?_) (fun cdv A outer s H0 vs Q E hr h => ?_)
  · obtain ⟨G, O, length1, v1, one1, v2, two1, rfl, _⟩ := h
    rfl
  · obtain ⟨G0, O, length1, v1, one1, v2, two1, rfl, S0, h1, h2, res, hm, q, qE⟩ := h
    refine ⟨_, (pss_cons (ps_expr (pe_call G_checked_standing (hr.mono (by decide)) (by rfl) T.g_checked_standing T.F_checked_standing.kp T.b_checked_standing .nil passE (pa_cons (pv 0) (pa_cons (pv 1) pa_nil))))
      (pss_cons (ps_expr (pe_call G_checked_standing (hr.mono (by decide)) (by rfl) T.g_checked_standing T.F_checked_standing.kp T.b_checked_standing .nil passE (pa_cons (pv 0) (pa_cons (pv 2) pa_nil))))
      (pss_cons (ps_asg (pe_call G_next_line (hr.mono (by decide)) (by rfl) T.g_next_line T.F_next_line.kp T.b_next_line .nil pass0 (pa_cons (pv 0) (pa_cons (pv 1) pa_nil))) (pg_tup rfl (pgs_cons (pg_name (i := 3) sc_parting_blocks.nd rfl (.inl rfl)) (pgs_cons (pg_name (i := 4) sc_parting_blocks.nd rfl (.inl rfl)) pgs_nil))))
      (pss_cons (ps_if (pt_cmpR (op_neD hr.units) (pe_call G_next_line (hr.mono (by decide)) (by rfl) T.g_next_line T.F_next_line.kp T.b_next_line .nil pass0 (pa_cons (pv 0) (pa_cons (pv 2) pa_nil))) (pe_tup (pa_cons (pv 3) (pa_cons (pv 4) pa_nil))) (nomark _)) (pss_one (ps_ret (pe_lst (pa_cons (pe_tup (pa_cons pe_int (pa_cons pe_int (pa_cons pe_bl (pa_cons pe_bl pa_nil))))) pa_nil)))) pss_nil)
      (pss_cons (ps_set (i := 5) sc_parting_blocks.nd rfl (.inl rfl) (pe_lst (pa_cons (pe_tup (pa_cons pe_str (pa_cons (pv 4) (pa_cons pe_int pa_nil)))) (pa_cons (pe_tup (pa_cons pe_str (pa_cons (pv 0) (pa_cons (pv 4) pa_nil)))) pa_nil))))
      (pss_cons (ps_if (pt_cut (PW.pt (pw_or (pt_cmpR (op_eqD hr.units) (pv 1) (pv 2) (nomark _)) (pw_or1 (pt_cut (PW.pt (pw_and (pt_cmpR (op_inD (un65 hr)) (pv 1) (pv 5) (by with_unfolding_all rfl)) (pw_and1 (pt_cmpR (op_inD (un65 hr)) (pv 2) (pv 5) (by with_unfolding_all rfl)))))))))) (pss_one (ps_ret pe_non)) pss_nil)
      (pss_one (ps_ret (pe_op op_cat (pe_op op_rep (pe_lst (pa_cons (pe_tup (pa_cons pe_int (pa_cons pe_int (pa_cons pe_bl (pa_cons pe_bl pa_nil))))) pa_nil)) (pe_op op_sub (pv 0) (pv 4))) (pe_lst (pa_cons (pe_tup (pa_cons pe_int (pa_cons pe_int (pa_cons pe_bl (pa_cons pe_bl pa_nil))))) pa_nil))))))))))), ?_⟩
    have E0 := Ext.refl G0
    have hm0 : (Option.bind (m_checked_standing length1 one1) fun rs => match rs with
  | Rs.er x => some (Rs.er x)
  | Rs.ok r1 => Option.bind (m_checked_standing length1 two1) fun rs => match rs with
  | Rs.er x => some (Rs.er x)
  | Rs.ok r2 => Option.bind (m_next_line length1 one1) fun r3 =>
  Option.bind (m_next_line length1 two1) fun r4 =>
  if (!decide (r4 = (r3.1, r3.2))) then (some (Rs.ok (some ([((1 : Int), (0 : Int), false, false)] : List (Int × Int × Bool × Bool)))))
  else (if ((decide (one1 = two1)) || ((memB one1 ([(Wd.kept, r3.2, (0 : Int)), (Wd.kept, length1, r3.2)] : List (Wd × Int × Int))) && (memB two1 ([(Wd.kept, r3.2, (0 : Int)), (Wd.kept, length1, r3.2)] : List (Wd × Int × Int))))) then (some (Rs.ok (none : (Option (List (Int × Int × Bool × Bool))))))
  else (Option.bind (repM ([((1 : Int), (0 : Int), true, false)] : List (Int × Int × Bool × Bool)) (length1 - r3.2)) fun z1 =>
  Option.bind (catM z1 ([((1 : Int), (0 : Int), false, false)] : List (Int × Int × Bool × Bool))) fun z2 =>
  some (Rs.ok (some z2))))) = some res := hm
    refine gS_Drop ?_
    refine gCall ?_
    refine gCons' ?_
    refine gV rfl ?_
    refine gCons' ?_
    refine gV rfl ?_
    refine gNil' ?_
    obtain ⟨rs1, hq1, hm1⟩ := bindS hm0
    rcases rs1 with r1 | x1
    rotate_left
    · skip
      dsimp only at hm1
      refine ⟨G0, (O), length1, v1, one1, rfl, S0, h1, Rs.er x1, hq1, fun _ z => (by cases z), fun y1 hy c1 d1 G2 H2 e2 S2 h4 => ?_⟩
      cases hy
      cases hm1
      exact qE _ rfl c1 d1 G2 H2 (E0.trans e2) S2 h4
    dsimp only at hm1
    refine ⟨G0, (O), length1, v1, one1, rfl, S0, h1, Rs.ok r1, hq1, q_ok rfl (fun v3 G1 H1 e1 S1 h3 => ?_), q_noer rfl⟩
    have h5 := R.up e1 h1
    have h6 := R.up e1 h2
    have E1 := E0.trans e1
    refine gS_Drop ?_
    refine gCall ?_
    refine gCons' ?_
    refine gV rfl ?_
    refine gCons' ?_
    refine gV rfl ?_
    refine gNil' ?_
    obtain ⟨rs2, hq2, hm3⟩ := bindS hm1
    rcases rs2 with r2 | x2
    rotate_left
    · skip
      dsimp only at hm3
      refine ⟨G1, (O), length1, v2, two1, rfl, S1, h6, Rs.er x2, hq2, fun _ z => (by cases z), fun y2 hy c2 d2 G4 H4 e4 S4 h8 => ?_⟩
      cases hy
      cases hm3
      exact qE _ rfl c2 d2 G4 H4 (E1.trans e4) S4 h8
    dsimp only at hm3
    refine ⟨G1, (O), length1, v2, two1, rfl, S1, h6, Rs.ok r2, hq2, q_ok rfl (fun v4 G3 H3 e3 S3 h7 => ?_), q_noer rfl⟩
    have h9 := R.up e3 h5
    have h10 := R.up e3 h6
    have E2 := E1.trans e3
    refine gS_Asg ?_
    refine gCall ?_
    refine gCons' ?_
    refine gV rfl ?_
    refine gCons' ?_
    refine gV rfl ?_
    refine gNil' ?_
    obtain ⟨r3, hq3, hm5⟩ := bindS hm3
    refine ⟨G3, (O), length1, v1, one1, rfl, S3, h9, r3, hq3, fun v5 G5 H5 e5 S5 h11 => ?_⟩
    have h12 := R.up e5 h9
    have h13 := R.up e5 h10
    have E3 := E2.trans e5
    refine q_gt2 S5 h11 (fun v6 v7 h14 h15 => ?_)
    obtain rfl := (show v6 = (V.bl r3.1) from h14)
    obtain rfl := (show v7 = (V.int r3.2) from h15)
    refine gS_IfS ?_
    refine gTest ?_
    refine gOp ?_
    refine gCall ?_
    refine gCons' ?_
    refine gV rfl ?_
    refine gCons' ?_
    refine gV rfl ?_
    refine gNil' ?_
    obtain ⟨r4, hq4, hm6⟩ := bindS hm5
    refine ⟨G5, (O), length1, v2, two1, rfl, S5, h13, r4, hq4, fun v8 G6 H6 e6 S6 h16 => ?_⟩
    have h17 := R.up e6 h12
    have h18 := R.up e6 h13
    have E4 := E3.trans e6
    refine gTup' ?_
    refine gCons' ?_
    refine gV rfl ?_
    refine gCons' ?_
    refine gV rfl ?_
    refine gNil' ?_
    refine q_tup2 (K := K) S6 (show R.rel rBool G6 (V.bl r3.1) r3.1 from rfl) (show R.rel rInt G6 (V.int r3.2) r3.2 from rfl) (fun v9 G7 H7 e7 S7 h19 => ?_)
    have h20 := R.up e7 h17
    have h21 := R.up e7 h18
    have h22 := R.up e7 h16
    have E5 := E4.trans e7
    refine q_neD (dP2 (dBool (K := K)) (dInt (K := K))) (by show 3 ≤ 64; decide) (R.up S7.ext h22) (R.up S7.ext h19) ((okP2 okB okI) _) ((okP2 okB okI) _) ?_
    refine ⟨(!decide (r4 = (r3.1, r3.2))), rfl, ?_⟩
    refine ite2 (fun c3 => ?_) (fun c3 => ?_)
    · skip
      have hm7 := (if_pos c3).symm.trans hm6
      refine gRet ?_
      refine gLst ?_
      refine gCons' ?_
      refine gTup' ?_
      refine gCons' ?_
      refine gC ?_
      refine gCons' ?_
      refine gC ?_
      refine gCons' ?_
      refine gC ?_
      refine gCons' ?_
      refine gC ?_
      refine gNil' ?_
      refine q_tup4 (K := K) S7 (show R.rel rInt G7 (V.int (1 : Int)) (1 : Int) from rfl) (show R.rel rInt G7 (V.int (0 : Int)) (0 : Int) from rfl) (show R.rel rBool G7 (V.bl false) false from rfl) (show R.rel rBool G7 (V.bl false) false from rfl) (fun v10 G8 H8 e8 S8 h23 => ?_)
      have h24 := R.up e8 h20
      have h25 := R.up e8 h21
      have E6 := E5.trans e8
      refine gNil' ?_
      have h26 : Al (rP4 K rInt rInt rBool rBool) G8 [v10] [((1 : Int), (0 : Int), false, false)] := ⟨h23, True.intro⟩
      refine q_lst S8 h26 (by show 1 ≤ 100000; decide) (fun a1 H9 w1 S9 h27 => ?_)
      cases hm7
      exact q _ rfl [(a1, HO.lst w1)] (V.ref a1) G8 H9 E6 S9 ⟨a1, w1, rfl, rfl, h27⟩
    · skip
      have hm8 := (if_neg c3).symm.trans hm6
      refine gNext ?_
      refine gE ?_
      refine gS_AsgN ?_
      refine gLst ?_
      refine gCons' ?_
      refine gTup' ?_
      refine gCons' ?_
      refine gC ?_
      refine gCons' ?_
      refine gV rfl ?_
      refine gCons' ?_
      refine gC ?_
      refine gNil' ?_
      refine q_tup3 (K := K) S7 (show R.rel (rEn e_Wd) G7 (V.str (e_Wd Wd.kept)) Wd.kept from rfl) (show R.rel rInt G7 (V.int r3.2) r3.2 from rfl) (show R.rel rInt G7 (V.int (0 : Int)) (0 : Int) from rfl) (fun v11 G9 H10 e9 S10 h28 => ?_)
      have h29 := R.up e9 h20
      have h30 := R.up e9 h21
      have E7 := E5.trans e9
      refine gCons' ?_
      refine gTup' ?_
      refine gCons' ?_
      refine gC ?_
      refine gCons' ?_
      refine gV rfl ?_
      refine gCons' ?_
      refine gV rfl ?_
      refine gNil' ?_
      refine q_tup3 (K := K) S10 (show R.rel (rEn e_Wd) G9 (V.str (e_Wd Wd.kept)) Wd.kept from rfl) (show R.rel rInt G9 (V.int length1) length1 from rfl) (show R.rel rInt G9 (V.int r3.2) r3.2 from rfl) (fun v12 G10 H11 e10 S11 h31 => ?_)
      have h32 := R.up e10 h29
      have h33 := R.up e10 h30
      have h34 := R.up e10 h28
      have E8 := E7.trans e10
      refine gNil' ?_
      have h35 : Al (rP3 K (rEn e_Wd) rInt rInt) G10 [v11, v12] [(Wd.kept, r3.2, (0 : Int)), (Wd.kept, length1, r3.2)] := ⟨h34, h31, True.intro⟩
      refine q_lst S11 h35 (by show 2 ≤ 100000; decide) (fun a2 H12 w2 S12 h36 => ?_)
      obtain ⟨G11, e11, S13, h37⟩ := frz_M S12 h36
      have h38 := R.up e11 h32
      have h39 := R.up e11 h33
      have E9 := E8.trans e11
      refine gS_IfS ?_
      refine gCT (fun (b : Bool) (H : Hp) => ∃ (G : Hp), Ext G11 G ∧ Sub G (O) H ∧ b = ((decide (one1 = two1)) || ((memB one1 ([(Wd.kept, r3.2, (0 : Int)), (Wd.kept, length1, r3.2)] : List (Wd × Int × Int))) && (memB two1 ([(Wd.kept, r3.2, (0 : Int)), (Wd.kept, length1, r3.2)] : List (Wd × Int × Int)))))) ?_ ?_
      · skip
        refine gOr ?_
        refine gTest ?_
        refine gOp ?_
        refine gV rfl ?_
        refine gV rfl ?_
        refine q_eqD (dP3 (dEn (K := K) e_Wd e_Wd_inj e_Wd_ok) (dInt (K := K)) (dInt (K := K))) (by show 4 ≤ 64; decide) (R.up S13.ext h38) (R.up S13.ext h39) ((okP3 okEn okI okI) _) ((okP3 okEn okI okI) _) ?_
        refine ⟨(decide (one1 = two1)), rfl, ?_⟩
        refine ite2 (fun c5 => ?_) (fun c5 => ?_)
        · skip
          exact ⟨G11, (Ext.refl _), S13, (by rw [c5, Bool.true_or])⟩
        · skip
          refine gCT (fun (b : Bool) (H : Hp) => ∃ (G : Hp), Ext G11 G ∧ Sub G (O) H ∧ b = ((memB one1 ([(Wd.kept, r3.2, (0 : Int)), (Wd.kept, length1, r3.2)] : List (Wd × Int × Int))) && (memB two1 ([(Wd.kept, r3.2, (0 : Int)), (Wd.kept, length1, r3.2)] : List (Wd × Int × Int))))) ?_ ?_
          · skip
            refine gAnd ?_
            refine gTest ?_
            refine gOp ?_
            refine gV rfl ?_
            refine gV rfl ?_
            refine q_inDB (dP3 (dEn (K := K) e_Wd e_Wd_inj e_Wd_ok) (dInt (K := K)) (dInt (K := K))) (by show 5 ≤ 64; decide) (R.up S13.ext h38) (R.up S13.ext h37) ((okP3 okEn okI okI) _) (ok_all (okP3 okEn okI okI) _) ?_
            refine ⟨(memB one1 ([(Wd.kept, r3.2, (0 : Int)), (Wd.kept, length1, r3.2)] : List (Wd × Int × Int))), rfl, ?_⟩
            refine ite2 (fun c6 => ?_) (fun c6 => ?_)
            · skip
              refine gTest ?_
              refine gOp ?_
              refine gV rfl ?_
              refine gV rfl ?_
              refine q_inDB (dP3 (dEn (K := K) e_Wd e_Wd_inj e_Wd_ok) (dInt (K := K)) (dInt (K := K))) (by show 5 ≤ 64; decide) (R.up S13.ext h39) (R.up S13.ext h37) ((okP3 okEn okI okI) _) (ok_all (okP3 okEn okI okI) _) ?_
              refine ⟨(memB two1 ([(Wd.kept, r3.2, (0 : Int)), (Wd.kept, length1, r3.2)] : List (Wd × Int × Int))), rfl, ?_⟩
              exact ⟨G11, (Ext.refl _), S13, (by rw [c6, Bool.true_and])⟩
            · skip
              exact ⟨G11, (Ext.refl _), S13, (by rw [ne_false c6, Bool.false_and])⟩
          · intro b2 H14 hJ
            obtain ⟨G13, e13, S15, rfl⟩ := hJ
            have h43 := R.up e13 h38
            have h44 := R.up e13 h39
            have h45 := R.up e13 h37
            have E11 := E9.trans e13
            exact ⟨G13, e13, S15, (by rw [ne_false c5, Bool.false_or])⟩
      · intro b3 H15 hJ
        obtain ⟨G14, e14, S16, rfl⟩ := hJ
        have h46 := R.up e14 h38
        have h47 := R.up e14 h39
        have h48 := R.up e14 h37
        have E12 := E9.trans e14
        refine ite2 (fun c7 => ?_) (fun c7 => ?_)
        · skip
          have hm9 := (if_pos c7).symm.trans hm8
          refine gRet ?_
          refine gC ?_
          cases hm9
          exact q _ rfl [] V.non G14 H15 E12 S16 ⟨rfl, rfl⟩
        · skip
          have hm10 := (if_neg c7).symm.trans hm8
          refine gNext ?_
          refine gE ?_
          refine gRet ?_
          refine gOp ?_
          refine gOp ?_
          refine gLst ?_
          refine gCons' ?_
          refine gTup' ?_
          refine gCons' ?_
          refine gC ?_
          refine gCons' ?_
          refine gC ?_
          refine gCons' ?_
          refine gC ?_
          refine gCons' ?_
          refine gC ?_
          refine gNil' ?_
          refine q_tup4 (K := K) S16 (show R.rel rInt G14 (V.int (1 : Int)) (1 : Int) from rfl) (show R.rel rInt G14 (V.int (0 : Int)) (0 : Int) from rfl) (show R.rel rBool G14 (V.bl true) true from rfl) (show R.rel rBool G14 (V.bl false) false from rfl) (fun v13 G15 H16 e15 S17 h49 => ?_)
          have h50 := R.up e15 h46
          have h51 := R.up e15 h47
          have h52 := R.up e15 h48
          have E13 := E12.trans e15
          refine gNil' ?_
          have h53 : Al (rP4 K rInt rInt rBool rBool) G15 [v13] [((1 : Int), (0 : Int), true, false)] := ⟨h49, True.intro⟩
          refine q_lst S17 h53 (by show 1 ≤ 100000; decide) (fun a3 H17 w3 S18 h54 => ?_)
          refine gOp ?_
          refine gV rfl ?_
          refine gV rfl ?_
          refine ⟨_, _, rfl, rfl, ?_⟩
          obtain ⟨z1, hq5, hm11⟩ := bindS hm10
          have h55 := ls_O S18 h54
          refine q_rep S18 h55 hq5 (fun v14 G16 H18 e16 S19 h56 => ?_)
          have h57 := R.up e16 h50
          have h58 := R.up e16 h51
          have h59 := R.up e16 h52
          have E14 := E13.trans e16
          refine gLst ?_
          refine gCons' ?_
          refine gTup' ?_
          refine gCons' ?_
          refine gC ?_
          refine gCons' ?_
          refine gC ?_
          refine gCons' ?_
          refine gC ?_
          refine gCons' ?_
          refine gC ?_
          refine gNil' ?_
          refine q_tup4 (K := K) S19 (show R.rel rInt G16 (V.int (1 : Int)) (1 : Int) from rfl) (show R.rel rInt G16 (V.int (0 : Int)) (0 : Int) from rfl) (show R.rel rBool G16 (V.bl false) false from rfl) (show R.rel rBool G16 (V.bl false) false from rfl) (fun v15 G17 H19 e17 S20 h60 => ?_)
          have h61 := R.up e17 h57
          have h62 := R.up e17 h58
          have h63 := R.up e17 h59
          have h64 := R.up e17 h56
          have E15 := E14.trans e17
          refine gNil' ?_
          have h65 : Al (rP4 K rInt rInt rBool rBool) G17 [v15] [((1 : Int), (0 : Int), false, false)] := ⟨h60, True.intro⟩
          refine q_lst S20 h65 (by show 1 ≤ 100000; decide) (fun a4 H20 w4 S21 h66 => ?_)
          obtain ⟨z2, hq6, hm12⟩ := bindS hm11
          have h67 := ls_O S21 h66
          refine q_catw S21 (ls_M S21 h64) h67 hq6 (fun a5 w5 H21 S22 h68 => ?_)
          have S23 : Sub G17 ((a4, HO.lst w4) :: (a5, HO.lst w5) :: (a3, HO.lst w3) :: O) H21 := S22.front 1 rfl rfl
          have S24 := S23.tail
          have S25 : Sub G17 ((a3, HO.lst w3) :: (a5, HO.lst w5) :: O) H21 := S24.front 1 rfl rfl
          have S26 := S25.tail
          cases hm12
          exact q _ rfl [(a5, HO.lst w5)] (V.ref a5) G17 H21 E15 S26 ⟨a5, w5, rfl, rfl, h68⟩
end
end Mr

set_option Elab.async false
set_option linter.all false
set_option maxRecDepth 100000
set_option maxHeartbeats 4000000
set_option synthInstance.maxSize 4000
set_option synthInstance.maxHeartbeats 400000
namespace Mr
open PySem PySem.Spec PyProof.Rows L2
section
variable {P : Program} {w : World} {K : PySem.W.Frag} {mg : Str → Option Value} {base : Heap}
theorem ok_parting_blocks__1 (T : Tx K mg) : FnOk P w K mg base (L2.CX P w) 4 (He.fAd K ("parting_blocks", none)) T.fd_parting_blocks ["length", "one", "two"] (sp_parting_blocks__1 K) := by
  have G_checked_standing := ok_checked_standing (P := P) (w := w) (base := base) T
  have G_checked_standing__1 := ok_checked_standing__1 (P := P) (w := w) (base := base) T
  have G_next_line := ok_next_line (P := P) (w := w) (base := base) T
  refine T.F_parting_blocks.ok sc_parting_blocks (fun vs H Q E h => ?_) (fun cdv A outer s H0 vs Q E hr h => ?_)
  · obtain ⟨G, O, length1, v1, one1, two1, rfl, _⟩ := h
    rfl
  · obtain ⟨G0, O, length1, v1, one1, two1, rfl, S0, h1, res, hm, q, qE⟩ := h
    refine ⟨_, (pss_cons (ps_expr (pe_call G_checked_standing__1 (hr.mono (by decide)) (by rfl) T.g_checked_standing T.F_checked_standing.kp T.b_checked_standing .nil passE (pa_cons (pv 0) (pa_cons (pv 1) pa_nil))))
      (pss_cons (ps_expr (pe_call G_checked_standing (hr.mono (by decide)) (by rfl) T.g_checked_standing T.F_checked_standing.kp T.b_checked_standing .nil passE (pa_cons (pv 0) (pa_cons (pv 2) pa_nil))))
      (pss_cons (ps_asg (pe_call G_next_line (hr.mono (by decide)) (by rfl) T.g_next_line T.F_next_line.kp T.b_next_line .nil pass0 (pa_cons (pv 0) (pa_cons (pv 1) pa_nil))) (pg_tup rfl (pgs_cons (pg_name (i := 3) sc_parting_blocks.nd rfl (.inl rfl)) (pgs_cons (pg_name (i := 4) sc_parting_blocks.nd rfl (.inl rfl)) pgs_nil))))
      (pss_cons (ps_if (pt_cmpR (op_neD hr.units) (pe_call G_next_line (hr.mono (by decide)) (by rfl) T.g_next_line T.F_next_line.kp T.b_next_line .nil pass0 (pa_cons (pv 0) (pa_cons (pv 2) pa_nil))) (pe_tup (pa_cons (pv 3) (pa_cons (pv 4) pa_nil))) (nomark _)) (pss_one (ps_ret (pe_lst (pa_cons (pe_tup (pa_cons pe_int (pa_cons pe_int (pa_cons pe_bl (pa_cons pe_bl pa_nil))))) pa_nil)))) pss_nil)
      (pss_cons (ps_set (i := 5) sc_parting_blocks.nd rfl (.inl rfl) (pe_lst (pa_cons (pe_tup (pa_cons pe_str (pa_cons (pv 4) (pa_cons pe_int pa_nil)))) (pa_cons (pe_tup (pa_cons pe_str (pa_cons (pv 0) (pa_cons (pv 4) pa_nil)))) pa_nil))))
      (pss_cons (ps_if (pt_cut (PW.pt (pw_or (pt_cmpR (op_eqD hr.units) (pv 1) (pv 2) (nomark _)) (pw_or1 (pt_cut (PW.pt (pw_and (pt_cmpR (op_inD (un65 hr)) (pv 1) (pv 5) (by with_unfolding_all rfl)) (pw_and1 (pt_cmpR (op_inD (un65 hr)) (pv 2) (pv 5) (by with_unfolding_all rfl)))))))))) (pss_one (ps_ret pe_non)) pss_nil)
      (pss_one (ps_ret (pe_op op_cat (pe_op op_rep (pe_lst (pa_cons (pe_tup (pa_cons pe_int (pa_cons pe_int (pa_cons pe_bl (pa_cons pe_bl pa_nil))))) pa_nil)) (pe_op op_sub (pv 0) (pv 4))) (pe_lst (pa_cons (pe_tup (pa_cons pe_int (pa_cons pe_int (pa_cons pe_bl (pa_cons pe_bl pa_nil))))) pa_nil))))))))))), ?_⟩
    have E0 := Ext.refl G0
    have hm0 : (Option.bind (m_checked_standing__1 length1 one1) fun rs => match rs with
  | Rs.er x => some (Rs.er x)
  | Rs.ok r1 => none) = some res := hm
    refine gS_Drop ?_
    refine gCall ?_
    refine gCons' ?_
    refine gV rfl ?_
    refine gCons' ?_
    refine gV rfl ?_
    refine gNil' ?_
    obtain ⟨rs1, hq1, hm1⟩ := bindS hm0
    rcases rs1 with r1 | x1
    rotate_left
    · skip
      dsimp only at hm1
      refine ⟨G0, (O), length1, v1, one1, rfl, S0, h1, Rs.er x1, hq1, fun _ z => (by cases z), fun y1 hy c1 d1 G2 H2 e2 S2 h3 => ?_⟩
      cases hy
      cases hm1
      exact qE _ rfl c1 d1 G2 H2 (E0.trans e2) S2 h3
    dsimp only at hm1
    refine ⟨G0, (O), length1, v1, one1, rfl, S0, h1, Rs.ok r1, hq1, q_ok rfl (fun v2 G1 H1 e1 S1 h2 => ?_), q_noer rfl⟩
    have h4 := R.up e1 h1
    have E1 := E0.trans e1
    cases hm1
end
end Mr

set_option Elab.async false
set_option linter.all false
set_option maxRecDepth 100000
set_option maxHeartbeats 4000000
set_option synthInstance.maxSize 4000
set_option synthInstance.maxHeartbeats 400000
namespace Mr
open PySem PySem.Spec PyProof.Rows L2
section
variable {P : Program} {w : World} {K : PySem.W.Frag} {mg : Str → Option Value} {base : Heap}
theorem ok_parting_blocks__2 (T : Tx K mg) : FnOk P w K mg base (L2.CX P w) 4 (He.fAd K ("parting_blocks", none)) T.fd_parting_blocks ["length", "one", "two"] (sp_parting_blocks__2 K) := by
  have G_checked_standing := ok_checked_standing (P := P) (w := w) (base := base) T
  have G_checked_standing__1 := ok_checked_standing__1 (P := P) (w := w) (base := base) T
  have G_next_line := ok_next_line (P := P) (w := w) (base := base) T
  refine T.F_parting_blocks.ok sc_parting_blocks (fun vs H Q E h => ?_) (fun cdv A outer s H0 vs Q E hr h => ?_)
  · obtain ⟨G, O, length1, v1, one1, v2, two1, rfl, _⟩ := h
    rfl
  · obtain ⟨G0, O, length1, v1, one1, v2, two1, rfl, S0, h1, h2, res, hm, q, qE⟩ := h
    refine ⟨_, (pss_cons (ps_expr (pe_call G_checked_standing (hr.mono (by decide)) (by rfl) T.g_checked_standing T.F_checked_standing.kp T.b_checked_standing .nil passE (pa_cons (pv 0) (pa_cons (pv 1) pa_nil))))
      (pss_cons (ps_expr (pe_call G_checked_standing__1 (hr.mono (by decide)) (by rfl) T.g_checked_standing T.F_checked_standing.kp T.b_checked_standing .nil passE (pa_cons (pv 0) (pa_cons (pv 2) pa_nil))))
      (pss_cons (ps_asg (pe_call G_next_line (hr.mono (by decide)) (by rfl) T.g_next_line T.F_next_line.kp T.b_next_line .nil pass0 (pa_cons (pv 0) (pa_cons (pv 1) pa_nil))) (pg_tup rfl (pgs_cons (pg_name (i := 3) sc_parting_blocks.nd rfl (.inl rfl)) (pgs_cons (pg_name (i := 4) sc_parting_blocks.nd rfl (.inl rfl)) pgs_nil))))
      (pss_cons (ps_if (pt_cmpR (op_neD hr.units) (pe_call G_next_line (hr.mono (by decide)) (by rfl) T.g_next_line T.F_next_line.kp T.b_next_line .nil pass0 (pa_cons (pv 0) (pa_cons (pv 2) pa_nil))) (pe_tup (pa_cons (pv 3) (pa_cons (pv 4) pa_nil))) (nomark _)) (pss_one (ps_ret (pe_lst (pa_cons (pe_tup (pa_cons pe_int (pa_cons pe_int (pa_cons pe_bl (pa_cons pe_bl pa_nil))))) pa_nil)))) pss_nil)
      (pss_cons (ps_set (i := 5) sc_parting_blocks.nd rfl (.inl rfl) (pe_lst (pa_cons (pe_tup (pa_cons pe_str (pa_cons (pv 4) (pa_cons pe_int pa_nil)))) (pa_cons (pe_tup (pa_cons pe_str (pa_cons (pv 0) (pa_cons (pv 4) pa_nil)))) pa_nil))))
      (pss_cons (ps_if (pt_cut (PW.pt (pw_or (pt_cmpR (op_eqD hr.units) (pv 1) (pv 2) (nomark _)) (pw_or1 (pt_cut (PW.pt (pw_and (pt_cmpR (op_inD (un65 hr)) (pv 1) (pv 5) (by with_unfolding_all rfl)) (pw_and1 (pt_cmpR (op_inD (un65 hr)) (pv 2) (pv 5) (by with_unfolding_all rfl)))))))))) (pss_one (ps_ret pe_non)) pss_nil)
      (pss_one (ps_ret (pe_op op_cat (pe_op op_rep (pe_lst (pa_cons (pe_tup (pa_cons pe_int (pa_cons pe_int (pa_cons pe_bl (pa_cons pe_bl pa_nil))))) pa_nil)) (pe_op op_sub (pv 0) (pv 4))) (pe_lst (pa_cons (pe_tup (pa_cons pe_int (pa_cons pe_int (pa_cons pe_bl (pa_cons pe_bl pa_nil))))) pa_nil))))))))))), ?_⟩
    have E0 := Ext.refl G0
    have hm0 : (Option.bind (m_checked_standing length1 one1) fun rs => match rs with
  | Rs.er x => some (Rs.er x)
  | Rs.ok r1 => Option.bind (m_checked_standing__1 length1 two1) fun rs => match rs with
  | Rs.er x => some (Rs.er x)
  | Rs.ok r2 => none) = some res := hm
    refine gS_Drop ?_
    refine gCall ?_
    refine gCons' ?_
    refine gV rfl ?_
    refine gCons' ?_
    refine gV rfl ?_
    refine gNil' ?_
    obtain ⟨rs1, hq1, hm1⟩ := bindS hm0
    rcases rs1 with r1 | x1
    rotate_left
    · skip
      dsimp only at hm1
      refine ⟨G0, (O), length1, v1, one1, rfl, S0, h1, Rs.er x1, hq1, fun _ z => (by cases z), fun y1 hy c1 d1 G2 H2 e2 S2 h4 => ?_⟩
      cases hy
      cases hm1
      exact qE _ rfl c1 d1 G2 H2 (E0.trans e2) S2 h4
    dsimp only at hm1
    refine ⟨G0, (O), length1, v1, one1, rfl, S0, h1, Rs.ok r1, hq1, q_ok rfl (fun v3 G1 H1 e1 S1 h3 => ?_), q_noer rfl⟩
    have h5 := R.up e1 h1
    have h6 := R.up e1 h2
    have E1 := E0.trans e1
    refine gS_Drop ?_
    refine gCall ?_
    refine gCons' ?_
    refine gV rfl ?_
    refine gCons' ?_
    refine gV rfl ?_
    refine gNil' ?_
    obtain ⟨rs2, hq2, hm3⟩ := bindS hm1
    rcases rs2 with r2 | x2
    rotate_left
    · skip
      dsimp only at hm3
      refine ⟨G1, (O), length1, v2, two1, rfl, S1, h6, Rs.er x2, hq2, fun _ z => (by cases z), fun y2 hy c2 d2 G4 H4 e4 S4 h8 => ?_⟩
      cases hy
      cases hm3
      exact qE _ rfl c2 d2 G4 H4 (E1.trans e4) S4 h8
    dsimp only at hm3
    refine ⟨G1, (O), length1, v2, two1, rfl, S1, h6, Rs.ok r2, hq2, q_ok rfl (fun v4 G3 H3 e3 S3 h7 => ?_), q_noer rfl⟩
    have h9 := R.up e3 h5
    have h10 := R.up e3 h6
    have E2 := E1.trans e3
    cases hm3
end
end Mr

set_option Elab.async false
set_option linter.all false
set_option maxRecDepth 100000
set_option maxHeartbeats 4000000
set_option synthInstance.maxSize 4000
set_option synthInstance.maxHeartbeats 400000
namespace Mr
open PySem PySem.Spec PyProof.Rows L2
section
variable {P : Program} {w : World} {K : PySem.W.Frag} {mg : Str → Option Value} {base : Heap}
theorem sc_law_bag : FnScope ["_law_script", "_law_at", "_law_great", "_law_mixed", "_law_place", "_law_cell"] ["_law_script", "_law_at"] (defScope s_law_bag) := ⟨rfl, rfl, rfl, by decide +kernel, rfl, by decide +kernel, by decide +kernel⟩
theorem ok_law_bag (T : Tx K mg) : FnOk P w K mg base CX0 1 (He.fAd K ("_law_bag", none)) T.fd_law_bag ["_law_script", "_law_at"] (sp_law_bag K) := by
  refine T.F_law_bag.ok sc_law_bag (fun vs H Q E h => ?_) (fun cdv A outer s H0 vs Q E hr h => ?_)
  · obtain ⟨G, O, v1, script1, at1, rfl, _⟩ := h
    rfl
  · obtain ⟨G0, O, v1, script1, at1, rfl, S0, h1, res, hm, q⟩ := h
    refine ⟨_, PSs.nox (pss_cons (ps_set (i := 2) sc_law_bag.nd rfl (.inl rfl) (pe_cut (pe_ifExp (pt_cmpR op_lt (pv 1) (pe_callB (r := rLenM K) call_lenM (by rfl) T.z_len boot_len (pa_cons (pv 0) pa_nil)) (nomark _)) (pe_callB call_abs (by rfl) T.z_abs boot_abs (pa_cons (pe_callTy call_int1 (by rfl) T.z_int boot_int (pa_cons (pe_ix ix_list (pv 0) (pv 1) (fun _ _ => rfl)) pa_nil)) pa_nil)) pe_int)))
      (pss_cons (ps_set (i := 3) sc_law_bag.nd rfl (.inl rfl) (pe_op op_add pe_int (pe_op op_mul pe_int (pv 1))))
      (pss_cons (ps_cut (ps_for PassesOwn.never rfl (pi_enumQ (by rfl) T.z_enumerate (pa_cons (pe_slice sl_list (pv 0) po_none (po_some pe_int)) pa_nil)) (pg_tup rfl (pgs_cons (pg_name (i := 4) sc_law_bag.nd rfl (.inl rfl)) (pgs_cons (pg_name (i := 5) sc_law_bag.nd rfl (.inl rfl)) pgs_nil)))
      (pss_one (ps_set (i := 3) sc_law_bag.nd rfl (.inl rfl) (pe_op op_mod (pe_callTy call_int1 (by rfl) T.z_int boot_int (pa_cons (pe_op op_add (pe_op op_add (pe_op op_mul (pv 3) pe_int) (pe_op op_mod (pe_callTy call_int1 (by rfl) T.z_int boot_int (pa_cons (pv 5) pa_nil)) pe_int)) (pe_op op_mul pe_int (pv 4))) pa_nil)) pe_int)))))
      (pss_one (ps_ret (pe_lst (pa_cons (pe_cut (pe_ifExp (pt_cmpR op_ge (pv 2) (pe_op op_pow pe_int pe_int) (nomark _)) (pv 2) pe_int)) (pa_cons (pv 3) (pa_cons pe_int pa_nil))))))))), ?_⟩
    have E0 := Ext.refl G0
    have hm0 : (Option.bind (if (decide (at1 < (script1.length : Int))) then (Option.bind (getM script1 at1) fun x1 =>
  some (if x1 < 0 then -x1 else x1)) else (some (0 : Int))) fun x2 =>
  Option.bind (folM (m_law_bag_b1) (enumM (cutM script1 none (some (63 : Int)))) ((1009 : Int) + ((77 : Int) * at1))) fun mixed1 =>
  some ([(if (decide (x2 ≥ ((10 : Int) ^ (18 : Int).toNat))) then x2 else (0 : Int)), mixed1, (0 : Int)] : List Int)) = some res := hm
    refine gS_AsgN ?_
    obtain ⟨x2, hq2, hm2⟩ := bindS hm0
    refine gCE (fun (v : V) (H : Hp) => ∃ (G : Hp), Ext G0 G ∧ Sub G (O) H ∧ v = (V.int x2)) ?_ ?_
    · skip
      refine gIf ?_
      refine gTest ?_
      refine gOp ?_
      refine gV rfl ?_
      refine gCB ?_
      refine gCons' ?_
      refine gV rfl ?_
      refine gNil' ?_
      refine q_lenL (y := V.non) S0 h1 ?_
      refine ⟨_, _, rfl, rfl, ?_⟩
      refine ⟨(decide (at1 < (script1.length : Int))), rfl, ?_⟩
      refine ite2 (fun c1 => ?_) (fun c1 => ?_)
      · skip
        have hm3 := (if_pos c1).symm.trans hq2
        refine gCB ?_
        refine gCons' ?_
        refine gCB ?_
        refine gCons' ?_
        refine gOp ?_
        refine gV rfl ?_
        refine gV rfl ?_
        obtain ⟨x3, hq3, hm4⟩ := bindS hm3
        refine q_ixL S0 h1 hq3 (fun v3 h3 => ?_)
        obtain rfl := (show v3 = (V.int x3) from h3)
        refine gNil' ?_
        refine .inl ⟨_, rfl, ?_⟩
        refine gNil' ?_
        refine ⟨_, rfl, ?_⟩
        cases hm4
        exact ⟨G0, (Ext.refl _), S0, rfl⟩
      · skip
        have hm5 := (if_neg c1).symm.trans hq2
        refine gC ?_
        cases hm5
        exact ⟨G0, (Ext.refl _), S0, rfl⟩
    · intro v4 H1 hJ
      obtain ⟨G1, e1, S1, rfl⟩ := hJ
      have h5 := R.up e1 h1
      have E1 := E0.trans e1
      refine gS_AsgN ?_
      refine gOp ?_
      refine gC ?_
      refine gOp ?_
      refine gC ?_
      refine gV rfl ?_
      refine ⟨_, _, rfl, rfl, .inl ⟨by decide, by decide⟩, ?_⟩
      refine ⟨_, _, rfl, rfl, ?_⟩
      obtain ⟨mixed1, hl1, hm6⟩ := bindS hm2
      refine gS_CS (fun (σ : L2.St) (H : Hp) => ∃ (G : Hp) (y1 : Option V) (y2 : Option V), Ext G1 G ∧ Sub G (O) H ∧ σ = [some v1, some (V.int at1), some (V.int x2), some (V.int mixed1), y1, y2]) ?_ ?_
      · skip
        refine gFor ?_
        refine gIE ?_
        refine gCons' ?_
        refine gSl ?_
        refine gV rfl ?_
        refine gNoPart ?_
        refine gPart ?_
        refine gC ?_
        refine ⟨_, rfl, ?_⟩
        refine q_slM S1 h5 (fun v5 G2 H2 e2 S2 h6 => ?_)
        have h7 := R.up e2 h5
        have E2 := E1.trans e2
        refine gNil' ?_
        refine lp_EQ (r := rInt) S2 (rM_Q (K := K) h6) (fol_for Empty hl1) (fun (s : Int) (σ : L2.St) (H : Hp) => ∃ (G : Hp) (y1 : Option V) (y2 : Option V), Ext G2 G ∧ Sub G (O) H ∧ σ = [some v1, some (V.int at1), some (V.int x2), some (V.int s), y1, y2]) ⟨G2, _, _, (Ext.refl _), S2, rfl⟩ ?_ ?_ ?_
        · intro s σ H hI
          obtain ⟨G, k1, k2, ie, iS, _⟩ := hI
          exact ie.trans iS.ext
        · intro i1 x4 mixed2 b1 hb1 hr1 v6 σ1 H3 H4 hI1 hS1 h8
          obtain ⟨s2, hb2, hb3⟩ := goF_some hb1
          subst hb3
          obtain ⟨G3, y3, y4, e3, S3, rfl⟩ := hI1
          have h9 := R.up e3 h7
          have h10 := R.up e3 h6
          have E3 := E2.trans e3
          have S4 := hS1 _ _ S3
          generalize ((i1 : Nat) : Int) = k3 at hb2 ⊢
          obtain rfl := (show v6 = (V.int x4) from h8)
          have hm7 : (some ((((mixed2 * (16807 : Int)) + (x4 % (2147483629 : Int))) + ((13 : Int) * k3)) % (2147483647 : Int))) = some s2 := hb2
          refine gAsgN ?_
          refine gOp ?_
          refine gCB ?_
          refine gCons' ?_
          refine gOp ?_
          refine gOp ?_
          refine gOp ?_
          refine gV rfl ?_
          refine gC ?_
          refine ⟨_, _, rfl, rfl, .inr ⟨by decide, by decide⟩, ?_⟩
          refine gOp ?_
          refine gCB ?_
          refine gCons' ?_
          refine gV rfl ?_
          refine gNil' ?_
          refine .inl ⟨_, rfl, ?_⟩
          refine gC ?_
          refine ⟨_, _, rfl, rfl, (by show (0 : Int) < 2147483629; decide), ?_⟩
          refine ⟨_, _, rfl, rfl, ?_⟩
          refine gOp ?_
          refine gC ?_
          refine gV rfl ?_
          refine ⟨_, _, rfl, rfl, .inl ⟨by decide, by decide⟩, ?_⟩
          refine ⟨_, _, rfl, rfl, ?_⟩
          refine gNil' ?_
          refine .inl ⟨_, rfl, ?_⟩
          refine gC ?_
          refine ⟨_, _, rfl, rfl, (by show (0 : Int) < 2147483647; decide), ?_⟩
          cases hm7
          exact ⟨_, ⟨G3, _, _, e3, S4, rfl⟩, hr1⟩
        · intro s σ H h1 h2
          cases h1
          obtain ⟨G, k1, k2, ie, irest⟩ := h2
          exact ⟨G, k1, k2, (e2.trans ie), irest⟩
      · intro σ2 H5 hJ1
        obtain ⟨G4, y5, y6, e4, S5, rfl⟩ := hJ1
        have h11 := R.up e4 h5
        have E4 := E1.trans e4
        refine gRet ?_
        refine gLst ?_
        refine gCons' ?_
        refine gCE (fun (v : V) (H : Hp) => ∃ (G : Hp), Ext G4 G ∧ Sub G (O) H ∧ v = (V.int (if (decide (x2 ≥ ((10 : Int) ^ (18 : Int).toNat))) then x2 else (0 : Int)))) ?_ ?_
        · skip
          refine gIf ?_
          refine gTest ?_
          refine gOp ?_
          refine gV rfl ?_
          refine gOp ?_
          refine gC ?_
          refine gC ?_
          refine ⟨_, _, rfl, rfl, ⟨by decide, by decide, by decide⟩, ?_⟩
          refine ⟨_, _, rfl, rfl, ?_⟩
          refine ⟨(decide (x2 ≥ ((10 : Int) ^ (18 : Int).toNat))), rfl, ?_⟩
          refine ite2 (fun c2 => ?_) (fun c2 => ?_)
          · skip
            refine gV rfl ?_
            exact ⟨G4, (Ext.refl _), S5, congrArg V.int (if_pos c2).symm⟩
          · skip
            refine gC ?_
            exact ⟨G4, (Ext.refl _), S5, congrArg V.int (if_neg c2).symm⟩
        · intro v7 H6 hJ
          obtain ⟨G5, e5, S6, rfl⟩ := hJ
          have h13 := R.up e5 h11
          have E5 := E4.trans e5
          refine gCons' ?_
          refine gV rfl ?_
          refine gCons' ?_
          refine gC ?_
          refine gNil' ?_
          have h14 : Al rInt G5 [(V.int (if (decide (x2 ≥ ((10 : Int) ^ (18 : Int).toNat))) then x2 else (0 : Int))), (V.int mixed1), (V.int (0 : Int))] [(if (decide (x2 ≥ ((10 : Int) ^ (18 : Int).toNat))) then x2 else (0 : Int)), mixed1, (0 : Int)] := ⟨rfl, rfl, rfl, True.intro⟩
          refine q_lst S6 h14 (by show 3 ≤ 100000; decide) (fun a1 H7 w1 S7 h15 => ?_)
          cases hm6
          exact q a1 w1 G5 H7 E5 S7 h15
end
end Mr

set_option Elab.async false
set_option linter.all false
set_option maxRecDepth 100000
set_option maxHeartbeats 4000000
set_option synthInstance.maxSize 4000
set_option synthInstance.maxHeartbeats 400000
namespace Mr
open PySem PySem.Spec PyProof.Rows L2
section
variable {P : Program} {w : World} {K : PySem.W.Frag} {mg : Str → Option Value} {base : Heap}
theorem sc_law_draw : FnScope ["_law_bag_here", "_law_many", "_law_digit"] ["_law_bag_here", "_law_many"] (defScope s_law_draw) := ⟨rfl, rfl, rfl, by decide +kernel, rfl, by decide +kernel, by decide +kernel⟩
theorem ok_law_draw (T : Tx K mg) : FnOk P w K mg base CX0 1 (He.fAd K ("_law_draw", none)) T.fd_law_draw ["_law_bag_here", "_law_many"] (sp_law_draw K) := by
  refine T.F_law_draw.ok sc_law_draw (fun vs H Q E h => ?_) (fun cdv A outer s H0 vs Q E hr h => ?_)
  · obtain ⟨G, O, a1, w1, bag_here1, many1, rfl, _⟩ := h
    rfl
  · obtain ⟨G0, O, a1, w1, bag_here1, many1, rfl, S0, h1, res, hm, q⟩ := h
    refine ⟨_, PSs.nox (pss_cons (ps_if (pt_cmpR op_gt (pe_ix ix_list (pv 0) pe_int (fun _ _ => rfl)) pe_int (nomark _)) (pss_cons (ps_set (i := 2) sc_law_draw.nd rfl (.inl rfl) (pe_op op_mod (pe_callTy call_int1 (by rfl) T.z_int boot_int (pa_cons (pe_ix ix_list (pv 0) pe_int (fun _ _ => rfl)) pa_nil)) (pv 1)))
      (pss_cons (ps_asg (pe_op op_fdivW (pe_ix ix_list (pv 0) pe_int (fun _ _ => rfl)) (pv 1)) (pg_sub (pv 0) pe_int set_list))
      (pss_one (ps_ret (pv 2))))) pss_nil)
      (pss_cons (ps_asg (pe_op op_add (pe_ix ix_list (pv 0) pe_int (fun _ _ => rfl)) pe_int) (pg_sub (pv 0) pe_int set_list))
      (pss_cons (ps_asg (pe_op op_mod (pe_callTy call_int1 (by rfl) T.z_int boot_int (pa_cons (pe_op op_add (pe_op op_add (pe_op op_mul (pe_ix ix_list (pv 0) pe_int (fun _ _ => rfl)) pe_int) (pe_op op_mul pe_int (pe_ix ix_list (pv 0) pe_int (fun _ _ => rfl)))) pe_int) pa_nil)) pe_int) (pg_sub (pv 0) pe_int set_list))
      (pss_one (ps_ret (pe_op op_mod (pe_op op_fdivW (pe_callTy call_int1 (by rfl) T.z_int boot_int (pa_cons (pe_op op_mod (pe_callTy call_int1 (by rfl) T.z_int boot_int (pa_cons (pe_op op_add (pe_op op_mul (pe_ix ix_list (pv 0) pe_int (fun _ _ => rfl)) pe_int) (pe_op op_mul pe_int (pe_ix ix_list (pv 0) pe_int (fun _ _ => rfl)))) pa_nil)) pe_int) pa_nil)) pe_int) (pv 1))))))), ?_⟩
    have E0 := Ext.refl G0
    have hm0 : (Option.bind (getM bag_here1 (0 : Int)) fun x1 =>
  if (decide (x1 > (0 : Int))) then (Option.bind (getM bag_here1 (0 : Int)) fun x2 =>
  Option.bind (modM x2 many1) fun x3 =>
  Option.bind (getM bag_here1 (0 : Int)) fun x4 =>
  Option.bind (fdivM x4 many1) fun x5 =>
  Option.bind (setM bag_here1 (0 : Int) x5) fun bag_here2 =>
  some (x3, bag_here2))
  else (Option.bind (getM bag_here1 (2 : Int)) fun x6 =>
  Option.bind (setM bag_here1 (2 : Int) (x6 + (1 : Int))) fun bag_here3 =>
  Option.bind (getM bag_here3 (1 : Int)) fun x7 =>
  Option.bind (getM bag_here3 (2 : Int)) fun x8 =>
  Option.bind (setM bag_here3 (1 : Int) ((((x7 * (48271 : Int)) + ((11 : Int) * x8)) + (7 : Int)) % (2147483647 : Int))) fun bag_here4 =>
  Option.bind (getM bag_here4 (1 : Int)) fun x9 =>
  Option.bind (getM bag_here4 (2 : Int)) fun x10 =>
  Option.bind (modM ((((x9 * (69621 : Int)) + ((4099 : Int) * x10)) % (2147483629 : Int)) / (128 : Int)) many1) fun x11 =>
  some (x11, bag_here4))) = some res := hm
    refine gS_IfS ?_
    refine gTest ?_
    refine gOp ?_
    refine gOp ?_
    refine gV rfl ?_
    refine gC ?_
    obtain ⟨x1, hq1, hm1⟩ := bindS hm0
    refine q_ixO S0 h1 hq1 (fun v1 h2 => ?_)
    obtain rfl := (show v1 = (V.int x1) from h2)
    refine gC ?_
    refine ⟨_, _, rfl, rfl, ?_⟩
    refine ⟨(decide (x1 > (0 : Int))), rfl, ?_⟩
    refine ite2 (fun c1 => ?_) (fun c1 => ?_)
    · skip
      have hm2 := (if_pos c1).symm.trans hm1
      refine gS_AsgN ?_
      refine gOp ?_
      refine gCB ?_
      refine gCons' ?_
      refine gOp ?_
      refine gV rfl ?_
      refine gC ?_
      obtain ⟨x2, hq2, hm3⟩ := bindS hm2
      refine q_ixO S0 h1 hq2 (fun v2 h3 => ?_)
      obtain rfl := (show v2 = (V.int x2) from h3)
      refine gNil' ?_
      refine .inl ⟨_, rfl, ?_⟩
      refine gV rfl ?_
      obtain ⟨x3, hq3, hm4⟩ := bindS hm3
      refine q_mod hq3 ?_
      refine gS_Asg ?_
      refine gOp ?_
      refine gOp ?_
      refine gV rfl ?_
      refine gC ?_
      obtain ⟨x4, hq4, hm5⟩ := bindS hm4
      refine q_ixO S0 h1 hq4 (fun v3 h4 => ?_)
      obtain rfl := (show v3 = (V.int x4) from h4)
      refine gV rfl ?_
      obtain ⟨x5, hq5, hm6⟩ := bindS hm5
      refine q_fdiv hq5 ?_
      refine gSub' ?_
      refine gV rfl ?_
      refine gC ?_
      obtain ⟨bag_here2, hq6, hm7⟩ := bindS hm6
      refine q_setL S0 h1 (show R.rel rInt G0 (V.int x5) x5 from rfl) hq6 (fun H1 w2 S1 h5 => ?_)
      refine gRet ?_
      refine gV rfl ?_
      cases hm7
      exact q G0 H1 w2 E0 S1 h5
    · skip
      have hm8 := (if_neg c1).symm.trans hm1
      refine gNext ?_
      refine gE ?_
      refine gS_Asg ?_
      refine gOp ?_
      refine gOp ?_
      refine gV rfl ?_
      refine gC ?_
      obtain ⟨x6, hq7, hm9⟩ := bindS hm8
      refine q_ixO S0 h1 hq7 (fun v4 h6 => ?_)
      obtain rfl := (show v4 = (V.int x6) from h6)
      refine gC ?_
      refine ⟨_, _, rfl, rfl, ?_⟩
      refine gSub' ?_
      refine gV rfl ?_
      refine gC ?_
      obtain ⟨bag_here3, hq8, hm10⟩ := bindS hm9
      refine q_setL S0 h1 (show R.rel rInt G0 (V.int (x6 + (1 : Int))) (x6 + (1 : Int)) from rfl) hq8 (fun H2 w3 S2 h7 => ?_)
      refine gS_Asg ?_
      refine gOp ?_
      refine gCB ?_
      refine gCons' ?_
      refine gOp ?_
      refine gOp ?_
      refine gOp ?_
      refine gOp ?_
      refine gV rfl ?_
      refine gC ?_
      obtain ⟨x7, hq9, hm11⟩ := bindS hm10
      refine q_ixO S2 h7 hq9 (fun v5 h8 => ?_)
      obtain rfl := (show v5 = (V.int x7) from h8)
      refine gC ?_
      refine ⟨_, _, rfl, rfl, .inr ⟨by decide, by decide⟩, ?_⟩
      refine gOp ?_
      refine gC ?_
      refine gOp ?_
      refine gV rfl ?_
      refine gC ?_
      obtain ⟨x8, hq10, hm12⟩ := bindS hm11
      refine q_ixO S2 h7 hq10 (fun v6 h9 => ?_)
      obtain rfl := (show v6 = (V.int x8) from h9)
      refine ⟨_, _, rfl, rfl, .inl ⟨by decide, by decide⟩, ?_⟩
      refine ⟨_, _, rfl, rfl, ?_⟩
      refine gC ?_
      refine ⟨_, _, rfl, rfl, ?_⟩
      refine gNil' ?_
      refine .inl ⟨_, rfl, ?_⟩
      refine gC ?_
      refine ⟨_, _, rfl, rfl, (by show (0 : Int) < 2147483647; decide), ?_⟩
      refine gSub' ?_
      refine gV rfl ?_
      refine gC ?_
      obtain ⟨bag_here4, hq11, hm13⟩ := bindS hm12
      refine q_setL S2 h7 (show R.rel rInt G0 (V.int ((((x7 * (48271 : Int)) + ((11 : Int) * x8)) + (7 : Int)) % (2147483647 : Int))) ((((x7 * (48271 : Int)) + ((11 : Int) * x8)) + (7 : Int)) % (2147483647 : Int)) from rfl) hq11 (fun H3 w4 S3 h10 => ?_)
      refine gRet ?_
      refine gOp ?_
      refine gOp ?_
      refine gCB ?_
      refine gCons' ?_
      refine gOp ?_
      refine gCB ?_
      refine gCons' ?_
      refine gOp ?_
      refine gOp ?_
      refine gOp ?_
      refine gV rfl ?_
      refine gC ?_
      obtain ⟨x9, hq12, hm14⟩ := bindS hm13
      refine q_ixO S3 h10 hq12 (fun v7 h11 => ?_)
      obtain rfl := (show v7 = (V.int x9) from h11)
      refine gC ?_
      refine ⟨_, _, rfl, rfl, .inr ⟨by decide, by decide⟩, ?_⟩
      refine gOp ?_
      refine gC ?_
      refine gOp ?_
      refine gV rfl ?_
      refine gC ?_
      obtain ⟨x10, hq13, hm15⟩ := bindS hm14
      refine q_ixO S3 h10 hq13 (fun v8 h12 => ?_)
      obtain rfl := (show v8 = (V.int x10) from h12)
      refine ⟨_, _, rfl, rfl, .inl ⟨by decide, by decide⟩, ?_⟩
      refine ⟨_, _, rfl, rfl, ?_⟩
      refine gNil' ?_
      refine .inl ⟨_, rfl, ?_⟩
      refine gC ?_
      refine ⟨_, _, rfl, rfl, (by show (0 : Int) < 2147483629; decide), ?_⟩
      refine gNil' ?_
      refine .inl ⟨_, rfl, ?_⟩
      refine gC ?_
      refine ⟨_, _, rfl, rfl, ⟨by decide, by decide⟩, ?_⟩
      refine gV rfl ?_
      obtain ⟨x11, hq14, hm16⟩ := bindS hm15
      refine q_mod hq14 ?_
      cases hm16
      exact q G0 H3 w4 E0 S3 h10
end
end Mr

set_option Elab.async false
set_option linter.all false
set_option maxRecDepth 100000
set_option maxHeartbeats 4000000
set_option synthInstance.maxSize 4000
set_option synthInstance.maxHeartbeats 400000
namespace Mr
open PySem PySem.Spec PyProof.Rows L2
section
variable {P : Program} {w : World} {K : PySem.W.Frag} {mg : Str → Option Value} {base : Heap}
theorem sc_law_number : FnScope ["_law_thing"] ["_law_thing"] (defScope s_law_number) := ⟨rfl, rfl, rfl, by decide +kernel, rfl, by decide +kernel, by decide +kernel⟩
theorem ok_law_number (T : Tx K mg) : FnOk P w K mg base CX0 1 (He.fAd K ("_law_number", none)) T.fd_law_number ["_law_thing"] (sp_law_number K) := by
  refine T.F_law_number.ok sc_law_number (fun vs H Q E h => ?_) (fun cdv A outer s H0 vs Q E hr h => ?_)
  · obtain ⟨G, O, thing1, rfl, _⟩ := h
    rfl
  · obtain ⟨G0, O, thing1, rfl, S0, res, hm, q⟩ := h
    refine ⟨_, PSs.nox (pss_one (ps_ret (pe_cut (pe_and (pe_callB (r := rIsi K) call_isi (by rfl) T.z_isinstance boot_isinstance (pa_cons (pv 0) (pa_cons (pe_bltn (v := .ty "int") (by rfl) T.z_int boot_int rfl) pa_nil))) (pe_one (pe_not (pe_callB (r := rIsi K) call_isi (by rfl) T.z_isinstance boot_isinstance (pa_cons (pv 0) (pa_cons (pe_bltn (v := .ty "bool") (by rfl) T.z_bool boot_bool rfl) pa_nil))))))))), ?_⟩
    have E0 := Ext.refl G0
    have hm0 : (some (true && (!false))) = some res := hm
    refine gRet ?_
    refine gCE (fun (b : V) (H : Hp) => ∃ (G : Hp), Ext G0 G ∧ Sub G (O) H ∧ b = V.bl (true && (!false))) ?_ ?_
    · skip
      refine gAndV ?_
      refine gCB ?_
      refine gCons' ?_
      refine gV rfl ?_
      refine gCons' ?_
      refine gC ?_
      refine gNil' ?_
      refine q_isi (ty_I _) (by decide +kernel : kitB "int" "int" = some true) ?_
      refine ⟨true, rfl, ?_⟩
      refine ite2 (fun c1 => ?_) (fun c1 => ?_)
      · skip
        refine gNotV ?_
        refine gCB ?_
        refine gCons' ?_
        refine gV rfl ?_
        refine gCons' ?_
        refine gC ?_
        refine gNil' ?_
        refine q_isi (ty_I _) (by decide +kernel : kitB "int" "bool" = some false) ?_
        refine ⟨_, rfl, ?_⟩
        exact ⟨G0, (Ext.refl _), S0, congrArg V.bl (by rw [c1, Bool.true_and])⟩
      · skip
        exact ⟨G0, (Ext.refl _), S0, congrArg V.bl (by rw [ne_false c1, Bool.false_and])⟩
    · intro b1 H1 hJ
      obtain ⟨G1, e1, S1, rfl⟩ := hJ
      have E1 := E0.trans e1
      cases hm0
      exact q G1 H1 E1 S1
end
end Mr

set_option Elab.async false
set_option linter.all false
set_option maxRecDepth 100000
set_option maxHeartbeats 4000000
set_option synthInstance.maxSize 4000
set_option synthInstance.maxHeartbeats 400000
namespace Mr
open PySem PySem.Spec PyProof.Rows L2
section
variable {P : Program} {w : World} {K : PySem.W.Frag} {mg : Str → Option Value} {base : Heap}
theorem sc_law_lines : FnScope ["_law_blocks", "_law_lines_here", "_law_barred", "_law_due", "_law_count", "_law_space", "_law_kept", "_law_page", "_law_k"] ["_law_blocks"] (defScope s_law_lines) := ⟨rfl, rfl, rfl, by decide +kernel, rfl, by decide +kernel, by decide +kernel⟩
theorem ok_law_lines (T : Tx K mg) : FnOk P w K mg base CX0 1 (He.fAd K ("_law_lines", none)) T.fd_law_lines ["_law_blocks"] (sp_law_lines K) := by
  refine T.F_law_lines.ok sc_law_lines (fun vs H Q E h => ?_) (fun cdv A outer s H0 vs Q E hr h => ?_)
  · obtain ⟨G, O, v1, blocks1, rfl, _⟩ := h
    rfl
  · obtain ⟨G0, O, v1, blocks1, rfl, S0, h1, res, hm, q⟩ := h
    refine ⟨_, PSs.nox (pss_cons (ps_par3 (i := 1) (j := 2) (l := 3) (by rfl) sc_law_lines.nd rfl rfl rfl (by decide) (by decide) (by decide) rfl rfl rfl (pa_cons (pe_lst pa_nil) (pa_cons pe_bl (pa_cons pe_bl pa_nil))) (by rfl))
      (pss_cons (ps_cut (ps_for PassesOwn.never rfl (pi_list (pv 0)) (pg_tup rfl (pgs_cons (pg_name (i := 4) sc_law_lines.nd rfl (.inl rfl)) (pgs_cons (pg_name (i := 5) sc_law_lines.nd rfl (.inl rfl)) (pgs_cons (pg_name (i := 6) sc_law_lines.nd rfl (.inl rfl)) (pgs_cons (pg_name (i := 7) sc_law_lines.nd rfl (.inl rfl)) pgs_nil)))))
      (pss_cons (ps_set (i := 3) sc_law_lines.nd rfl (.inl rfl) (pe_cut (pe_or (pv 3) (pe_one (pv 7)))))
      (pss_cons (ps_cut (ps_for PassesOwn.never rfl (pi_range1 (by rfl) T.z_range (pa_cons (pv 4) pa_nil)) (pg_name (i := 8) sc_law_lines.nd rfl (.inl rfl))
      (pss_one (ps_expr (pe_bm PySem.F.plainAttrs_list PySem.F.slot_list_append PySem.F.type_list_append mt_append (pv 1) (pa_cons (pe_cut (pe_ifExp (pt_cmpR op_eqI (pv 8) pe_int (nomark _)) (pe_tup (pa_cons (pv 5) (pa_cons (pv 2) (pa_cons (pv 3) pa_nil)))) (pe_tup (pa_cons pe_int (pa_cons (pe_cmpR op_in_seq (pv 8) (pe_tup (pa_cons pe_int (pa_cons (pe_op op_sub (pv 4) pe_int) pa_nil))) (by with_unfolding_all rfl)) (pa_cons pe_bl pa_nil)))))) pa_nil))))))
      (pss_cons (ps_set (i := 3) sc_law_lines.nd rfl (.inl rfl) (pe_cut (pe_and (pv 3) (pe_one (pe_cmpR op_eqI (pv 4) pe_int (nomark _))))))
      (pss_one (ps_set (i := 2) sc_law_lines.nd rfl (.inl rfl) (pe_cut (pe_ifExp (pt_cmpR op_gt (pv 4) pe_int (nomark _)) (pv 6) (pv 2))))))))))
      (pss_one (ps_ret (pe_tup (pa_cons (pv 1) (pa_cons (pv 2) (pa_cons (pv 3) pa_nil)))))))), ?_⟩
    have E0 := Ext.refl G0
    have hm0 : (Option.bind (folM (m_law_lines_b1) blocks1 (([] : List (Int × Bool × Bool)), false, true)) fun (lines_here1, barred1, due1) =>
  some (lines_here1, barred1, due1)) = some res := hm
    refine gS_Par3 ?_
    refine gCons' ?_
    refine gLst ?_
    refine gNil' ?_
    have h2 : Al (rP3 K rInt rBool rBool) G0 [] [] := True.intro
    refine q_lst S0 h2 (by show 0 ≤ 100000; decide) (fun a1 H1 w1 S1 h3 => ?_)
    refine gCons' ?_
    refine gC ?_
    refine gCons' ?_
    refine gC ?_
    refine gNil' ?_
    refine ⟨_, _, _, rfl, ?_⟩
    obtain ⟨⟨lines_here1, barred1, due1⟩, hl1, hm1⟩ := bindS hm0
    dsimp only at hm1
    refine gS_CS (fun (σ : L2.St) (H : Hp) => ∃ (G : Hp) (w2 : List V) (y1 : Option V) (y2 : Option V) (y3 : Option V) (y4 : Option V) (y5 : Option V), Ext G0 G ∧ Sub G ((a1, HO.lst w2) :: O) H ∧ σ = [some v1, some (V.ref a1), some (V.bl barred1), some (V.bl due1), y1, y2, y3, y4, y5] ∧ Al (rP3 K rInt rBool rBool) G w2 lines_here1) ?_ ?_
    · skip
      refine gFor ?_
      refine gIL ?_
      refine gV rfl ?_
      refine lp_L (r := (rP4 K rInt rInt rBool rBool)) S1 (rM_L (K := K) h1) (fol_for Empty hl1) (fun (s : (List (Int × Bool × Bool)) × Bool × Bool) (σ : L2.St) (H : Hp) => ∃ (G : Hp) (w2 : List V) (y1 : Option V) (y2 : Option V) (y3 : Option V) (y4 : Option V) (y5 : Option V), Ext G0 G ∧ Sub G ((a1, HO.lst w2) :: O) H ∧ σ = [some v1, some (V.ref a1), some (V.bl s.2.1), some (V.bl s.2.2), y1, y2, y3, y4, y5] ∧ Al (rP3 K rInt rBool rBool) G w2 s.1) ⟨G0, w1, _, _, _, _, _, (Ext.refl _), S1, rfl, h3⟩ ?_ ?_ ?_
      · intro s σ H hI
        obtain ⟨G, k1, k2, k3, k4, k5, k6, ie, iS, _⟩ := hI
        exact ie.trans iS.ext
      · intro i1 x1 s1 b1 hb1 hr1 v2 σ1 H2 hI1 h4
        obtain ⟨s2, hb2, hb3⟩ := goF_some hb1
        subst hb3
        obtain ⟨lines_here2, barred2, due2⟩ := s1
        obtain ⟨G1, w3, y6, y7, y8, y9, y10, e1, S2, rfl, h5⟩ := hI1
        have h6 := R.up e1 h1
        have h7 := R.up e1 (rM_L (K := K) h1)
        have E1 := E0.trans e1
        have h8 := R.up e1 h4
        refine q_gt4 S2 h8 (fun v3 v4 v5 v6 h9 h10 h11 h12 => ?_)
        obtain rfl := (show v3 = (V.int x1.1) from h9)
        obtain rfl := (show v4 = (V.int x1.2.1) from h10)
        obtain rfl := (show v5 = (V.bl x1.2.2.1) from h11)
        obtain rfl := (show v6 = (V.bl x1.2.2.2) from h12)
        have hm2 : (Option.bind (rngM x1.1) fun xs1 =>   Option.bind (folM (m_law_lines_b2 barred2 due2 x1) xs1 lines_here2) fun lines_here3 =>   some (lines_here3, (if (decide (x1.1 > (0 : Int))) then x1.2.2.1 else barred2), ((due2 || x1.2.2.2) && (decide (x1.1 = (0 : Int)))))) = some s2 := hb2
        refine gS_AsgN ?_
        refine gCE (fun (b : V) (H : Hp) => ∃ (G : Hp), Ext G1 G ∧ Sub G ((a1, HO.lst w3) :: O) H ∧ b = V.bl (due2 || x1.2.2.2)) ?_ ?_
        · skip
          refine gOrV ?_
          refine gV rfl ?_
          refine ⟨due2, rfl, ?_⟩
          refine ite2 (fun c1 => ?_) (fun c1 => ?_)
          · skip
            exact ⟨G1, (Ext.refl _), S2, congrArg V.bl (by rw [c1, Bool.true_or])⟩
          · skip
            refine gV rfl ?_
            exact ⟨G1, (Ext.refl _), S2, congrArg V.bl (by rw [ne_false c1, Bool.false_or])⟩
        · intro b2 H3 hJ
          obtain ⟨G2, e2, S3, rfl⟩ := hJ
          have h13 := R.up e2 h6
          have h14 := Al.up e2 h5
          have h15 := R.up e2 h7
          have E2 := E1.trans e2
          obtain ⟨xs1, hq1, hm3⟩ := bindS hm2
          obtain ⟨lines_here3, hl2, hm4⟩ := bindS hm3
          refine gS_CS (fun (σ : L2.St) (H : Hp) => ∃ (G : Hp) (w4 : List V) (y11 : Option V), Ext G2 G ∧ Sub G ((a1, HO.lst w4) :: O) H ∧ σ = [some v1, some (V.ref a1), some (V.bl barred2), some (V.bl (due2 || x1.2.2.2)), some (V.int x1.1), some (V.int x1.2.1), some (V.bl x1.2.2.1), some (V.bl x1.2.2.2), y11] ∧ Al (rP3 K rInt rBool rBool) G w4 lines_here3) ?_ ?_
          · skip
            refine gFor ?_
            refine gIR ?_
            refine gCons' ?_
            refine gV rfl ?_
            refine gNil' ?_
            refine lp_R hq1 (fol_for Empty hl2) (fun (s : (List (Int × Bool × Bool))) (σ : L2.St) (H : Hp) => ∃ (G : Hp) (w4 : List V) (y11 : Option V), Ext G2 G ∧ Sub G ((a1, HO.lst w4) :: O) H ∧ σ = [some v1, some (V.ref a1), some (V.bl barred2), some (V.bl (due2 || x1.2.2.2)), some (V.int x1.1), some (V.int x1.2.1), some (V.bl x1.2.2.1), some (V.bl x1.2.2.2), y11] ∧ Al (rP3 K rInt rBool rBool) G w4 s) ⟨G2, w3, _, (Ext.refl _), S3, rfl, h14⟩ ?_ ?_
            · intro i2 x2 lines_here4 b3 hb4 hr2 σ2 H4 hI2
              obtain ⟨s4, hb5, hb6⟩ := goF_some hb4
              subst hb6
              obtain ⟨G3, w5, y12, e3, S4, rfl, h17⟩ := hI2
              have h18 := R.up e3 h13
              have h19 := R.up e3 h15
              have E3 := E2.trans e3
              have hm5 : (Option.bind (if (decide (x2 = (0 : Int))) then (some (x1.2.1, barred2, (due2 || x1.2.2.2))) else (some ((0 : Int), (decide (x2 ∈ ([(1 : Int), (x1.1 - (1 : Int))] : List Int))), false))) fun x3 =>   Option.bind (appM lines_here4 x3) fun lines_here5 =>   some lines_here5) = some s4 := hb5
              refine gDrop ?_
              refine gBM ?_
              refine gV rfl ?_
              refine ⟨.inl ⟨rfl, _, .inl (.inl S4.head)⟩, ?_⟩
              refine gCons' ?_
              obtain ⟨x3, hq2, hm6⟩ := bindS hm5
              refine gCE (fun (v : V) (H : Hp) => ∃ (G : Hp), Ext G3 G ∧ Sub G ((a1, HO.lst w5) :: O) H ∧ R.rel (rP3 K rInt rBool rBool) G v x3) ?_ ?_
              · skip
                refine gIf ?_
                refine gTest ?_
                refine gOp ?_
                refine gV rfl ?_
                refine gC ?_
                refine ⟨_, _, rfl, rfl, ?_⟩
                refine ⟨(decide (x2 = (0 : Int))), rfl, ?_⟩
                refine ite2 (fun c2 => ?_) (fun c2 => ?_)
                · skip
                  have hm7 := (if_pos c2).symm.trans hq2
                  refine gTup' ?_
                  refine gCons' ?_
                  refine gV rfl ?_
                  refine gCons' ?_
                  refine gV rfl ?_
                  refine gCons' ?_
                  refine gV rfl ?_
                  refine gNil' ?_
                  refine q_tup3 (K := K) S4 (show R.rel rInt G3 (V.int x1.2.1) x1.2.1 from rfl) (show R.rel rBool G3 (V.bl barred2) barred2 from rfl) (show R.rel rBool G3 (V.bl (due2 || x1.2.2.2)) (due2 || x1.2.2.2) from rfl) (fun v10 G6 H7 e6 S8 h28 => ?_)
                  have h29 := R.up e6 h18
                  have h30 := Al.up e6 h17
                  have h31 := R.up e6 h19
                  have E6 := E3.trans e6
                  cases hm7
                  exact ⟨G6, e6, S8, h28⟩
                · skip
                  have hm8 := (if_neg c2).symm.trans hq2
                  refine gTup' ?_
                  refine gCons' ?_
                  refine gC ?_
                  refine gCons' ?_
                  refine gOp ?_
                  refine gV rfl ?_
                  refine gTup' ?_
                  refine gCons' ?_
                  refine gC ?_
                  refine gCons' ?_
                  refine gOp ?_
                  refine gV rfl ?_
                  refine gC ?_
                  refine ⟨_, _, rfl, rfl, ?_⟩
                  refine gNil' ?_
                  refine ⟨sz (by show 2 ≤ 100000; decide), fun p2 np2 => ?_⟩
                  have S9 : Sub G3 ((a1, HO.lst w5) :: O) (upd H4 p2 (HO.tup (List.map V.int ([(1 : Int), (x1.1 - (1 : Int))] : List Int)))) := S4.junk np2
                  refine q_inT ([(1 : Int), (x1.1 - (1 : Int))] : List Int) ?_
                  refine gCons' ?_
                  refine gC ?_
                  refine gNil' ?_
                  refine q_tup3 (K := K) S9 (show R.rel rInt G3 (V.int (0 : Int)) (0 : Int) from rfl) (show R.rel rBool G3 (V.bl (decide (x2 ∈ ([(1 : Int), (x1.1 - (1 : Int))] : List Int)))) (decide (x2 ∈ ([(1 : Int), (x1.1 - (1 : Int))] : List Int))) from rfl) (show R.rel rBool G3 (V.bl false) false from rfl) (fun v11 G7 H8 e7 S10 h32 => ?_)
                  have h33 := R.up e7 h18
                  have h34 := Al.up e7 h17
                  have h35 := R.up e7 h19
                  have E7 := E3.trans e7
                  cases hm8
                  exact ⟨G7, e7, S10, h32⟩
              · intro v12 H9 hJ
                obtain ⟨G8, e8, S11, h36⟩ := hJ
                have h37 := R.up e8 h18
                have h38 := Al.up e8 h17
                have h39 := R.up e8 h19
                have E8 := E3.trans e8
                refine gNil' ?_
                obtain ⟨lines_here5, hq3, hm9⟩ := bindS hm6
                refine q_app S11 h38 (show R.rel (rP3 K rInt rBool rBool) G8 v12 x3 from h36) hq3 (fun H10 w6 S12 h40 => ?_)
                cases hm9
                exact ⟨_, ⟨G8, w6, _, (e3.trans e8), S12, rfl, h40⟩, hr2⟩
            · intro s σ H h1 h2
              cases h1
              obtain ⟨G, k7, k8, ie, irest⟩ := h2
              exact ⟨G, k7, k8, (ie), irest⟩
          · intro σ3 H11 hJ1
            obtain ⟨G9, w7, y13, e9, S13, rfl, h41⟩ := hJ1
            have h42 := R.up e9 h13
            have h43 := R.up e9 h15
            have E9 := E2.trans e9
            refine gS_AsgN ?_
            refine gCE (fun (b : V) (H : Hp) => ∃ (G : Hp), Ext G9 G ∧ Sub G ((a1, HO.lst w7) :: O) H ∧ b = V.bl ((due2 || x1.2.2.2) && (decide (x1.1 = (0 : Int))))) ?_ ?_
            · skip
              refine gAndV ?_
              refine gV rfl ?_
              refine ⟨(due2 || x1.2.2.2), rfl, ?_⟩
              refine ite2 (fun c3 => ?_) (fun c3 => ?_)
              · skip
                refine gOp ?_
                refine gV rfl ?_
                refine gC ?_
                refine ⟨_, _, rfl, rfl, ?_⟩
                exact ⟨G9, (Ext.refl _), S13, congrArg V.bl (by rw [c3, Bool.true_and])⟩
              · skip
                exact ⟨G9, (Ext.refl _), S13, congrArg V.bl (by rw [ne_false c3, Bool.false_and])⟩
            · intro b4 H12 hJ
              obtain ⟨G10, e10, S14, rfl⟩ := hJ
              have h44 := R.up e10 h42
              have h45 := Al.up e10 h41
              have h46 := R.up e10 h43
              have E10 := E9.trans e10
              refine gAsgN ?_
              refine gCE (fun (v : V) (H : Hp) => ∃ (G : Hp), Ext G10 G ∧ Sub G ((a1, HO.lst w7) :: O) H ∧ v = (V.bl (if (decide (x1.1 > (0 : Int))) then x1.2.2.1 else barred2))) ?_ ?_
              · skip
                refine gIf ?_
                refine gTest ?_
                refine gOp ?_
                refine gV rfl ?_
                refine gC ?_
                refine ⟨_, _, rfl, rfl, ?_⟩
                refine ⟨(decide (x1.1 > (0 : Int))), rfl, ?_⟩
                refine ite2 (fun c4 => ?_) (fun c4 => ?_)
                · skip
                  refine gV rfl ?_
                  exact ⟨G10, (Ext.refl _), S14, congrArg V.bl (if_pos c4).symm⟩
                · skip
                  refine gV rfl ?_
                  exact ⟨G10, (Ext.refl _), S14, congrArg V.bl (if_neg c4).symm⟩
              · intro v13 H13 hJ
                obtain ⟨G11, e11, S15, rfl⟩ := hJ
                have h48 := R.up e11 h44
                have h49 := Al.up e11 h45
                have h50 := R.up e11 h46
                have E11 := E10.trans e11
                cases hm4
                exact ⟨(lines_here3, (if (decide (x1.1 > (0 : Int))) then x1.2.2.1 else barred2), ((due2 || x1.2.2.2) && (decide (x1.1 = (0 : Int))))), ⟨G11, w7, _, _, _, _, _, ((((e1.trans e2).trans e9).trans e10).trans e11), S15, rfl, h49⟩, hr1⟩
      · intro s σ H h1 h2
        cases h1
        obtain ⟨G, k1, k2, k3, k4, k5, k6, ie, irest⟩ := h2
        exact ⟨G, k1, k2, k3, k4, k5, k6, (ie), irest⟩
    · intro σ4 H14 hJ2
      obtain ⟨G12, w8, y14, y15, y16, y17, y18, e12, S16, rfl, h51⟩ := hJ2
      have h52 := R.up e12 h1
      have E12 := E0.trans e12
      refine gRet ?_
      refine gTup' ?_
      refine gCons' ?_
      refine gV rfl ?_
      refine gCons' ?_
      refine gV rfl ?_
      refine gCons' ?_
      refine gV rfl ?_
      refine gNil' ?_
      obtain ⟨G13, e13, S17, h53⟩ := frz_M S16 h51
      have h54 := R.up e13 h52
      have E13 := E12.trans e13
      refine q_tup3 (K := K) S17 (show R.rel (rM (rP3 K rInt rBool rBool)) G13 (V.ref a1) lines_here1 from h53) (show R.rel rBool G13 (V.bl barred1) barred1 from rfl) (show R.rel rBool G13 (V.bl due1) due1 from rfl) (fun v14 G14 H15 e14 S18 h55 => ?_)
      have h56 := R.up e14 h54
      have h57 := R.up e14 h53
      have E14 := E13.trans e14
      cases hm1
      exact q v14 G14 H15 E14 S18 h55
end
end Mr

set_option Elab.async false
set_option linter.all false
set_option maxRecDepth 100000
set_option maxHeartbeats 4000000
set_option synthInstance.maxSize 4000
set_option synthInstance.maxHeartbeats 400000
namespace Mr
open PySem PySem.Spec PyProof.Rows L2
section
variable {P : Program} {w : World} {K : PySem.W.Frag} {mg : Str → Option Value} {base : Heap}
theorem sc_law_cut : FnScope ["_law_length_here", "_law_lines_here", "_law_start", "_law_row", "_law_at", "_law_free", "_law_k"] ["_law_length_here", "_law_lines_here", "_law_start"] (defScope s_law_cut) := ⟨rfl, rfl, rfl, by decide +kernel, rfl, by decide +kernel, by decide +kernel⟩
theorem ok_law_cut (T : Tx K mg) : FnOk P w K mg base CX0 1 (He.fAd K ("_law_cut", none)) T.fd_law_cut ["_law_length_here", "_law_lines_here", "_law_start"] (sp_law_cut K) := by
  refine T.F_law_cut.ok sc_law_cut (fun vs H Q E h => ?_) (fun cdv A outer s H0 vs Q E hr h => ?_)
  · obtain ⟨G, O, length_here1, v1, lines_here1, start1, rfl, _⟩ := h
    rfl
  · obtain ⟨G0, O, length_here1, v1, lines_here1, start1, rfl, S0, h1, res, hm, q⟩ := h
    refine ⟨_, PSs.nox (pss_cons (ps_set (i := 3) sc_law_cut.nd rfl (.inl rfl) pe_int)
      (pss_cons (ps_cut (ps_for PassesOwn.never rfl (pi_range2 (by rfl) T.z_range (pa_cons (pe_op op_add (pv 2) pe_int) (pa_cons (pe_callB (r := rLenM K) call_lenM (by rfl) T.z_len boot_len (pa_cons (pv 1) pa_nil)) pa_nil))) (pg_name (i := 4) sc_law_cut.nd rfl (.inl rfl))
      (pss_cons (ps_set (i := 3) sc_law_cut.nd rfl (.inl rfl) (pe_op op_add (pe_op op_add (pv 3) (pe_ix ix_tup (pe_ix ix_list (pv 1) (pv 4) (fun _ _ => rfl)) pe_int (fun _ _ => rfl))) pe_int))
      (pss_cons (ps_if (pt_val (pe_ix ix_tup (pe_ix ix_list (pv 1) (pv 4) (fun _ _ => rfl)) pe_int (fun _ _ => rfl))) (pss_one (ps_ret (pv 4))) pss_nil)
      (pss_one (ps_if (pt_cmpR op_ge (pv 3) (pv 0) (nomark _)) (pss_cons (ps_setLc (i := 5) (own := [("_law_k", 6)]) (g := gName 6) (by rfl) sc_law_cut.nd rfl rfl (sw_true rfl rfl rfl (by decide +kernel)) (pi_range2 (by rfl) T.z_range (pa_cons (pe_op op_add (pv 2) pe_int) (pa_cons (pe_op op_add (pv 4) pe_int) pa_nil))) (blkOk_by (own := [("_law_k", 6)]) (N := ["_law_length_here", "_law_lines_here", "_law_start", "_law_row", "_law_at", "_law_free", "_law_k"]) (sc := defScope s_law_cut) (by decide +kernel)) (fun _ _ _ _ _ => (pg_name (i := 6) sc_law_cut.nd rfl (.inl rfl))) (fun _ _ _ _ _ => (pts_one (pt_not (pt_val (pe_ix (ix_tupK (K := K) rfl) (pe_ix (ix_listK (K := K) rfl) (pv 1) (pv 6) (fun _ _ => rfl)) pe_int (fun _ _ => rfl)))))) (fun _ _ _ _ _ => (pv 6)))
      (pss_one (ps_ret (pe_cut (pe_ifExp (pt_cmpR (op_neD hr.units) (pv 5) (pe_lst pa_nil) (nomark _)) (pe_ix ix_list (pv 5) (pe_un un_neg pe_int) (fun _ _ => rfl)) (pv 4)))))) pss_nil))))))
      (pss_one (ps_ret (pe_callB (r := rLenM K) call_lenM (by rfl) T.z_len boot_len (pa_cons (pv 1) pa_nil)))))), ?_⟩
    have E0 := Ext.refl G0
    have hm0 : (Option.bind (rng2M (start1 + (1 : Int)) (lines_here1.length : Int)) fun xs1 =>
  Option.bind (forL (m_law_cut_b1 length_here1 lines_here1 start1) xs1 (0 : Int)) fun res => match res with
  | Fl.rt r => some r
  | Fl.nx row1 => some (lines_here1.length : Int)) = some res := hm
    refine gS_AsgN ?_
    refine gC ?_
    obtain ⟨xs1, hq1, hm1⟩ := bindS hm0
    obtain ⟨res1, hl1, hm2⟩ := bindS hm1
    refine gS_CS (fun (σ : L2.St) (H : Hp) => ∃ s : Int, res1 = Fl.nx s ∧ ∃ (G : Hp) (y1 : Option V) (y2 : Option V) (y3 : Option V), Ext G0 G ∧ Sub G (O) H ∧ σ = [some (V.int length_here1), some v1, some (V.int start1), some (V.int s), y1, y2, y3]) ?_ ?_
    · skip
      refine gFor ?_
      refine gIR2 ?_
      refine gCons' ?_
      refine gOp ?_
      refine gV rfl ?_
      refine gC ?_
      refine ⟨_, _, rfl, rfl, ?_⟩
      refine gCons' ?_
      refine gCB ?_
      refine gCons' ?_
      refine gV rfl ?_
      refine gNil' ?_
      refine q_lenL (y := V.non) S0 (rM_L (K := K) h1) ?_
      refine gNil' ?_
      refine lp_R2 hq1 hl1 (fun (s : Int) (σ : L2.St) (H : Hp) => ∃ (G : Hp) (y1 : Option V) (y2 : Option V) (y3 : Option V), Ext G0 G ∧ Sub G (O) H ∧ σ = [some (V.int length_here1), some v1, some (V.int start1), some (V.int s), y1, y2, y3]) ⟨G0, _, _, _, (Ext.refl _), S0, rfl⟩ ?_ ?_
      · intro i1 x1 row2 b1 hb1 hr1 σ1 H1 hI1
        obtain ⟨G1, y4, y5, y6, e1, S1, rfl⟩ := hI1
        have h3 := R.up e1 h1
        have E1 := E0.trans e1
        have hm3 : (Option.bind (getM lines_here1 x1) fun x2 =>   Option.bind (getM lines_here1 x1) fun x4 =>   if x4.2.2 then (some (Bf.rt x1))   else (if (decide (((row2 + x2.1) + (1 : Int)) ≥ length_here1)) then (Option.bind (rng2M (start1 + (1 : Int)) (x1 + (1 : Int))) fun xs2 =>   Option.bind (folM (m_law_cut_c2 lines_here1) xs2 ([] : (List Int))) fun acc1 =>   Option.bind (if (!decide (acc1 = ([] : (List Int)))) then (Option.bind (getM acc1 (-(1 : Int))) fun x10 =>   some x10) else (some x1)) fun x11 =>   some (Bf.rt x11))   else (some (Bf.go ((row2 + x2.1) + (1 : Int)))))) = some b1 := hb1
        refine gS_AsgN ?_
        refine gOp ?_
        refine gOp ?_
        refine gV rfl ?_
        refine gOp ?_
        refine gOp ?_
        refine gV rfl ?_
        refine gV rfl ?_
        obtain ⟨x2, hq2, hm4⟩ := bindS hm3
        refine q_ixL S1 (rM_L (K := K) h3) hq2 (fun v3 h4 => ?_)
        refine gC ?_
        refine q_p3_0 S1 h4 (fun v4 h5 => ?_)
        obtain rfl := (show v4 = (V.int x2.1) from h5)
        refine ⟨_, _, rfl, rfl, ?_⟩
        refine gC ?_
        refine ⟨_, _, rfl, rfl, ?_⟩
        refine gS_IfS ?_
        refine gB ?_
        refine gOp ?_
        refine gOp ?_
        refine gV rfl ?_
        refine gV rfl ?_
        obtain ⟨x4, hq4, hm6⟩ := bindS hm4
        refine q_ixL S1 (rM_L (K := K) h3) hq4 (fun v7 h8 => ?_)
        refine gC ?_
        refine q_p3_2 S1 h8 (fun v8 h9 => ?_)
        obtain rfl := (show v8 = (V.bl x4.2.2) from h9)
        refine ⟨x4.2.2, rfl, ?_⟩
        refine ite2 (fun c1 => ?_) (fun c1 => ?_)
        · skip
          have hm7 := (if_pos c1).symm.trans hm6
          refine gRet ?_
          refine gV rfl ?_
          cases hm7
          have hr2 := Option.some.inj (show some (Fl.rt _) = some res1 from hr1)
          subst hr2
          dsimp only at hm2
          cases hm2
          exact q G1 H1 E1 S1
        · skip
          have hm8 := (if_neg c1).symm.trans hm6
          refine gNext ?_
          refine gE ?_
          refine gIfS ?_
          refine gTest ?_
          refine gOp ?_
          refine gV rfl ?_
          refine gV rfl ?_
          refine ⟨_, _, rfl, rfl, ?_⟩
          refine ⟨(decide (((row2 + x2.1) + (1 : Int)) ≥ length_here1)), rfl, ?_⟩
          refine ite2 (fun c2 => ?_) (fun c2 => ?_)
          · skip
            have hm9 := (if_pos c2).symm.trans hm8
            refine gS_AsgN ?_
            refine gLc ?_
            refine gIR2 ?_
            refine gCons' ?_
            refine gOp ?_
            refine gV rfl ?_
            refine gC ?_
            refine ⟨_, _, rfl, rfl, ?_⟩
            refine gCons' ?_
            refine gOp ?_
            refine gV rfl ?_
            refine gC ?_
            refine ⟨_, _, rfl, rfl, ?_⟩
            refine gNil' ?_
            obtain ⟨xs2, hq5, hm10⟩ := bindS hm9
            obtain ⟨acc1, hq8, hm13⟩ := bindS hm10
            refine lc_R2 hq5 hq8 (fun (D : Addr) (s : (List Int)) (H : Hp) => ∃ (G : Hp) (w1 : List V), Ext G1 G ∧ Sub G ((D, HO.lst w1) :: O) H ∧ Al rInt G w1 s) ?_ ?_ ?_
            · intro D1 nD1
              exact ⟨G1, [], Ext.refl _, S1.newOwn nD1, True.intro⟩
            · intro D2 i2 x7 acc2 s3 hb2 hr3 H2 hI2
              obtain ⟨G2, w2, e2, S2, h15⟩ := hI2
              have h16 := R.up e2 h3
              have E2 := E1.trans e2
              refine ⟨rfl, ?_⟩
              have hm14 : (Option.bind (getM lines_here1 x7) fun x9 =>   if (!x9.2.1) then (Option.bind (appM acc2 x7) fun acc3 =>   some acc3)   else (some acc2)) = some s3 := hb2
              refine gNot ?_
              refine gB ?_
              refine gOp ?_
              refine gOp ?_
              refine gV rfl ?_
              refine gV rfl ?_
              obtain ⟨x9, hq10, hm16⟩ := bindS hm14
              refine q_ixL S2 (rM_L (K := K) h16) hq10 (fun v16 h19 => ?_)
              refine gC ?_
              refine q_p3_1 S2 h19 (fun v17 h20 => ?_)
              obtain rfl := (show v17 = (V.bl x9.2.1) from h20)
              refine ⟨x9.2.1, rfl, ?_⟩
              refine ite2 (fun c3 => ?_) (fun c3 => ?_)
              · skip
                have hm17 := (if_pos c3).symm.trans hm16
                refine gV rfl ?_
                obtain ⟨acc3, hq11, hm18⟩ := bindS hm17
                refine q_lcEl S2 h15 (show R.rel rInt G2 (V.int x7) x7 from rfl) hq11 (fun H3 w3 S3 h21 => ?_)
                cases hm18
                exact ⟨_, ⟨G2, w3, e2, S3, h21⟩, hr3⟩
              · skip
                have hm19 := (if_neg c3).symm.trans hm16
                cases hm19
                exact ⟨_, ⟨G2, w2, e2, S2, h15⟩, hr3⟩
            · intro D3 H4 hI3
              obtain ⟨G3, w4, e3, S4, h22⟩ := hI3
              have h23 := R.up e3 h3
              have E3 := E1.trans e3
              refine gRet ?_
              obtain ⟨x11, hq13, hm21⟩ := bindS hm13
              refine gCE (fun (v : V) (H : Hp) => ∃ (G : Hp), Ext G3 G ∧ Sub G ((D3, HO.lst w4) :: O) H ∧ v = (V.int x11)) ?_ ?_
              · skip
                refine gIf ?_
                refine gTest ?_
                refine gOp ?_
                refine gV rfl ?_
                refine gLst ?_
                refine gNil' ?_
                refine ⟨sz0, fun p2 np2 => ?_⟩
                have S6 : Sub G3 ((D3, HO.lst w4) :: O) (upd H4 p2 (.lst [])) := S4.junk np2
                have h26 := rM_own S6 h22
                refine q_neD (dM (dInt (K := K))) (by show 2 ≤ 64; decide) h26 (⟨p2, [], rfl, upd_same, True.intro⟩ : R.rel (rM rInt) (upd H4 p2 (.lst [])) (V.ref p2) []) ((okM okI) _) ((okM okI) _) ?_
                refine ⟨(!decide (acc1 = ([] : (List Int)))), rfl, ?_⟩
                refine ite2 (fun c4 => ?_) (fun c4 => ?_)
                · skip
                  have hm22 := (if_pos c4).symm.trans hq13
                  refine gOp ?_
                  refine gV rfl ?_
                  refine gUn ?_
                  refine gC ?_
                  refine ⟨_, rfl, ?_⟩
                  obtain ⟨x12, hq14, hm23⟩ := bindS hm22
                  refine q_ixO S6 h22 hq14 (fun v19 h27 => ?_)
                  obtain rfl := (show v19 = (V.int x12) from h27)
                  cases hm23
                  exact ⟨G3, (Ext.refl _), S6, rfl⟩
                · skip
                  have hm24 := (if_neg c4).symm.trans hq13
                  refine gV rfl ?_
                  cases hm24
                  exact ⟨G3, (Ext.refl _), S6, rfl⟩
              · intro v20 H5 hJ
                obtain ⟨G4, e4, S7, rfl⟩ := hJ
                have h29 := R.up e4 h23
                have h30 := Al.up e4 h22
                have E4 := E3.trans e4
                have S8 := S7.tail
                cases hm21
                have hr4 := Option.some.inj (show some (Fl.rt _) = some res1 from hr1)
                subst hr4
                dsimp only at hm2
                cases hm2
                exact q G4 H5 E4 S8
          · skip
            have hm25 := (if_neg c2).symm.trans hm8
            refine gNext ?_
            cases hm25
            exact ⟨_, ⟨G1, _, _, _, e1, S1, rfl⟩, hr1⟩
      · intro s σ H h1 h2
        obtain ⟨G, k1, k2, k3, ie, irest⟩ := h2
        exact ⟨s, h1, G, k1, k2, k3, (ie), irest⟩
    · intro σ2 H6 hJ1
      obtain ⟨row1, hres1, hJ2⟩ := hJ1
      subst hres1
      dsimp only at hm2
      obtain ⟨G5, y7, y8, y9, e5, S9, rfl⟩ := hJ2
      have h31 := R.up e5 h1
      have E5 := E0.trans e5
      refine gRet ?_
      refine gCB ?_
      refine gCons' ?_
      refine gV rfl ?_
      refine gNil' ?_
      refine q_lenL (y := V.non) S9 (rM_L (K := K) h31) ?_
      cases hm2
      exact q G5 H6 E5 S9
end
end Mr

set_option Elab.async false
set_option linter.all false
set_option maxRecDepth 100000
set_option maxHeartbeats 4000000
set_option synthInstance.maxSize 4000
set_option synthInstance.maxHeartbeats 400000
namespace Mr
open PySem PySem.Spec PyProof.Rows L2
section
variable {P : Program} {w : World} {K : PySem.W.Frag} {mg : Str → Option Value} {base : Heap}
theorem sc_law_pages : FnScope ["_law_length_here", "_law_lines_here", "_law_rows", "_law_start", "_law_at"] ["_law_length_here", "_law_lines_here"] (defScope s_law_pages) := ⟨rfl, rfl, rfl, by decide +kernel, rfl, by decide +kernel, by decide +kernel⟩
theorem ok_law_pages (T : Tx K mg) : FnOk P w K mg base CX0 2 (He.fAd K ("_law_pages", none)) T.fd_law_pages ["_law_length_here", "_law_lines_here"] (sp_law_pages K) := by
  have G_law_cut := ok_law_cut (P := P) (w := w) (base := base) T
  refine T.F_law_pages.ok sc_law_pages (fun vs H Q E h => ?_) (fun cdv A outer s H0 vs Q E hr h => ?_)
  · obtain ⟨G, O, length_here1, v1, lines_here1, rfl, _⟩ := h
    rfl
  · obtain ⟨G0, O, length_here1, v1, lines_here1, rfl, S0, h1, res, hm, q⟩ := h
    refine ⟨_, PSs.nox (pss_cons (ps_par (i := 2) (j := 3) (by rfl) sc_law_pages.nd rfl rfl (by decide) rfl rfl (pa_cons (pe_lst pa_nil) (pa_cons pe_int pa_nil)) (by rfl))
      (pss_cons (ps_cut (ps_for PassesOwn.never rfl (pi_range1 (by rfl) T.z_range (pa_cons (pe_callB (r := rLenM K) call_lenM (by rfl) T.z_len boot_len (pa_cons (pv 1) pa_nil)) pa_nil)) (pg_name (i := 4) sc_law_pages.nd rfl (.inl rfl))
      (pss_one (ps_cut (ps_if (pt_cmpR op_eqI (pv 4) (pv 3) (nomark _)) (pss_cons (ps_expr (pe_bm PySem.F.plainAttrs_list PySem.F.slot_list_append PySem.F.type_list_append mt_append (pv 2) (pa_cons (pe_tup (pa_cons pe_bl (pa_cons pe_int pa_nil))) pa_nil)))
      (pss_one (ps_set (i := 3) sc_law_pages.nd rfl (.inl rfl) (pe_call G_law_cut (hr.mono (by decide)) (by rfl) T.g_law_cut T.F_law_cut.kp T.b_law_cut .nil pass0 (pa_cons (pv 0) (pa_cons (pv 1) (pa_cons (pv 4) pa_nil))))))) (pss_one (ps_expr (pe_bm PySem.F.plainAttrs_list PySem.F.slot_list_append PySem.F.type_list_append mt_append (pv 2) (pa_cons (pe_tup (pa_cons pe_bl (pa_cons (pe_op op_add (pe_op op_add (pe_ix ix_tup (pe_ix ix_list (pv 2) (pe_un un_neg pe_int) (fun _ _ => rfl)) pe_int (fun _ _ => rfl)) (pe_ix ix_tup (pe_ix ix_list (pv 1) (pv 4) (fun _ _ => rfl)) pe_int (fun _ _ => rfl))) pe_int) pa_nil))) pa_nil)))))))))
      (pss_one (ps_ret (pv 2))))), ?_⟩
    have E0 := Ext.refl G0
    have hm0 : (Option.bind (rngM (lines_here1.length : Int)) fun xs1 =>
  Option.bind (folM (m_law_pages_b1 length_here1 lines_here1) xs1 (([] : List (Bool × Int)), (0 : Int))) fun (rows1, start1) =>
  some rows1) = some res := hm
    refine gS_Par ?_
    refine gCons' ?_
    refine gLst ?_
    refine gNil' ?_
    have h2 : Al (rP2 K rBool rInt) G0 [] [] := True.intro
    refine q_lst S0 h2 (by show 0 ≤ 100000; decide) (fun a1 H1 w1 S1 h3 => ?_)
    refine gCons' ?_
    refine gC ?_
    refine gNil' ?_
    refine ⟨_, _, rfl, ?_⟩
    obtain ⟨xs1, hq1, hm1⟩ := bindS hm0
    obtain ⟨⟨rows1, start1⟩, hl1, hm2⟩ := bindS hm1
    dsimp only at hm2
    refine gS_CS (fun (σ : L2.St) (H : Hp) => ∃ (G : Hp) (w2 : List V) (y1 : Option V), Ext G0 G ∧ Sub G ((a1, HO.lst w2) :: O) H ∧ σ = [some (V.int length_here1), some v1, some (V.ref a1), some (V.int start1), y1] ∧ Al (rP2 K rBool rInt) G w2 rows1) ?_ ?_
    · skip
      refine gFor ?_
      refine gIR ?_
      refine gCons' ?_
      refine gCB ?_
      refine gCons' ?_
      refine gV rfl ?_
      refine gNil' ?_
      refine q_lenL (y := V.non) S1 (rM_L (K := K) h1) ?_
      refine gNil' ?_
      refine lp_R hq1 (fol_for Empty hl1) (fun (s : (List (Bool × Int)) × Int) (σ : L2.St) (H : Hp) => ∃ (G : Hp) (w2 : List V) (y1 : Option V), Ext G0 G ∧ Sub G ((a1, HO.lst w2) :: O) H ∧ σ = [some (V.int length_here1), some v1, some (V.ref a1), some (V.int s.2), y1] ∧ Al (rP2 K rBool rInt) G w2 s.1) ⟨G0, w1, _, (Ext.refl _), S1, rfl, h3⟩ ?_ ?_
      · intro i1 x1 s1 b1 hb1 hr1 σ1 H2 hI1
        obtain ⟨s2, hb2, hb3⟩ := goF_some hb1
        subst hb3
        obtain ⟨rows2, start2⟩ := s1
        obtain ⟨G1, w3, y2, e1, S2, rfl, h5⟩ := hI1
        have h6 := R.up e1 h1
        have E1 := E0.trans e1
        have hm3 : (Option.bind (if (decide (x1 = start2)) then (Option.bind (appM rows2 (true, (0 : Int))) fun rows6 =>   Option.bind (m_law_cut length_here1 lines_here1 x1) fun r2 =>   some (rows6, r2))   else (Option.bind (getM rows2 (-(1 : Int))) fun x4 =>   Option.bind (getM lines_here1 x1) fun x5 =>   Option.bind (appM rows2 (false, ((x4.2 + x5.1) + (1 : Int)))) fun rows7 =>   some (rows7, start2))) fun (rows5, start3) =>   some (rows5, start3)) = some s2 := hb2
        obtain ⟨⟨rows5, start3⟩, hq7, hm9⟩ := bindS hm3
        dsimp only at hm9
        refine gCS (fun (σ : L2.St) (H : Hp) => ∃ (G : Hp) (w6 : List V), Ext G1 G ∧ Sub G ((a1, HO.lst w6) :: O) H ∧ σ = [some (V.int length_here1), some v1, some (V.ref a1), some (V.int start3), some (V.int x1)] ∧ Al (rP2 K rBool rInt) G w6 rows5) ?_ ?_
        · skip
          refine gIfS ?_
          refine gTest ?_
          refine gOp ?_
          refine gV rfl ?_
          refine gV rfl ?_
          refine ⟨_, _, rfl, rfl, ?_⟩
          refine ⟨(decide (x1 = start2)), rfl, ?_⟩
          refine ite2 (fun c1 => ?_) (fun c1 => ?_)
          · skip
            have hm10 := (if_pos c1).symm.trans hq7
            refine gS_Drop ?_
            refine gBM ?_
            refine gV rfl ?_
            refine ⟨.inl ⟨rfl, _, .inl (.inl S2.head)⟩, ?_⟩
            refine gCons' ?_
            refine gTup' ?_
            refine gCons' ?_
            refine gC ?_
            refine gCons' ?_
            refine gC ?_
            refine gNil' ?_
            refine q_tup2 (K := K) S2 (show R.rel rBool G1 (V.bl true) true from rfl) (show R.rel rInt G1 (V.int (0 : Int)) (0 : Int) from rfl) (fun v9 G5 H8 e5 S8 h21 => ?_)
            have h22 := R.up e5 h6
            have h23 := Al.up e5 h5
            have E5 := E1.trans e5
            refine gNil' ?_
            obtain ⟨rows6, hq8, hm11⟩ := bindS hm10
            refine q_app S8 h23 (show R.rel (rP2 K rBool rInt) G5 v9 (true, (0 : Int)) from h21) hq8 (fun H9 w7 S9 h24 => ?_)
            refine gAsgN ?_
            refine gCall ?_
            refine gCons' ?_
            refine gV rfl ?_
            refine gCons' ?_
            refine gV rfl ?_
            refine gCons' ?_
            refine gV rfl ?_
            refine gNil' ?_
            obtain ⟨r2, hq9, hm12⟩ := bindS hm11
            refine ⟨G5, ((a1, HO.lst w7) :: O), length_here1, v1, lines_here1, x1, rfl, S9, h22, r2, hq9, fun G6 H10 e6 S10 => ?_⟩
            have h25 := R.up e6 h22
            have h26 := Al.up e6 h24
            have E6 := E5.trans e6
            cases hm12
            exact ⟨G6, w7, (e5.trans e6), S10, rfl, h26⟩
          · skip
            have hm13 := (if_neg c1).symm.trans hq7
            refine gDrop ?_
            refine gBM ?_
            refine gV rfl ?_
            refine ⟨.inl ⟨rfl, _, .inl (.inl S2.head)⟩, ?_⟩
            refine gCons' ?_
            refine gTup' ?_
            refine gCons' ?_
            refine gC ?_
            refine gCons' ?_
            refine gOp ?_
            refine gOp ?_
            refine gOp ?_
            refine gOp ?_
            refine gV rfl ?_
            refine gUn ?_
            refine gC ?_
            refine ⟨_, rfl, ?_⟩
            obtain ⟨x4, hq10, hm14⟩ := bindS hm13
            refine q_ixO S2 h5 hq10 (fun v10 h27 => ?_)
            refine gC ?_
            refine q_p2_1 S2 h27 (fun v11 h28 => ?_)
            obtain rfl := (show v11 = (V.int x4.2) from h28)
            refine gOp ?_
            refine gOp ?_
            refine gV rfl ?_
            refine gV rfl ?_
            obtain ⟨x5, hq11, hm15⟩ := bindS hm14
            refine q_ixL S2 (rM_L (K := K) h6) hq11 (fun v12 h29 => ?_)
            refine gC ?_
            refine q_p3_0 S2 h29 (fun v13 h30 => ?_)
            obtain rfl := (show v13 = (V.int x5.1) from h30)
            refine ⟨_, _, rfl, rfl, ?_⟩
            refine gC ?_
            refine ⟨_, _, rfl, rfl, ?_⟩
            refine gNil' ?_
            refine q_tup2 (K := K) S2 (show R.rel rBool G1 (V.bl false) false from rfl) (show R.rel rInt G1 (V.int ((x4.2 + x5.1) + (1 : Int))) ((x4.2 + x5.1) + (1 : Int)) from rfl) (fun v14 G7 H11 e7 S11 h31 => ?_)
            have h32 := R.up e7 h6
            have h33 := Al.up e7 h5
            have E7 := E1.trans e7
            refine gNil' ?_
            obtain ⟨rows7, hq12, hm16⟩ := bindS hm15
            refine q_app S11 h33 (show R.rel (rP2 K rBool rInt) G7 v14 (false, ((x4.2 + x5.1) + (1 : Int))) from h31) hq12 (fun H12 w8 S12 h34 => ?_)
            cases hm16
            exact ⟨G7, w8, e7, S12, rfl, h34⟩
        · intro σ2 H13 hJ1
          obtain ⟨G8, w9, e8, S13, rfl, h35⟩ := hJ1
          have h36 := R.up e8 h6
          have E8 := E1.trans e8
          cases hm9
          exact ⟨(rows5, start3), ⟨G8, w9, _, (e1.trans e8), S13, rfl, h35⟩, hr1⟩
      · intro s σ H h1 h2
        cases h1
        obtain ⟨G, k1, k2, ie, irest⟩ := h2
        exact ⟨G, k1, k2, (ie), irest⟩
    · intro σ3 H14 hJ2
      obtain ⟨G9, w10, y3, e9, S14, rfl, h37⟩ := hJ2
      have h38 := R.up e9 h1
      have E9 := E0.trans e9
      refine gRet ?_
      refine gV rfl ?_
      obtain ⟨G10, e10, S15, h39⟩ := frz_M S14 h37
      have h40 := R.up e10 h38
      have E10 := E9.trans e10
      cases hm2
      exact q (V.ref a1) G10 H14 E10 S15 h39
end
end Mr

set_option Elab.async false
set_option linter.all false
set_option maxRecDepth 100000
set_option maxHeartbeats 4000000
set_option synthInstance.maxSize 4000
set_option synthInstance.maxHeartbeats 400000
namespace Mr
open PySem PySem.Spec PyProof.Rows L2
section
variable {P : Program} {w : World} {K : PySem.W.Frag} {mg : Str → Option Value} {base : Heap}
theorem sc_law_standings : FnScope ["_law_length_here", "_law_found", "_law_high", "_law_back"] ["_law_length_here"] (defScope s_law_standings) := ⟨rfl, rfl, rfl, by decide +kernel, rfl, by decide +kernel, by decide +kernel⟩
theorem ok_law_standings (T : Tx K mg) : FnOk P w K mg base CX0 1 (He.fAd K ("_law_standings", none)) T.fd_law_standings ["_law_length_here"] (sp_law_standings K) := by
  refine T.F_law_standings.ok sc_law_standings (fun vs H Q E h => ?_) (fun cdv A outer s H0 vs Q E hr h => ?_)
  · obtain ⟨G, O, length_here1, rfl, _⟩ := h
    rfl
  · obtain ⟨G0, O, length_here1, rfl, S0, res, hm, q⟩ := h
    refine ⟨_, PSs.nox (pss_cons (ps_set (i := 1) sc_law_standings.nd rfl (.inl rfl) (pe_lst pa_nil))
      (pss_cons (ps_cut (ps_for PassesOwn.never rfl (pi_range2 (by rfl) T.z_range (pa_cons pe_int (pa_cons (pe_op op_add (pv 0) pe_int) pa_nil))) (pg_name (i := 2) sc_law_standings.nd rfl (.inr rfl))
      (pss_one (ps_set (i := 1) sc_law_standings.nd rfl (.inl rfl) (pe_op op_cat (pv 1) (pe_lc (own := [("_law_back", 3)]) (g := gName 3) (by rfl) sc_law_standings.nd (pi_range1 (by rfl) T.z_range (pa_cons (pv 2) pa_nil)) (blkOk_by (own := [("_law_back", 3)]) (N := ["_law_length_here", "_law_found", "_law_high", "_law_back"]) (sc := defScope s_law_standings) (by decide +kernel)) (fun _ _ _ _ _ => (pg_name (i := 3) sc_law_standings.nd rfl (.inl rfl))) (fun _ _ _ _ _ => (pts_one (pt_cut (PW.pt (pw_or (pt_cmpR op_lt (pv 2) (pv 0) (nomark _)) (pw_or1 (pt_cmpR op_gt (pv 3) pe_int (nomark _)))))))) (fun _ _ _ _ _ => (pe_tup (pa_cons pe_str (pa_cons (pv 2) (pa_cons (pv 3) pa_nil)))))))))))
      (pss_one (ps_ret (pe_op op_cat (pe_op op_cat (pv 1) (pe_lc (own := [("_law_high", 2)]) (g := gName 2) (by rfl) sc_law_standings.nd (pi_range2 (by rfl) T.z_range (pa_cons pe_int (pa_cons (pv 0) pa_nil))) (blkOk_by (own := [("_law_high", 2)]) (N := ["_law_length_here", "_law_found", "_law_high", "_law_back"]) (sc := defScope s_law_standings) (by decide +kernel)) (fun _ _ _ _ _ => (pg_name (i := 2) sc_law_standings.nd rfl (.inl rfl))) (fun _ _ _ _ _ => pts_nil) (fun _ _ _ _ _ => (pe_tup (pa_cons pe_str (pa_cons (pv 2) (pa_cons pe_int pa_nil))))))) (pe_lst (pa_cons (pe_tup (pa_cons pe_str (pa_cons pe_int (pa_cons pe_int pa_nil)))) pa_nil))))))), ?_⟩
    have E0 := Ext.refl G0
    have hm0 : (Option.bind (rng2M (1 : Int) (length_here1 + (1 : Int))) fun xs1 =>
  Option.bind (folM (m_law_standings_b1 length_here1) xs1 ([] : List (Wd × Int × Int))) fun found1 =>
  Option.bind (rng2M (1 : Int) length_here1) fun xs3 =>
  Option.bind (folM (m_law_standings_c3) xs3 ([] : (List (Wd × Int × Int)))) fun acc4 =>
  Option.bind (catM found1 acc4) fun z2 =>
  Option.bind (catM z2 ([(Wd.top, (0 : Int), (0 : Int))] : List (Wd × Int × Int))) fun z3 =>
  some z3) = some res := hm
    refine gS_AsgN ?_
    refine gLst ?_
    refine gNil' ?_
    have h1 : Al (rP3 K (rEn e_Wd) rInt rInt) G0 [] [] := True.intro
    refine q_lst S0 h1 (by show 0 ≤ 100000; decide) (fun a1 H1 w1 S1 h2 => ?_)
    obtain ⟨G1, e1, S2, h3⟩ := frz_M S1 h2
    have E1 := E0.trans e1
    obtain ⟨xs1, hq1, hm1⟩ := bindS hm0
    obtain ⟨found1, hl1, hm2⟩ := bindS hm1
    refine gS_CS (fun (σ : L2.St) (H : Hp) => ∃ (G : Hp) (v1 : V) (y1 : Option V) (y2 : Option V), Ext G1 G ∧ Sub G (O) H ∧ σ = [some (V.int length_here1), some v1, y1, y2] ∧ R.rel (rM (rP3 K (rEn e_Wd) rInt rInt)) G v1 found1) ?_ ?_
    · skip
      refine gFor ?_
      refine gIR2 ?_
      refine gCons' ?_
      refine gC ?_
      refine gCons' ?_
      refine gOp ?_
      refine gV rfl ?_
      refine gC ?_
      refine ⟨_, _, rfl, rfl, ?_⟩
      refine gNil' ?_
      refine lp_R2 hq1 (fol_for Empty hl1) (fun (s : (List (Wd × Int × Int))) (σ : L2.St) (H : Hp) => ∃ (G : Hp) (v1 : V) (y1 : Option V) (y2 : Option V), Ext G1 G ∧ Sub G (O) H ∧ σ = [some (V.int length_here1), some v1, y1, y2] ∧ R.rel (rM (rP3 K (rEn e_Wd) rInt rInt)) G v1 s) ⟨G1, (V.ref a1), _, _, (Ext.refl _), S2, rfl, h3⟩ ?_ ?_
      · intro i1 x1 found2 b1 hb1 hr1 σ1 H2 hI1
        obtain ⟨s2, hb2, hb3⟩ := goF_some hb1
        subst hb3
        obtain ⟨G2, v3, y3, y4, e2, S3, rfl, h5⟩ := hI1
        have E2 := E1.trans e2
        have hm3 : (Option.bind (rngM x1) fun xs2 =>   Option.bind (folM (m_law_standings_c2 length_here1 x1) xs2 ([] : (List (Wd × Int × Int)))) fun acc1 =>   Option.bind (catM found2 acc1) fun z1 =>   some z1) = some s2 := hb2
        refine gAsgN ?_
        refine gOp ?_
        refine gV rfl ?_
        refine gLc ?_
        refine gIR ?_
        refine gCons' ?_
        refine gV rfl ?_
        refine gNil' ?_
        obtain ⟨xs2, hq2, hm4⟩ := bindS hm3
        obtain ⟨acc1, hq3, hm5⟩ := bindS hm4
        refine lc_R hq2 hq3 (fun (D : Addr) (s : (List (Wd × Int × Int))) (H : Hp) => ∃ (G : Hp) (w2 : List V), Ext G2 G ∧ Sub G ((D, HO.lst w2) :: O) H ∧ Al (rP3 K (rEn e_Wd) rInt rInt) G w2 s) ?_ ?_ ?_
        · intro D1 nD1
          exact ⟨G2, [], Ext.refl _, S3.newOwn nD1, True.intro⟩
        · intro D2 i2 x2 acc2 s4 hb4 hr2 H5 hI2
          obtain ⟨G5, w3, e5, S6, h10⟩ := hI2
          have h11 := R.up e5 h5
          have E5 := E2.trans e5
          refine ⟨rfl, ?_⟩
          have hm6 : (if ((decide (x1 < length_here1)) || (decide (x2 > (0 : Int)))) then (Option.bind (appM acc2 (Wd.kept, x1, x2)) fun acc3 =>   some acc3)   else (some acc2)) = some s4 := hb4
          refine gCT (fun (b : Bool) (H : Hp) => ∃ (G : Hp), Ext G5 G ∧ Sub G ((D2, HO.lst w3) :: O) H ∧ b = ((decide (x1 < length_here1)) || (decide (x2 > (0 : Int))))) ?_ ?_
          · skip
            refine gOr ?_
            refine gTest ?_
            refine gOp ?_
            refine gV rfl ?_
            refine gV rfl ?_
            refine ⟨_, _, rfl, rfl, ?_⟩
            refine ⟨(decide (x1 < length_here1)), rfl, ?_⟩
            refine ite2 (fun c2 => ?_) (fun c2 => ?_)
            · skip
              exact ⟨G5, (Ext.refl _), S6, (by rw [c2, Bool.true_or])⟩
            · skip
              refine gTest ?_
              refine gOp ?_
              refine gV rfl ?_
              refine gC ?_
              refine ⟨_, _, rfl, rfl, ?_⟩
              refine ⟨(decide (x2 > (0 : Int))), rfl, ?_⟩
              exact ⟨G5, (Ext.refl _), S6, (by rw [ne_false c2, Bool.false_or])⟩
          · intro b3 H6 hJ
            obtain ⟨G6, e6, S7, rfl⟩ := hJ
            have h12 := R.up e6 h11
            have h13 := Al.up e6 h10
            have E6 := E5.trans e6
            refine ite2 (fun c3 => ?_) (fun c3 => ?_)
            · skip
              have hm7 := (if_pos c3).symm.trans hm6
              refine gTup' ?_
              refine gCons' ?_
              refine gC ?_
              refine gCons' ?_
              refine gV rfl ?_
              refine gCons' ?_
              refine gV rfl ?_
              refine gNil' ?_
              refine q_tup3 (K := K) S7 (show R.rel (rEn e_Wd) G6 (V.str (e_Wd Wd.kept)) Wd.kept from rfl) (show R.rel rInt G6 (V.int x1) x1 from rfl) (show R.rel rInt G6 (V.int x2) x2 from rfl) (fun v6 G7 H7 e7 S8 h14 => ?_)
              have h15 := R.up e7 h12
              have h16 := Al.up e7 h13
              have E7 := E6.trans e7
              obtain ⟨acc3, hq4, hm8⟩ := bindS hm7
              refine q_lcEl S8 h16 (show R.rel (rP3 K (rEn e_Wd) rInt rInt) G7 v6 (Wd.kept, x1, x2) from h14) hq4 (fun H8 w4 S9 h17 => ?_)
              cases hm8
              exact ⟨_, ⟨G7, w4, ((e5.trans e6).trans e7), S9, h17⟩, hr2⟩
            · skip
              have hm9 := (if_neg c3).symm.trans hm6
              cases hm9
              exact ⟨_, ⟨G6, w3, (e5.trans e6), S7, h13⟩, hr2⟩
        · intro D3 H9 hI3
          obtain ⟨G8, w5, e8, S10, h18⟩ := hI3
          have h19 := R.up e8 h5
          have E8 := E2.trans e8
          obtain ⟨z1, hq5, hm10⟩ := bindS hm5
          have h20 := ls_O S10 h18
          refine q_cat S10 (ls_M S10 h19) h20 hq5 (fun v7 G9 H10 e9 S11 h21 => ?_)
          have h22 := R.up e9 h19
          have E9 := E8.trans e9
          have S12 := S11.tail
          cases hm10
          exact ⟨_, ⟨G9, v7, _, _, ((e2.trans e8).trans e9), S12, rfl, h21⟩, hr1⟩
      · intro s σ H h1 h2
        cases h1
        obtain ⟨G, k1, k2, k3, ie, irest⟩ := h2
        exact ⟨G, k1, k2, k3, (ie), irest⟩
    · intro σ2 H11 hJ1
      obtain ⟨G10, v8, y5, y6, e10, S13, rfl, h23⟩ := hJ1
      have E10 := E1.trans e10
      refine gRet ?_
      refine gOp ?_
      refine gOp ?_
      refine gV rfl ?_
      refine gLc ?_
      refine gIR2 ?_
      refine gCons' ?_
      refine gC ?_
      refine gCons' ?_
      refine gV rfl ?_
      refine gNil' ?_
      obtain ⟨xs3, hq6, hm11⟩ := bindS hm2
      obtain ⟨acc4, hq7, hm12⟩ := bindS hm11
      refine lc_R2 hq6 hq7 (fun (D : Addr) (s : (List (Wd × Int × Int))) (H : Hp) => ∃ (G : Hp) (w6 : List V), Ext G10 G ∧ Sub G ((D, HO.lst w6) :: O) H ∧ Al (rP3 K (rEn e_Wd) rInt rInt) G w6 s) ?_ ?_ ?_
      · intro D4 nD2
        exact ⟨G10, [], Ext.refl _, S13.newOwn nD2, True.intro⟩
      · intro D5 i3 x3 acc5 s6 hb5 hr3 H13 hI4
        obtain ⟨G12, w7, e12, S15, h27⟩ := hI4
        have h28 := R.up e12 h23
        have E12 := E10.trans e12
        refine ⟨rfl, ?_⟩
        have hm13 : (Option.bind (appM acc5 (Wd.opn, x3, (0 : Int))) fun acc6 =>   some acc6) = some s6 := hb5
        refine gYes ?_
        refine iteT ?_
        refine gTup' ?_
        refine gCons' ?_
        refine gC ?_
        refine gCons' ?_
        refine gV rfl ?_
        refine gCons' ?_
        refine gC ?_
        refine gNil' ?_
        refine q_tup3 (K := K) S15 (show R.rel (rEn e_Wd) G12 (V.str (e_Wd Wd.opn)) Wd.opn from rfl) (show R.rel rInt G12 (V.int x3) x3 from rfl) (show R.rel rInt G12 (V.int (0 : Int)) (0 : Int) from rfl) (fun v11 G13 H14 e13 S16 h29 => ?_)
        have h30 := R.up e13 h28
        have h31 := Al.up e13 h27
        have E13 := E12.trans e13
        obtain ⟨acc6, hq8, hm14⟩ := bindS hm13
        refine q_lcEl S16 h31 (show R.rel (rP3 K (rEn e_Wd) rInt rInt) G13 v11 (Wd.opn, x3, (0 : Int)) from h29) hq8 (fun H15 w8 S17 h32 => ?_)
        cases hm14
        exact ⟨_, ⟨G13, w8, (e12.trans e13), S17, h32⟩, hr3⟩
      · intro D6 H16 hI5
        obtain ⟨G14, w9, e14, S18, h33⟩ := hI5
        have h34 := R.up e14 h23
        have E14 := E10.trans e14
        obtain ⟨z2, hq9, hm15⟩ := bindS hm12
        have h35 := ls_O S18 h33
        refine q_cat S18 (ls_M S18 h34) h35 hq9 (fun v12 G15 H17 e15 S19 h36 => ?_)
        have h37 := R.up e15 h34
        have E15 := E14.trans e15
        refine gLst ?_
        refine gCons' ?_
        refine gTup' ?_
        refine gCons' ?_
        refine gC ?_
        refine gCons' ?_
        refine gC ?_
        refine gCons' ?_
        refine gC ?_
        refine gNil' ?_
        refine q_tup3 (K := K) S19 (show R.rel (rEn e_Wd) G15 (V.str (e_Wd Wd.top)) Wd.top from rfl) (show R.rel rInt G15 (V.int (0 : Int)) (0 : Int) from rfl) (show R.rel rInt G15 (V.int (0 : Int)) (0 : Int) from rfl) (fun v13 G16 H18 e16 S20 h38 => ?_)
        have h39 := R.up e16 h37
        have h40 := R.up e16 h36
        have E16 := E15.trans e16
        refine gNil' ?_
        have h41 : Al (rP3 K (rEn e_Wd) rInt rInt) G16 [v13] [(Wd.top, (0 : Int), (0 : Int))] := ⟨h38, True.intro⟩
        refine q_lst S20 h41 (by show 1 ≤ 100000; decide) (fun a2 H19 w10 S21 h42 => ?_)
        obtain ⟨z3, hq10, hm16⟩ := bindS hm15
        have h43 := ls_O S21 h42
        refine q_cat S21 (ls_M S21 h40) h43 hq10 (fun v14 G17 H20 e17 S22 h44 => ?_)
        have h45 := R.up e17 h39
        have E17 := E16.trans e17
        have S23 := S22.tail
        have S24 := S23.tail
        cases hm16
        exact q v14 G17 H20 E17 S24 h44
end
end Mr

set_option Elab.async false
set_option linter.all false
set_option maxRecDepth 100000
set_option maxHeartbeats 4000000
set_option synthInstance.maxSize 4000
set_option synthInstance.maxHeartbeats 400000
namespace Mr
open PySem PySem.Spec PyProof.Rows L2
section
variable {P : Program} {w : World} {K : PySem.W.Frag} {mg : Str → Option Value} {base : Heap}
theorem sc_law_lead : FnScope ["_law_standing_here", "_law_word", "_law_high", "_law_back"] ["_law_standing_here"] (defScope s_law_lead) := ⟨rfl, rfl, rfl, by decide +kernel, rfl, by decide +kernel, by decide +kernel⟩
theorem ok_law_lead (T : Tx K mg) : FnOk P w K mg base CX0 1 (He.fAd K ("_law_lead", none)) T.fd_law_lead ["_law_standing_here"] (sp_law_lead K) := by
  refine T.F_law_lead.ok sc_law_lead (fun vs H Q E h => ?_) (fun cdv A outer s H0 vs Q E hr h => ?_)
  · obtain ⟨G, O, v1, standing_here1, rfl, _⟩ := h
    rfl
  · obtain ⟨G0, O, v1, standing_here1, rfl, S0, h1, res, hm, q⟩ := h
    refine ⟨_, PSs.nox (pss_cons (ps_asg (pv 0) (pg_tup rfl (pgs_cons (pg_name (i := 1) sc_law_lead.nd rfl (.inl rfl)) (pgs_cons (pg_name (i := 2) sc_law_lead.nd rfl (.inl rfl)) (pgs_cons (pg_name (i := 3) sc_law_lead.nd rfl (.inl rfl)) pgs_nil)))))
      (pss_cons (ps_if (pt_cmpR (op_neE e_Wd_inj) (pv 1) pe_str (nomark _)) (pss_one (ps_ret (pe_op op_rep (pe_lst (pa_cons (pe_tup (pa_cons pe_int (pa_cons pe_int (pa_cons pe_bl (pa_cons pe_bl pa_nil))))) pa_nil)) (pv 2)))) pss_nil)
      (pss_cons (ps_if (pt_cmpR op_eqI (pv 3) pe_int (nomark _)) (pss_one (ps_ret (pe_op op_rep (pe_lst (pa_cons (pe_tup (pa_cons pe_int (pa_cons pe_int (pa_cons pe_bl (pa_cons pe_bl pa_nil))))) pa_nil)) (pv 2)))) pss_nil)
      (pss_one (ps_ret (pe_op op_cat (pe_op op_rep (pe_lst (pa_cons (pe_tup (pa_cons pe_int (pa_cons pe_int (pa_cons pe_bl (pa_cons pe_bl pa_nil))))) pa_nil)) (pe_op op_sub (pv 2) (pv 3))) (pe_op op_rep (pe_lst (pa_cons (pe_tup (pa_cons pe_int (pa_cons pe_int (pa_cons pe_bl (pa_cons pe_bl pa_nil))))) pa_nil)) (pv 3)))))))), ?_⟩
    have E0 := Ext.refl G0
    have hm0 : (if (!decide (standing_here1.1 = Wd.kept)) then (Option.bind (repM ([((1 : Int), (0 : Int), false, false)] : List (Int × Int × Bool × Bool)) standing_here1.2.1) fun z1 =>
  some z1)
  else (if (decide (standing_here1.2.2 = (0 : Int))) then (Option.bind (repM ([((1 : Int), (0 : Int), true, false)] : List (Int × Int × Bool × Bool)) standing_here1.2.1) fun z2 =>
  some z2)
  else (Option.bind (repM ([((1 : Int), (0 : Int), false, false)] : List (Int × Int × Bool × Bool)) (standing_here1.2.1 - standing_here1.2.2)) fun z3 =>
  Option.bind (repM ([((1 : Int), (0 : Int), true, false)] : List (Int × Int × Bool × Bool)) standing_here1.2.2) fun z4 =>
  Option.bind (catM z3 z4) fun z5 =>
  some z5))) = some res := hm
    refine gS_Asg ?_
    refine gV rfl ?_
    refine q_gt3 S0 h1 (fun v2 v3 v4 h2 h3 h4 => ?_)
    obtain rfl := (show v2 = (V.str (e_Wd standing_here1.1)) from h2)
    obtain rfl := (show v3 = (V.int standing_here1.2.1) from h3)
    obtain rfl := (show v4 = (V.int standing_here1.2.2) from h4)
    refine gS_IfS ?_
    refine gTest ?_
    refine gOp ?_
    refine gV rfl ?_
    refine gC ?_
    refine ⟨standing_here1.1, Wd.kept, rfl, rfl, ?_⟩
    refine ⟨(!decide (standing_here1.1 = Wd.kept)), rfl, ?_⟩
    refine ite2 (fun c1 => ?_) (fun c1 => ?_)
    · skip
      have hm1 := (if_pos c1).symm.trans hm0
      refine gRet ?_
      refine gOp ?_
      refine gLst ?_
      refine gCons' ?_
      refine gTup' ?_
      refine gCons' ?_
      refine gC ?_
      refine gCons' ?_
      refine gC ?_
      refine gCons' ?_
      refine gC ?_
      refine gCons' ?_
      refine gC ?_
      refine gNil' ?_
      refine q_tup4 (K := K) S0 (show R.rel rInt G0 (V.int (1 : Int)) (1 : Int) from rfl) (show R.rel rInt G0 (V.int (0 : Int)) (0 : Int) from rfl) (show R.rel rBool G0 (V.bl false) false from rfl) (show R.rel rBool G0 (V.bl false) false from rfl) (fun v5 G1 H1 e1 S1 h5 => ?_)
      have h6 := R.up e1 h1
      have E1 := E0.trans e1
      refine gNil' ?_
      have h7 : Al (rP4 K rInt rInt rBool rBool) G1 [v5] [((1 : Int), (0 : Int), false, false)] := ⟨h5, True.intro⟩
      refine q_lst S1 h7 (by show 1 ≤ 100000; decide) (fun a1 H2 w1 S2 h8 => ?_)
      refine gV rfl ?_
      obtain ⟨z1, hq1, hm2⟩ := bindS hm1
      have h9 := ls_O S2 h8
      refine q_rep S2 h9 hq1 (fun v6 G2 H3 e2 S3 h10 => ?_)
      have h11 := R.up e2 h6
      have E2 := E1.trans e2
      have S4 := S3.tail
      cases hm2
      exact q v6 G2 H3 E2 S4 h10
    · skip
      have hm3 := (if_neg c1).symm.trans hm0
      refine gNext ?_
      refine gE ?_
      refine gS_IfS ?_
      refine gTest ?_
      refine gOp ?_
      refine gV rfl ?_
      refine gC ?_
      refine ⟨_, _, rfl, rfl, ?_⟩
      refine ⟨(decide (standing_here1.2.2 = (0 : Int))), rfl, ?_⟩
      refine ite2 (fun c2 => ?_) (fun c2 => ?_)
      · skip
        have hm4 := (if_pos c2).symm.trans hm3
        refine gRet ?_
        refine gOp ?_
        refine gLst ?_
        refine gCons' ?_
        refine gTup' ?_
        refine gCons' ?_
        refine gC ?_
        refine gCons' ?_
        refine gC ?_
        refine gCons' ?_
        refine gC ?_
        refine gCons' ?_
        refine gC ?_
        refine gNil' ?_
        refine q_tup4 (K := K) S0 (show R.rel rInt G0 (V.int (1 : Int)) (1 : Int) from rfl) (show R.rel rInt G0 (V.int (0 : Int)) (0 : Int) from rfl) (show R.rel rBool G0 (V.bl true) true from rfl) (show R.rel rBool G0 (V.bl false) false from rfl) (fun v7 G3 H4 e3 S5 h12 => ?_)
        have h13 := R.up e3 h1
        have E3 := E0.trans e3
        refine gNil' ?_
        have h14 : Al (rP4 K rInt rInt rBool rBool) G3 [v7] [((1 : Int), (0 : Int), true, false)] := ⟨h12, True.intro⟩
        refine q_lst S5 h14 (by show 1 ≤ 100000; decide) (fun a2 H5 w2 S6 h15 => ?_)
        refine gV rfl ?_
        obtain ⟨z2, hq2, hm5⟩ := bindS hm4
        have h16 := ls_O S6 h15
        refine q_rep S6 h16 hq2 (fun v8 G4 H6 e4 S7 h17 => ?_)
        have h18 := R.up e4 h13
        have E4 := E3.trans e4
        have S8 := S7.tail
        cases hm5
        exact q v8 G4 H6 E4 S8 h17
      · skip
        have hm6 := (if_neg c2).symm.trans hm3
        refine gNext ?_
        refine gE ?_
        refine gRet ?_
        refine gOp ?_
        refine gOp ?_
        refine gLst ?_
        refine gCons' ?_
        refine gTup' ?_
        refine gCons' ?_
        refine gC ?_
        refine gCons' ?_
        refine gC ?_
        refine gCons' ?_
        refine gC ?_
        refine gCons' ?_
        refine gC ?_
        refine gNil' ?_
        refine q_tup4 (K := K) S0 (show R.rel rInt G0 (V.int (1 : Int)) (1 : Int) from rfl) (show R.rel rInt G0 (V.int (0 : Int)) (0 : Int) from rfl) (show R.rel rBool G0 (V.bl false) false from rfl) (show R.rel rBool G0 (V.bl false) false from rfl) (fun v9 G5 H7 e5 S9 h19 => ?_)
        have h20 := R.up e5 h1
        have E5 := E0.trans e5
        refine gNil' ?_
        have h21 : Al (rP4 K rInt rInt rBool rBool) G5 [v9] [((1 : Int), (0 : Int), false, false)] := ⟨h19, True.intro⟩
        refine q_lst S9 h21 (by show 1 ≤ 100000; decide) (fun a3 H8 w3 S10 h22 => ?_)
        refine gOp ?_
        refine gV rfl ?_
        refine gV rfl ?_
        refine ⟨_, _, rfl, rfl, ?_⟩
        obtain ⟨z3, hq3, hm7⟩ := bindS hm6
        have h23 := ls_O S10 h22
        refine q_rep S10 h23 hq3 (fun v10 G6 H9 e6 S11 h24 => ?_)
        have h25 := R.up e6 h20
        have E6 := E5.trans e6
        refine gOp ?_
        refine gLst ?_
        refine gCons' ?_
        refine gTup' ?_
        refine gCons' ?_
        refine gC ?_
        refine gCons' ?_
        refine gC ?_
        refine gCons' ?_
        refine gC ?_
        refine gCons' ?_
        refine gC ?_
        refine gNil' ?_
        refine q_tup4 (K := K) S11 (show R.rel rInt G6 (V.int (1 : Int)) (1 : Int) from rfl) (show R.rel rInt G6 (V.int (0 : Int)) (0 : Int) from rfl) (show R.rel rBool G6 (V.bl true) true from rfl) (show R.rel rBool G6 (V.bl false) false from rfl) (fun v11 G7 H10 e7 S12 h26 => ?_)
        have h27 := R.up e7 h25
        have h28 := R.up e7 h24
        have E7 := E6.trans e7
        refine gNil' ?_
        have h29 : Al (rP4 K rInt rInt rBool rBool) G7 [v11] [((1 : Int), (0 : Int), true, false)] := ⟨h26, True.intro⟩
        refine q_lst S12 h29 (by show 1 ≤ 100000; decide) (fun a4 H11 w4 S13 h30 => ?_)
        refine gV rfl ?_
        obtain ⟨z4, hq4, hm8⟩ := bindS hm7
        have h31 := ls_O S13 h30
        refine q_rep S13 h31 hq4 (fun v12 G8 H12 e8 S14 h32 => ?_)
        have h33 := R.up e8 h27
        have h34 := R.up e8 h28
        have E8 := E7.trans e8
        obtain ⟨z5, hq5, hm9⟩ := bindS hm8
        refine q_cat S14 (ls_M S14 h34) (ls_M S14 h32) hq5 (fun v13 G9 H13 e9 S15 h35 => ?_)
        have h36 := R.up e9 h33
        have E9 := E8.trans e9
        have S16 := S15.tail
        have S17 := S16.tail
        cases hm9
        exact q v13 G9 H13 E9 S17 h35
end
end Mr

set_option Elab.async false
set_option linter.all false
set_option maxRecDepth 100000
set_option maxHeartbeats 4000000
set_option synthInstance.maxSize 4000
set_option synthInstance.maxHeartbeats 400000
namespace Mr
open PySem PySem.Spec PyProof.Rows L2
section
variable {P : Program} {w : World} {K : PySem.W.Frag} {mg : Str → Option Value} {base : Heap}
theorem sc_law_block : FnScope ["_law_bag_here", "_law_most", "_law_count"] ["_law_bag_here", "_law_most"] (defScope s_law_block) := ⟨rfl, rfl, rfl, by decide +kernel, rfl, by decide +kernel, by decide +kernel⟩
theorem ok_law_block (T : Tx K mg) : FnOk P w K mg base CX0 2 (He.fAd K ("_law_block", none)) T.fd_law_block ["_law_bag_here", "_law_most"] (sp_law_block K) := by
  have G_law_draw := ok_law_draw (P := P) (w := w) (base := base) T
  refine T.F_law_block.ok sc_law_block (fun vs H Q E h => ?_) (fun cdv A outer s H0 vs Q E hr h => ?_)
  · obtain ⟨G, O, a1, w1, bag_here1, most1, rfl, _⟩ := h
    rfl
  · obtain ⟨G0, O, a1, w1, bag_here1, most1, rfl, S0, h1, res, hm, q⟩ := h
    refine ⟨_, PSs.nox (pss_cons (ps_set (i := 2) sc_law_block.nd rfl (.inl rfl) (pe_cut (pe_ifExp (pt_cmpR op_eqI (pe_call G_law_draw (hr.mono (by decide)) (by rfl) T.g_law_draw T.F_law_draw.kp T.b_law_draw .nil pass0 (pa_cons (pv 0) (pa_cons pe_int pa_nil))) pe_int (nomark _)) (pe_call G_law_draw (hr.mono (by decide)) (by rfl) T.g_law_draw T.F_law_draw.kp T.b_law_draw .nil pass0 (pa_cons (pv 0) (pa_cons (pe_op op_add (pv 1) pe_int) pa_nil))) (pe_call G_law_draw (hr.mono (by decide)) (by rfl) T.g_law_draw T.F_law_draw.kp T.b_law_draw .nil pass0 (pa_cons (pv 0) (pa_cons pe_int pa_nil))))))
      (pss_one (ps_ret (pe_tup (pa_cons (pv 2) (pa_cons (pe_call G_law_draw (hr.mono (by decide)) (by rfl) T.g_law_draw T.F_law_draw.kp T.b_law_draw .nil pass0 (pa_cons (pv 0) (pa_cons pe_int pa_nil))) (pa_cons (pe_cmpR op_eqI (pe_call G_law_draw (hr.mono (by decide)) (by rfl) T.g_law_draw T.F_law_draw.kp T.b_law_draw .nil pass0 (pa_cons (pv 0) (pa_cons pe_int pa_nil))) pe_int (nomark _)) (pa_cons (pe_cmpR op_eqI (pe_call G_law_draw (hr.mono (by decide)) (by rfl) T.g_law_draw T.F_law_draw.kp T.b_law_draw .nil pass0 (pa_cons (pv 0) (pa_cons pe_int pa_nil))) pe_int (nomark _)) pa_nil)))))))), ?_⟩
    have E0 := Ext.refl G0
    have hm0 : (Option.bind (Option.bind (m_law_draw bag_here1 (4 : Int)) fun (r1, bag_here2) =>
  if (decide (r1 = (3 : Int))) then (Option.bind (m_law_draw bag_here2 (most1 + (1 : Int))) fun (r2, bag_here3) =>
  some (r2, bag_here3)) else (Option.bind (m_law_draw bag_here2 (5 : Int)) fun (r3, bag_here4) =>
  some (r3, bag_here4))) fun (x1, bag_here5) =>
  Option.bind (m_law_draw bag_here5 (3 : Int)) fun (r7, bag_here9) =>
  Option.bind (m_law_draw bag_here9 (2 : Int)) fun (r8, bag_here10) =>
  Option.bind (m_law_draw bag_here10 (8 : Int)) fun (r9, bag_here11) =>
  some ((x1, r7, (decide (r8 = (1 : Int))), (decide (r9 = (7 : Int)))), bag_here11)) = some res := hm
    refine gS_AsgN ?_
    obtain ⟨⟨x1, bag_here5⟩, hq4, hm4⟩ := bindS hm0
    dsimp only at hm4
    refine gCE (fun (v : V) (H : Hp) => ∃ (G : Hp) (w5 : List V), Ext G0 G ∧ Sub G ((a1, HO.lst w5) :: O) H ∧ v = (V.int x1) ∧ Al rInt G w5 bag_here5) ?_ ?_
    · skip
      refine gIf ?_
      refine gTest ?_
      refine gOp ?_
      refine gCall ?_
      refine gCons' ?_
      refine gV rfl ?_
      refine gCons' ?_
      refine gC ?_
      refine gNil' ?_
      obtain ⟨⟨r4, bag_here6⟩, hq5, hm5⟩ := bindS hq4
      dsimp only at hm5
      refine ⟨G0, (O), a1, w1, bag_here1, (4 : Int), rfl, S0, h1, (r4, bag_here6), hq5, fun G4 H4 w6 e4 S4 h5 => ?_⟩
      have E4 := E0.trans e4
      refine gC ?_
      refine ⟨_, _, rfl, rfl, ?_⟩
      refine ⟨(decide (r4 = (3 : Int))), rfl, ?_⟩
      refine ite2 (fun c1 => ?_) (fun c1 => ?_)
      · skip
        have hm6 := (if_pos c1).symm.trans hm5
        refine gCall ?_
        refine gCons' ?_
        refine gV rfl ?_
        refine gCons' ?_
        refine gOp ?_
        refine gV rfl ?_
        refine gC ?_
        refine ⟨_, _, rfl, rfl, ?_⟩
        refine gNil' ?_
        obtain ⟨⟨r5, bag_here7⟩, hq6, hm7⟩ := bindS hm6
        dsimp only at hm7
        refine ⟨G4, (O), a1, w6, bag_here6, (most1 + (1 : Int)), rfl, S4, h5, (r5, bag_here7), hq6, fun G5 H5 w7 e5 S5 h6 => ?_⟩
        have E5 := E4.trans e5
        cases hm7
        exact ⟨G5, w7, (e4.trans e5), S5, rfl, h6⟩
      · skip
        have hm8 := (if_neg c1).symm.trans hm5
        refine gCall ?_
        refine gCons' ?_
        refine gV rfl ?_
        refine gCons' ?_
        refine gC ?_
        refine gNil' ?_
        obtain ⟨⟨r6, bag_here8⟩, hq7, hm9⟩ := bindS hm8
        dsimp only at hm9
        refine ⟨G4, (O), a1, w6, bag_here6, (5 : Int), rfl, S4, h5, (r6, bag_here8), hq7, fun G6 H6 w8 e6 S6 h7 => ?_⟩
        have E6 := E4.trans e6
        cases hm9
        exact ⟨G6, w8, (e4.trans e6), S6, rfl, h7⟩
    · intro v1 H7 hJ
      obtain ⟨G7, w9, e7, S7, rfl, h9⟩ := hJ
      have E7 := E0.trans e7
      refine gRet ?_
      refine gTup' ?_
      refine gCons' ?_
      refine gV rfl ?_
      refine gCons' ?_
      refine gCall ?_
      refine gCons' ?_
      refine gV rfl ?_
      refine gCons' ?_
      refine gC ?_
      refine gNil' ?_
      obtain ⟨⟨r7, bag_here9⟩, hq8, hm10⟩ := bindS hm4
      dsimp only at hm10
      refine ⟨G7, (O), a1, w9, bag_here5, (3 : Int), rfl, S7, h9, (r7, bag_here9), hq8, fun G8 H8 w10 e8 S8 h10 => ?_⟩
      have E8 := E7.trans e8
      refine gCons' ?_
      refine gOp ?_
      refine gCall ?_
      refine gCons' ?_
      refine gV rfl ?_
      refine gCons' ?_
      refine gC ?_
      refine gNil' ?_
      obtain ⟨⟨r8, bag_here10⟩, hq9, hm11⟩ := bindS hm10
      dsimp only at hm11
      refine ⟨G8, (O), a1, w10, bag_here9, (2 : Int), rfl, S8, h10, (r8, bag_here10), hq9, fun G9 H9 w11 e9 S9 h11 => ?_⟩
      have E9 := E8.trans e9
      refine gC ?_
      refine ⟨_, _, rfl, rfl, ?_⟩
      refine gCons' ?_
      refine gOp ?_
      refine gCall ?_
      refine gCons' ?_
      refine gV rfl ?_
      refine gCons' ?_
      refine gC ?_
      refine gNil' ?_
      obtain ⟨⟨r9, bag_here11⟩, hq10, hm12⟩ := bindS hm11
      dsimp only at hm12
      refine ⟨G9, (O), a1, w11, bag_here10, (8 : Int), rfl, S9, h11, (r9, bag_here11), hq10, fun G10 H10 w12 e10 S10 h12 => ?_⟩
      have E10 := E9.trans e10
      refine gC ?_
      refine ⟨_, _, rfl, rfl, ?_⟩
      refine gNil' ?_
      refine q_tup4 (K := K) S10 (show R.rel rInt G10 (V.int x1) x1 from rfl) (show R.rel rInt G10 (V.int r7) r7 from rfl) (show R.rel rBool G10 (V.bl (decide (r8 = (1 : Int)))) (decide (r8 = (1 : Int))) from rfl) (show R.rel rBool G10 (V.bl (decide (r9 = (7 : Int)))) (decide (r9 = (7 : Int))) from rfl) (fun v2 G11 H11 e11 S11 h13 => ?_)
      have h14 := Al.up e11 h12
      have E11 := E10.trans e11
      cases hm12
      exact q v2 G11 H11 w12 E11 S11 h13 h14
end
end Mr

set_option Elab.async false
set_option linter.all false
set_option maxRecDepth 100000
set_option maxHeartbeats 4000000
set_option synthInstance.maxSize 4000
set_option synthInstance.maxHeartbeats 400000
namespace Mr
open PySem PySem.Spec PyProof.Rows L2
section
variable {P : Program} {w : World} {K : PySem.W.Frag} {mg : Str → Option Value} {base : Heap}
theorem sc_law_length : FnScope ["_law_bag_here"] ["_law_bag_here"] (defScope s_law_length) := ⟨rfl, rfl, rfl, by decide +kernel, rfl, by decide +kernel, by decide +kernel⟩
theorem ok_law_length (T : Tx K mg) : FnOk P w K mg base CX0 2 (He.fAd K ("_law_length", none)) T.fd_law_length ["_law_bag_here"] (sp_law_length K) := by
  have G_law_draw := ok_law_draw (P := P) (w := w) (base := base) T
  refine T.F_law_length.ok sc_law_length (fun vs H Q E h => ?_) (fun cdv A outer s H0 vs Q E hr h => ?_)
  · obtain ⟨G, O, a1, w1, bag_here1, rfl, _⟩ := h
    rfl
  · obtain ⟨G0, O, a1, w1, bag_here1, rfl, S0, h1, res, hm, q⟩ := h
    refine ⟨_, PSs.nox (pss_one (ps_ret (pe_op op_add pe_int (pe_cut (pe_ifExp (pt_cmpR op_eqI (pe_call G_law_draw (hr.mono (by decide)) (by rfl) T.g_law_draw T.F_law_draw.kp T.b_law_draw .nil pass0 (pa_cons (pv 0) (pa_cons pe_int pa_nil))) pe_int (nomark _)) (pe_call G_law_draw (hr.mono (by decide)) (by rfl) T.g_law_draw T.F_law_draw.kp T.b_law_draw .nil pass0 (pa_cons (pv 0) (pa_cons pe_int pa_nil))) (pe_call G_law_draw (hr.mono (by decide)) (by rfl) T.g_law_draw T.F_law_draw.kp T.b_law_draw .nil pass0 (pa_cons (pv 0) (pa_cons pe_int pa_nil)))))))), ?_⟩
    have E0 := Ext.refl G0
    have hm0 : (Option.bind (Option.bind (m_law_draw bag_here1 (4 : Int)) fun (r1, bag_here2) =>
  if (decide (r1 = (3 : Int))) then (Option.bind (m_law_draw bag_here2 (8 : Int)) fun (r2, bag_here3) =>
  some (r2, bag_here3)) else (Option.bind (m_law_draw bag_here2 (3 : Int)) fun (r3, bag_here4) =>
  some (r3, bag_here4))) fun (x1, bag_here5) =>
  some (((2 : Int) + x1), bag_here5)) = some res := hm
    refine gRet ?_
    refine gOp ?_
    refine gC ?_
    obtain ⟨⟨x1, bag_here5⟩, hq4, hm4⟩ := bindS hm0
    dsimp only at hm4
    refine gCE (fun (v : V) (H : Hp) => ∃ (G : Hp) (w5 : List V), Ext G0 G ∧ Sub G ((a1, HO.lst w5) :: O) H ∧ v = (V.int x1) ∧ Al rInt G w5 bag_here5) ?_ ?_
    · skip
      refine gIf ?_
      refine gTest ?_
      refine gOp ?_
      refine gCall ?_
      refine gCons' ?_
      refine gV rfl ?_
      refine gCons' ?_
      refine gC ?_
      refine gNil' ?_
      obtain ⟨⟨r4, bag_here6⟩, hq5, hm5⟩ := bindS hq4
      dsimp only at hm5
      refine ⟨G0, (O), a1, w1, bag_here1, (4 : Int), rfl, S0, h1, (r4, bag_here6), hq5, fun G4 H4 w6 e4 S4 h5 => ?_⟩
      have E4 := E0.trans e4
      refine gC ?_
      refine ⟨_, _, rfl, rfl, ?_⟩
      refine ⟨(decide (r4 = (3 : Int))), rfl, ?_⟩
      refine ite2 (fun c1 => ?_) (fun c1 => ?_)
      · skip
        have hm6 := (if_pos c1).symm.trans hm5
        refine gCall ?_
        refine gCons' ?_
        refine gV rfl ?_
        refine gCons' ?_
        refine gC ?_
        refine gNil' ?_
        obtain ⟨⟨r5, bag_here7⟩, hq6, hm7⟩ := bindS hm6
        dsimp only at hm7
        refine ⟨G4, (O), a1, w6, bag_here6, (8 : Int), rfl, S4, h5, (r5, bag_here7), hq6, fun G5 H5 w7 e5 S5 h6 => ?_⟩
        have E5 := E4.trans e5
        cases hm7
        exact ⟨G5, w7, (e4.trans e5), S5, rfl, h6⟩
      · skip
        have hm8 := (if_neg c1).symm.trans hm5
        refine gCall ?_
        refine gCons' ?_
        refine gV rfl ?_
        refine gCons' ?_
        refine gC ?_
        refine gNil' ?_
        obtain ⟨⟨r6, bag_here8⟩, hq7, hm9⟩ := bindS hm8
        dsimp only at hm9
        refine ⟨G4, (O), a1, w6, bag_here6, (3 : Int), rfl, S4, h5, (r6, bag_here8), hq7, fun G6 H6 w8 e6 S6 h7 => ?_⟩
        have E6 := E4.trans e6
        cases hm9
        exact ⟨G6, w8, (e4.trans e6), S6, rfl, h7⟩
    · intro v1 H7 hJ
      obtain ⟨G7, w9, e7, S7, rfl, h9⟩ := hJ
      have E7 := E0.trans e7
      refine ⟨_, _, rfl, rfl, ?_⟩
      cases hm4
      exact q G7 H7 w9 E7 S7 h9
end
end Mr

set_option Elab.async false
set_option linter.all false
set_option maxRecDepth 100000
set_option maxHeartbeats 4000000
set_option synthInstance.maxSize 4000
set_option synthInstance.maxHeartbeats 400000
namespace Mr
open PySem PySem.Spec PyProof.Rows L2
section
variable {P : Program} {w : World} {K : PySem.W.Frag} {mg : Str → Option Value} {base : Heap}
theorem sc_law_odd : FnScope ["_law_bag_here", "_law_length_here", "_law_number_here", "_law_odd_here"] ["_law_bag_here", "_law_length_here"] (defScope s_law_odd) := ⟨rfl, rfl, rfl, by decide +kernel, rfl, by decide +kernel, by decide +kernel⟩
theorem ok_law_odd (T : Tx K mg) : FnOk P w K mg base CX0 2 (He.fAd K ("_law_odd", none)) T.fd_law_odd ["_law_bag_here", "_law_length_here"] (sp_law_odd K) := by
  have G_law_draw := ok_law_draw (P := P) (w := w) (base := base) T
  refine T.F_law_odd.ok sc_law_odd (fun vs H Q E h => ?_) (fun cdv A outer s H0 vs Q E hr h => ?_)
  · obtain ⟨G, O, a1, w1, bag_here1, length_here1, rfl, _⟩ := h
    rfl
  · obtain ⟨G0, O, a1, w1, bag_here1, length_here1, rfl, S0, h1, res, hm, q⟩ := h
    refine ⟨_, PSs.nox (pss_cons (ps_set (i := 2) sc_law_odd.nd rfl (.inl rfl) (pe_op op_add pe_int (pe_call G_law_draw (hr.mono (by decide)) (by rfl) T.g_law_draw T.F_law_draw.kp T.b_law_draw .nil pass0 (pa_cons (pv 0) (pa_cons (pe_op op_pow pe_int pe_int) pa_nil)))))
      (pss_cons (ps_set (i := 3) sc_law_odd.nd rfl (.inl rfl) (pe_lst (pa_cons pe_non (pa_cons pe_int (pa_cons pe_str (pa_cons (pe_tup pa_nil) (pa_cons (pe_tup (pa_cons pe_str pa_nil)) (pa_cons (pe_tup (pa_cons pe_str (pa_cons pe_int pa_nil))) (pa_cons (pe_tup (pa_cons pe_str (pa_cons pe_int (pa_cons pe_int (pa_cons pe_int pa_nil))))) (pa_cons (pe_lst (pa_cons pe_str (pa_cons pe_int (pa_cons pe_int pa_nil)))) (pa_cons (pe_lst (pa_cons pe_str (pa_cons pe_int (pa_cons pe_int pa_nil)))) (pa_cons (pe_tup (pa_cons pe_str (pa_cons pe_int (pa_cons pe_int pa_nil)))) pa_nil))))))))))))
      (pss_cons (ps_set (i := 3) sc_law_odd.nd rfl (.inl rfl) (pe_op op_cat (pv 3) (pe_lst (pa_cons (pe_tup (pa_cons pe_str (pa_cons pe_bl (pa_cons pe_int pa_nil)))) (pa_cons (pe_tup (pa_cons pe_str (pa_cons pe_int (pa_cons pe_bl pa_nil)))) (pa_cons (pe_tup (pa_cons pe_str (pa_cons pe_bl (pa_cons pe_int pa_nil)))) (pa_cons (pe_tup (pa_cons pe_str (pa_cons pe_int (pa_cons pe_bl pa_nil)))) (pa_cons (pe_tup (pa_cons pe_str (pa_cons pe_bl (pa_cons pe_int pa_nil)))) pa_nil))))))))
      (pss_cons (ps_set (i := 3) sc_law_odd.nd rfl (.inl rfl) (pe_op op_cat (pv 3) (pe_lst (pa_cons (pe_tup (pa_cons pe_str (pa_cons pe_int (pa_cons pe_int pa_nil)))) (pa_cons (pe_tup (pa_cons pe_str (pa_cons pe_int (pa_cons pe_int pa_nil)))) (pa_cons (pe_tup (pa_cons pe_str (pa_cons (pv 1) (pa_cons pe_int pa_nil)))) (pa_cons (pe_tup (pa_cons pe_str (pa_cons (pv 1) (pa_cons pe_int pa_nil)))) (pa_cons (pe_tup (pa_cons pe_str (pa_cons pe_int (pa_cons pe_int pa_nil)))) pa_nil))))))))
      (pss_cons (ps_set (i := 3) sc_law_odd.nd rfl (.inl rfl) (pe_op op_cat (pv 3) (pe_lst (pa_cons (pe_tup (pa_cons pe_str (pa_cons pe_int (pa_cons pe_int pa_nil)))) (pa_cons (pe_tup (pa_cons pe_str (pa_cons pe_int (pa_cons (pe_un un_neg pe_int) pa_nil)))) (pa_cons (pe_tup (pa_cons pe_str (pa_cons (pv 1) (pa_cons (pv 1) pa_nil)))) (pa_cons (pe_tup (pa_cons pe_str (pa_cons (pe_op op_add (pv 1) (pv 2)) (pa_cons pe_int pa_nil)))) pa_nil)))))))
      (pss_cons (ps_set (i := 3) sc_law_odd.nd rfl (.inl rfl) (pe_op op_cat (pv 3) (pe_lst (pa_cons (pe_tup (pa_cons pe_str (pa_cons (pe_op op_add (pv 1) (pv 2)) (pa_cons pe_int pa_nil)))) (pa_cons (pe_tup (pa_cons pe_str (pa_cons (pe_un un_neg (pv 2)) (pa_cons pe_int pa_nil)))) (pa_cons (pe_tup (pa_cons pe_str (pa_cons pe_int (pa_cons pe_int pa_nil)))) (pa_cons (pe_tup (pa_cons pe_str (pa_cons pe_int (pa_cons pe_int pa_nil)))) (pa_cons (pe_tup (pa_cons pe_int (pa_cons pe_int (pa_cons pe_int pa_nil)))) pa_nil))))))))
      (pss_cons (ps_set (i := 3) sc_law_odd.nd rfl (.inl rfl) (pe_op op_cat (pv 3) (pe_lst (pa_cons (pe_tup (pa_cons pe_str (pa_cons pe_str (pa_cons pe_int pa_nil)))) (pa_cons (pe_tup (pa_cons pe_str (pa_cons pe_int (pa_cons pe_non pa_nil)))) (pa_cons (pe_tup (pa_cons (pe_tup (pa_cons pe_str (pa_cons pe_int (pa_cons pe_int pa_nil)))) pa_nil)) (pa_cons (pe_tup (pa_cons pe_str (pa_cons (pe_tup (pa_cons pe_int (pa_cons pe_int pa_nil))) pa_nil))) (pa_cons (pe_tup (pa_cons pe_str (pa_cons pe_int (pa_cons pe_int pa_nil)))) pa_nil))))))))
      (pss_one (ps_ret (pe_ix ix_list (pv 3) (pe_call G_law_draw (hr.mono (by decide)) (by rfl) T.g_law_draw T.F_law_draw.kp T.b_law_draw .nil pass0 (pa_cons (pv 0) (pa_cons (pe_callB (r := rLenM K) call_lenM (by rfl) T.z_len boot_len (pa_cons (pv 3) pa_nil)) pa_nil))) (fun _ _ => rfl))))))))))), ?_⟩
    have E0 := Ext.refl G0
    have hm0 : (Option.bind (m_law_draw bag_here1 ((10 : Int) ^ (20 : Int).toNat)) fun (r1, bag_here2) =>
  Option.bind (catM ([PyData.none, (PyData.int (0 : Int)), (PyData.str (Str.ofString "top")), (PyData.tuple ([] : List PyData)), (PyData.tuple ([(PyData.str (Str.ofString "top"))] : List PyData)), (PyData.tuple ([(PyData.str (Str.ofString "top")), (PyData.int (0 : Int))] : List PyData)), (PyData.tuple ([(PyData.str (Str.ofString "top")), (PyData.int (0 : Int)), (PyData.int (0 : Int)), (PyData.int (0 : Int))] : List PyData)), (PyData.list ([(PyData.str (Str.ofString "top")), (PyData.int (0 : Int)), (PyData.int (0 : Int))] : List PyData)), (PyData.list ([(PyData.str (Str.ofString "open")), (PyData.int (1 : Int)), (PyData.int (0 : Int))] : List PyData)), (PyData.tuple ([(PyData.str (Str.ofString "top")), (PyData.int (0 : Int)), (PyData.int (1 : Int))] : List PyData))] : List PyData) ([(PyData.tuple ([(PyData.str (Str.ofString "top")), (PyData.bool false), (PyData.int (0 : Int))] : List PyData)), (PyData.tuple ([(PyData.str (Str.ofString "top")), (PyData.int (0 : Int)), (PyData.bool false)] : List PyData)), (PyData.tuple ([(PyData.str (Str.ofString "open")), (PyData.bool true), (PyData.int (0 : Int))] : List PyData)), (PyData.tuple ([(PyData.str (Str.ofString "open")), (PyData.int (1 : Int)), (PyData.bool false)] : List PyData)), (PyData.tuple ([(PyData.str (Str.ofString "kept")), (PyData.bool true), (PyData.int (0 : Int))] : List PyData))] : List PyData)) fun z1 =>
  Option.bind (catM z1 ([(PyData.tuple ([(PyData.str (Str.ofString "open")), (PyData.int (0 : Int)), (PyData.int (0 : Int))] : List PyData)), (PyData.tuple ([(PyData.str (Str.ofString "open")), (PyData.int (1 : Int)), (PyData.int (1 : Int))] : List PyData)), (PyData.tuple ([(PyData.str (Str.ofString "open")), (PyData.int length_here1), (PyData.int (0 : Int))] : List PyData)), (PyData.tuple ([(PyData.str (Str.ofString "kept")), (PyData.int length_here1), (PyData.int (0 : Int))] : List PyData)), (PyData.tuple ([(PyData.str (Str.ofString "kept")), (PyData.int (0 : Int)), (PyData.int (0 : Int))] : List PyData))] : List PyData)) fun z2 =>
  Option.bind (catM z2 ([(PyData.tuple ([(PyData.str (Str.ofString "kept")), (PyData.int (1 : Int)), (PyData.int (1 : Int))] : List PyData)), (PyData.tuple ([(PyData.str (Str.ofString "kept")), (PyData.int (1 : Int)), (PyData.int (-(1 : Int)))] : List PyData)), (PyData.tuple ([(PyData.str (Str.ofString "kept")), (PyData.int length_here1), (PyData.int length_here1)] : List PyData)), (PyData.tuple ([(PyData.str (Str.ofString "kept")), (PyData.int (length_here1 + ((1 : Int) + r1))), (PyData.int (1 : Int))] : List PyData))] : List PyData)) fun z3 =>
  Option.bind (catM z3 ([(PyData.tuple ([(PyData.str (Str.ofString "open")), (PyData.int (length_here1 + ((1 : Int) + r1))), (PyData.int (0 : Int))] : List PyData)), (PyData.tuple ([(PyData.str (Str.ofString "open")), (PyData.int (-((1 : Int) + r1))), (PyData.int (0 : Int))] : List PyData)), (PyData.tuple ([(PyData.str (Str.ofString "Open")), (PyData.int (1 : Int)), (PyData.int (0 : Int))] : List PyData)), (PyData.tuple ([(PyData.str (Str.ofString "")), (PyData.int (1 : Int)), (PyData.int (0 : Int))] : List PyData)), (PyData.tuple ([(PyData.int (0 : Int)), (PyData.int (1 : Int)), (PyData.int (0 : Int))] : List PyData))] : List PyData)) fun z4 =>
  Option.bind (catM z4 ([(PyData.tuple ([(PyData.str (Str.ofString "kept")), (PyData.str (Str.ofString "1")), (PyData.int (0 : Int))] : List PyData)), (PyData.tuple ([(PyData.str (Str.ofString "kept")), (PyData.int (1 : Int)), PyData.none] : List PyData)), (PyData.tuple ([(PyData.tuple ([(PyData.str (Str.ofString "top")), (PyData.int (0 : Int)), (PyData.int (0 : Int))] : List PyData))] : List PyData)), (PyData.tuple ([(PyData.str (Str.ofString "kept")), (PyData.tuple ([(PyData.int (1 : Int)), (PyData.int (0 : Int))] : List PyData))] : List PyData)), (PyData.tuple ([(PyData.str (Str.ofString "top")), (PyData.int (1 : Int)), (PyData.int (0 : Int))] : List PyData))] : List PyData)) fun z5 =>
  Option.bind (m_law_draw bag_here2 (z5.length : Int)) fun (r2, bag_here3) =>
  Option.bind (getM z5 r2) fun x1 =>
  some (x1, bag_here3)) = some res := hm
    refine gS_AsgN ?_
    refine gOp ?_
    refine gC ?_
    refine gCall ?_
    refine gCons' ?_
    refine gV rfl ?_
    refine gCons' ?_
    refine gOp ?_
    refine gC ?_
    refine gC ?_
    refine ⟨_, _, rfl, rfl, ⟨by decide, by decide, by decide⟩, ?_⟩
    refine gNil' ?_
    obtain ⟨⟨r1, bag_here2⟩, hq1, hm1⟩ := bindS hm0
    dsimp only at hm1
    refine ⟨G0, (O), a1, w1, bag_here1, ((10 : Int) ^ (20 : Int).toNat), rfl, S0, h1, (r1, bag_here2), hq1, fun G1 H1 w2 e1 S1 h2 => ?_⟩
    have E1 := E0.trans e1
    refine ⟨_, _, rfl, rfl, ?_⟩
    refine gS_AsgN ?_
    refine gLst ?_
    refine gCons' ?_
    refine gC ?_
    refine gCons' ?_
    refine gC ?_
    refine gCons' ?_
    refine gC ?_
    refine gCons' ?_
    refine gTup' ?_
    refine gNil' ?_
    have h3 : Al (rAny K) G1 [] ([] : List PyData) := True.intro
    refine q_tupN (K := K) S1 (by show 0 ≤ 100000; decide) h3 (fun v1 G2 H2 e2 S2 h4 => ?_)
    have h5 := Al.up e2 h2
    have E2 := E1.trans e2
    refine gCons' ?_
    refine gTup' ?_
    refine gCons' ?_
    refine gC ?_
    refine gNil' ?_
    have h6 : Al (rAny K) G2 [(V.str (Str.ofString "top"))] ([(PyData.str (Str.ofString "top"))] : List PyData) := ⟨(show (rAny K).rel G2 (V.str (Str.ofString "top")) (PyData.str (Str.ofString "top")) from any_of (dStr (K := K)) (show R.rel rStr G2 (V.str (Str.ofString "top")) (Str.ofString "top") from rfl)), True.intro⟩
    refine q_tupN (K := K) S2 (by show 1 ≤ 100000; decide) h6 (fun v2 G3 H3 e3 S3 h7 => ?_)
    have h8 := Al.up e3 h5
    have h9 := R.up e3 h4
    have E3 := E2.trans e3
    refine gCons' ?_
    refine gTup' ?_
    refine gCons' ?_
    refine gC ?_
    refine gCons' ?_
    refine gC ?_
    refine gNil' ?_
    have h10 : Al (rAny K) G3 [(V.str (Str.ofString "top")), (V.int (0 : Int))] ([(PyData.str (Str.ofString "top")), (PyData.int (0 : Int))] : List PyData) := ⟨(show (rAny K).rel G3 (V.str (Str.ofString "top")) (PyData.str (Str.ofString "top")) from any_of (dStr (K := K)) (show R.rel rStr G3 (V.str (Str.ofString "top")) (Str.ofString "top") from rfl)), (show (rAny K).rel G3 (V.int (0 : Int)) (PyData.int (0 : Int)) from any_of (dInt (K := K)) (show R.rel rInt G3 (V.int (0 : Int)) (0 : Int) from rfl)), True.intro⟩
    refine q_tupN (K := K) S3 (by show 2 ≤ 100000; decide) h10 (fun v3 G4 H4 e4 S4 h11 => ?_)
    have h12 := Al.up e4 h8
    have h13 := R.up e4 h9
    have h14 := R.up e4 h7
    have E4 := E3.trans e4
    refine gCons' ?_
    refine gTup' ?_
    refine gCons' ?_
    refine gC ?_
    refine gCons' ?_
    refine gC ?_
    refine gCons' ?_
    refine gC ?_
    refine gCons' ?_
    refine gC ?_
    refine gNil' ?_
    have h15 : Al (rAny K) G4 [(V.str (Str.ofString "top")), (V.int (0 : Int)), (V.int (0 : Int)), (V.int (0 : Int))] ([(PyData.str (Str.ofString "top")), (PyData.int (0 : Int)), (PyData.int (0 : Int)), (PyData.int (0 : Int))] : List PyData) := ⟨(show (rAny K).rel G4 (V.str (Str.ofString "top")) (PyData.str (Str.ofString "top")) from any_of (dStr (K := K)) (show R.rel rStr G4 (V.str (Str.ofString "top")) (Str.ofString "top") from rfl)), (show (rAny K).rel G4 (V.int (0 : Int)) (PyData.int (0 : Int)) from any_of (dInt (K := K)) (show R.rel rInt G4 (V.int (0 : Int)) (0 : Int) from rfl)), (show (rAny K).rel G4 (V.int (0 : Int)) (PyData.int (0 : Int)) from any_of (dInt (K := K)) (show R.rel rInt G4 (V.int (0 : Int)) (0 : Int) from rfl)), (show (rAny K).rel G4 (V.int (0 : Int)) (PyData.int (0 : Int)) from any_of (dInt (K := K)) (show R.rel rInt G4 (V.int (0 : Int)) (0 : Int) from rfl)), True.intro⟩
    refine q_tupN (K := K) S4 (by show 4 ≤ 100000; decide) h15 (fun v4 G5 H5 e5 S5 h16 => ?_)
    have h17 := Al.up e5 h12
    have h18 := R.up e5 h13
    have h19 := R.up e5 h14
    have h20 := R.up e5 h11
    have E5 := E4.trans e5
    refine gCons' ?_
    refine gLst ?_
    refine gCons' ?_
    refine gC ?_
    refine gCons' ?_
    refine gC ?_
    refine gCons' ?_
    refine gC ?_
    refine gNil' ?_
    have h21 : Al (rAny K) G5 [(V.str (Str.ofString "top")), (V.int (0 : Int)), (V.int (0 : Int))] [(PyData.str (Str.ofString "top")), (PyData.int (0 : Int)), (PyData.int (0 : Int))] := ⟨(show (rAny K).rel G5 (V.str (Str.ofString "top")) (PyData.str (Str.ofString "top")) from any_of (dStr (K := K)) (show R.rel rStr G5 (V.str (Str.ofString "top")) (Str.ofString "top") from rfl)), (show (rAny K).rel G5 (V.int (0 : Int)) (PyData.int (0 : Int)) from any_of (dInt (K := K)) (show R.rel rInt G5 (V.int (0 : Int)) (0 : Int) from rfl)), (show (rAny K).rel G5 (V.int (0 : Int)) (PyData.int (0 : Int)) from any_of (dInt (K := K)) (show R.rel rInt G5 (V.int (0 : Int)) (0 : Int) from rfl)), True.intro⟩
    refine q_lst S5 h21 (by show 3 ≤ 100000; decide) (fun a2 H6 w3 S6 h22 => ?_)
    refine gCons' ?_
    refine gLst ?_
    refine gCons' ?_
    refine gC ?_
    refine gCons' ?_
    refine gC ?_
    refine gCons' ?_
    refine gC ?_
    refine gNil' ?_
    have h23 : Al (rAny K) G5 [(V.str (Str.ofString "open")), (V.int (1 : Int)), (V.int (0 : Int))] [(PyData.str (Str.ofString "open")), (PyData.int (1 : Int)), (PyData.int (0 : Int))] := ⟨(show (rAny K).rel G5 (V.str (Str.ofString "open")) (PyData.str (Str.ofString "open")) from any_of (dStr (K := K)) (show R.rel rStr G5 (V.str (Str.ofString "open")) (Str.ofString "open") from rfl)), (show (rAny K).rel G5 (V.int (1 : Int)) (PyData.int (1 : Int)) from any_of (dInt (K := K)) (show R.rel rInt G5 (V.int (1 : Int)) (1 : Int) from rfl)), (show (rAny K).rel G5 (V.int (0 : Int)) (PyData.int (0 : Int)) from any_of (dInt (K := K)) (show R.rel rInt G5 (V.int (0 : Int)) (0 : Int) from rfl)), True.intro⟩
    refine q_lst S6 h23 (by show 3 ≤ 100000; decide) (fun a3 H7 w4 S7 h24 => ?_)
    refine gCons' ?_
    refine gTup' ?_
    refine gCons' ?_
    refine gC ?_
    refine gCons' ?_
    refine gC ?_
    refine gCons' ?_
    refine gC ?_
    refine gNil' ?_
    have h25 : Al (rAny K) G5 [(V.str (Str.ofString "top")), (V.int (0 : Int)), (V.int (1 : Int))] ([(PyData.str (Str.ofString "top")), (PyData.int (0 : Int)), (PyData.int (1 : Int))] : List PyData) := ⟨(show (rAny K).rel G5 (V.str (Str.ofString "top")) (PyData.str (Str.ofString "top")) from any_of (dStr (K := K)) (show R.rel rStr G5 (V.str (Str.ofString "top")) (Str.ofString "top") from rfl)), (show (rAny K).rel G5 (V.int (0 : Int)) (PyData.int (0 : Int)) from any_of (dInt (K := K)) (show R.rel rInt G5 (V.int (0 : Int)) (0 : Int) from rfl)), (show (rAny K).rel G5 (V.int (1 : Int)) (PyData.int (1 : Int)) from any_of (dInt (K := K)) (show R.rel rInt G5 (V.int (1 : Int)) (1 : Int) from rfl)), True.intro⟩
    refine q_tupN (K := K) S7 (by show 3 ≤ 100000; decide) h25 (fun v5 G6 H8 e6 S8 h26 => ?_)
    have h27 := Al.up e6 h17
    have h28 := R.up e6 h18
    have h29 := R.up e6 h19
    have h30 := R.up e6 h20
    have h31 := R.up e6 h16
    have h32 := Al.up e6 h22
    have h33 := Al.up e6 h24
    have E6 := E5.trans e6
    refine gNil' ?_
    have S9 : Sub G6 ((a2, HO.lst w3) :: (a3, HO.lst w4) :: (a1, HO.lst w2) :: O) H8 := S8.front 1 rfl rfl
    obtain ⟨G7, e7, S10, h34⟩ := frz_M S9 h32
    have h35 := Al.up e7 h27
    have h36 := R.up e7 (show (rAny K).rel G6 V.non PyData.none from Dp.non)
    have h37 := R.up e7 (show (rAny K).rel G6 (V.int (0 : Int)) (PyData.int (0 : Int)) from any_of (dInt (K := K)) (show R.rel rInt G6 (V.int (0 : Int)) (0 : Int) from rfl))
    have h38 := R.up e7 (show (rAny K).rel G6 (V.str (Str.ofString "top")) (PyData.str (Str.ofString "top")) from any_of (dStr (K := K)) (show R.rel rStr G6 (V.str (Str.ofString "top")) (Str.ofString "top") from rfl))
    have h39 := R.up e7 (any_T h28)
    have h40 := R.up e7 (any_T h29)
    have h41 := R.up e7 (any_T h30)
    have h42 := R.up e7 (any_T h31)
    have h43 := Al.up e7 h33
    have h44 := R.up e7 h26
    have E7 := E6.trans e7
    obtain ⟨G8, e8, S11, h45⟩ := frz_M S10 h43
    have h46 := Al.up e8 h35
    have h47 := R.up e8 h36
    have h48 := R.up e8 h37
    have h49 := R.up e8 h38
    have h50 := R.up e8 h39
    have h51 := R.up e8 h40
    have h52 := R.up e8 h41
    have h53 := R.up e8 h42
    have h54 := R.up e8 (any_M h34)
    have h55 := R.up e8 h44
    have E8 := E7.trans e8
    have h56 : Al (rAny K) G8 [V.non, (V.int (0 : Int)), (V.str (Str.ofString "top")), v1, v2, v3, v4, (V.ref a2), (V.ref a3), v5] [PyData.none, (PyData.int (0 : Int)), (PyData.str (Str.ofString "top")), (PyData.tuple ([] : List PyData)), (PyData.tuple ([(PyData.str (Str.ofString "top"))] : List PyData)), (PyData.tuple ([(PyData.str (Str.ofString "top")), (PyData.int (0 : Int))] : List PyData)), (PyData.tuple ([(PyData.str (Str.ofString "top")), (PyData.int (0 : Int)), (PyData.int (0 : Int)), (PyData.int (0 : Int))] : List PyData)), (PyData.list ([(PyData.str (Str.ofString "top")), (PyData.int (0 : Int)), (PyData.int (0 : Int))] : List PyData)), (PyData.list ([(PyData.str (Str.ofString "open")), (PyData.int (1 : Int)), (PyData.int (0 : Int))] : List PyData)), (PyData.tuple ([(PyData.str (Str.ofString "top")), (PyData.int (0 : Int)), (PyData.int (1 : Int))] : List PyData))] := ⟨h47, h48, h49, h50, h51, h52, h53, h54, (any_M h45), (any_T h55), True.intro⟩
    refine q_lst S11 h56 (by show 10 ≤ 100000; decide) (fun a4 H9 w5 S12 h57 => ?_)
    obtain ⟨G9, e9, S13, h58⟩ := frz_M S12 h57
    have h59 := Al.up e9 h46
    have E9 := E8.trans e9
    refine gS_AsgN ?_
    refine gOp ?_
    refine gV rfl ?_
    refine gLst ?_
    refine gCons' ?_
    refine gTup' ?_
    refine gCons' ?_
    refine gC ?_
    refine gCons' ?_
    refine gC ?_
    refine gCons' ?_
    refine gC ?_
    refine gNil' ?_
    have h60 : Al (rAny K) G9 [(V.str (Str.ofString "top")), (V.bl false), (V.int (0 : Int))] ([(PyData.str (Str.ofString "top")), (PyData.bool false), (PyData.int (0 : Int))] : List PyData) := ⟨(show (rAny K).rel G9 (V.str (Str.ofString "top")) (PyData.str (Str.ofString "top")) from any_of (dStr (K := K)) (show R.rel rStr G9 (V.str (Str.ofString "top")) (Str.ofString "top") from rfl)), (show (rAny K).rel G9 (V.bl false) (PyData.bool false) from any_of (dBool (K := K)) (show R.rel rBool G9 (V.bl false) false from rfl)), (show (rAny K).rel G9 (V.int (0 : Int)) (PyData.int (0 : Int)) from any_of (dInt (K := K)) (show R.rel rInt G9 (V.int (0 : Int)) (0 : Int) from rfl)), True.intro⟩
    refine q_tupN (K := K) S13 (by show 3 ≤ 100000; decide) h60 (fun v6 G10 H10 e10 S14 h61 => ?_)
    have h62 := Al.up e10 h59
    have h63 := R.up e10 h58
    have E10 := E9.trans e10
    refine gCons' ?_
    refine gTup' ?_
    refine gCons' ?_
    refine gC ?_
    refine gCons' ?_
    refine gC ?_
    refine gCons' ?_
    refine gC ?_
    refine gNil' ?_
    have h64 : Al (rAny K) G10 [(V.str (Str.ofString "top")), (V.int (0 : Int)), (V.bl false)] ([(PyData.str (Str.ofString "top")), (PyData.int (0 : Int)), (PyData.bool false)] : List PyData) := ⟨(show (rAny K).rel G10 (V.str (Str.ofString "top")) (PyData.str (Str.ofString "top")) from any_of (dStr (K := K)) (show R.rel rStr G10 (V.str (Str.ofString "top")) (Str.ofString "top") from rfl)), (show (rAny K).rel G10 (V.int (0 : Int)) (PyData.int (0 : Int)) from any_of (dInt (K := K)) (show R.rel rInt G10 (V.int (0 : Int)) (0 : Int) from rfl)), (show (rAny K).rel G10 (V.bl false) (PyData.bool false) from any_of (dBool (K := K)) (show R.rel rBool G10 (V.bl false) false from rfl)), True.intro⟩
    refine q_tupN (K := K) S14 (by show 3 ≤ 100000; decide) h64 (fun v7 G11 H11 e11 S15 h65 => ?_)
    have h66 := Al.up e11 h62
    have h67 := R.up e11 h63
    have h68 := R.up e11 h61
    have E11 := E10.trans e11
    refine gCons' ?_
    refine gTup' ?_
    refine gCons' ?_
    refine gC ?_
    refine gCons' ?_
    refine gC ?_
    refine gCons' ?_
    refine gC ?_
    refine gNil' ?_
    have h69 : Al (rAny K) G11 [(V.str (Str.ofString "open")), (V.bl true), (V.int (0 : Int))] ([(PyData.str (Str.ofString "open")), (PyData.bool true), (PyData.int (0 : Int))] : List PyData) := ⟨(show (rAny K).rel G11 (V.str (Str.ofString "open")) (PyData.str (Str.ofString "open")) from any_of (dStr (K := K)) (show R.rel rStr G11 (V.str (Str.ofString "open")) (Str.ofString "open") from rfl)), (show (rAny K).rel G11 (V.bl true) (PyData.bool true) from any_of (dBool (K := K)) (show R.rel rBool G11 (V.bl true) true from rfl)), (show (rAny K).rel G11 (V.int (0 : Int)) (PyData.int (0 : Int)) from any_of (dInt (K := K)) (show R.rel rInt G11 (V.int (0 : Int)) (0 : Int) from rfl)), True.intro⟩
    refine q_tupN (K := K) S15 (by show 3 ≤ 100000; decide) h69 (fun v8 G12 H12 e12 S16 h70 => ?_)
    have h71 := Al.up e12 h66
    have h72 := R.up e12 h67
    have h73 := R.up e12 h68
    have h74 := R.up e12 h65
    have E12 := E11.trans e12
    refine gCons' ?_
    refine gTup' ?_
    refine gCons' ?_
    refine gC ?_
    refine gCons' ?_
    refine gC ?_
    refine gCons' ?_
    refine gC ?_
    refine gNil' ?_
    have h75 : Al (rAny K) G12 [(V.str (Str.ofString "open")), (V.int (1 : Int)), (V.bl false)] ([(PyData.str (Str.ofString "open")), (PyData.int (1 : Int)), (PyData.bool false)] : List PyData) := ⟨(show (rAny K).rel G12 (V.str (Str.ofString "open")) (PyData.str (Str.ofString "open")) from any_of (dStr (K := K)) (show R.rel rStr G12 (V.str (Str.ofString "open")) (Str.ofString "open") from rfl)), (show (rAny K).rel G12 (V.int (1 : Int)) (PyData.int (1 : Int)) from any_of (dInt (K := K)) (show R.rel rInt G12 (V.int (1 : Int)) (1 : Int) from rfl)), (show (rAny K).rel G12 (V.bl false) (PyData.bool false) from any_of (dBool (K := K)) (show R.rel rBool G12 (V.bl false) false from rfl)), True.intro⟩
    refine q_tupN (K := K) S16 (by show 3 ≤ 100000; decide) h75 (fun v9 G13 H13 e13 S17 h76 => ?_)
    have h77 := Al.up e13 h71
    have h78 := R.up e13 h72
    have h79 := R.up e13 h73
    have h80 := R.up e13 h74
    have h81 := R.up e13 h70
    have E13 := E12.trans e13
    refine gCons' ?_
    refine gTup' ?_
    refine gCons' ?_
    refine gC ?_
    refine gCons' ?_
    refine gC ?_
    refine gCons' ?_
    refine gC ?_
    refine gNil' ?_
    have h82 : Al (rAny K) G13 [(V.str (Str.ofString "kept")), (V.bl true), (V.int (0 : Int))] ([(PyData.str (Str.ofString "kept")), (PyData.bool true), (PyData.int (0 : Int))] : List PyData) := ⟨(show (rAny K).rel G13 (V.str (Str.ofString "kept")) (PyData.str (Str.ofString "kept")) from any_of (dStr (K := K)) (show R.rel rStr G13 (V.str (Str.ofString "kept")) (Str.ofString "kept") from rfl)), (show (rAny K).rel G13 (V.bl true) (PyData.bool true) from any_of (dBool (K := K)) (show R.rel rBool G13 (V.bl true) true from rfl)), (show (rAny K).rel G13 (V.int (0 : Int)) (PyData.int (0 : Int)) from any_of (dInt (K := K)) (show R.rel rInt G13 (V.int (0 : Int)) (0 : Int) from rfl)), True.intro⟩
    refine q_tupN (K := K) S17 (by show 3 ≤ 100000; decide) h82 (fun v10 G14 H14 e14 S18 h83 => ?_)
    have h84 := Al.up e14 h77
    have h85 := R.up e14 h78
    have h86 := R.up e14 h79
    have h87 := R.up e14 h80
    have h88 := R.up e14 h81
    have h89 := R.up e14 h76
    have E14 := E13.trans e14
    refine gNil' ?_
    have h90 : Al (rAny K) G14 [v6, v7, v8, v9, v10] [(PyData.tuple ([(PyData.str (Str.ofString "top")), (PyData.bool false), (PyData.int (0 : Int))] : List PyData)), (PyData.tuple ([(PyData.str (Str.ofString "top")), (PyData.int (0 : Int)), (PyData.bool false)] : List PyData)), (PyData.tuple ([(PyData.str (Str.ofString "open")), (PyData.bool true), (PyData.int (0 : Int))] : List PyData)), (PyData.tuple ([(PyData.str (Str.ofString "open")), (PyData.int (1 : Int)), (PyData.bool false)] : List PyData)), (PyData.tuple ([(PyData.str (Str.ofString "kept")), (PyData.bool true), (PyData.int (0 : Int))] : List PyData))] := ⟨(any_T h86), (any_T h87), (any_T h88), (any_T h89), (any_T h83), True.intro⟩
    refine q_lst S18 h90 (by show 5 ≤ 100000; decide) (fun a5 H15 w6 S19 h91 => ?_)
    obtain ⟨z1, hq2, hm2⟩ := bindS hm1
    have h92 := ls_O S19 h91
    refine q_cat S19 (ls_M S19 h85) h92 hq2 (fun v11 G15 H16 e15 S20 h93 => ?_)
    have h94 := Al.up e15 h84
    have h95 := R.up e15 h85
    have E15 := E14.trans e15
    refine gS_AsgN ?_
    refine gOp ?_
    refine gV rfl ?_
    refine gLst ?_
    refine gCons' ?_
    refine gTup' ?_
    refine gCons' ?_
    refine gC ?_
    refine gCons' ?_
    refine gC ?_
    refine gCons' ?_
    refine gC ?_
    refine gNil' ?_
    have h96 : Al (rAny K) G15 [(V.str (Str.ofString "open")), (V.int (0 : Int)), (V.int (0 : Int))] ([(PyData.str (Str.ofString "open")), (PyData.int (0 : Int)), (PyData.int (0 : Int))] : List PyData) := ⟨(show (rAny K).rel G15 (V.str (Str.ofString "open")) (PyData.str (Str.ofString "open")) from any_of (dStr (K := K)) (show R.rel rStr G15 (V.str (Str.ofString "open")) (Str.ofString "open") from rfl)), (show (rAny K).rel G15 (V.int (0 : Int)) (PyData.int (0 : Int)) from any_of (dInt (K := K)) (show R.rel rInt G15 (V.int (0 : Int)) (0 : Int) from rfl)), (show (rAny K).rel G15 (V.int (0 : Int)) (PyData.int (0 : Int)) from any_of (dInt (K := K)) (show R.rel rInt G15 (V.int (0 : Int)) (0 : Int) from rfl)), True.intro⟩
    refine q_tupN (K := K) S20 (by show 3 ≤ 100000; decide) h96 (fun v12 G16 H17 e16 S21 h97 => ?_)
    have h98 := Al.up e16 h94
    have h99 := R.up e16 h93
    have E16 := E15.trans e16
    refine gCons' ?_
    refine gTup' ?_
    refine gCons' ?_
    refine gC ?_
    refine gCons' ?_
    refine gC ?_
    refine gCons' ?_
    refine gC ?_
    refine gNil' ?_
    have h100 : Al (rAny K) G16 [(V.str (Str.ofString "open")), (V.int (1 : Int)), (V.int (1 : Int))] ([(PyData.str (Str.ofString "open")), (PyData.int (1 : Int)), (PyData.int (1 : Int))] : List PyData) := ⟨(show (rAny K).rel G16 (V.str (Str.ofString "open")) (PyData.str (Str.ofString "open")) from any_of (dStr (K := K)) (show R.rel rStr G16 (V.str (Str.ofString "open")) (Str.ofString "open") from rfl)), (show (rAny K).rel G16 (V.int (1 : Int)) (PyData.int (1 : Int)) from any_of (dInt (K := K)) (show R.rel rInt G16 (V.int (1 : Int)) (1 : Int) from rfl)), (show (rAny K).rel G16 (V.int (1 : Int)) (PyData.int (1 : Int)) from any_of (dInt (K := K)) (show R.rel rInt G16 (V.int (1 : Int)) (1 : Int) from rfl)), True.intro⟩
    refine q_tupN (K := K) S21 (by show 3 ≤ 100000; decide) h100 (fun v13 G17 H18 e17 S22 h101 => ?_)
    have h102 := Al.up e17 h98
    have h103 := R.up e17 h99
    have h104 := R.up e17 h97
    have E17 := E16.trans e17
    refine gCons' ?_
    refine gTup' ?_
    refine gCons' ?_
    refine gC ?_
    refine gCons' ?_
    refine gV rfl ?_
    refine gCons' ?_
    refine gC ?_
    refine gNil' ?_
    have h105 : Al (rAny K) G17 [(V.str (Str.ofString "open")), (V.int length_here1), (V.int (0 : Int))] ([(PyData.str (Str.ofString "open")), (PyData.int length_here1), (PyData.int (0 : Int))] : List PyData) := ⟨(show (rAny K).rel G17 (V.str (Str.ofString "open")) (PyData.str (Str.ofString "open")) from any_of (dStr (K := K)) (show R.rel rStr G17 (V.str (Str.ofString "open")) (Str.ofString "open") from rfl)), (show (rAny K).rel G17 (V.int length_here1) (PyData.int length_here1) from any_of (dInt (K := K)) (show R.rel rInt G17 (V.int length_here1) length_here1 from rfl)), (show (rAny K).rel G17 (V.int (0 : Int)) (PyData.int (0 : Int)) from any_of (dInt (K := K)) (show R.rel rInt G17 (V.int (0 : Int)) (0 : Int) from rfl)), True.intro⟩
    refine q_tupN (K := K) S22 (by show 3 ≤ 100000; decide) h105 (fun v14 G18 H19 e18 S23 h106 => ?_)
    have h107 := Al.up e18 h102
    have h108 := R.up e18 h103
    have h109 := R.up e18 h104
    have h110 := R.up e18 h101
    have E18 := E17.trans e18
    refine gCons' ?_
    refine gTup' ?_
    refine gCons' ?_
    refine gC ?_
    refine gCons' ?_
    refine gV rfl ?_
    refine gCons' ?_
    refine gC ?_
    refine gNil' ?_
    have h111 : Al (rAny K) G18 [(V.str (Str.ofString "kept")), (V.int length_here1), (V.int (0 : Int))] ([(PyData.str (Str.ofString "kept")), (PyData.int length_here1), (PyData.int (0 : Int))] : List PyData) := ⟨(show (rAny K).rel G18 (V.str (Str.ofString "kept")) (PyData.str (Str.ofString "kept")) from any_of (dStr (K := K)) (show R.rel rStr G18 (V.str (Str.ofString "kept")) (Str.ofString "kept") from rfl)), (show (rAny K).rel G18 (V.int length_here1) (PyData.int length_here1) from any_of (dInt (K := K)) (show R.rel rInt G18 (V.int length_here1) length_here1 from rfl)), (show (rAny K).rel G18 (V.int (0 : Int)) (PyData.int (0 : Int)) from any_of (dInt (K := K)) (show R.rel rInt G18 (V.int (0 : Int)) (0 : Int) from rfl)), True.intro⟩
    refine q_tupN (K := K) S23 (by show 3 ≤ 100000; decide) h111 (fun v15 G19 H20 e19 S24 h112 => ?_)
    have h113 := Al.up e19 h107
    have h114 := R.up e19 h108
    have h115 := R.up e19 h109
    have h116 := R.up e19 h110
    have h117 := R.up e19 h106
    have E19 := E18.trans e19
    refine gCons' ?_
    refine gTup' ?_
    refine gCons' ?_
    refine gC ?_
    refine gCons' ?_
    refine gC ?_
    refine gCons' ?_
    refine gC ?_
    refine gNil' ?_
    have h118 : Al (rAny K) G19 [(V.str (Str.ofString "kept")), (V.int (0 : Int)), (V.int (0 : Int))] ([(PyData.str (Str.ofString "kept")), (PyData.int (0 : Int)), (PyData.int (0 : Int))] : List PyData) := ⟨(show (rAny K).rel G19 (V.str (Str.ofString "kept")) (PyData.str (Str.ofString "kept")) from any_of (dStr (K := K)) (show R.rel rStr G19 (V.str (Str.ofString "kept")) (Str.ofString "kept") from rfl)), (show (rAny K).rel G19 (V.int (0 : Int)) (PyData.int (0 : Int)) from any_of (dInt (K := K)) (show R.rel rInt G19 (V.int (0 : Int)) (0 : Int) from rfl)), (show (rAny K).rel G19 (V.int (0 : Int)) (PyData.int (0 : Int)) from any_of (dInt (K := K)) (show R.rel rInt G19 (V.int (0 : Int)) (0 : Int) from rfl)), True.intro⟩
    refine q_tupN (K := K) S24 (by show 3 ≤ 100000; decide) h118 (fun v16 G20 H21 e20 S25 h119 => ?_)
    have h120 := Al.up e20 h113
    have h121 := R.up e20 h114
    have h122 := R.up e20 h115
    have h123 := R.up e20 h116
    have h124 := R.up e20 h117
    have h125 := R.up e20 h112
    have E20 := E19.trans e20
    refine gNil' ?_
    have h126 : Al (rAny K) G20 [v12, v13, v14, v15, v16] [(PyData.tuple ([(PyData.str (Str.ofString "open")), (PyData.int (0 : Int)), (PyData.int (0 : Int))] : List PyData)), (PyData.tuple ([(PyData.str (Str.ofString "open")), (PyData.int (1 : Int)), (PyData.int (1 : Int))] : List PyData)), (PyData.tuple ([(PyData.str (Str.ofString "open")), (PyData.int length_here1), (PyData.int (0 : Int))] : List PyData)), (PyData.tuple ([(PyData.str (Str.ofString "kept")), (PyData.int length_here1), (PyData.int (0 : Int))] : List PyData)), (PyData.tuple ([(PyData.str (Str.ofString "kept")), (PyData.int (0 : Int)), (PyData.int (0 : Int))] : List PyData))] := ⟨(any_T h122), (any_T h123), (any_T h124), (any_T h125), (any_T h119), True.intro⟩
    refine q_lst S25 h126 (by show 5 ≤ 100000; decide) (fun a6 H22 w7 S26 h127 => ?_)
    obtain ⟨z2, hq3, hm3⟩ := bindS hm2
    have h128 := ls_O S26 h127
    refine q_cat S26 (ls_M S26 h121) h128 hq3 (fun v17 G21 H23 e21 S27 h129 => ?_)
    have h130 := Al.up e21 h120
    have h131 := R.up e21 h121
    have E21 := E20.trans e21
    refine gS_AsgN ?_
    refine gOp ?_
    refine gV rfl ?_
    refine gLst ?_
    refine gCons' ?_
    refine gTup' ?_
    refine gCons' ?_
    refine gC ?_
    refine gCons' ?_
    refine gC ?_
    refine gCons' ?_
    refine gC ?_
    refine gNil' ?_
    have h132 : Al (rAny K) G21 [(V.str (Str.ofString "kept")), (V.int (1 : Int)), (V.int (1 : Int))] ([(PyData.str (Str.ofString "kept")), (PyData.int (1 : Int)), (PyData.int (1 : Int))] : List PyData) := ⟨(show (rAny K).rel G21 (V.str (Str.ofString "kept")) (PyData.str (Str.ofString "kept")) from any_of (dStr (K := K)) (show R.rel rStr G21 (V.str (Str.ofString "kept")) (Str.ofString "kept") from rfl)), (show (rAny K).rel G21 (V.int (1 : Int)) (PyData.int (1 : Int)) from any_of (dInt (K := K)) (show R.rel rInt G21 (V.int (1 : Int)) (1 : Int) from rfl)), (show (rAny K).rel G21 (V.int (1 : Int)) (PyData.int (1 : Int)) from any_of (dInt (K := K)) (show R.rel rInt G21 (V.int (1 : Int)) (1 : Int) from rfl)), True.intro⟩
    refine q_tupN (K := K) S27 (by show 3 ≤ 100000; decide) h132 (fun v18 G22 H24 e22 S28 h133 => ?_)
    have h134 := Al.up e22 h130
    have h135 := R.up e22 h129
    have E22 := E21.trans e22
    refine gCons' ?_
    refine gTup' ?_
    refine gCons' ?_
    refine gC ?_
    refine gCons' ?_
    refine gC ?_
    refine gCons' ?_
    refine gUn ?_
    refine gC ?_
    refine ⟨_, rfl, ?_⟩
    refine gNil' ?_
    have h136 : Al (rAny K) G22 [(V.str (Str.ofString "kept")), (V.int (1 : Int)), (V.int (-(1 : Int)))] ([(PyData.str (Str.ofString "kept")), (PyData.int (1 : Int)), (PyData.int (-(1 : Int)))] : List PyData) := ⟨(show (rAny K).rel G22 (V.str (Str.ofString "kept")) (PyData.str (Str.ofString "kept")) from any_of (dStr (K := K)) (show R.rel rStr G22 (V.str (Str.ofString "kept")) (Str.ofString "kept") from rfl)), (show (rAny K).rel G22 (V.int (1 : Int)) (PyData.int (1 : Int)) from any_of (dInt (K := K)) (show R.rel rInt G22 (V.int (1 : Int)) (1 : Int) from rfl)), (show (rAny K).rel G22 (V.int (-(1 : Int))) (PyData.int (-(1 : Int))) from any_of (dInt (K := K)) (show R.rel rInt G22 (V.int (-(1 : Int))) (-(1 : Int)) from rfl)), True.intro⟩
    refine q_tupN (K := K) S28 (by show 3 ≤ 100000; decide) h136 (fun v19 G23 H25 e23 S29 h137 => ?_)
    have h138 := Al.up e23 h134
    have h139 := R.up e23 h135
    have h140 := R.up e23 h133
    have E23 := E22.trans e23
    refine gCons' ?_
    refine gTup' ?_
    refine gCons' ?_
    refine gC ?_
    refine gCons' ?_
    refine gV rfl ?_
    refine gCons' ?_
    refine gV rfl ?_
    refine gNil' ?_
    have h141 : Al (rAny K) G23 [(V.str (Str.ofString "kept")), (V.int length_here1), (V.int length_here1)] ([(PyData.str (Str.ofString "kept")), (PyData.int length_here1), (PyData.int length_here1)] : List PyData) := ⟨(show (rAny K).rel G23 (V.str (Str.ofString "kept")) (PyData.str (Str.ofString "kept")) from any_of (dStr (K := K)) (show R.rel rStr G23 (V.str (Str.ofString "kept")) (Str.ofString "kept") from rfl)), (show (rAny K).rel G23 (V.int length_here1) (PyData.int length_here1) from any_of (dInt (K := K)) (show R.rel rInt G23 (V.int length_here1) length_here1 from rfl)), (show (rAny K).rel G23 (V.int length_here1) (PyData.int length_here1) from any_of (dInt (K := K)) (show R.rel rInt G23 (V.int length_here1) length_here1 from rfl)), True.intro⟩
    refine q_tupN (K := K) S29 (by show 3 ≤ 100000; decide) h141 (fun v20 G24 H26 e24 S30 h142 => ?_)
    have h143 := Al.up e24 h138
    have h144 := R.up e24 h139
    have h145 := R.up e24 h140
    have h146 := R.up e24 h137
    have E24 := E23.trans e24
    refine gCons' ?_
    refine gTup' ?_
    refine gCons' ?_
    refine gC ?_
    refine gCons' ?_
    refine gOp ?_
    refine gV rfl ?_
    refine gV rfl ?_
    refine ⟨_, _, rfl, rfl, ?_⟩
    refine gCons' ?_
    refine gC ?_
    refine gNil' ?_
    have h147 : Al (rAny K) G24 [(V.str (Str.ofString "kept")), (V.int (length_here1 + ((1 : Int) + r1))), (V.int (1 : Int))] ([(PyData.str (Str.ofString "kept")), (PyData.int (length_here1 + ((1 : Int) + r1))), (PyData.int (1 : Int))] : List PyData) := ⟨(show (rAny K).rel G24 (V.str (Str.ofString "kept")) (PyData.str (Str.ofString "kept")) from any_of (dStr (K := K)) (show R.rel rStr G24 (V.str (Str.ofString "kept")) (Str.ofString "kept") from rfl)), (show (rAny K).rel G24 (V.int (length_here1 + ((1 : Int) + r1))) (PyData.int (length_here1 + ((1 : Int) + r1))) from any_of (dInt (K := K)) (show R.rel rInt G24 (V.int (length_here1 + ((1 : Int) + r1))) (length_here1 + ((1 : Int) + r1)) from rfl)), (show (rAny K).rel G24 (V.int (1 : Int)) (PyData.int (1 : Int)) from any_of (dInt (K := K)) (show R.rel rInt G24 (V.int (1 : Int)) (1 : Int) from rfl)), True.intro⟩
    refine q_tupN (K := K) S30 (by show 3 ≤ 100000; decide) h147 (fun v21 G25 H27 e25 S31 h148 => ?_)
    have h149 := Al.up e25 h143
    have h150 := R.up e25 h144
    have h151 := R.up e25 h145
    have h152 := R.up e25 h146
    have h153 := R.up e25 h142
    have E25 := E24.trans e25
    refine gNil' ?_
    have h154 : Al (rAny K) G25 [v18, v19, v20, v21] [(PyData.tuple ([(PyData.str (Str.ofString "kept")), (PyData.int (1 : Int)), (PyData.int (1 : Int))] : List PyData)), (PyData.tuple ([(PyData.str (Str.ofString "kept")), (PyData.int (1 : Int)), (PyData.int (-(1 : Int)))] : List PyData)), (PyData.tuple ([(PyData.str (Str.ofString "kept")), (PyData.int length_here1), (PyData.int length_here1)] : List PyData)), (PyData.tuple ([(PyData.str (Str.ofString "kept")), (PyData.int (length_here1 + ((1 : Int) + r1))), (PyData.int (1 : Int))] : List PyData))] := ⟨(any_T h151), (any_T h152), (any_T h153), (any_T h148), True.intro⟩
    refine q_lst S31 h154 (by show 4 ≤ 100000; decide) (fun a7 H28 w8 S32 h155 => ?_)
    obtain ⟨z3, hq4, hm4⟩ := bindS hm3
    have h156 := ls_O S32 h155
    refine q_cat S32 (ls_M S32 h150) h156 hq4 (fun v22 G26 H29 e26 S33 h157 => ?_)
    have h158 := Al.up e26 h149
    have h159 := R.up e26 h150
    have E26 := E25.trans e26
    refine gS_AsgN ?_
    refine gOp ?_
    refine gV rfl ?_
    refine gLst ?_
    refine gCons' ?_
    refine gTup' ?_
    refine gCons' ?_
    refine gC ?_
    refine gCons' ?_
    refine gOp ?_
    refine gV rfl ?_
    refine gV rfl ?_
    refine ⟨_, _, rfl, rfl, ?_⟩
    refine gCons' ?_
    refine gC ?_
    refine gNil' ?_
    have h160 : Al (rAny K) G26 [(V.str (Str.ofString "open")), (V.int (length_here1 + ((1 : Int) + r1))), (V.int (0 : Int))] ([(PyData.str (Str.ofString "open")), (PyData.int (length_here1 + ((1 : Int) + r1))), (PyData.int (0 : Int))] : List PyData) := ⟨(show (rAny K).rel G26 (V.str (Str.ofString "open")) (PyData.str (Str.ofString "open")) from any_of (dStr (K := K)) (show R.rel rStr G26 (V.str (Str.ofString "open")) (Str.ofString "open") from rfl)), (show (rAny K).rel G26 (V.int (length_here1 + ((1 : Int) + r1))) (PyData.int (length_here1 + ((1 : Int) + r1))) from any_of (dInt (K := K)) (show R.rel rInt G26 (V.int (length_here1 + ((1 : Int) + r1))) (length_here1 + ((1 : Int) + r1)) from rfl)), (show (rAny K).rel G26 (V.int (0 : Int)) (PyData.int (0 : Int)) from any_of (dInt (K := K)) (show R.rel rInt G26 (V.int (0 : Int)) (0 : Int) from rfl)), True.intro⟩
    refine q_tupN (K := K) S33 (by show 3 ≤ 100000; decide) h160 (fun v23 G27 H30 e27 S34 h161 => ?_)
    have h162 := Al.up e27 h158
    have h163 := R.up e27 h157
    have E27 := E26.trans e27
    refine gCons' ?_
    refine gTup' ?_
    refine gCons' ?_
    refine gC ?_
    refine gCons' ?_
    refine gUn ?_
    refine gV rfl ?_
    refine ⟨_, rfl, ?_⟩
    refine gCons' ?_
    refine gC ?_
    refine gNil' ?_
    have h164 : Al (rAny K) G27 [(V.str (Str.ofString "open")), (V.int (-((1 : Int) + r1))), (V.int (0 : Int))] ([(PyData.str (Str.ofString "open")), (PyData.int (-((1 : Int) + r1))), (PyData.int (0 : Int))] : List PyData) := ⟨(show (rAny K).rel G27 (V.str (Str.ofString "open")) (PyData.str (Str.ofString "open")) from any_of (dStr (K := K)) (show R.rel rStr G27 (V.str (Str.ofString "open")) (Str.ofString "open") from rfl)), (show (rAny K).rel G27 (V.int (-((1 : Int) + r1))) (PyData.int (-((1 : Int) + r1))) from any_of (dInt (K := K)) (show R.rel rInt G27 (V.int (-((1 : Int) + r1))) (-((1 : Int) + r1)) from rfl)), (show (rAny K).rel G27 (V.int (0 : Int)) (PyData.int (0 : Int)) from any_of (dInt (K := K)) (show R.rel rInt G27 (V.int (0 : Int)) (0 : Int) from rfl)), True.intro⟩
    refine q_tupN (K := K) S34 (by show 3 ≤ 100000; decide) h164 (fun v24 G28 H31 e28 S35 h165 => ?_)
    have h166 := Al.up e28 h162
    have h167 := R.up e28 h163
    have h168 := R.up e28 h161
    have E28 := E27.trans e28
    refine gCons' ?_
    refine gTup' ?_
    refine gCons' ?_
    refine gC ?_
    refine gCons' ?_
    refine gC ?_
    refine gCons' ?_
    refine gC ?_
    refine gNil' ?_
    have h169 : Al (rAny K) G28 [(V.str (Str.ofString "Open")), (V.int (1 : Int)), (V.int (0 : Int))] ([(PyData.str (Str.ofString "Open")), (PyData.int (1 : Int)), (PyData.int (0 : Int))] : List PyData) := ⟨(show (rAny K).rel G28 (V.str (Str.ofString "Open")) (PyData.str (Str.ofString "Open")) from any_of (dStr (K := K)) (show R.rel rStr G28 (V.str (Str.ofString "Open")) (Str.ofString "Open") from rfl)), (show (rAny K).rel G28 (V.int (1 : Int)) (PyData.int (1 : Int)) from any_of (dInt (K := K)) (show R.rel rInt G28 (V.int (1 : Int)) (1 : Int) from rfl)), (show (rAny K).rel G28 (V.int (0 : Int)) (PyData.int (0 : Int)) from any_of (dInt (K := K)) (show R.rel rInt G28 (V.int (0 : Int)) (0 : Int) from rfl)), True.intro⟩
    refine q_tupN (K := K) S35 (by show 3 ≤ 100000; decide) h169 (fun v25 G29 H32 e29 S36 h170 => ?_)
    have h171 := Al.up e29 h166
    have h172 := R.up e29 h167
    have h173 := R.up e29 h168
    have h174 := R.up e29 h165
    have E29 := E28.trans e29
    refine gCons' ?_
    refine gTup' ?_
    refine gCons' ?_
    refine gC ?_
    refine gCons' ?_
    refine gC ?_
    refine gCons' ?_
    refine gC ?_
    refine gNil' ?_
    have h175 : Al (rAny K) G29 [(V.str (Str.ofString "")), (V.int (1 : Int)), (V.int (0 : Int))] ([(PyData.str (Str.ofString "")), (PyData.int (1 : Int)), (PyData.int (0 : Int))] : List PyData) := ⟨(show (rAny K).rel G29 (V.str (Str.ofString "")) (PyData.str (Str.ofString "")) from any_of (dStr (K := K)) (show R.rel rStr G29 (V.str (Str.ofString "")) (Str.ofString "") from rfl)), (show (rAny K).rel G29 (V.int (1 : Int)) (PyData.int (1 : Int)) from any_of (dInt (K := K)) (show R.rel rInt G29 (V.int (1 : Int)) (1 : Int) from rfl)), (show (rAny K).rel G29 (V.int (0 : Int)) (PyData.int (0 : Int)) from any_of (dInt (K := K)) (show R.rel rInt G29 (V.int (0 : Int)) (0 : Int) from rfl)), True.intro⟩
    refine q_tupN (K := K) S36 (by show 3 ≤ 100000; decide) h175 (fun v26 G30 H33 e30 S37 h176 => ?_)
    have h177 := Al.up e30 h171
    have h178 := R.up e30 h172
    have h179 := R.up e30 h173
    have h180 := R.up e30 h174
    have h181 := R.up e30 h170
    have E30 := E29.trans e30
    refine gCons' ?_
    refine gTup' ?_
    refine gCons' ?_
    refine gC ?_
    refine gCons' ?_
    refine gC ?_
    refine gCons' ?_
    refine gC ?_
    refine gNil' ?_
    have h182 : Al (rAny K) G30 [(V.int (0 : Int)), (V.int (1 : Int)), (V.int (0 : Int))] ([(PyData.int (0 : Int)), (PyData.int (1 : Int)), (PyData.int (0 : Int))] : List PyData) := ⟨(show (rAny K).rel G30 (V.int (0 : Int)) (PyData.int (0 : Int)) from any_of (dInt (K := K)) (show R.rel rInt G30 (V.int (0 : Int)) (0 : Int) from rfl)), (show (rAny K).rel G30 (V.int (1 : Int)) (PyData.int (1 : Int)) from any_of (dInt (K := K)) (show R.rel rInt G30 (V.int (1 : Int)) (1 : Int) from rfl)), (show (rAny K).rel G30 (V.int (0 : Int)) (PyData.int (0 : Int)) from any_of (dInt (K := K)) (show R.rel rInt G30 (V.int (0 : Int)) (0 : Int) from rfl)), True.intro⟩
    refine q_tupN (K := K) S37 (by show 3 ≤ 100000; decide) h182 (fun v27 G31 H34 e31 S38 h183 => ?_)
    have h184 := Al.up e31 h177
    have h185 := R.up e31 h178
    have h186 := R.up e31 h179
    have h187 := R.up e31 h180
    have h188 := R.up e31 h181
    have h189 := R.up e31 h176
    have E31 := E30.trans e31
    refine gNil' ?_
    have h190 : Al (rAny K) G31 [v23, v24, v25, v26, v27] [(PyData.tuple ([(PyData.str (Str.ofString "open")), (PyData.int (length_here1 + ((1 : Int) + r1))), (PyData.int (0 : Int))] : List PyData)), (PyData.tuple ([(PyData.str (Str.ofString "open")), (PyData.int (-((1 : Int) + r1))), (PyData.int (0 : Int))] : List PyData)), (PyData.tuple ([(PyData.str (Str.ofString "Open")), (PyData.int (1 : Int)), (PyData.int (0 : Int))] : List PyData)), (PyData.tuple ([(PyData.str (Str.ofString "")), (PyData.int (1 : Int)), (PyData.int (0 : Int))] : List PyData)), (PyData.tuple ([(PyData.int (0 : Int)), (PyData.int (1 : Int)), (PyData.int (0 : Int))] : List PyData))] := ⟨(any_T h186), (any_T h187), (any_T h188), (any_T h189), (any_T h183), True.intro⟩
    refine q_lst S38 h190 (by show 5 ≤ 100000; decide) (fun a8 H35 w9 S39 h191 => ?_)
    obtain ⟨z4, hq5, hm5⟩ := bindS hm4
    have h192 := ls_O S39 h191
    refine q_cat S39 (ls_M S39 h185) h192 hq5 (fun v28 G32 H36 e32 S40 h193 => ?_)
    have h194 := Al.up e32 h184
    have h195 := R.up e32 h185
    have E32 := E31.trans e32
    refine gS_AsgN ?_
    refine gOp ?_
    refine gV rfl ?_
    refine gLst ?_
    refine gCons' ?_
    refine gTup' ?_
    refine gCons' ?_
    refine gC ?_
    refine gCons' ?_
    refine gC ?_
    refine gCons' ?_
    refine gC ?_
    refine gNil' ?_
    have h196 : Al (rAny K) G32 [(V.str (Str.ofString "kept")), (V.str (Str.ofString "1")), (V.int (0 : Int))] ([(PyData.str (Str.ofString "kept")), (PyData.str (Str.ofString "1")), (PyData.int (0 : Int))] : List PyData) := ⟨(show (rAny K).rel G32 (V.str (Str.ofString "kept")) (PyData.str (Str.ofString "kept")) from any_of (dStr (K := K)) (show R.rel rStr G32 (V.str (Str.ofString "kept")) (Str.ofString "kept") from rfl)), (show (rAny K).rel G32 (V.str (Str.ofString "1")) (PyData.str (Str.ofString "1")) from any_of (dStr (K := K)) (show R.rel rStr G32 (V.str (Str.ofString "1")) (Str.ofString "1") from rfl)), (show (rAny K).rel G32 (V.int (0 : Int)) (PyData.int (0 : Int)) from any_of (dInt (K := K)) (show R.rel rInt G32 (V.int (0 : Int)) (0 : Int) from rfl)), True.intro⟩
    refine q_tupN (K := K) S40 (by show 3 ≤ 100000; decide) h196 (fun v29 G33 H37 e33 S41 h197 => ?_)
    have h198 := Al.up e33 h194
    have h199 := R.up e33 h193
    have E33 := E32.trans e33
    refine gCons' ?_
    refine gTup' ?_
    refine gCons' ?_
    refine gC ?_
    refine gCons' ?_
    refine gC ?_
    refine gCons' ?_
    refine gC ?_
    refine gNil' ?_
    have h200 : Al (rAny K) G33 [(V.str (Str.ofString "kept")), (V.int (1 : Int)), V.non] ([(PyData.str (Str.ofString "kept")), (PyData.int (1 : Int)), PyData.none] : List PyData) := ⟨(show (rAny K).rel G33 (V.str (Str.ofString "kept")) (PyData.str (Str.ofString "kept")) from any_of (dStr (K := K)) (show R.rel rStr G33 (V.str (Str.ofString "kept")) (Str.ofString "kept") from rfl)), (show (rAny K).rel G33 (V.int (1 : Int)) (PyData.int (1 : Int)) from any_of (dInt (K := K)) (show R.rel rInt G33 (V.int (1 : Int)) (1 : Int) from rfl)), (show (rAny K).rel G33 V.non PyData.none from Dp.non), True.intro⟩
    refine q_tupN (K := K) S41 (by show 3 ≤ 100000; decide) h200 (fun v30 G34 H38 e34 S42 h201 => ?_)
    have h202 := Al.up e34 h198
    have h203 := R.up e34 h199
    have h204 := R.up e34 h197
    have E34 := E33.trans e34
    refine gCons' ?_
    refine gTup' ?_
    refine gCons' ?_
    refine gTup' ?_
    refine gCons' ?_
    refine gC ?_
    refine gCons' ?_
    refine gC ?_
    refine gCons' ?_
    refine gC ?_
    refine gNil' ?_
    have h205 : Al (rAny K) G34 [(V.str (Str.ofString "top")), (V.int (0 : Int)), (V.int (0 : Int))] ([(PyData.str (Str.ofString "top")), (PyData.int (0 : Int)), (PyData.int (0 : Int))] : List PyData) := ⟨(show (rAny K).rel G34 (V.str (Str.ofString "top")) (PyData.str (Str.ofString "top")) from any_of (dStr (K := K)) (show R.rel rStr G34 (V.str (Str.ofString "top")) (Str.ofString "top") from rfl)), (show (rAny K).rel G34 (V.int (0 : Int)) (PyData.int (0 : Int)) from any_of (dInt (K := K)) (show R.rel rInt G34 (V.int (0 : Int)) (0 : Int) from rfl)), (show (rAny K).rel G34 (V.int (0 : Int)) (PyData.int (0 : Int)) from any_of (dInt (K := K)) (show R.rel rInt G34 (V.int (0 : Int)) (0 : Int) from rfl)), True.intro⟩
    refine q_tupN (K := K) S42 (by show 3 ≤ 100000; decide) h205 (fun v31 G35 H39 e35 S43 h206 => ?_)
    have h207 := Al.up e35 h202
    have h208 := R.up e35 h203
    have h209 := R.up e35 h204
    have h210 := R.up e35 h201
    have E35 := E34.trans e35
    refine gNil' ?_
    have h211 : Al (rAny K) G35 [v31] ([(PyData.tuple ([(PyData.str (Str.ofString "top")), (PyData.int (0 : Int)), (PyData.int (0 : Int))] : List PyData))] : List PyData) := ⟨(any_T h206), True.intro⟩
    refine q_tupN (K := K) S43 (by show 1 ≤ 100000; decide) h211 (fun v32 G36 H40 e36 S44 h212 => ?_)
    have h213 := Al.up e36 h207
    have h214 := R.up e36 h208
    have h215 := R.up e36 h209
    have h216 := R.up e36 h210
    have E36 := E35.trans e36
    refine gCons' ?_
    refine gTup' ?_
    refine gCons' ?_
    refine gC ?_
    refine gCons' ?_
    refine gTup' ?_
    refine gCons' ?_
    refine gC ?_
    refine gCons' ?_
    refine gC ?_
    refine gNil' ?_
    have h217 : Al (rAny K) G36 [(V.int (1 : Int)), (V.int (0 : Int))] ([(PyData.int (1 : Int)), (PyData.int (0 : Int))] : List PyData) := ⟨(show (rAny K).rel G36 (V.int (1 : Int)) (PyData.int (1 : Int)) from any_of (dInt (K := K)) (show R.rel rInt G36 (V.int (1 : Int)) (1 : Int) from rfl)), (show (rAny K).rel G36 (V.int (0 : Int)) (PyData.int (0 : Int)) from any_of (dInt (K := K)) (show R.rel rInt G36 (V.int (0 : Int)) (0 : Int) from rfl)), True.intro⟩
    refine q_tupN (K := K) S44 (by show 2 ≤ 100000; decide) h217 (fun v33 G37 H41 e37 S45 h218 => ?_)
    have h219 := Al.up e37 h213
    have h220 := R.up e37 h214
    have h221 := R.up e37 h215
    have h222 := R.up e37 h216
    have h223 := R.up e37 h212
    have h224 := R.up e37 (show (rAny K).rel G36 (V.str (Str.ofString "kept")) (PyData.str (Str.ofString "kept")) from any_of (dStr (K := K)) (show R.rel rStr G36 (V.str (Str.ofString "kept")) (Str.ofString "kept") from rfl))
    have E37 := E36.trans e37
    refine gNil' ?_
    have h225 : Al (rAny K) G37 [(V.str (Str.ofString "kept")), v33] ([(PyData.str (Str.ofString "kept")), (PyData.tuple ([(PyData.int (1 : Int)), (PyData.int (0 : Int))] : List PyData))] : List PyData) := ⟨h224, (any_T h218), True.intro⟩
    refine q_tupN (K := K) S45 (by show 2 ≤ 100000; decide) h225 (fun v34 G38 H42 e38 S46 h226 => ?_)
    have h227 := Al.up e38 h219
    have h228 := R.up e38 h220
    have h229 := R.up e38 h221
    have h230 := R.up e38 h222
    have h231 := R.up e38 h223
    have E38 := E37.trans e38
    refine gCons' ?_
    refine gTup' ?_
    refine gCons' ?_
    refine gC ?_
    refine gCons' ?_
    refine gC ?_
    refine gCons' ?_
    refine gC ?_
    refine gNil' ?_
    have h232 : Al (rAny K) G38 [(V.str (Str.ofString "top")), (V.int (1 : Int)), (V.int (0 : Int))] ([(PyData.str (Str.ofString "top")), (PyData.int (1 : Int)), (PyData.int (0 : Int))] : List PyData) := ⟨(show (rAny K).rel G38 (V.str (Str.ofString "top")) (PyData.str (Str.ofString "top")) from any_of (dStr (K := K)) (show R.rel rStr G38 (V.str (Str.ofString "top")) (Str.ofString "top") from rfl)), (show (rAny K).rel G38 (V.int (1 : Int)) (PyData.int (1 : Int)) from any_of (dInt (K := K)) (show R.rel rInt G38 (V.int (1 : Int)) (1 : Int) from rfl)), (show (rAny K).rel G38 (V.int (0 : Int)) (PyData.int (0 : Int)) from any_of (dInt (K := K)) (show R.rel rInt G38 (V.int (0 : Int)) (0 : Int) from rfl)), True.intro⟩
    refine q_tupN (K := K) S46 (by show 3 ≤ 100000; decide) h232 (fun v35 G39 H43 e39 S47 h233 => ?_)
    have h234 := Al.up e39 h227
    have h235 := R.up e39 h228
    have h236 := R.up e39 h229
    have h237 := R.up e39 h230
    have h238 := R.up e39 h231
    have h239 := R.up e39 h226
    have E39 := E38.trans e39
    refine gNil' ?_
    have h240 : Al (rAny K) G39 [v29, v30, v32, v34, v35] [(PyData.tuple ([(PyData.str (Str.ofString "kept")), (PyData.str (Str.ofString "1")), (PyData.int (0 : Int))] : List PyData)), (PyData.tuple ([(PyData.str (Str.ofString "kept")), (PyData.int (1 : Int)), PyData.none] : List PyData)), (PyData.tuple ([(PyData.tuple ([(PyData.str (Str.ofString "top")), (PyData.int (0 : Int)), (PyData.int (0 : Int))] : List PyData))] : List PyData)), (PyData.tuple ([(PyData.str (Str.ofString "kept")), (PyData.tuple ([(PyData.int (1 : Int)), (PyData.int (0 : Int))] : List PyData))] : List PyData)), (PyData.tuple ([(PyData.str (Str.ofString "top")), (PyData.int (1 : Int)), (PyData.int (0 : Int))] : List PyData))] := ⟨(any_T h236), (any_T h237), (any_T h238), (any_T h239), (any_T h233), True.intro⟩
    refine q_lst S47 h240 (by show 5 ≤ 100000; decide) (fun a9 H44 w10 S48 h241 => ?_)
    obtain ⟨z5, hq6, hm6⟩ := bindS hm5
    have h242 := ls_O S48 h241
    refine q_cat S48 (ls_M S48 h235) h242 hq6 (fun v36 G40 H45 e40 S49 h243 => ?_)
    have h244 := Al.up e40 h234
    have h245 := R.up e40 h235
    have E40 := E39.trans e40
    refine gRet ?_
    refine gOp ?_
    refine gV rfl ?_
    refine gCall ?_
    refine gCons' ?_
    refine gV rfl ?_
    refine gCons' ?_
    refine gCB ?_
    refine gCons' ?_
    refine gV rfl ?_
    refine gNil' ?_
    refine q_lenL (y := V.non) S49 (rM_L (K := K) h243) ?_
    refine gNil' ?_
    have S50 : Sub G40 ((a1, HO.lst w2) :: (a9, HO.lst w10) :: (a8, HO.lst w9) :: (a7, HO.lst w8) :: (a6, HO.lst w7) :: (a5, HO.lst w6) :: O) H45 := S49.front 5 rfl rfl
    obtain ⟨⟨r2, bag_here3⟩, hq7, hm7⟩ := bindS hm6
    dsimp only at hm7
    refine ⟨G40, ((a9, HO.lst w10) :: (a8, HO.lst w9) :: (a7, HO.lst w8) :: (a6, HO.lst w7) :: (a5, HO.lst w6) :: O), a1, w2, bag_here2, (z5.length : Int), rfl, S50, h244, (r2, bag_here3), hq7, fun G41 H46 w11 e41 S51 h246 => ?_⟩
    have h247 := R.up e41 h243
    have E41 := E40.trans e41
    obtain ⟨x1, hq8, hm8⟩ := bindS hm7
    refine q_ixL S51 (rM_L (K := K) h247) hq8 (fun v37 h248 => ?_)
    have S52 : Sub G41 ((a9, HO.lst w10) :: (a1, HO.lst w11) :: (a8, HO.lst w9) :: (a7, HO.lst w8) :: (a6, HO.lst w7) :: (a5, HO.lst w6) :: O) H46 := S51.front 1 rfl rfl
    have S53 := S52.tail
    have S54 : Sub G41 ((a8, HO.lst w9) :: (a1, HO.lst w11) :: (a7, HO.lst w8) :: (a6, HO.lst w7) :: (a5, HO.lst w6) :: O) H46 := S53.front 1 rfl rfl
    have S55 := S54.tail
    have S56 : Sub G41 ((a7, HO.lst w8) :: (a1, HO.lst w11) :: (a6, HO.lst w7) :: (a5, HO.lst w6) :: O) H46 := S55.front 1 rfl rfl
    have S57 := S56.tail
    have S58 : Sub G41 ((a6, HO.lst w7) :: (a1, HO.lst w11) :: (a5, HO.lst w6) :: O) H46 := S57.front 1 rfl rfl
    have S59 := S58.tail
    have S60 : Sub G41 ((a5, HO.lst w6) :: (a1, HO.lst w11) :: O) H46 := S59.front 1 rfl rfl
    have S61 := S60.tail
    cases hm8
    exact q v37 G41 H46 w11 E41 S61 h248 h246
end
end Mr

set_option Elab.async false
set_option linter.all false
set_option maxRecDepth 100000
set_option maxHeartbeats 4000000
set_option synthInstance.maxSize 4000
set_option synthInstance.maxHeartbeats 400000
namespace Mr
open PySem PySem.Spec PyProof.Rows L2
section
variable {P : Program} {w : World} {K : PySem.W.Frag} {mg : Str → Option Value} {base : Heap}
theorem sc_law_behind : FnScope ["_law_length_here", "_law_standing_here", "_law_blocks", "_law_lead_here"] ["_law_length_here", "_law_standing_here", "_law_blocks"] (defScope s_law_behind) := ⟨rfl, rfl, rfl, by decide +kernel, rfl, by decide +kernel, by decide +kernel⟩
theorem ok_law_behind (T : Tx K mg) : FnOk P w K mg base CX0 3 (He.fAd K ("_law_behind", none)) T.fd_law_behind ["_law_length_here", "_law_standing_here", "_law_blocks"] (sp_law_behind K) := by
  have G_law_lead := ok_law_lead (P := P) (w := w) (base := base) T
  have G_law_lines := ok_law_lines (P := P) (w := w) (base := base) T
  have G_law_pages := ok_law_pages (P := P) (w := w) (base := base) T
  refine T.F_law_behind.ok sc_law_behind (fun vs H Q E h => ?_) (fun cdv A outer s H0 vs Q E hr h => ?_)
  · obtain ⟨G, O, length_here1, v1, standing_here1, v2, blocks1, rfl, _⟩ := h
    rfl
  · obtain ⟨G0, O, length_here1, v1, standing_here1, v2, blocks1, rfl, S0, h1, h2, res, hm, q⟩ := h
    refine ⟨_, PSs.nox (pss_cons (ps_set (i := 3) sc_law_behind.nd rfl (.inl rfl) (pe_call G_law_lead (hr.mono (by decide)) (by rfl) T.g_law_lead T.F_law_lead.kp T.b_law_lead .nil pass0 (pa_cons (pv 1) pa_nil)))
      (pss_one (ps_ret (pe_slice sl_list (pe_call G_law_pages (hr.mono (by decide)) (by rfl) T.g_law_pages T.F_law_pages.kp T.b_law_pages .nil pass0 (pa_cons (pv 0) (pa_cons (pe_ix ix_tup (pe_call G_law_lines (hr.mono (by decide)) (by rfl) T.g_law_lines T.F_law_lines.kp T.b_law_lines .nil pass0 (pa_cons (pe_op op_cat (pv 3) (pv 2)) pa_nil)) pe_int (fun _ _ => rfl)) pa_nil))) (po_some (pe_callB (r := rLenM K) call_lenM (by rfl) T.z_len boot_len (pa_cons (pe_ix ix_tup (pe_call G_law_lines (hr.mono (by decide)) (by rfl) T.g_law_lines T.F_law_lines.kp T.b_law_lines .nil pass0 (pa_cons (pv 3) pa_nil)) pe_int (fun _ _ => rfl)) pa_nil))) po_none)))), ?_⟩
    have E0 := Ext.refl G0
    have hm0 : (Option.bind (m_law_lead standing_here1) fun r1 =>
  Option.bind (catM r1 blocks1) fun z1 =>
  Option.bind (m_law_lines z1) fun r2 =>
  Option.bind (m_law_pages length_here1 r2.1) fun r3 =>
  Option.bind (m_law_lines r1) fun r4 =>
  some (cutM r3 (some (r4.1.length : Int)) none)) = some res := hm
    refine gS_AsgN ?_
    refine gCall ?_
    refine gCons' ?_
    refine gV rfl ?_
    refine gNil' ?_
    obtain ⟨r1, hq1, hm1⟩ := bindS hm0
    refine ⟨G0, (O), v1, standing_here1, rfl, S0, h1, r1, hq1, fun v3 G1 H1 e1 S1 h3 => ?_⟩
    have h4 := R.up e1 h1
    have h5 := R.up e1 h2
    have E1 := E0.trans e1
    refine gRet ?_
    refine gSl ?_
    refine gCall ?_
    refine gCons' ?_
    refine gV rfl ?_
    refine gCons' ?_
    refine gOp ?_
    refine gCall ?_
    refine gCons' ?_
    refine gOp ?_
    refine gV rfl ?_
    refine gV rfl ?_
    obtain ⟨z1, hq2, hm2⟩ := bindS hm1
    refine q_cat S1 (ls_M S1 h3) (ls_M S1 h5) hq2 (fun v4 G2 H2 e2 S2 h6 => ?_)
    have h7 := R.up e2 h4
    have h8 := R.up e2 h5
    have h9 := R.up e2 h3
    have E2 := E1.trans e2
    refine gNil' ?_
    obtain ⟨r2, hq3, hm3⟩ := bindS hm2
    refine ⟨G2, (O), v4, z1, rfl, S2, h6, r2, hq3, fun v5 G3 H3 e3 S3 h10 => ?_⟩
    have h11 := R.up e3 h7
    have h12 := R.up e3 h8
    have h13 := R.up e3 h9
    have E3 := E2.trans e3
    refine gC ?_
    refine q_p3_0 S3 h10 (fun v6 h14 => ?_)
    refine gNil' ?_
    obtain ⟨r3, hq4, hm4⟩ := bindS hm3
    refine ⟨G3, (O), length_here1, v6, r2.1, rfl, S3, h14, r3, hq4, fun v7 G4 H4 e4 S4 h15 => ?_⟩
    have h16 := R.up e4 h11
    have h17 := R.up e4 h12
    have h18 := R.up e4 h13
    have E4 := E3.trans e4
    refine gPart ?_
    refine gCB ?_
    refine gCons' ?_
    refine gOp ?_
    refine gCall ?_
    refine gCons' ?_
    refine gV rfl ?_
    refine gNil' ?_
    obtain ⟨r4, hq5, hm5⟩ := bindS hm4
    refine ⟨G4, (O), v3, r1, rfl, S4, h18, r4, hq5, fun v8 G5 H5 e5 S5 h19 => ?_⟩
    have h20 := R.up e5 h16
    have h21 := R.up e5 h17
    have h22 := R.up e5 h18
    have h23 := R.up e5 h15
    have E5 := E4.trans e5
    refine gC ?_
    refine q_p3_0 S5 h19 (fun v9 h24 => ?_)
    refine gNil' ?_
    refine q_lenL (y := V.non) S5 (rM_L (K := K) h24) ?_
    refine ⟨_, rfl, ?_⟩
    refine gNoPart ?_
    refine q_slM S5 (rM_L (K := K) h23) (fun v10 G6 H6 e6 S6 h25 => ?_)
    have h26 := R.up e6 h20
    have h27 := R.up e6 h21
    have h28 := R.up e6 h22
    have E6 := E5.trans e6
    cases hm5
    exact q v10 G6 H6 E6 S6 h25
end
end Mr

set_option Elab.async false
set_option linter.all false
set_option maxRecDepth 100000
set_option maxHeartbeats 2000000
/-! Stat: C.m(e, ..), m a static method of an own class. -/
namespace L2
open PySem PySem.Spec PyProof.Rows
structure SMet (K : PySem.W.Frag) (C : Addr) (m : Str) (p g : Addr) : Prop where
  ga : PySem.W.specialIn K (.ref C) "__getattribute__" = some (some (.builtin "type.__getattribute__"))
  ty : PySem.W.typeIn K (.ref C) = some (.type "type")
  rd : PySem.W.readsIn K C (.type "type") = true
  at_ : PySem.W.findCls K (.ref C) (.type "type") m = some (.get (.builtin "staticmethod.__get__") (.ref p) .none (.ref C))
  rc : ∃ rest, PySem.W.recIn K p "staticmethod" = some (.ref g :: rest)
section
variable {X : Cx} {CX : CXT} {k : Nat} {C pr g : Addr} {fd : FuncData} {ps : List Str} {sp : Sp} {E0 : XK} {E : St → XK} {x m : Str} {p1 p2 pos : Pos} {e : Expr} {es : List Expr} {t : TA} {pl : Sem Bool}
theorem pe_smethS (hg : Gl X x) (hm : X.mg x = some (.ref C)) (Sm : SMet X.K C m pr g) (F : FnOk X.prog X.w X.K X.mg X.base CX k g fd ps sp) (hr : Room k X.A) (hk : PySem.W.keepIn X.K (.ref g) = true) (hb : Binds X.K fd ps []) (hx : ∀ σ, PassesAt CX X σ (E σ)) (ha : PA X (e :: es) t)
    (hd : (x == ("__debug__" : Str)) = false := by decide)
    (hc : eval (.Call (.Attribute (.Name x p1) m p2) (e :: es) [] pos) X.env = (do
      let ov ← eval (.Name x p1) X.env
      standAt p2.atName
      let (f, first) ← holding [ov] (getMethod ov m pl)
      callWith pos f first (backTo pos (starEach (e :: es) X.env)) (backToKw pos (keywordEach [] X.env))) := by rfl)
    (he : starEach (e :: es) X.env = (false, eval e X.env) :: starEach es X.env := by rfl) (hpl : (backTo pos (starEach es X.env)).any (·.1) = false := by rfl) :
    PE X (.Call (.Attribute (.Name x p1) m p2) (e :: es) [] pos) (tCallS sp E t) := by
  refine ⟨fun pins s σ H Q I h => ?_⟩
  refine PySem.W.methodCall_KW (ld_glob I hg hm ?_ hd) hc
  obtain ⟨mm, fr⟩ := I.fr
  obtain ⟨rest, hp⟩ := Sm.rc
  refine PySem.W.method_of_cls fr I.ok.mod.kin Sm.ga ?_
  refine PySem.W.cls_sm fr I.ok.mod.kin Sm.ty Sm.rd Sm.at_ hp rfl ?_
  show wpAny _ _ (callWith pos (Value.ref g) [] (backTo pos (starEach (e :: es) X.env)) []) _ _ _
  refine PySem.W.callWith_K (h₀ := X.base) I.ok.mod.kin hk (thn (ha.run pos pins _ σ H _ (I.tok _) h) fun us s1 ⟨vs, H1, I1, r, q⟩ => ⟨I1.kIn, ?_⟩) he hpl
  exact run_fnS F hr hb (hx σ) I1 r q
theorem pe_smeth (hg : Gl X x) (hm : X.mg x = some (.ref C)) (Sm : SMet X.K C m pr g) (F : FnOk X.prog X.w X.K X.mg X.base CX k g fd ps sp) (hr : Room k X.A) (hk : PySem.W.keepIn X.K (.ref g) = true) (hb : Binds X.K fd ps []) (hx : Passes CX X E0) (ha : PA X (e :: es) t)
    (hd : (x == ("__debug__" : Str)) = false := by decide)
    (hc : eval (.Call (.Attribute (.Name x p1) m p2) (e :: es) [] pos) X.env = (do
      let ov ← eval (.Name x p1) X.env
      standAt p2.atName
      let (f, first) ← holding [ov] (getMethod ov m pl)
      callWith pos f first (backTo pos (starEach (e :: es) X.env)) (backToKw pos (keywordEach [] X.env))) := by rfl)
    (he : starEach (e :: es) X.env = (false, eval e X.env) :: starEach es X.env := by rfl) (hpl : (backTo pos (starEach es X.env)).any (·.1) = false := by rfl) :
    PE X (.Call (.Attribute (.Name x p1) m p2) (e :: es) [] pos) (tCall sp [] E0 t) := by
  refine ⟨fun pins s σ H Q I h => ?_⟩
  refine PySem.W.methodCall_KW (ld_glob I hg hm ?_ hd) hc
  obtain ⟨mm, fr⟩ := I.fr
  obtain ⟨rest, hp⟩ := Sm.rc
  refine PySem.W.method_of_cls fr I.ok.mod.kin Sm.ga ?_
  refine PySem.W.cls_sm fr I.ok.mod.kin Sm.ty Sm.rd Sm.at_ hp rfl ?_
  show wpAny _ _ (callWith pos (Value.ref g) [] (backTo pos (starEach (e :: es) X.env)) []) _ _ _
  refine PySem.W.callWith_K (h₀ := X.base) I.ok.mod.kin hk (thn (ha.run pos pins _ σ H _ (I.tok _) h) fun us s1 ⟨vs, H1, I1, r, q⟩ => ⟨I1.kIn, ?_⟩) he hpl
  exact run_fn F hr hb .nil hx I1 r q
end
end L2
namespace Mr
open PySem PySem.Spec PyProof.Rows L2
def smB (x m : Str) : FrT := fun K => He.eqO (PySem.W.specialIn K (.ref (He.ga K x)) "__getattribute__") (some (some (.builtin "type.__getattribute__"))) && (decide (PySem.W.typeIn K (.ref (He.ga K x)) = some (.type "type")) &&
  (PySem.W.readsIn K (He.ga K x) (.type "type") && He5.wrapB K (He.ga K x) "staticmethod" "staticmethod.__get__" m))
theorem smB_ok {x m : Str} {K : PySem.W.Frag} (h : smB x m K = true) : SMet K (He.ga K x) m (He.ma K (He.ga K x) m) (He5.wf K (He.ga K x) "staticmethod" m) := by
  obtain ⟨h1, h⟩ := He.ba h
  obtain ⟨h2, h⟩ := He.ba h
  obtain ⟨h3, h4⟩ := He.ba h
  obtain ⟨h5, h6⟩ := He5.wrapB_ok h4
  exact ⟨He.eqO_ok h1, of_decide_eq_true h2, h3, h5, h6⟩
theorem gCallS {sp : Sp} {E : L2.St → XK} {t : TA} {σ : L2.St} {H : Hp} {Q : VK} (h : t σ H fun vs H1 => sp vs H1 Q (E σ)) : tCallS sp E t σ H Q := h
end Mr

set_option Elab.async false
set_option linter.all false
set_option maxRecDepth 100000
/-! the methods of Page, as they stand in this law's program: their texts, facts, promises -/
namespace Mr
open PySem PySem.Spec PyProof.Rows L2
def clsM (i : Nat) (s : Stmt) : Stmt := match s with
  | .ClassDef _ _ _ body _ _ _ _ _ _ _ => body.getD i (.Pass ⟨0, 0, 0, 0⟩)
  | s => s
def s_Page_stay : Stmt := clsM 2 (top 13)
def s_Page_begin : Stmt := clsM 5 (top 13)
def s_Page_go_over : Stmt := clsM 3 (top 13)
def s_Page_line : Stmt := clsM 4 (top 13)
def s_Page_block : Stmt := clsM 6 (top 13)
def s_Page_finish : Stmt := clsM 11 (top 13)
def s_Page_init : Stmt := clsM 0 (top 13)
def s_Page_resumed : Stmt := clsM 1 (top 13)
abbrev mPg (K : PySem.W.Frag) (m : Str) : Addr := He.fAd K ("Page", some m)
structure PgT (K : PySem.W.Frag) (mg : Str → Option Value) where
  c : Cls K (cPg K)
  n_length : NoAttr K (cPg K) "length"
  n_put_lines : NoAttr K (cPg K) "put_lines"
  n_loose : NoAttr K (cPg K) "loose"
  n_high : NoAttr K (cPg K) "high"
  n_is_barred : NoAttr K (cPg K) "is_barred"
  n_unknown : NoAttr K (cPg K) "unknown"
  fd_stay : FuncData
  F_stay : FunD K "stay" "Page.stay" (defArgs s_Page_stay) (defBody s_Page_stay) (defScope s_Page_stay) [] [] (mPg K "stay") fd_stay
  m_stay : Meth K (cPg K) "stay" (mPg K "stay")
  b_stay : Binds K fd_stay ["self"] []
  fd_begin : FuncData
  F_begin : FunD K "begin" "Page.begin" (defArgs s_Page_begin) (defBody s_Page_begin) (defScope s_Page_begin) [] [] (mPg K "begin") fd_begin
  m_begin : Meth K (cPg K) "begin" (mPg K "begin")
  b_begin : Binds K fd_begin ["self"] []
  fd_go_over : FuncData
  F_go_over : FunD K "go_over" "Page.go_over" (defArgs s_Page_go_over) (defBody s_Page_go_over) (defScope s_Page_go_over) [] [] (mPg K "go_over") fd_go_over
  m_go_over : Meth K (cPg K) "go_over" (mPg K "go_over")
  b_go_over : Binds K fd_go_over ["self"] []
  fd_line : FuncData
  F_line : FunD K "line" "Page.line" (defArgs s_Page_line) (defBody s_Page_line) (defScope s_Page_line) [] [] (mPg K "line") fd_line
  m_line : Meth K (cPg K) "line" (mPg K "line")
  b_line : Binds K fd_line ["self", "space", "is_barred"] []
  fd_block : FuncData
  F_block : FunD K "block" "Page.block" (defArgs s_Page_block) (defBody s_Page_block) (defScope s_Page_block) [] [("space", .int 0), ("kept", .bl false), ("page", .bl false)] (mPg K "block") fd_block
  m_block : Meth K (cPg K) "block" (mPg K "block")
  z_range : mg "range" = none
  fd_finish : FuncData
  F_finish : FunD K "finish" "Page.finish" (defArgs s_Page_finish) (defBody s_Page_finish) (defScope s_Page_finish) [] [] (mPg K "finish") fd_finish
  m_finish : Meth K (cPg K) "finish" (mPg K "finish")
  b_finish : Binds K fd_finish ["self"] []
  fd_init : FuncData
  F_init : FunD K "__init__" "Page.__init__" (defArgs s_Page_init) (defBody s_Page_init) (defScope s_Page_init) [] [] (mPg K "__init__") fd_init
  b_init : Binds K fd_init ["self", "length"] []
  mkr : Mk K (cPg K) (mPg K "__init__")
  g_Page : mg "Page" = some (.ref (cPg K))
  fd_resumed : FuncData
  F_resumed : FunD K "resumed" "Page.resumed" (defArgs s_Page_resumed) (defBody s_Page_resumed) (defScope s_Page_resumed) [] [] (He5.wf K (cPg K) "staticmethod" "resumed") fd_resumed
  s_resumed : SMet K (cPg K) "resumed" (He.ma K (cPg K) "resumed") (He5.wf K (cPg K) "staticmethod" "resumed")
  b_resumed : Binds K fd_resumed ["length", "standing"] []
/-- a method that leaves None and the page as f says -/
def spPg0 (K : PySem.W.Frag) (f : Px → Px) : Sp := fun vs H Q _ => ∃ (G : Hp) (O B : Own) (v : V) (st : Px), vs = [v] ∧ Sub G (B ++ O) H ∧ PgR (cPg K) B v st ∧
  ∀ (G' H' : Hp) (B' : Own), Ext G G' → Sub G' (B' ++ O) H' → PgR (cPg K) B' v (f st) → Q .non H'
def spPgX (K : PySem.W.Frag) (f : Px → Option Px) : Sp := fun vs H Q _ => ∃ (G : Hp) (O B : Own) (v : V) (st : Px), vs = [v] ∧ Sub G (B ++ O) H ∧ PgR (cPg K) B v st ∧ ∃ st', f st = some st' ∧
  ∀ (G' H' : Hp) (B' : Own), Ext G G' → Sub G' (B' ++ O) H' → PgR (cPg K) B' v st' → Q .non H'
def spPgL (K : PySem.W.Frag) : Sp := fun vs H Q _ => ∃ (G : Hp) (O B : Own) (v : V) (sp : Int) (b : Bool) (st : Px), vs = [v, .int sp, .bl b] ∧ Sub G (B ++ O) H ∧ PgR (cPg K) B v st ∧ ∃ st', st.line sp b = some st' ∧
  ∀ (G' H' : Hp) (B' : Own), Ext G G' → Sub G' (B' ++ O) H' → PgR (cPg K) B' v st' → Q .non H'
def spPgK (K : PySem.W.Frag) : Sp := fun vs H Q _ => ∃ (G : Hp) (O B : Own) (v : V) (count sp : Int) (kept page : Bool) (st : Px), vs = [v, .int count, .int sp, .bl kept, .bl page] ∧ Sub G (B ++ O) H ∧ PgR (cPg K) B v st ∧ ∃ st', st.block count sp kept page = some st' ∧
  ∀ (G' H' : Hp) (B' : Own), Ext G G' → Sub G' (B' ++ O) H' → PgR (cPg K) B' v st' → Q .non H'
def spPgI (K : PySem.W.Frag) : Sp := fun vs H Q _ => ∃ (G : Hp) (O : Own) (a dx : Addr) (len : Int), vs = [.ref a, .int len] ∧ Sub G ((a, .ins (cPg K) dx []) :: O) H ∧
  ∀ (G' H' : Hp) (B' : Own), Ext G G' → Sub G' (B' ++ O) H' → PgR (cPg K) B' (.ref a) (Px.new len) → Q .non H'
def spPgO (K : PySem.W.Frag) (f : Px → Option (List (Bool × Int))) : Sp := fun vs H Q _ => ∃ (G : Hp) (O B : Own) (p : Addr) (st : Px), vs = [.ref p] ∧ Sub G (B ++ O) H ∧ PgR (cPg K) B (.ref p) st ∧ ∃ res, f st = some res ∧
  ∀ (l : Addr) (w : List V) (G' H' : Hp), Ext G G' → Sub G' ((l, .lst w) :: (B ++ O)) H' → Al (rP2 K rBool rInt) G' w res → Q (.ref l) H'
/-- a method that tells a value -/
def spPgV (K : PySem.W.Frag) {α : Type} (r : R α) (f : Px → Option α) : Sp := fun vs H Q _ => ∃ (G : Hp) (O B : Own) (p : Addr) (st : Px), vs = [.ref p] ∧ Sub G (B ++ O) H ∧ PgR (cPg K) B (.ref p) st ∧ ∃ res, f st = some res ∧
  ∀ (u : V) (G' H' : Hp), Ext G G' → Sub G' (B ++ O) H' → r.rel G' u res → Q u H'
theorem gMeth {C : Addr} {m : Str} {sp : Sp} {dvs : List V} {E : XK} {ta : TE} {t : TA} {σ : L2.St} {H : Hp} {Q : VK} (h : ta σ H fun x H1 => ∃ a dx fs, x = .ref a ∧ H1 a = some (.ins C dx fs) ∧ fs.lookup m = none ∧ t σ H1 fun vs H2 => sp (x :: (vs ++ dvs)) H2 Q E) : tMeth C m sp dvs E ta t σ H Q := h
section
variable {ta tv : TE} {σ : L2.St} {H : Hp} {Q : VK} {D : Ends} {K : PySem.W.Frag} {f : Str} {tr : TS}
theorem gFld (h : ta σ H fun x H1 => ∃ a C dx fs v, x = .ref a ∧ H1 a = some (.ins C dx fs) ∧ Cls K C ∧ NoAttr K C f ∧ fs.lookup f = some v ∧ Q v H1) : tFld K ta f σ H Q := h
theorem gSFld (h : tv σ H fun y H1 => ta σ H1 fun x H2 => ∃ a C dx fs, x = .ref a ∧ H2 a = some (.ins C dx fs) ∧ Cls K C ∧ NoAttr K C f ∧ fs.length < 1000 ∧ D.nx σ (upd H2 a (.ins C dx (putF f y fs)))) : sFld K ta tv f D σ H := h
theorem gS_SFld (h : tv σ H fun y H1 => ta σ H1 fun x H2 => ∃ a C dx fs, x = .ref a ∧ H2 a = some (.ins C dx fs) ∧ Cls K C ∧ NoAttr K C f ∧ fs.length < 1000 ∧ tr D σ (upd H2 a (.ins C dx (putF f y fs)))) : tSeq (sFld K ta tv f) tr D σ H := h
end
theorem pgF_len {len : Int} {pl lo : Addr} {high : Int} {bar : Bool} {unk : Option Bool} : (pgF len pl lo high bar unk).length < 1000 := by show 6 < 1000; decide
theorem pg_recv {K : PySem.W.Frag} {m : Str} {G H : Hp} {O B : Own} {p : Addr} {st : Px} (hm : (pgF 0 0 0 0 false none).all (fun p => p.1 != m) = true) (S : Sub G (B ++ O) H) (hp : PgR (cPg K) B (.ref p) st) : ∃ dx fs, H p = some (.ins (cPg K) dx fs) ∧ fs.lookup m = none := by
  obtain ⟨a, dx, pl, lo, ad, h, rfl, _⟩ := hp
  cases h
  refine ⟨dx, _, S.head, ?_⟩
  simp only [pgF, List.all_cons, List.all_nil, Bool.and_true, Bool.and_eq_true, bne_iff_ne, ne_eq] at hm
  obtain ⟨h1, h2, h3, h4, h5, h6⟩ := hm
  have f : ∀ {x : Str}, ¬ x = m → (m == x) = false := fun h => beq_eq_false_iff_ne.mpr fun e => h e.symm
  simp only [pgF, List.lookup, f h1, f h2, f h3, f h4, f h5, f h6]
theorem pg_ins {K : PySem.W.Frag} {G H : Hp} {O B : Own} {p : Addr} {st : Px} (S : Sub G (B ++ O) H) (hp : PgR (cPg K) B (.ref p) st) : ∃ dx fs, H p = some (.ins (cPg K) dx fs) ∧ fs.lookup ("length" : Str) = some (.int st.len) := by
  obtain ⟨a, dx, pl, lo, ad, h, rfl, _⟩ := hp
  cases h
  exact ⟨dx, _, S.head, pg_length⟩
def mkMk (C : Addr) (sp : Sp) (E : XK) (vs : List V) (H1 : Hp) (Q : VK) : Prop := ∀ x dx, H1 x = none → H1 dx = none → dx ≠ x → sp (.ref x :: vs) (upd (upd H1 dx (.own x)) x (.ins C dx [])) (fun v H2 => v = .non ∧ Q (.ref x) H2) E
theorem gMake {C : Addr} {sp : Sp} {dvs : List V} {E : XK} {t : TA} {σ : L2.St} {H : Hp} {Q : VK} (h : t σ H fun vs H1 => mkMk C sp E (vs ++ dvs) H1 Q) : tMake C sp dvs E t σ H Q := h
theorem q_newPg {K : PySem.W.Frag} {G H : Hp} {O : Own} {len : Int} {Q : VK} {E : XK} (S : Sub G O H) (q : ∀ (x : Addr) (G' H' : Hp) (B : Own), Ext G G' → Sub G' (B ++ O) H' → PgR (cPg K) B (.ref x) (Px.new len) → Q (.ref x) H') :
    mkMk (cPg K) (spPgI K) E ([.int len] ++ []) H Q := by
  intro x dx hx hd hn
  have S1 : Sub G O (upd H dx (.own x)) := S.junk hd
  have hx1 : upd H dx (.own x) x = none := by rw [upd_ne (Ne.symm hn)]; exact hx
  exact ⟨G, O, x, dx, len, rfl, S1.newOwn hx1, fun G' H' B' e S' hp => ⟨rfl, q x G' H' B' e S' hp⟩⟩
end Mr

set_option Elab.async false
set_option linter.all false
set_option maxRecDepth 100000
/-! MethKw: o.m(e, .., k = v, ..). -/
namespace Mr
open PySem PySem.Spec PyProof.Rows L2
section
variable {X : Cx} {CX : CXT} {k n : Nat} {f C : Addr} {fd : FuncData} {ps ks : List Str} {sp : Sp} {E : XK} {m : Str} {apos pos : Pos} {o e : Expr} {es : List Expr} {kws : List Keyword} {ta : TE} {t tk : TA} {g : List Value → List Value → List Value} {gV : List V → List V → List V}
def tMethN (C : Addr) (m : Str) (n l : Nat) (sp : Sp) (gV : List V → List V → List V) (E : XK) (ta : TE) (t tk : TA) : TE := fun σ H Q => ta σ H fun x H1 => ∃ a dx fs, x = .ref a ∧ H1 a = some (.ins C dx fs) ∧ fs.lookup m = none ∧
  t σ H1 fun vs H2 => tk σ H2 fun zs H3 => (x :: vs).length = n ∧ zs.length = l ∧ sp (gV (x :: vs) zs) H3 Q E
theorem pe_methN {pl : Sem Bool} (he : PE X o ta) (c : Cls X.K C) (hm : Meth X.K C m f) (F : FnOk X.prog X.w X.K X.mg X.base CX k f fd ps sp) (hr : Room k X.A) (hb : KBn X.K fd ps n ks g gV) (hx : Passes CX X E) (ha : PA X (e :: es) t) (hkw : PK X kws tk)
    (hall : (backToKw pos (keywordEach kws X.env)).all (·.1.isSome) = true := by rfl) (hks : (backToKw pos (keywordEach kws X.env)).filterMap (·.1) = ks := by rfl) (hst : starEach (e :: es) X.env = (false, eval e X.env) :: starEach es X.env := by rfl)
    (hpl : ((backTo pos (starEach (e :: es) X.env)).any (·.1) || (backToKw pos (keywordEach kws X.env)).any (·.1.isNone)) = false := by rfl)
    (ht : eval (.Call (.Attribute o m apos) (e :: es) kws pos) X.env = (do
      let ov ← eval o X.env
      standAt apos.atName
      let (f, first) ← holding [ov] (getMethod ov m pl)
      callWith pos f first (backTo pos (starEach (e :: es) X.env)) (backToKw pos (keywordEach kws X.env))) := by rfl) :
    PE X (.Call (.Attribute o m apos) (e :: es) kws pos) (tMethN C m n ks.length sp gV E ta t tk) := by
  refine ⟨fun pins s σ H Q I h => ?_⟩
  refine PySem.W.methodCall_KW (pl := pl) (thn (he.run pins s σ H _ I h) fun u s1 ⟨x, H1, I1, rx, a, dx, fs, ex, ea, l, q⟩ => ?_) ht
  subst ex
  obtain rfl : u = Value.ref a := rx
  refine getmeth_ok I1 ea c hm l ?_
  refine PySem.W.callWith_KW (first := [.ref a]) (h₀ := X.base) I.ok.mod.kin hm.kp hall (thn (ha.run pos pins s1 σ H1 _ I1 q) fun us s2 ⟨vs, H2, I2, r, q2⟩ => ?_) hpl hst
  refine thn (hkw.run pos pins s2 σ H2 _ I2 q2) fun ws s3 ⟨zs, H3, I3, rz, l1, l2, q3⟩ => ⟨I3.kIn, ?_⟩
  rw [hks]
  exact run_fnN (us := .ref a :: us) (vs := .ref a :: vs) F hr hb hx I3 (.cons rfl r) rz l1 l2 q3
theorem gMethN {n l : Nat} {σ : L2.St} {H : Hp} {Q : VK} (h : ta σ H fun x H1 => ∃ a dx fs, x = .ref a ∧ H1 a = some (.ins C dx fs) ∧ fs.lookup m = none ∧ t σ H1 fun vs H2 => tk σ H2 fun zs H3 => (x :: vs).length = n ∧ zs.length = l ∧ sp (gV (x :: vs) zs) H3 Q E) : tMethN C m n l sp gV E ta t tk σ H Q := h
end
/-- all keywords are written -/
theorem kbn_all {K : PySem.W.Frag} {x qual : Str} {params : Arguments} {body : List Stmt} {scope : Scope} {kws : List (Str × V)} {f : Addr} {fd : FuncData} {ps : List Str} (F : FunD K x qual params body scope [] kws f fd) (n : Nat) (ks : List Str)
    (h : ∀ (kV doc pm : Value) (an : Option Addr) (cdv ct : Value) (us ws : List Value), us.length = n → ws.length = ks.length → bindArgs (PySem.W.fnOf x qual params body scope .none kV doc pm an cdv ct) ⟨us, ks.zip ws⟩ = pure (ps.zip (us ++ ws))) :
    KBn K fd ps n ks (fun us ws => us ++ ws) (fun vs zs => vs ++ zs) := by
  obtain ⟨oc, od, dV, kV, doc, pm, an, cdv, ct, osl, rfl, lk, hcd, hD, hK⟩ := F.ex
  rcases hD with ⟨_, rfl⟩ | ⟨e, _⟩
  · exact ⟨fun s us ws X l1 l2 => .of_eq (h kV doc pm an cdv ct us ws l1 l2), fun r1 r2 => r1.append r2⟩
  · exact absurd rfl e
end Mr

set_option Elab.async false
set_option linter.all false
set_option maxRecDepth 100000
namespace Mr
open PySem PySem.Spec PyProof.Rows L2
theorem kb_block {K : PySem.W.Frag} {mg : Str → Option Value} (T : PgT K mg) : KBn K T.fd_block ["self", "count", "space", "kept", "page"] 2 ["space", "kept", "page"] (fun us ws => us ++ ws) (fun vs zs => vs ++ zs) :=
  kbn_all T.F_block 2 _ fun _ _ _ _ _ _ us ws h1 h2 => match us, ws, h1, h2 with | [_, _], [_, _, _], _, _ => rfl
/-- block(count): the keywords' defaults -/
theorem bds_block {K : PySem.W.Frag} {mg : Str → Option Value} (T : PgT K mg) : ∃ ds, Vals [.int 0, .bl false, .bl false] ds ∧ Binds K T.fd_block ["self", "count", "space", "kept", "page"] ds :=
  T.F_block.binds0 2 (by simp) rfl fun D doc pm an cdv ct us ks h1 h2 => match us, ks, h1, h2 with
    | [_, _], [_, _, _], _, _ => ⟨_, _, _, _, _, _, rfl, rfl, _, _, _, _, _, _, rfl, rfl, _, _, _, _, _, _, rfl, rfl, rfl⟩
end Mr

set_option Elab.async false
set_option linter.all false
set_option maxRecDepth 100000
set_option maxHeartbeats 2000000
namespace Mr
open PySem PySem.Spec PyProof.Rows L2
section
variable {P : Program} {w : World} {K : PySem.W.Frag} {mg : Str → Option Value} {base : Heap}
theorem sc_Page_stay : FnScope ["self"] ["self"] (defScope s_Page_stay) := ⟨rfl, rfl, rfl, by decide +kernel, rfl, by decide +kernel, by decide +kernel⟩
theorem ok_Page_stay (T : PgT K mg) : FnOk P w K mg base CX0 1 (mPg K "stay") T.fd_stay ["self"] (spPg0 K Px.stay) := by
  refine T.F_stay.ok sc_Page_stay (fun vs H Q E h => ?_) (fun cdv A outer s H0 vs Q E hr h => ?_)
  · obtain ⟨G, O, B, v, st, rfl, _⟩ := h
    rfl
  · obtain ⟨G0, O, B, v, st, rfl, S0, hp, q⟩ := h
    obtain ⟨a, dx, pl, lo, ad, rfl, rfl, hl, hn, hg⟩ := hp
    refine ⟨_, PSs.nox (pss_cons (ps_fld (pv 0) (pe_lst pa_nil) rfl)
      (pss_one (ps_if (pt_cmpR op_isNon (pe_fld (pv 0) rfl) pe_non (nomark _)) (pss_one (ps_fld (pv 0) pe_bl rfl)) pss_nil))), ?_⟩
    refine gS_SFld ?_
    refine gLst ?_
    refine gNil' ?_
    refine ⟨sz0, fun p np => ?_⟩
    have S1 : Sub G0 ((p, .lst []) :: (a, .ins (cPg K) dx (pgF st.len pl lo st.high st.bar st.unk)) :: (pl, .lst ((ad.drop st.gh).map V.ref)) :: (lo, .lst (los ad st.nl)) :: (rg ad st.es ++ O)) (upd H0 p (.lst [])) := S0.newOwn np
    refine gV rfl ?_
    have S2 := S1.front 1 rfl rfl
    refine ⟨a, _, dx, _, rfl, S2.head, T.c, T.n_loose, pgF_len, ?_⟩
    rw [pgp_loose]
    have S3 := S2.wr (o' := .ins (cPg K) dx (pgF st.len pl p st.high st.bar st.unk))
    refine gIfS ?_
    refine gTest ?_
    refine gOp ?_
    refine gFld ?_
    refine gV rfl ?_
    refine ⟨a, _, dx, _, _, rfl, S3.head, T.c, T.n_unknown, pg_unk, ?_⟩
    refine gC ?_
    have hu : (rO rBool).rel G0 (unkV st.unk) st.unk := unk_rel st.unk
    refine q_isNon hu ?_
    refine ⟨st.unk.isNone, rfl, ?_⟩
    have hend : ∀ H1, Sub G0 ((a, .ins (cPg K) dx (pgF st.len pl p st.high st.bar (some (st.unk.getD false)))) :: (p, .lst []) :: (pl, .lst ((ad.drop st.gh).map V.ref)) :: (lo, .lst (los ad st.nl)) :: (rg ad st.es ++ O)) H1 → Q .non H1 := by
      intro H1 S3
      have S4 : Sub G0 ((pl, .lst ((ad.drop st.gh).map V.ref)) :: (a, .ins (cPg K) dx (pgF st.len pl p st.high st.bar (some (st.unk.getD false)))) :: (p, .lst []) :: (rg ad st.es ++ O)) _ := (S3.front 3 rfl rfl).tail.front 2 rfl rfl
      have S5 := S4.front 1 rfl rfl
      refine q G0 _ (pgB (cPg K) a dx pl p ad st.stay) (Ext.refl _) ?_ ⟨a, dx, pl, p, ad, rfl, rfl, hl, Nat.zero_le _, hg⟩
      have e : los ad 0 = [] := by simp [los]
      show Sub G0 ((a, .ins (cPg K) dx (pgF st.len pl p st.high st.bar (some (st.unk.getD false)))) :: (pl, .lst ((ad.drop st.gh).map V.ref)) :: (p, .lst (los ad 0)) :: (rg ad st.es ++ O)) _
      rw [e]
      exact S5
    refine ite2 (fun c1 => ?_) (fun c1 => ?_)
    · have hn1 : st.unk = none := Option.isNone_iff_eq_none.mp c1
      refine gSFld ?_
      refine gC ?_
      refine gV rfl ?_
      refine ⟨a, _, dx, _, rfl, S3.head, T.c, T.n_unknown, pgF_len, ?_⟩
      rw [show (V.bl false) = unkV (some false) from rfl, pgp_unk]
      have S4 := S3.wr (o' := .ins (cPg K) dx (pgF st.len pl p st.high st.bar (some false)))
      refine hend _ ?_
      rw [show st.unk.getD false = false by rw [hn1]; rfl]
      exact S4
    · have hn1 : some (st.unk.getD false) = st.unk := by
        cases h : st.unk with
        | none => rw [h] at c1; exact absurd rfl c1
        | some b => rfl
      refine gNext ?_
      refine hend _ ?_
      rw [hn1]
      exact S3
end
end Mr

set_option Elab.async false
set_option linter.all false
set_option maxRecDepth 100000
set_option maxHeartbeats 2000000
namespace Mr
open PySem PySem.Spec PyProof.Rows L2
section
variable {P : Program} {w : World} {K : PySem.W.Frag} {mg : Str → Option Value} {base : Heap}
theorem sc_Page_begin : FnScope ["self"] ["self"] (defScope s_Page_begin) := ⟨rfl, rfl, rfl, by decide +kernel, rfl, by decide +kernel, by decide +kernel⟩
theorem ok_Page_begin (T : PgT K mg) : FnOk P w K mg base CX0 2 (mPg K "begin") T.fd_begin ["self"] (spPg0 K Px.begin) := by
  refine T.F_begin.ok sc_Page_begin (fun vs H Q E h => ?_) (fun cdv A outer s H0 vs Q E hr h => ?_)
  · obtain ⟨G, O, B, v, st, rfl, _⟩ := h
    rfl
  · obtain ⟨G0, O, B, v, st, rfl, S0, hp, q⟩ := h
    have hp0 := hp
    obtain ⟨a, dx, pl, lo, ad, rfl, rfl, hl, hn, hg⟩ := hp
    refine ⟨_, PSs.nox (pss_cons (ps_expr (pe_meth0 (pv 0) T.c T.m_stay (ok_Page_stay T) (hr.mono (by decide)) T.b_stay .nil pass0))
      (pss_cons (ps_fld (pv 0) pe_int rfl) (pss_one (ps_fld (pv 0) pe_bl rfl)))), ?_⟩
    refine gS_Drop ?_
    refine gMeth ?_
    refine gV rfl ?_
    refine ⟨a, dx, _, rfl, S0.head, rfl, ?_⟩
    refine gNil' ?_
    refine ⟨G0, O, _, .ref a, st, rfl, S0, hp0, fun G1 H1 B1 e1 S1 hp1 => ?_⟩
    obtain ⟨a', dx, pl, lo, ad, ha, rfl, hl, hn, hg⟩ := hp1
    cases ha
    refine gS_SFld ?_
    refine gC ?_
    refine gV rfl ?_
    refine ⟨a, _, dx, _, rfl, S1.head, T.c, T.n_high, pgF_len, ?_⟩
    rw [pgp_high]
    have S2 := S1.wr (o' := .ins (cPg K) dx (pgF st.len pl lo 0 st.bar (some (st.unk.getD false))))
    refine gSFld ?_
    refine gC ?_
    refine gV rfl ?_
    refine ⟨a, _, dx, _, rfl, S2.head, T.c, T.n_is_barred, pgF_len, ?_⟩
    rw [pgp_bar]
    have S3 := S2.wr (o' := .ins (cPg K) dx (pgF st.len pl lo 0 false (some (st.unk.getD false))))
    exact q G1 _ (pgB (cPg K) a dx pl lo ad st.begin) e1 S3 ⟨a, dx, pl, lo, ad, rfl, rfl, hl, hn, hg⟩
end
end Mr

set_option Elab.async false
set_option linter.all false
set_option maxRecDepth 100000
set_option maxHeartbeats 2000000
namespace Mr
open PySem PySem.Spec PyProof.Rows L2
section
variable {P : Program} {w : World} {K : PySem.W.Frag} {mg : Str → Option Value} {base : Heap}
theorem sc_Page_go_over : FnScope ["self", "shift", "line", "first"] ["self"] (defScope s_Page_go_over) := ⟨rfl, rfl, rfl, by decide +kernel, rfl, by decide +kernel, by decide +kernel⟩
theorem ok_Page_go_over (T : PgT K mg) : FnOk P w K mg base CX0 1 (mPg K "go_over") T.fd_go_over ["self"] (spPgX K Px.over) := by
  refine T.F_go_over.ok sc_Page_go_over (fun vs H Q E h => ?_) (fun cdv A outer s H0 vs Q E hr h => ?_)
  · obtain ⟨G, O, B, v, st, rfl, _⟩ := h
    rfl
  · obtain ⟨G0, O, B, v, st, rfl, S0, hp, st', hm, q⟩ := h
    obtain ⟨a, dx, pl, lo, ad, rfl, rfl, hl, hn, hg⟩ := hp
    unfold Px.over at hm
    obtain ⟨f, hf, hm⟩ := bindS hm
    have hnl : ¬ st.nl = 0 := by
      intro e
      rw [if_pos e] at hm
      cases hm
    rw [if_neg hnl] at hm
    cases hm
    have hkn : ad.length - st.nl = st.es.length - st.nl := by rw [hl]
    generalize hk : st.es.length - st.nl = k at hf q
    rw [hk] at hkn
    have hkl : k < ad.length := by omega
    obtain ⟨a0, ha0⟩ : ∃ a0, ad[k]? = some a0 := ⟨ad[k], List.getElem?_eq_getElem hkl⟩
    have hlos : los ad st.nl = (ad.drop k).map V.ref := by unfold los; rw [hkn]
    have hd0 : getM (ad.drop k) 0 = some a0 := by
      unfold getM ixM
      have : 0 < (ad.drop k).length := by rw [List.length_drop]; omega
      rw [if_pos (by omega), if_pos (by omega)]
      simpa using ha0
    refine ⟨_, PSs.nox (pss_cons (ps_set (i := 1) sc_Page_go_over.nd rfl (.inl rfl) (pe_ix ix_list (pe_ix ix_list (pe_fld (pv 0) rfl) pe_int (fun _ _ => rfl)) pe_int (fun _ _ => rfl)))
      (pss_cons (ps_cut (ps_for PassesOwn.never rfl (pi_list (pe_fld (pv 0) rfl)) (pg_name (i := 2) sc_Page_go_over.nd rfl (.inl rfl)) (pss_one (ps_asg (pe_op op_sub (pe_ix ix_list (pv 2) pe_int (fun _ _ => rfl)) (pv 1)) (pg_sub (pv 2) pe_int set_list)))))
      (pss_cons (ps_set (i := 3) sc_Page_go_over.nd rfl (.inl rfl) (pe_ix ix_list (pe_fld (pv 0) rfl) pe_int (fun _ _ => rfl)))
      (pss_cons (ps_asg pe_bl (pg_sub (pv 3) pe_int set_list))
      (pss_cons (ps_fld (pv 0) (pe_op op_sub (pe_fld (pv 0) rfl) (pv 1)) rfl)
      (pss_cons (ps_fld (pv 0) (pe_lst pa_nil) rfl)
      (pss_one (ps_if (pt_cmpR op_isNon (pe_fld (pv 0) rfl) pe_non (nomark _)) (pss_one (ps_fld (pv 0) pe_bl rfl)) pss_nil)))))))), ?_⟩
    have S1 : Sub G0 ([(a, .ins (cPg K) dx (pgF st.len pl lo st.high st.bar st.unk)), (pl, .lst ((ad.drop st.gh).map V.ref)), (lo, .lst ((ad.drop k).map V.ref))] ++ (rg ad st.es ++ O)) H0 := by
      rw [← hlos]; exact S0
    have L1 := S1.front 2 rfl rfl
    refine gS_AsgN ?_
    refine gOp ?_
    refine gOp ?_
    refine gFld ?_
    refine gV rfl ?_
    refine ⟨a, _, dx, _, _, rfl, S1.head, T.c, T.n_loose, pg_loose, ?_⟩
    refine gC ?_
    refine q_ixO L1 (r := rSc V.ref) Al.ofSc hd0 (fun v1 hv1 => ?_)
    obtain rfl := (show v1 = V.ref a0 from hv1)
    refine gC ?_
    refine ⟨a0, _, 1, .int f.2, rfl, rfl, .inl (.inl (rg_read S1 ha0 hf)), rfl, ?_⟩
    refine gS_CS (fun (σ : L2.St) (H : Hp) => ∃ x, σ = [some (.ref a), some (.int f.2), x, none] ∧ Sub G0 ([(a, .ins (cPg K) dx (pgF st.len pl lo st.high st.bar st.unk)), (pl, .lst ((ad.drop st.gh).map V.ref)), (lo, .lst ((ad.drop k).map V.ref))] ++ (rg ad (shI k st.nl st.es f.2) ++ O)) H) ?_ ?_
    · refine gFor ?_
      refine gIL ?_
      refine gFld ?_
      refine gV rfl ?_
      refine ⟨a, _, dx, _, _, rfl, S1.head, T.c, T.n_loose, pg_loose, ?_⟩
      refine ⟨lo, rfl, ⟨_, .inl (.inl L1.head)⟩, ?_⟩
      have hln : ((ad.drop k).map V.ref).length = st.nl := by rw [List.length_map, List.length_drop]; omega
      refine for_it (walk_list (xs := (ad.drop k).map V.ref)) (fun i σ H => ∃ x, σ = [some (.ref a), some (.int f.2), x, none] ∧ Sub G0 ([(a, .ins (cPg K) dx (pgF st.len pl lo st.high st.bar st.unk)), (pl, .lst ((ad.drop st.gh).map V.ref)), (lo, .lst ((ad.drop k).map V.ref))] ++ (rg ad (shI k i st.es f.2) ++ O)) H)
        ⟨none, rfl, by rw [shI_zero]; exact S1⟩ (fun i σ H _ ⟨x, _, Si⟩ => .inl (.inl (Si.front 2 rfl rfl).head)) (fun i v σ H H' hi ⟨x, hσ, Si⟩ hY => ?_) (fun σ H ⟨x, hσ, Si⟩ => ?_)
      · obtain ⟨rfl, hw⟩ := hY
        subst hσ
        rw [hln] at hi
        have hki : k + i < ad.length := by omega
        obtain ⟨ai, hai⟩ : ∃ ai, ad[k + i]? = some ai := ⟨ad[k + i], List.getElem?_eq_getElem hki⟩
        obtain ⟨e, he⟩ : ∃ e, st.es[k + i]? = some e := ⟨st.es[k + i]'(by omega), List.getElem?_eq_getElem (by omega)⟩
        have hv : v = V.ref ai := by
          rw [List.getElem?_map, List.getElem?_drop, hai] at hw
          exact (Option.some.inj hw).symm
        subst hv
        have hsi := shI_at (sh := f.2) he
        refine gAsg ?_
        refine gOp ?_
        refine gOp ?_
        refine gV rfl ?_
        refine gC ?_
        refine ⟨ai, _, 1, .int e.2, rfl, rfl, .inl (.inl (rg_read Si hai hsi)), rfl, ?_⟩
        refine gV rfl ?_
        refine ⟨_, _, rfl, rfl, ?_⟩
        refine gSub' ?_
        refine gV rfl ?_
        refine gC ?_
        refine ⟨ai, _, 1, 1, rfl, rfl, rg_read Si hai hsi, rfl, ?_⟩
        refine ⟨some (V.ref ai), rfl, ?_⟩
        have Sj := rg_wr (e' := (e.1, e.2 - f.2)) Si hai hsi
        rw [shI_succ he] at Sj
        exact Sj
      · rw [hln] at Si
        exact ⟨x, hσ, Si⟩
    · rintro σ H ⟨x, rfl, S2⟩
      have hes : (shI k st.nl st.es f.2)[k]? = some (f.1, f.2 - f.2) := by
        unfold shI
        rw [List.getElem?_mapIdx, hf]
        have : k ≤ k ∧ k < k + st.nl := by omega
        simp [this]
      have L2 := S2.front 2 rfl rfl
      refine gS_AsgN ?_
      refine gOp ?_
      refine gFld ?_
      refine gV rfl ?_
      refine ⟨a, _, dx, _, _, rfl, S2.head, T.c, T.n_loose, pg_loose, ?_⟩
      refine gC ?_
      refine q_ixO L2 (r := rSc V.ref) Al.ofSc hd0 (fun v1 hv1 => ?_)
      obtain rfl := (show v1 = V.ref a0 from hv1)
      refine gS_Asg ?_
      refine gC ?_
      refine gSub' ?_
      refine gV rfl ?_
      refine gC ?_
      refine ⟨a0, _, 0, 0, rfl, rfl, rg_read S2 ha0 hes, rfl, ?_⟩
      have S3 := rg_wr (e' := (true, f.2 - f.2)) S2 ha0 hes
      have e0 : f.2 - f.2 = 0 := by omega
      refine gS_SFld ?_
      refine gOp ?_
      refine gFld ?_
      refine gV rfl ?_
      refine ⟨a, _, dx, _, _, rfl, S3.head, T.c, T.n_high, pg_high, ?_⟩
      refine gV rfl ?_
      refine ⟨_, _, rfl, rfl, ?_⟩
      refine gV rfl ?_
      refine ⟨a, _, dx, _, rfl, S3.head, T.c, T.n_high, pgF_len, ?_⟩
      rw [pgp_high]
      have S4 := Sub.wr (o' := .ins (cPg K) dx (pgF st.len pl lo (st.high - f.2) st.bar st.unk)) S3
      refine gS_SFld ?_
      refine gLst ?_
      refine gNil' ?_
      refine ⟨sz0, fun p np => ?_⟩
      have S5 := S4.newOwn (o := .lst []) np
      refine gV rfl ?_
      have S6 := S5.front 1 rfl rfl
      refine ⟨a, _, dx, _, rfl, S6.head, T.c, T.n_loose, pgF_len, ?_⟩
      rw [pgp_loose]
      have S7 := S6.wr (o' := .ins (cPg K) dx (pgF st.len pl p (st.high - f.2) st.bar st.unk))
      refine gIfS ?_
      refine gTest ?_
      refine gOp ?_
      refine gFld ?_
      refine gV rfl ?_
      refine ⟨a, _, dx, _, _, rfl, S7.head, T.c, T.n_unknown, pg_unk, ?_⟩
      refine gC ?_
      refine q_isNon (unk_rel (G := G0) st.unk) ?_
      refine ⟨st.unk.isNone, rfl, ?_⟩
      have hend : ∀ H1, Sub G0 ((a, .ins (cPg K) dx (pgF st.len pl p (st.high - f.2) st.bar (some (st.unk.getD true)))) :: (p, .lst []) :: (pl, .lst ((ad.drop st.gh).map V.ref)) :: (lo, .lst ((ad.drop k).map V.ref)) :: (rg ad ((shI k st.nl st.es f.2).set k (true, f.2 - f.2)) ++ O)) H1 → Q .non H1 := by
        intro H1 S7
        have S8 := ((Sub.front S7 3 rfl rfl).tail.front 2 rfl rfl).front 1 rfl rfl
        have e1 : los ad 0 = [] := by simp [los]
        refine q G0 _ (pgB (cPg K) a dx pl p ad { st with es := (shI k st.nl st.es f.2).set k (true, 0), nl := 0, high := st.high - f.2, unk := some (st.unk.getD true) }) (Ext.refl _) ?_ ⟨a, dx, pl, p, ad, rfl, rfl, ?_, Nat.zero_le _, hg⟩
        · show Sub G0 ((a, .ins (cPg K) dx (pgF st.len pl p (st.high - f.2) st.bar (some (st.unk.getD true)))) :: (pl, .lst ((ad.drop st.gh).map V.ref)) :: (p, .lst (los ad 0)) :: (rg ad ((shI k st.nl st.es f.2).set k (true, 0)) ++ O)) _
          rw [e1, ← e0]
          exact S8
        · show ad.length = ((shI k st.nl st.es f.2).set k (true, 0)).length
          rw [List.length_set, shI_length]; exact hl
      refine ite2 (fun c1 => ?_) (fun c1 => ?_)
      · have hn1 : st.unk = none := Option.isNone_iff_eq_none.mp c1
        refine gSFld ?_
        refine gC ?_
        refine gV rfl ?_
        refine ⟨a, _, dx, _, rfl, S7.head, T.c, T.n_unknown, pgF_len, ?_⟩
        rw [show (V.bl true) = unkV (some true) from rfl, pgp_unk]
        have S8 := S7.wr (o' := .ins (cPg K) dx (pgF st.len pl p (st.high - f.2) st.bar (some true)))
        refine hend _ ?_
        rw [show st.unk.getD true = true by rw [hn1]; rfl]
        exact S8
      · have hn1 : some (st.unk.getD true) = st.unk := by
          cases h : st.unk with
          | none => rw [h] at c1; exact absurd rfl c1
          | some b => rfl
        refine gNext ?_
        refine hend _ ?_
        rw [hn1]
        exact S7
end
end Mr

set_option Elab.async false
set_option linter.all false
set_option maxRecDepth 100000
set_option maxHeartbeats 2000000
namespace Mr
open PySem PySem.Spec PyProof.Rows L2
section
variable {P : Program} {w : World} {K : PySem.W.Frag} {mg : Str → Option Value} {base : Heap}
theorem sc_Page_line : FnScope ["self", "space", "is_barred", "row", "entry"] ["self", "space", "is_barred"] (defScope s_Page_line) := ⟨rfl, rfl, rfl, by decide +kernel, rfl, by decide +kernel, by decide +kernel⟩
theorem ok_Page_line (T : PgT K mg) : FnOk P w K mg base CX0 2 (mPg K "line") T.fd_line ["self", "space", "is_barred"] (spPgL K) := by
  refine T.F_line.ok sc_Page_line (fun vs H Q E h => ?_) (fun cdv A outer s H0 vs Q E hr h => ?_)
  · obtain ⟨G, O, B, v, sp, b, st, rfl, _⟩ := h
    rfl
  · obtain ⟨G0, O, B, v, sp, b, st, rfl, S0, hp, st', hm, q⟩ := h
    have hp0 := hp
    obtain ⟨a, dx, pl, lo, ad, rfl, rfl, hl, hn, hg⟩ := hp
    refine ⟨_, PSs.nox (pss_cons (ps_cut (ps_if (pt_cut (PW.pt (pw_and (pt_cmpR op_gt (pe_fld (pv 0) rfl) pe_int (nomark _)) (pw_and (pt_cmpR op_ge (pe_op op_add (pe_fld (pv 0) rfl) (pv 1)) (pe_fld (pv 0) rfl) (nomark _)) (pw_and (pt_val (pv 2)) (pw_and1 (pt_cmpR (op_neD hr.units) (pe_fld (pv 0) rfl) (pe_lst pa_nil) (nomark _))))))))
        (pss_one (ps_expr (pe_meth0 (pv 0) T.c T.m_go_over (ok_Page_go_over T) (hr.mono (by decide)) T.b_go_over .nil pass0))) pss_nil))
      (pss_cons (ps_set (i := 3) sc_Page_line.nd rfl (.inl rfl) (pe_op op_add (pe_fld (pv 0) rfl) (pv 1)))
      (pss_cons (ps_cut (ps_if (pt_cut (PW.pt (pw_or (pt_cmpR op_eqI (pe_fld (pv 0) rfl) pe_int (nomark _)) (pw_or1 (pt_cmpR op_ge (pv 3) (pe_fld (pv 0) rfl) (nomark _))))))
        (pss_cons (ps_expr (pe_meth0 (pv 0) T.c T.m_stay (ok_Page_stay T) (hr.mono (by decide)) T.b_stay .nil pass0)) (pss_one (ps_set (i := 4) sc_Page_line.nd rfl (.inl rfl) (pe_lst (pa_cons pe_bl (pa_cons pe_int pa_nil))))))
        (pss_cons (ps_set (i := 4) sc_Page_line.nd rfl (.inl rfl) (pe_lst (pa_cons pe_bl (pa_cons (pv 3) pa_nil))))
        (pss_one (ps_if (pt_not (pt_val (pv 2))) (pss_cons (ps_expr (pe_meth0 (pv 0) T.c T.m_stay (ok_Page_stay T) (hr.mono (by decide)) T.b_stay .nil pass0)) (pss_one (ps_fld (pv 0) (pe_lst (pa_cons (pv 4) pa_nil)) rfl)))
          (pss_one (ps_if (pt_cmpR (op_neD hr.units) (pe_fld (pv 0) rfl) (pe_lst pa_nil) (nomark _)) (pss_one (ps_fld (pv 0) (pe_op op_cat (pe_fld (pv 0) rfl) (pe_lst (pa_cons (pv 4) pa_nil))) rfl)) pss_nil)))))))
      (pss_cons (ps_fld (pv 0) (pe_op op_add (pe_ix ix_list (pv 4) pe_int (fun _ _ => rfl)) pe_int) rfl)
      (pss_one (ps_expr (pe_bm PySem.F.plainAttrs_list PySem.F.slot_list_append PySem.F.type_list_append mt_append (pe_fld (pv 0) rfl) (pa_cons (pv 4) pa_nil)))))))), ?_⟩
    have hlos : los ad st.nl = (ad.drop (ad.length - st.nl)).map V.ref := rfl
    refine gS_CS (fun σ H => σ = [some (.ref a), some (.int sp), some (.bl b), none, none] ∧ ∃ G1 B1 st1, Ext G0 G1 ∧ Sub G1 (B1 ++ O) H ∧ PgR (cPg K) B1 (.ref a) st1 ∧ st1.put sp b = some st') ?_ ?_
    · refine gIfS ?_
      refine gCT (fun c H => c = decide (0 < st.high ∧ st.high + sp ≥ st.len ∧ b = true ∧ st.nl ≠ 0) ∧ Sub G0 (pgB (cPg K) a dx pl lo ad st ++ O) H) ?_ ?_
      · refine gAnd ?_
        refine gTest ?_
        refine gOp ?_
        refine gFld ?_
        refine gV rfl ?_
        refine ⟨a, _, dx, _, _, rfl, S0.head, T.c, T.n_high, pg_high, ?_⟩
        refine gC ?_
        refine ⟨_, _, rfl, rfl, decide (st.high > 0), rfl, ?_⟩
        refine ite2 (fun c1 => ?_) (fun c1 => ?_)
        · have c1' := of_decide_eq_true c1
          refine gAnd ?_
          refine gTest ?_
          refine gOp ?_
          refine gOp ?_
          refine gFld ?_
          refine gV rfl ?_
          refine ⟨a, _, dx, _, _, rfl, S0.head, T.c, T.n_high, pg_high, ?_⟩
          refine gV rfl ?_
          refine ⟨_, _, rfl, rfl, ?_⟩
          refine gFld ?_
          refine gV rfl ?_
          refine ⟨a, _, dx, _, _, rfl, S0.head, T.c, T.n_length, pg_length, ?_⟩
          refine ⟨_, _, rfl, rfl, decide (st.high + sp ≥ st.len), rfl, ?_⟩
          refine ite2 (fun c2 => ?_) (fun c2 => ?_)
          · have c2' := of_decide_eq_true c2
            refine gAnd ?_
            refine gB ?_
            refine gV rfl ?_
            refine ⟨b, rfl, ?_⟩
            refine ite2 (fun c3 => ?_) (fun c3 => ?_)
            · refine gTest ?_
              refine gOp ?_
              refine gFld ?_
              refine gV rfl ?_
              refine ⟨a, _, dx, _, _, rfl, S0.head, T.c, T.n_loose, pg_loose, ?_⟩
              refine gLst ?_
              refine gNil' ?_
              refine ⟨sz0, fun p np => ?_⟩
              have S1 : Sub G0 (pgB (cPg K) a dx pl lo ad st ++ O) (upd H0 p (.lst [])) := S0.junk np
              refine loose_ne (k := ad.length - st.nl) (X := [(a, .ins (cPg K) dx (pgF st.len pl lo st.high st.bar st.unk)), (pl, .lst ((ad.drop st.gh).map V.ref)), (lo, .lst (los ad st.nl))]) S1 (Sub.head (Sub.front S1 2 rfl rfl)) upd_same hl ?_
              refine ⟨_, rfl, ?_, S1⟩
              by_cases h0 : st.nl = 0
              · rw [decide_eq_false (by omega), decide_eq_false (by simp [h0])]
              · rw [decide_eq_true (by omega), decide_eq_true ⟨c1', c2', c3, h0⟩]
            · refine ⟨?_, S0⟩
              rw [decide_eq_false (by simp [c3])]
          · refine ⟨?_, S0⟩
            have : ¬ st.high + sp ≥ st.len := fun e => c2 (decide_eq_true e)
            rw [decide_eq_false (fun e => this e.2.1)]
        · refine ⟨?_, S0⟩
          have : ¬ st.high > 0 := fun e => c1 (decide_eq_true e)
          rw [decide_eq_false (fun e => this e.1)]
      · rintro c H ⟨rfl, S1⟩
        unfold Px.line at hm
        refine ite2 (fun c1 => ?_) (fun c1 => ?_)
        · rw [if_pos (of_decide_eq_true c1)] at hm
          obtain ⟨st1, ho, hm⟩ := bindS hm
          refine gDrop ?_
          refine gMeth ?_
          refine gV rfl ?_
          refine ⟨a, dx, _, rfl, S1.head, rfl, ?_⟩
          refine gNil' ?_
          exact ⟨G0, O, _, .ref a, st, rfl, S1, hp0, st1, ho, fun G1 H1 B1 e1 S2 hp1 => ⟨rfl, G1, B1, st1, e1, S2, hp1, hm⟩⟩
        · rw [if_neg (fun e => c1 (decide_eq_true e))] at hm
          refine gNext ?_
          exact ⟨rfl, G0, _, st, Ext.refl _, S1, hp0, hm⟩
    · rintro σ H ⟨rfl, G1, B1, st1, e1, S1, hp1, hm1⟩
      have hp1' := hp1
      obtain ⟨a', dx, pl, lo, ad, ha, rfl, hl, hn, hg⟩ := hp1
      cases ha
      unfold Px.put at hm1
      have hlt : st1.es.length < 100000 := by
        by_cases h : st1.es.length < 100000
        · exact h
        · rw [if_neg h] at hm1; cases hm1
      rw [if_pos hlt] at hm1
      refine gS_AsgN ?_
      refine gOp ?_
      refine gFld ?_
      refine gV rfl ?_
      refine ⟨a, _, dx, _, _, rfl, S1.head, T.c, T.n_high, pg_high, ?_⟩
      refine gV rfl ?_
      refine ⟨_, _, rfl, rfl, ?_⟩
      refine gS_CS (fun σ H => ∃ (G2 : Hp) (dx pl lo : Addr) (ad : List Addr) (e0 : Addr) (e : Bool × Int) (nl : Nat) (u : Option Bool), Ext G0 G2 ∧ σ = [some (.ref a), some (.int sp), some (.bl b), some (.int (st1.high + sp)), some (.ref e0)] ∧
        Sub G2 ((e0, cel e) :: (a, .ins (cPg K) dx (pgF st1.len pl lo st1.high st1.bar u)) :: (pl, .lst ((ad.drop st1.gh).map V.ref)) :: (lo, .lst (los (ad ++ [e0]) nl)) :: (rg ad st1.es ++ O)) H ∧ ad.length = st1.es.length ∧ nl ≤ ad.length + 1 ∧ st1.gh ≤ ad.length ∧ st' = { st1 with es := st1.es ++ [e], nl := nl, high := e.2 + 1, unk := u }) ?_ ?_
      · refine gIfS ?_
        refine gCT (fun c H => c = decide (st1.high = 0 ∨ st1.high + sp ≥ st1.len) ∧ Sub G1 (pgB (cPg K) a dx pl lo ad st1 ++ O) H) ?_ ?_
        · refine gOr ?_
          refine gTest ?_
          refine gOp ?_
          refine gFld ?_
          refine gV rfl ?_
          refine ⟨a, _, dx, _, _, rfl, S1.head, T.c, T.n_high, pg_high, ?_⟩
          refine gC ?_
          refine ⟨_, _, rfl, rfl, decide (st1.high = 0), rfl, ?_⟩
          refine ite2 (fun c1 => ?_) (fun c1 => ?_)
          · refine ⟨?_, S1⟩
            rw [decide_eq_true (.inl (of_decide_eq_true c1))]
          · refine gTest ?_
            refine gOp ?_
            refine gV rfl ?_
            refine gFld ?_
            refine gV rfl ?_
            refine ⟨a, _, dx, _, _, rfl, S1.head, T.c, T.n_length, pg_length, ?_⟩
            refine ⟨_, _, rfl, rfl, decide (st1.high + sp ≥ st1.len), rfl, ?_, S1⟩
            have h1 : ¬ st1.high = 0 := fun e => c1 (decide_eq_true e)
            simp [h1]
        · rintro c H ⟨rfl, S2⟩
          refine ite2 (fun c1 => ?_) (fun c1 => ?_)
          · rw [if_pos (of_decide_eq_true c1)] at hm1
            refine gS_Drop ?_
            refine gMeth ?_
            refine gV rfl ?_
            refine ⟨a, dx, _, rfl, S2.head, rfl, ?_⟩
            refine gNil' ?_
            refine ⟨G1, O, _, .ref a, st1, rfl, S2, hp1', fun G2 H2 B2 e2 S3 hp2 => ?_⟩
            obtain ⟨a', dx, pl, lo, ad, ha, rfl, hl, hn, hg⟩ := hp2
            cases ha
            refine gAsgN ?_
            refine gLst ?_
            refine gCons' ?_
            refine gC ?_
            refine gCons' ?_
            refine gC ?_
            refine gNil' ?_
            refine ⟨sz (by show 2 ≤ 100000; decide), fun e0 ne => ?_⟩
            have S4 := S3.newOwn (o := cel (true, 0)) ne
            refine ⟨G2, dx, pl, lo, ad, e0, (true, 0), 0, some (st1.unk.getD false), e1.trans e2, rfl, ?_, hl, Nat.zero_le _, hg, (Option.some.inj hm1).symm⟩
            have e9 : los (ad ++ [e0]) 0 = los ad 0 := by rw [los_zero, los_zero]
            rw [e9]
            exact S4
          · have c1' : ¬ (st1.high = 0 ∨ st1.high + sp ≥ st1.len) := fun e => c1 (decide_eq_true e)
            rw [if_neg c1'] at hm1
            refine gS_AsgN ?_
            refine gLst ?_
            refine gCons' ?_
            refine gC ?_
            refine gCons' ?_
            refine gV rfl ?_
            refine gNil' ?_
            refine ⟨sz (by show 2 ≤ 100000; decide), fun e0 ne => ?_⟩
            have S3 : Sub G1 ((e0, cel (false, st1.high + sp)) :: (pgB (cPg K) a dx pl lo ad st1 ++ O)) _ := S2.newOwn (o := cel (false, st1.high + sp)) ne
            refine gIfS ?_
            refine gNot ?_
            refine gB ?_
            refine gV rfl ?_
            refine ⟨b, rfl, ?_⟩
            refine ite2 (fun c2 => ?_) (fun c2 => ?_)
            · have hb : b = false := by simpa using c2
              rw [if_pos hb] at hm1
              have S4 : Sub G1 (pgB (cPg K) a dx pl lo ad st1 ++ (e0, cel (false, st1.high + sp)) :: O) _ := S3.perm List.perm_middle.symm
              refine gS_Drop ?_
              refine gMeth ?_
              refine gV rfl ?_
              refine ⟨a, dx, _, rfl, S4.head, rfl, ?_⟩
              refine gNil' ?_
              refine ⟨G1, (e0, cel (false, st1.high + sp)) :: O, _, .ref a, st1, rfl, S4, hp1', fun G2 H2 B2 e2 S5 hp2 => ?_⟩
              obtain ⟨a', dx, pl, lo, ad, ha, rfl, hl, hn, hg⟩ := hp2
              cases ha
              have S6 : Sub G2 ((e0, cel (false, st1.high + sp)) :: (pgB (cPg K) a dx pl lo ad st1.stay ++ O)) _ := S5.perm List.perm_middle
              refine gSFld ?_
              refine gLst ?_
              refine gCons' ?_
              refine gV rfl ?_
              refine gNil' ?_
              refine ⟨sz (by show 1 ≤ 100000; decide), fun p np => ?_⟩
              have S7 := (S6.newOwn (o := .lst [.ref e0]) np).front 2 rfl rfl
              refine gV rfl ?_
              refine ⟨a, _, dx, _, rfl, S7.head, T.c, T.n_loose, pgF_len, ?_⟩
              have S8 := Sub.wr (o' := .ins (cPg K) dx (pgF st1.len pl p st1.high st1.bar (some (st1.unk.getD false)))) S7
              refine ⟨G2, dx, pl, p, ad, e0, (false, st1.high + sp), 1, some (st1.unk.getD false), e1.trans e2, rfl, ?_, hl, by omega, hg, (Option.some.inj hm1).symm⟩
              rw [los_one]
              -- a, p, e0, pl, lo, rg
              exact ((((S8.front 4 rfl rfl).tail.front 1 rfl rfl).front 3 rfl rfl).front 2 rfl rfl).front 3 rfl rfl
            · have hb : ¬ b = false := by simpa using c2
              rw [if_neg hb] at hm1
              refine gIfS ?_
              refine gTest ?_
              refine gOp ?_
              refine gFld ?_
              refine gV rfl ?_
              have S4 := S3.front 1 rfl rfl
              refine ⟨a, _, dx, _, _, rfl, S4.head, T.c, T.n_loose, pg_loose, ?_⟩
              refine gLst ?_
              refine gNil' ?_
              refine ⟨sz0, fun p np => ?_⟩
              have S5 : Sub G1 ([(e0, cel (false, st1.high + sp)), (a, .ins (cPg K) dx (pgF st1.len pl lo st1.high st1.bar st1.unk)), (pl, .lst ((ad.drop st1.gh).map V.ref)), (lo, .lst (los ad st1.nl))] ++ (rg ad st1.es ++ O)) (upd _ p (.lst [])) := S3.junk np
              refine loose_ne (k := ad.length - st1.nl) S5 (Sub.head (Sub.front S5 3 rfl rfl)) upd_same hl ?_
              refine ⟨_, rfl, ?_⟩
              refine ite2 (fun c3 => ?_) (fun c3 => ?_)
              · have h0 : ¬ st1.nl = 0 := by have := of_decide_eq_true c3; omega
                rw [if_neg h0] at hm1
                refine gSFld ?_
                refine gOp ?_
                refine gFld ?_
                refine gV rfl ?_
                refine ⟨a, _, dx, _, _, rfl, (S5.front 1 rfl rfl).head, T.c, T.n_loose, pg_loose, ?_⟩
                refine gLst ?_
                refine gCons' ?_
                refine gV rfl ?_
                refine gNil' ?_
                refine ⟨sz (by show 1 ≤ 100000; decide), fun p2 np2 => ?_⟩
                have S6 := S5.junk (o := .lst [.ref e0]) np2
                refine ⟨lo, p2, _, _, rfl, rfl, (Sub.front S6 3 rfl rfl).head, upd_same, sz (by simp [los]; omega), fun t ht => ?_⟩
                have S7 := (S6.newOwn (o := .lst (los ad st1.nl ++ [.ref e0])) ht).front 2 rfl rfl
                refine gV rfl ?_
                refine ⟨a, _, dx, _, rfl, S7.head, T.c, T.n_loose, pgF_len, ?_⟩
                have S8 := Sub.wr (o' := .ins (cPg K) dx (pgF st1.len pl t st1.high st1.bar st1.unk)) S7
                refine ⟨G1, dx, pl, t, ad, e0, (false, st1.high + sp), st1.nl + 1, st1.unk, e1, rfl, ?_, hl, by omega, hg, (Option.some.inj hm1).symm⟩
                rw [los_snoc hn]
                exact ((((S8.front 4 rfl rfl).tail.front 1 rfl rfl).front 3 rfl rfl).front 2 rfl rfl).front 3 rfl rfl
              · have h0 : st1.nl = 0 := by
                  by_cases h : st1.nl = 0
                  · exact h
                  · exact absurd (decide_eq_true (by omega)) c3
                rw [if_pos h0] at hm1
                refine gNext ?_
                refine ⟨G1, dx, pl, lo, ad, e0, (false, st1.high + sp), 0, st1.unk, e1, rfl, ?_, hl, Nat.zero_le _, hg, ?_⟩
                · have e9 : los (ad ++ [e0]) 0 = los ad 0 := by rw [los_zero, los_zero]
                  rw [e9]
                  rw [h0] at S5
                  exact S5
                · rw [← h0]; exact (Option.some.inj hm1).symm
      · rintro σ H ⟨G2, dx, pl, lo, ad, e0, e, nl, u, e2, rfl, S2, hl, hn, hg, rfl⟩
        refine gS_SFld ?_
        refine gOp ?_
        refine gOp ?_
        refine gV rfl ?_
        refine gC ?_
        refine ⟨e0, _, 1, .int e.2, rfl, rfl, .inl (.inl S2.head), rfl, ?_⟩
        refine gC ?_
        refine ⟨_, _, rfl, rfl, ?_⟩
        refine gV rfl ?_
        have S3 := S2.front 1 rfl rfl
        refine ⟨a, _, dx, _, rfl, S3.head, T.c, T.n_high, pgF_len, ?_⟩
        have S4 := Sub.wr (o' := .ins (cPg K) dx (pgF st1.len pl lo (e.2 + 1) st1.bar u)) S3
        refine gDrop ?_
        refine gBM ?_
        refine gFld ?_
        refine gV rfl ?_
        refine ⟨a, _, dx, _, _, rfl, S4.head, T.c, T.n_put_lines, pg_put, ?_⟩
        have S5 := Sub.front S4 2 rfl rfl
        refine ⟨.inl ⟨rfl, _, .inl (.inl S5.head)⟩, ?_⟩
        refine gCons' ?_
        refine gV rfl ?_
        refine gNil' ?_
        refine ⟨pl, _, .ref e0, rfl, rfl, S5.head, by rw [List.length_map, List.length_drop, hl]; exact Nat.lt_of_le_of_lt (Nat.sub_le _ _) (Nat.lt_of_lt_of_le hlt (sz (Nat.le_refl _))), ?_⟩
        have S6 := Sub.wr (o' := .lst ((ad.drop st1.gh).map V.ref ++ [.ref e0])) S5
        -- pl, a, e0, lo, rg
        have S7 : Sub G2 ((e0, cel e) :: (((a, .ins (cPg K) dx (pgF st1.len pl lo (e.2 + 1) st1.bar u)) :: (pl, .lst ((ad.drop st1.gh).map V.ref ++ [.ref e0])) :: (lo, .lst (los (ad ++ [e0]) nl)) :: rg ad st1.es) ++ O)) _ := (((S6.front 3 rfl rfl).front 1 rfl rfl).front 2 rfl rfl).front 3 rfl rfl
        have S8 : Sub G2 (((a, .ins (cPg K) dx (pgF st1.len pl lo (e.2 + 1) st1.bar u)) :: (pl, .lst ((ad.drop st1.gh).map V.ref ++ [.ref e0])) :: (lo, .lst (los (ad ++ [e0]) nl)) :: rg ad st1.es) ++ (e0, cel e) :: O) _ := Sub.perm S7 List.perm_middle.symm
        refine q G2 _ (pgB (cPg K) a dx pl lo (ad ++ [e0]) { st1 with es := st1.es ++ [e], nl := nl, high := e.2 + 1, unk := u }) e2 ?_ ⟨a, dx, pl, lo, ad ++ [e0], rfl, rfl, by simp [hl], by simpa using hn, by simp; omega⟩
        unfold pgB
        dsimp only
        rw [rg_add hl, List.drop_append_of_le_length hg, List.map_append]
        show Sub G2 ((a, .ins (cPg K) dx (pgF st1.len pl lo (e.2 + 1) st1.bar u)) :: (pl, .lst ((ad.drop st1.gh).map V.ref ++ [.ref e0])) :: (lo, .lst (los (ad ++ [e0]) nl)) :: ((rg ad st1.es ++ [(e0, cel e)]) ++ O)) _
        rw [List.append_assoc]
        exact S8
end
end Mr

set_option Elab.async false
set_option linter.all false
set_option maxRecDepth 100000
set_option maxHeartbeats 2000000
namespace Mr
open PySem PySem.Spec PyProof.Rows L2
section
variable {P : Program} {w : World} {K : PySem.W.Frag} {mg : Str → Option Value} {base : Heap}
theorem sc_Page_block : FnScope ["self", "count", "space", "kept", "page", "place"] ["self", "count", "space", "kept", "page"] (defScope s_Page_block) := ⟨rfl, rfl, rfl, by decide +kernel, rfl, by decide +kernel, by decide +kernel⟩
theorem ok_Page_block (T : PgT K mg) : FnOk P w K mg base CX0 3 (mPg K "block") T.fd_block ["self", "count", "space", "kept", "page"] (spPgK K) := by
  refine T.F_block.ok sc_Page_block (fun vs H Q E h => ?_) (fun cdv A outer s H0 vs Q E hr h => ?_)
  · obtain ⟨G, O, B, v, count, sp, kept, page, st, rfl, _⟩ := h
    rfl
  · obtain ⟨G0, O, B, v, count, sp, kept, page, st, rfl, S0, hp, st', hm, q⟩ := h
    unfold Px.block at hm
    obtain ⟨ks, hks, hm⟩ := bindS hm
    obtain ⟨st2, hln, hm⟩ := bindS hm
    have hm := Option.some.inj hm
    have hva : ∃ a, v = .ref a := by obtain ⟨a, dx, pl, lo, ad, h, _⟩ := hp; exact ⟨a, h⟩
    obtain ⟨a, rfl⟩ := hva
    have hd : ∀ {B : Own} {st : Px} {G H : Hp}, PgR (cPg K) B (.ref a) st → Sub G (B ++ O) H → ∃ dx pl lo, H a = some (.ins (cPg K) dx (pgF st.len pl lo st.high st.bar st.unk)) := by
      rintro B st G H ⟨a', dx, pl, lo, ad, ha, rfl, _⟩ S
      cases ha
      exact ⟨dx, pl, lo, S.head⟩
    refine ⟨_, PSs.nox (pss_cons (ps_cut (ps_if (pt_val (pv 4)) (pss_one (ps_expr (pe_meth0 (pv 0) T.c T.m_begin (ok_Page_begin T) (hr.mono (by decide)) T.b_begin .nil pass0))) pss_nil))
      (pss_cons (ps_cut (ps_for PassesOwn.never rfl (pi_range1 (by rfl) T.z_range (pa_cons (pv 1) pa_nil)) (pg_name (i := 5) sc_Page_block.nd rfl (.inl rfl)) (pss_one (ps_if (pt_cmpR op_eqI (pv 5) pe_int (nomark _))
        (pss_one (ps_expr (pe_meth (pv 0) T.c T.m_line (ok_Page_line T) (hr.mono (by decide)) T.b_line .nil pass0 (pa_cons (pv 2) (pa_cons (pe_fld (pv 0) rfl) pa_nil)))))
        (pss_one (ps_expr (pe_meth (pv 0) T.c T.m_line (ok_Page_line T) (hr.mono (by decide)) T.b_line .nil pass0 (pa_cons pe_int (pa_cons (pe_cmpR op_in_seq (pv 5) (pe_tup (pa_cons pe_int (pa_cons (pe_op op_sub (pv 1) pe_int) pa_nil))) (by with_unfolding_all rfl)) pa_nil)))))))))
      (pss_one (ps_if (pt_cmpR op_gt (pv 1) pe_int (nomark _)) (pss_cons (ps_fld (pv 0) (pv 3) rfl) (pss_one (ps_if (pt_not (pt_val (pv 3))) (pss_one (ps_expr (pe_meth0 (pv 0) T.c T.m_stay (ok_Page_stay T) (hr.mono (by decide)) T.b_stay .nil pass0))) pss_nil))) pss_nil)))), ?_⟩
    refine gS_CS (fun σ H => σ = [some (.ref a), some (.int count), some (.int sp), some (.bl kept), some (.bl page), none] ∧ ∃ G1 B1, Ext G0 G1 ∧ Sub G1 (B1 ++ O) H ∧ PgR (cPg K) B1 (.ref a) (if page = true then st.begin else st)) ?_ ?_
    · refine gIfS ?_
      refine gB ?_
      refine gV rfl ?_
      refine ⟨page, rfl, ?_⟩
      refine ite2 (fun c1 => ?_) (fun c1 => ?_)
      · refine gDrop ?_
        refine gMeth ?_
        refine gV rfl ?_
        obtain ⟨dx, pl, lo, hh⟩ := hd hp S0
        refine ⟨a, dx, _, rfl, hh, rfl, ?_⟩
        refine gNil' ?_
        refine ⟨G0, O, B, .ref a, st, rfl, S0, hp, fun G1 H1 B1 e1 S1 hp1 => ⟨rfl, G1, B1, e1, S1, ?_⟩⟩
        rw [if_pos c1]; exact hp1
      · refine gNext ?_
        refine ⟨rfl, G0, B, Ext.refl _, S0, ?_⟩
        rw [if_neg c1]; exact hp
    · rintro σ H ⟨rfl, G1, B1, e1, S1, hp1⟩
      refine gS_CS (fun σ H => (∃ x, σ = [some (.ref a), some (.int count), some (.int sp), some (.bl kept), some (.bl page), x]) ∧ ∃ G2 B2, Ext G0 G2 ∧ Sub G2 (B2 ++ O) H ∧ PgR (cPg K) B2 (.ref a) st2) ?_ ?_
      · refine gFor ?_
        refine gIR ?_
        refine gCons' ?_
        refine gV rfl ?_
        refine gNil' ?_
        refine lp_R hks (fol_for Empty hln) (fun p σ H => (∃ x, σ = [some (.ref a), some (.int count), some (.int sp), some (.bl kept), some (.bl page), x]) ∧ ∃ G2 B2, Ext G0 G2 ∧ Sub G2 (B2 ++ O) H ∧ PgR (cPg K) B2 (.ref a) p) ⟨⟨_, rfl⟩, G1, B1, e1, S1, hp1⟩ ?_ ?_
        · rintro i k p b hb hr2 σ H ⟨⟨x, rfl⟩, G2, B2, e2, S2, hp2⟩
          obtain ⟨p2, hb2, hb3⟩ := goF_some hb
          subst hb3
          unfold Px.turn at hb2
          obtain ⟨dx, pl, lo, hh⟩ := hd hp2 S2
          refine gIfS ?_
          refine gTest ?_
          refine gOp ?_
          refine gV rfl ?_
          refine gC ?_
          refine ⟨_, _, rfl, rfl, decide (k = 0), rfl, ?_⟩
          refine ite2 (fun c1 => ?_) (fun c1 => ?_)
          · rw [if_pos (of_decide_eq_true c1)] at hb2
            refine gDrop ?_
            refine gMeth ?_
            refine gV rfl ?_
            refine ⟨a, dx, _, rfl, hh, rfl, ?_⟩
            refine gCons' ?_
            refine gV rfl ?_
            refine gCons' ?_
            refine gFld ?_
            refine gV rfl ?_
            refine ⟨a, _, dx, _, _, rfl, hh, T.c, T.n_is_barred, pg_bar, ?_⟩
            refine gNil' ?_
            exact ⟨G2, O, B2, .ref a, sp, p.bar, p, rfl, S2, hp2, p2, hb2, fun G3 H3 B3 e3 S3 hp3 => ⟨p2, ⟨⟨_, rfl⟩, G3, B3, e2.trans e3, S3, hp3⟩, hr2⟩⟩
          · rw [if_neg (fun e => c1 (decide_eq_true e))] at hb2
            refine gDrop ?_
            refine gMeth ?_
            refine gV rfl ?_
            refine ⟨a, dx, _, rfl, hh, rfl, ?_⟩
            refine gCons' ?_
            refine gC ?_
            refine gCons' ?_
            refine gOp ?_
            refine gV rfl ?_
            refine gTup' ?_
            refine gCons' ?_
            refine gC ?_
            refine gCons' ?_
            refine gOp ?_
            refine gV rfl ?_
            refine gC ?_
            refine ⟨_, _, rfl, rfl, ?_⟩
            refine gNil' ?_
            refine ⟨sz (by show 2 ≤ 100000; decide), fun t nt => ?_⟩
            have S3 := S2.junk (o := .tup (([1, count - 1] : List Int).map V.int)) nt
            refine q_inT ([1, count - 1] : List Int) ?_
            refine gNil' ?_
            exact ⟨G2, O, B2, .ref a, 0, _, p, rfl, S3, hp2, p2, hb2, fun G3 H3 B3 e3 S4 hp3 => ⟨p2, ⟨⟨_, rfl⟩, G3, B3, e2.trans e3, S4, hp3⟩, hr2⟩⟩
        · rintro p σ H hres ⟨hx, G2, B2, e2, S2, hp2⟩
          cases hres
          exact ⟨hx, G2, B2, e2, S2, hp2⟩
      · rintro σ H ⟨⟨x, rfl⟩, G2, B2, e2, S2, hp2⟩
        refine gIfS ?_
        refine gTest ?_
        refine gOp ?_
        refine gV rfl ?_
        refine gC ?_
        refine ⟨_, _, rfl, rfl, decide (count > 0), rfl, ?_⟩
        refine ite2 (fun c1 => ?_) (fun c1 => ?_)
        · rw [if_pos (of_decide_eq_true c1)] at hm
          obtain ⟨a', dx, pl, lo, ad, ha, rfl, hl, hn, hg⟩ := hp2
          cases ha
          refine gS_SFld ?_
          refine gV rfl ?_
          refine gV rfl ?_
          refine ⟨a, _, dx, _, rfl, S2.head, T.c, T.n_is_barred, pgF_len, ?_⟩
          have S3 : Sub G2 (pgB (cPg K) a dx pl lo ad { st2 with bar := kept } ++ O) _ := Sub.wr (o' := .ins (cPg K) dx (pgF st2.len pl lo st2.high kept st2.unk)) S2
          have hp3 : PgR (cPg K) (pgB (cPg K) a dx pl lo ad { st2 with bar := kept }) (.ref a) { st2 with bar := kept } := ⟨a, dx, pl, lo, ad, rfl, rfl, hl, hn, hg⟩
          refine gIfS ?_
          refine gNot ?_
          refine gB ?_
          refine gV rfl ?_
          refine ⟨kept, rfl, ?_⟩
          refine ite2 (fun c2 => ?_) (fun c2 => ?_)
          · have hk : kept = false := by simpa using c2
            subst hk
            refine gDrop ?_
            refine gMeth ?_
            refine gV rfl ?_
            refine ⟨a, dx, _, rfl, S3.head, rfl, ?_⟩
            refine gNil' ?_
            refine ⟨G2, O, _, .ref a, _, rfl, S3, hp3, fun G3 H3 B3 e3 S4 hp4 => ?_⟩
            refine q G3 H3 B3 (e2.trans e3) S4 ?_
            rw [← hm]; exact hp4
          · have hk : kept = true := by simpa using c2
            subst hk
            refine gNext ?_
            refine q G2 _ _ e2 S3 ?_
            rw [← hm]; exact hp3
        · rw [if_neg (fun e => c1 (decide_eq_true e))] at hm
          subst hm
          refine gNext ?_
          exact q G2 _ _ e2 S2 hp2
end
end Mr

set_option Elab.async false
set_option linter.all false
set_option maxRecDepth 100000
set_option maxHeartbeats 2000000
namespace Mr
open PySem PySem.Spec PyProof.Rows L2
section
variable {P : Program} {w : World} {K : PySem.W.Frag} {mg : Str → Option Value} {base : Heap}
theorem sc_Page_finish : FnScope ["self", "starts", "row"] ["self"] (defScope s_Page_finish) := ⟨rfl, rfl, rfl, by decide +kernel, rfl, by decide +kernel, by decide +kernel⟩
theorem ok_Page_finish (T : PgT K mg) : FnOk P w K mg base CX0 1 (mPg K "finish") T.fd_finish ["self"] (spPgO K Px.fin) := by
  refine T.F_finish.ok sc_Page_finish (fun vs H Q E h => ?_) (fun cdv A outer s H0 vs Q E hr h => ?_)
  · obtain ⟨G, O, B, v, st, rfl, _⟩ := h
    rfl
  · obtain ⟨G0, O, B, v, st, rfl, S0, hp, res, hm, q⟩ := h
    obtain ⟨a, dx, pl, lo, ad, hva, rfl, hl, hn, hg⟩ := hp
    have hva2 := (V.ref.inj hva).symm
    subst hva2
    refine ⟨_, PSs.nox (pss_one (ps_ret (pe_lc (own := [("starts", 1), ("row", 2)]) (g := L2.gLst K 2 (gCons (gName 1) (gCons (gName 2) gNil))) (by rfl) sc_Page_finish.nd (pi_list (pe_fld (pv 0) rfl))
      (blkOk_by (own := [("starts", 1), ("row", 2)]) (N := ["self", "starts", "row"]) (sc := defScope s_Page_finish) (by decide +kernel)) (fun _ _ _ _ _ => (pg_lst rfl (pgs_cons (pg_name (i := 1) sc_Page_finish.nd rfl (.inl rfl)) (pgs_cons (pg_name (i := 2) sc_Page_finish.nd rfl (.inl rfl)) pgs_nil)))) (fun _ _ _ _ _ => pts_nil) (fun _ _ _ _ _ => (pe_tup (pa_cons (pv 1) (pa_cons (pv 2) pa_nil))))))), ?_⟩
    refine gRet ?_
    refine gLc ?_
    refine gIL ?_
    refine gFld ?_
    refine gV rfl ?_
    refine ⟨a, _, dx, _, _, rfl, S0.head, T.c, T.n_put_lines, pg_put, ?_⟩
    have L0 := Sub.front S0 1 rfl rfl
    refine ⟨pl, rfl, ⟨_, .inl (.inl L0.head)⟩, ?_⟩
    refine lc_fol (walk_list (xs := (ad.drop st.gh).map V.ref)) (xs := st.es.drop st.gh) (by rw [List.length_map, List.length_drop, List.length_drop, hl]) hm (fun D acc H => ∃ (G : Hp) (w : List V), Ext G0 G ∧ Sub G ((D, .lst w) :: (pgB (cPg K) a dx pl lo ad st ++ O)) H ∧ Al (rP2 K rBool rInt) G w acc) ?_ ?_ ?_ ?_
    · intro D nD
      exact ⟨G0, [], Ext.refl _, S0.newOwn nD, True.intro⟩
    · rintro D acc H ⟨G, w, _, S, _⟩
      exact .inl (.inl (Sub.front S 2 rfl rfl).head)
    · rintro D i e acc acc' he hb hr2 v H H' ⟨G, w, e1, S, hA⟩ hY
      obtain ⟨rfl, hw⟩ := hY
      rw [List.getElem?_drop] at he
      have hil : st.gh + i < ad.length := by have := (List.getElem?_eq_some_iff.mp he).1; omega
      obtain ⟨ai, hai⟩ : ∃ ai, ad[st.gh + i]? = some ai := ⟨ad[st.gh + i], List.getElem?_eq_getElem hil⟩
      have hv : v = V.ref ai := by
        rw [List.getElem?_map, List.getElem?_drop, hai] at hw
        exact (Option.some.inj hw).symm
      subst hv
      have hc : H' ai = some (cel e) := rg_read (X := [(D, .lst w), (a, .ins (cPg K) dx (pgF st.len pl lo st.high st.bar st.unk)), (pl, .lst ((ad.drop st.gh).map V.ref)), (lo, .lst (los ad st.nl))]) S hai he
      refine ⟨ai, [.bl e.1, .int e.2], rfl, .inl (.inl hc), rfl, _, _, rfl, _, _, rfl, rfl, ?_⟩
      refine ⟨rfl, ?_⟩
      refine gYes ?_
      refine iteT ?_
      refine gTup' ?_
      refine gCons' ?_
      refine gV rfl ?_
      refine gCons' ?_
      refine gV rfl ?_
      refine gNil' ?_
      refine q_tup2 (K := K) S (show R.rel rBool G (V.bl e.1) e.1 from rfl) (show R.rel rInt G (V.int e.2) e.2 from rfl) (fun u G2 H2 e2 S2 h2 => ?_)
      obtain ⟨acc3, hq, hm3⟩ := bindS hb
      cases hm3
      refine q_lcEl S2 (hA.up e2) (show R.rel (rP2 K rBool rInt) G2 u (e.1, e.2) from h2) hq (fun H3 w3 S3 h3 => ?_)
      exact ⟨_, ⟨G2, w3, e1.trans e2, S3, h3⟩, hr2⟩
    · rintro D H ⟨G, w, e1, S, hA⟩
      exact q D w G _ e1 S hA
end
end Mr

set_option Elab.async false
set_option linter.all false
set_option maxRecDepth 100000
set_option maxHeartbeats 2000000
namespace Mr
open PySem PySem.Spec PyProof.Rows L2
section
variable {P : Program} {w : World} {K : PySem.W.Frag} {mg : Str → Option Value} {base : Heap}
theorem sc_Page_init : FnScope ["self", "length"] ["self", "length"] (defScope s_Page_init) := ⟨rfl, rfl, rfl, by decide +kernel, rfl, by decide +kernel, by decide +kernel⟩
theorem ok_Page_init (T : PgT K mg) : FnOk P w K mg base CX0 1 (mPg K "__init__") T.fd_init ["self", "length"] (spPgI K) := by
  refine T.F_init.ok sc_Page_init (fun vs H Q E h => ?_) (fun cdv A outer s H0 vs Q E hr h => ?_)
  · obtain ⟨G, O, a, dx, len, rfl, _⟩ := h
    rfl
  · obtain ⟨G0, O, a, dx, len, rfl, S0, q⟩ := h
    refine ⟨_, PSs.nox (pss_cons (ps_fld (pv 0) (pv 1) rfl) (pss_cons (ps_fld (pv 0) (pe_lst pa_nil) rfl) (pss_cons (ps_fld (pv 0) (pe_lst pa_nil) rfl)
      (pss_cons (ps_fld (pv 0) pe_int rfl) (pss_cons (ps_fld (pv 0) pe_bl rfl) (pss_one (ps_fld (pv 0) pe_bl rfl))))))), ?_⟩
    refine gS_SFld ?_
    refine gV rfl ?_
    refine gV rfl ?_
    refine ⟨a, _, dx, _, rfl, S0.head, T.c, T.n_length, by decide, ?_⟩
    have S1 := Sub.wr (o' := .ins (cPg K) dx (putF "length" (.int len) [])) S0
    refine gS_SFld ?_
    refine gLst ?_
    refine gNil' ?_
    refine ⟨sz0, fun pl np => ?_⟩
    have S2 := (S1.newOwn (o := .lst []) np).front 1 rfl rfl
    refine gV rfl ?_
    refine ⟨a, _, dx, _, rfl, S2.head, T.c, T.n_put_lines, by show 1 < 1000; decide, ?_⟩
    have S3 := Sub.wr (o' := .ins (cPg K) dx (putF "put_lines" (.ref pl) (putF "length" (.int len) []))) S2
    refine gS_SFld ?_
    refine gLst ?_
    refine gNil' ?_
    refine ⟨sz0, fun lo nlo => ?_⟩
    have S4 := (S3.newOwn (o := .lst []) nlo).front 1 rfl rfl
    refine gV rfl ?_
    refine ⟨a, _, dx, _, rfl, S4.head, T.c, T.n_loose, by show 2 < 1000; decide, ?_⟩
    have S5 := Sub.wr (o' := .ins (cPg K) dx (putF "loose" (.ref lo) (putF "put_lines" (.ref pl) (putF "length" (.int len) [])))) S4
    refine gS_SFld ?_
    refine gC ?_
    refine gV rfl ?_
    refine ⟨a, _, dx, _, rfl, S5.head, T.c, T.n_high, by show 3 < 1000; decide, ?_⟩
    have S6 := Sub.wr (o' := .ins (cPg K) dx (putF "high" (.int 0) (putF "loose" (.ref lo) (putF "put_lines" (.ref pl) (putF "length" (.int len) []))))) S5
    refine gS_SFld ?_
    refine gC ?_
    refine gV rfl ?_
    refine ⟨a, _, dx, _, rfl, S6.head, T.c, T.n_is_barred, by show 4 < 1000; decide, ?_⟩
    have S7 := Sub.wr (o' := .ins (cPg K) dx (putF "is_barred" (.bl false) (putF "high" (.int 0) (putF "loose" (.ref lo) (putF "put_lines" (.ref pl) (putF "length" (.int len) [])))))) S6
    refine gSFld ?_
    refine gC ?_
    refine gV rfl ?_
    refine ⟨a, _, dx, _, rfl, S7.head, T.c, T.n_unknown, by show 5 < 1000; decide, ?_⟩
    have S8 := Sub.wr (o' := .ins (cPg K) dx (pgF len pl lo 0 false (some false))) S7
    rw [pgp_new]
    refine q G0 _ (pgB (cPg K) a dx pl lo [] (Px.new len)) (Ext.refl _) ?_ ⟨a, dx, pl, lo, [], rfl, rfl, rfl, Nat.le_refl _, Nat.le_refl _⟩
    -- a, lo, pl
    exact (S8.front 2 rfl rfl).front 1 rfl rfl
end
end Mr

set_option Elab.async false
set_option linter.all false
set_option maxRecDepth 100000
set_option maxHeartbeats 2000000
namespace Mr
open PySem PySem.Spec PyProof.Rows L2
/-- Page.resumed: a page that goes on behind a standing -/
def spPgRes (K : PySem.W.Frag) : Sp := fun vs H Q _ => ∃ (G : Hp) (O : Own) (len : Int) (v : V) (st : Wd × Int × Int), vs = [.int len, v] ∧ Sub G O H ∧ R.rel (rP3 K (rEn e_Wd) rInt rInt) G v st ∧ ∃ res, Px.resumed len st = some res ∧
  ∀ (p : Addr) (G' H' : Hp) (B' : Own), Ext G G' → Sub G' (B' ++ O) H' → PgR (cPg K) B' (.ref p) res → Q (.ref p) H'
section
variable {P : Program} {w : World} {K : PySem.W.Frag} {mg : Str → Option Value} {base : Heap}
theorem sc_Page_resumed : FnScope ["length", "standing", "word", "high", "back", "page"] ["length", "standing"] (defScope s_Page_resumed) := ⟨rfl, rfl, rfl, by decide +kernel, rfl, by decide +kernel, by decide +kernel⟩
theorem ok_Page_resumed (T : Tx K mg) (PT : PgT K mg) : FnOk P w K mg base CX0 4 (He5.wf K (cPg K) "staticmethod" "resumed") PT.fd_resumed ["length", "standing"] (spPgRes K) := by
  have G_checked_standing := ok_checked_standing (P := P) (w := w) (base := base) T
  refine PT.F_resumed.ok sc_Page_resumed (fun vs H Q E h => ?_) (fun cdv A outer s H0 vs Q E hr h => ?_)
  · obtain ⟨G, O, len, v, st, rfl, _⟩ := h
    rfl
  · obtain ⟨G0, O, len, v, st, rfl, S0, h1, res, hm, q⟩ := h
    obtain ⟨r, hq, hm⟩ := bindS hm
    have hm := Option.some.inj hm
    refine ⟨_, PSs.nox (pss_cons (ps_asg (pe_call G_checked_standing (hr.mono (by decide)) (by rfl) T.g_checked_standing T.F_checked_standing.kp T.b_checked_standing .nil passL (pa_cons (pv 0) (pa_cons (pv 1) pa_nil))) (pg_tup rfl (pgs_cons (pg_name (i := 2) sc_Page_resumed.nd rfl (.inl rfl)) (pgs_cons (pg_name (i := 3) sc_Page_resumed.nd rfl (.inl rfl)) (pgs_cons (pg_name (i := 4) sc_Page_resumed.nd rfl (.inl rfl)) pgs_nil)))))
      (pss_cons (ps_set (i := 5) sc_Page_resumed.nd rfl (.inl rfl) (pe_make PT.mkr (ok_Page_init PT) (hr.mono (by decide)) (by rfl) PT.g_Page PT.b_init .nil pass0 (pa_cons (pv 0) pa_nil)))
      (pss_cons (ps_fld (pv 5) (pv 3) rfl)
      (pss_cons (ps_fld (pv 5) (pe_cmpR (op_eqE e_Wd_inj) (pv 2) pe_str (nomark _)) rfl)
      (pss_cons (ps_cut (ps_if (pt_cmpR op_gt (pv 4) pe_int (nomark _)) (pss_cons (ps_fld (pv 5) (pe_lst (pa_cons (pe_lst (pa_cons pe_bl (pa_cons (pe_op op_sub (pv 3) (pv 4)) pa_nil))) pa_nil)) rfl) (pss_one (ps_fld (pv 5) pe_non rfl))) pss_nil))
      (pss_one (ps_ret (pv 5)))))))), ?_⟩
    refine gS_Asg ?_
    refine gCall ?_
    refine gCons' ?_
    refine gV rfl ?_
    refine gCons' ?_
    refine gV rfl ?_
    refine gNil' ?_
    refine ⟨G0, O, len, v, st, rfl, S0, h1, Rs.ok r, okR_some hq, q_ok rfl (fun v2 G1 H1 e1 S1 h2 => ?_), q_noer rfl⟩
    refine q_gt3 S1 h2 (fun v3 v4 v5 h5 h6 h7 => ?_)
    obtain rfl := (show v3 = (V.str (e_Wd r.1)) from h5)
    obtain rfl := (show v4 = (V.int r.2.1) from h6)
    obtain rfl := (show v5 = (V.int r.2.2) from h7)
    refine gS_AsgN ?_
    refine gMake ?_
    refine gCons' ?_
    refine gV rfl ?_
    refine gNil' ?_
    refine q_newPg S1 (fun p G2 H2 B2 e2 S2 hp2 => ?_)
    obtain ⟨a', dx, pl, lo, ad, ha, rfl, hl, hn, hg⟩ := hp2
    cases ha
    have had : ad = [] := List.length_eq_zero_iff.mp hl
    subst had
    refine gS_SFld ?_
    refine gV rfl ?_
    refine gV rfl ?_
    refine ⟨p, _, dx, _, rfl, S2.head, PT.c, PT.n_high, pgF_len, ?_⟩
    rw [pgp_high]
    have S3 := Sub.wr (o' := .ins (cPg K) dx (pgF len pl lo r.2.1 false (some false))) S2
    refine gS_SFld ?_
    refine gOp ?_
    refine gV rfl ?_
    refine gC ?_
    refine ⟨r.1, Wd.kept, rfl, rfl, ?_⟩
    refine gV rfl ?_
    refine ⟨p, _, dx, _, rfl, S3.head, PT.c, PT.n_is_barred, pgF_len, ?_⟩
    rw [pgp_bar]
    have S4 := Sub.wr (o' := .ins (cPg K) dx (pgF len pl lo r.2.1 (decide (r.1 = Wd.kept)) (some false))) S3
    refine gS_CS (fun σ H => σ = [some (V.int len), some v, some (V.str (e_Wd r.1)), some (V.int r.2.1), some (V.int r.2.2), some (V.ref p)] ∧ ∃ B', Sub G2 (B' ++ O) H ∧ PgR (cPg K) B' (.ref p) res) ?_ ?_
    · refine gIfS ?_
      refine gTest ?_
      refine gOp ?_
      refine gV rfl ?_
      refine gC ?_
      refine ⟨_, _, rfl, rfl, decide (r.2.2 > 0), rfl, ?_⟩
      unfold Px.res at hm
      refine ite2 (fun c1 => ?_) (fun c1 => ?_)
      · rw [if_pos (of_decide_eq_true c1)] at hm
        refine gS_SFld ?_
        refine gLst ?_
        refine gCons' ?_
        refine gLst ?_
        refine gCons' ?_
        refine gC ?_
        refine gCons' ?_
        refine gOp ?_
        refine gV rfl ?_
        refine gV rfl ?_
        refine ⟨_, _, rfl, rfl, ?_⟩
        refine gNil' ?_
        refine ⟨sz (by show 2 ≤ 100000; decide), fun e0 ne => ?_⟩
        have S5 := S4.newOwn (o := cel (false, r.2.1 - r.2.2)) ne
        refine gNil' ?_
        refine ⟨sz (by show 1 ≤ 100000; decide), fun lo2 nlo => ?_⟩
        have S6 := (S5.newOwn (o := .lst [.ref e0]) nlo).front 2 rfl rfl
        refine gV rfl ?_
        refine ⟨p, _, dx, _, rfl, S6.head, PT.c, PT.n_loose, pgF_len, ?_⟩
        rw [pgp_loose]
        have S7 := Sub.wr (o' := .ins (cPg K) dx (pgF len pl lo2 r.2.1 (decide (r.1 = Wd.kept)) (some false))) S6
        refine gSFld ?_
        refine gC ?_
        refine gV rfl ?_
        refine ⟨p, _, dx, _, rfl, S7.head, PT.c, PT.n_unknown, pgF_len, ?_⟩
        rw [show (V.non) = unkV none from rfl, pgp_unk]
        have S8 := Sub.wr (o' := .ins (cPg K) dx (pgF len pl lo2 r.2.1 (decide (r.1 = Wd.kept)) none)) S7
        -- p, lo2, e0, pl, lo
        have S9 := ((Sub.front S8 4 rfl rfl).tail.front 3 rfl rfl).front 1 rfl rfl
        refine ⟨rfl, pgB (cPg K) p dx pl lo2 [e0] res, ?_, p, dx, pl, lo2, [e0], rfl, rfl, ?_, ?_, ?_⟩
        · rw [← hm]
          exact S9
        · rw [← hm]; rfl
        · rw [← hm]; exact Nat.le_refl _
        · rw [← hm]; exact Nat.le_refl _
      · rw [if_neg (fun h => c1 (decide_eq_true h))] at hm
        refine gNext ?_
        refine ⟨rfl, pgB (cPg K) p dx pl lo [] res, ?_, p, dx, pl, lo, [], rfl, rfl, ?_, ?_, ?_⟩
        · rw [← hm]; exact S4
        · rw [← hm]; rfl
        · rw [← hm]; exact Nat.le_refl _
        · rw [← hm]; exact Nat.le_refl _
    · rintro σ H ⟨rfl, B', S5, hp5⟩
      refine gRet ?_
      refine gV rfl ?_
      exact q p G2 H B' (e1.trans e2) S5 hp5
end
end Mr

set_option Elab.async false
set_option linter.all false
set_option maxRecDepth 100000
set_option maxHeartbeats 4000000
set_option synthInstance.maxSize 4000
set_option synthInstance.maxHeartbeats 400000
namespace Mr
open PySem PySem.Spec PyProof.Rows L2
section
variable {P : Program} {w : World} {K : PySem.W.Frag} {mg : Str → Option Value} {base : Heap}
theorem sc_law_resumed : FnScope ["_law_length_here", "_law_standing_here", "_law_blocks", "_law_page", "_law_count", "_law_space", "_law_kept", "_law_is_new"] ["_law_length_here", "_law_standing_here", "_law_blocks"] (defScope s_law_resumed) := ⟨rfl, rfl, rfl, by decide +kernel, rfl, by decide +kernel, by decide +kernel⟩
theorem ok_law_resumed (T : Tx K mg) (PT : PgT K mg) : FnOk P w K mg base CX0 6 (He.fAd K ("_law_resumed", none)) T.fd_law_resumed ["_law_length_here", "_law_standing_here", "_law_blocks"] (sp_law_resumed K) := by
  refine T.F_law_resumed.ok sc_law_resumed (fun vs H Q E h => ?_) (fun cdv A outer s H0 vs Q E hr h => ?_)
  · obtain ⟨G, O, length_here1, v1, standing_here1, v2, blocks1, rfl, _⟩ := h
    rfl
  · obtain ⟨G0, O, length_here1, v1, standing_here1, v2, blocks1, rfl, S0, h1, h2, res, hm, q⟩ := h
    refine ⟨_, PSs.nox (pss_cons (ps_set (i := 3) sc_law_resumed.nd rfl (.inl rfl) (pe_smeth (by rfl) PT.g_Page PT.s_resumed (ok_Page_resumed T PT) (hr.mono (by decide)) PT.F_resumed.kp PT.b_resumed pass0 (pa_cons (pv 0) (pa_cons (pv 1) pa_nil))))
      (pss_cons (ps_cut (ps_for PassesOwn.never rfl (pi_list (pv 2)) (pg_tup rfl (pgs_cons (pg_name (i := 4) sc_law_resumed.nd rfl (.inl rfl)) (pgs_cons (pg_name (i := 5) sc_law_resumed.nd rfl (.inl rfl)) (pgs_cons (pg_name (i := 6) sc_law_resumed.nd rfl (.inl rfl)) (pgs_cons (pg_name (i := 7) sc_law_resumed.nd rfl (.inl rfl)) pgs_nil)))))
      (pss_one (ps_expr (pe_methN (pv 3) PT.c PT.m_block (ok_Page_block PT) (hr.mono (by decide)) (kb_block PT) pass0 (pa_cons (pv 4) pa_nil) (pk_cons (pv 5) (pk_cons (pv 6) (pk_cons (pv 7) pk_nil))))))))
      (pss_one (ps_ret (pe_meth0 (pv 3) PT.c PT.m_finish (ok_Page_finish PT) (hr.mono (by decide)) PT.b_finish .nil pass0))))), ?_⟩
    have E0 := Ext.refl G0
    have hm0 : (Option.bind (Px.resumed length_here1 standing_here1) fun pg1 =>
  Option.bind (folM (m_law_resumed_b1) blocks1 pg1) fun page1 =>
  Option.bind (Px.fin page1) fun r1 =>
  some r1) = some res := hm
    refine gS_AsgN ?_
    refine gCall ?_
    refine gCons' ?_
    refine gV rfl ?_
    refine gCons' ?_
    refine gV rfl ?_
    refine gNil' ?_
    obtain ⟨pg1, hq1, hm1⟩ := bindS hm0
    refine ⟨G0, (O), length_here1, v1, standing_here1, rfl, S0, h1, pg1, hq1, fun p1 G1 H1 B1 e1 S1 h3 => ?_⟩
    have h4 := R.up e1 h1
    have h5 := R.up e1 h2
    have E1 := E0.trans e1
    have S2 : Sub G1 ((B1 ++ O)) H1 := Sub.bBack (E := ([] : Own)) (B := B1) (O := O) S1
    obtain ⟨page1, hl1, hm2⟩ := bindS hm1
    refine gS_CS (fun (σ : L2.St) (H : Hp) => ∃ (G : Hp) (B2 : Own) (y1 : Option V) (y2 : Option V) (y3 : Option V) (y4 : Option V), Ext G1 G ∧ Sub G ((B2 ++ O)) H ∧ σ = [some (V.int length_here1), some v1, some v2, some (V.ref p1), y1, y2, y3, y4] ∧ PgR (cPg K) B2 (V.ref p1) page1) ?_ ?_
    · skip
      refine gFor ?_
      refine gIL ?_
      refine gV rfl ?_
      refine lp_L (r := (rP4 K rInt rInt rBool rBool)) S2 (rM_L (K := K) h5) (fol_for Empty hl1) (fun (s : Px) (σ : L2.St) (H : Hp) => ∃ (G : Hp) (B2 : Own) (y1 : Option V) (y2 : Option V) (y3 : Option V) (y4 : Option V), Ext G1 G ∧ Sub G ((B2 ++ O)) H ∧ σ = [some (V.int length_here1), some v1, some v2, some (V.ref p1), y1, y2, y3, y4] ∧ PgR (cPg K) B2 (V.ref p1) s) ⟨G1, B1, _, _, _, _, (Ext.refl _), S2, rfl, h3⟩ ?_ ?_ ?_
      · intro s σ H hI
        obtain ⟨G, k1, k2, k3, k4, k5, ie, iS, _⟩ := hI
        exact ie.trans iS.ext
      · intro i1 x1 page2 b1 hb1 hr1 v3 σ1 H2 hI1 h6
        obtain ⟨s2, hb2, hb3⟩ := goF_some hb1
        subst hb3
        obtain ⟨G2, B3, y5, y6, y7, y8, e2, S3, rfl, h7⟩ := hI1
        have h8 := R.up e2 h4
        have h9 := R.up e2 h5
        have h10 := R.up e2 (rM_L (K := K) h5)
        have E2 := E1.trans e2
        have h11 := R.up e2 h6
        refine q_gt4 S3 h11 (fun v4 v5 v6 v7 h12 h13 h14 h15 => ?_)
        obtain rfl := (show v4 = (V.int x1.1) from h12)
        obtain rfl := (show v5 = (V.int x1.2.1) from h13)
        obtain rfl := (show v6 = (V.bl x1.2.2.1) from h14)
        obtain rfl := (show v7 = (V.bl x1.2.2.2) from h15)
        have hm3 : (Option.bind (Px.block page2 x1.1 x1.2.1 x1.2.2.1 x1.2.2.2) fun pg2 =>   some pg2) = some s2 := hb2
        refine gDrop ?_
        refine gMethN ?_
        refine gV rfl ?_
        obtain ⟨d1, f1, hh1, hl2⟩ := pg_recv (m := "block") rfl (Sub.bFront (E := ([] : Own)) (B := B3) (O := O) S3) h7
        refine ⟨p1, d1, f1, rfl, hh1, hl2, ?_⟩
        refine gCons' ?_
        refine gV rfl ?_
        refine gNil' ?_
        refine gCons' ?_
        refine gV rfl ?_
        refine gCons' ?_
        refine gV rfl ?_
        refine gCons' ?_
        refine gV rfl ?_
        refine gNil' ?_
        refine ⟨rfl, rfl, ?_⟩
        obtain ⟨pg2, hq2, hm4⟩ := bindS hm3
        refine ⟨G2, ([] : Own) ++ O, B3, (V.ref p1), x1.1, x1.2.1, x1.2.2.1, x1.2.2.2, page2, rfl, (Sub.bFront (E := ([] : Own)) (B := B3) (O := O) S3), h7, pg2, hq2, fun G3 H3 B4 e3 S4 h16 => ?_⟩
        have h17 := R.up e3 h8
        have h18 := R.up e3 h9
        have h19 := R.up e3 h10
        have E3 := E2.trans e3
        have S5 : Sub G3 ((B4 ++ O)) H3 := Sub.bBack (E := ([] : Own)) (B := B4) (O := O) S4
        cases hm4
        exact ⟨_, ⟨G3, B4, _, _, _, _, (e2.trans e3), S5, rfl, h16⟩, hr1⟩
      · intro s σ H h1 h2
        cases h1
        obtain ⟨G, k1, k2, k3, k4, k5, ie, irest⟩ := h2
        exact ⟨G, k1, k2, k3, k4, k5, (ie), irest⟩
    · intro σ2 H4 hJ1
      obtain ⟨G4, B5, y9, y10, y11, y12, e4, S6, rfl, h20⟩ := hJ1
      have h21 := R.up e4 h4
      have h22 := R.up e4 h5
      have E4 := E1.trans e4
      refine gRet ?_
      refine gMeth ?_
      refine gV rfl ?_
      obtain ⟨d2, f2, hh2, hl3⟩ := pg_recv (m := "finish") rfl (Sub.bFront (E := ([] : Own)) (B := B5) (O := O) S6) h20
      refine ⟨p1, d2, f2, rfl, hh2, hl3, ?_⟩
      refine gNil' ?_
      obtain ⟨r1, hq3, hm5⟩ := bindS hm2
      refine ⟨G4, ([] : Own) ++ O, B5, p1, page1, rfl, (Sub.bFront (E := ([] : Own)) (B := B5) (O := O) S6), h20, r1, hq3, fun a1 w1 G5 H5 e5 S7 h23 => ?_⟩
      have h24 := R.up e5 h21
      have h25 := R.up e5 h22
      have E5 := E4.trans e5
      have S8 : Sub G5 ((a1, HO.lst w1) :: (B5 ++ O)) H5 := Sub.bBack (E := ((a1, HO.lst w1) :: ([] : Own))) (B := B5) (O := O) (Sub.bSwap S7)
      obtain ⟨G6, e6, S9, h26⟩ := frz_M S8 h23
      have h27 := R.up e6 h24
      have h28 := R.up e6 h25
      have E6 := E5.trans e6
      have S10 := Sub.bDrop (E := ([] : Own)) S9
      have S10 : Sub G6 (O) H5 := S10
      cases hm5
      exact q (V.ref a1) G6 H5 E6 S10 h26
end
end Mr

set_option Elab.async false
set_option linter.all false
set_option maxRecDepth 100000
set_option maxHeartbeats 4000000
set_option synthInstance.maxSize 4000
set_option synthInstance.maxHeartbeats 400000
namespace Mr
open PySem PySem.Spec PyProof.Rows L2
section
variable {P : Program} {w : World} {K : PySem.W.Frag} {mg : Str → Option Value} {base : Heap}
theorem sc_law_is_block : FnScope ["_law_block_here"] ["_law_block_here"] (defScope s_law_is_block) := ⟨rfl, rfl, rfl, by decide +kernel, rfl, by decide +kernel, by decide +kernel⟩
theorem ok_law_is_block (T : Tx K mg) : FnOk P w K mg base CX0 2 (He.fAd K ("_law_is_block", none)) T.fd_law_is_block ["_law_block_here"] (sp_law_is_block K) := by
  have G_law_number := ok_law_number (P := P) (w := w) (base := base) T
  refine T.F_law_is_block.ok sc_law_is_block (fun vs H Q E h => ?_) (fun cdv A outer s H0 vs Q E hr h => ?_)
  · obtain ⟨G, O, v1, block_here1, rfl, _⟩ := h
    rfl
  · obtain ⟨G0, O, v1, block_here1, rfl, S0, h1, res, hm, q⟩ := h
    refine ⟨_, PSs.nox (pss_cons (ps_if (pt_cut (PW.pt (pw_or (pt_not (pt_val (pe_callB (r := rIsi K) call_isi (by rfl) T.z_isinstance boot_isinstance (pa_cons (pv 0) (pa_cons (pe_bltn (v := .ty "tuple") (by rfl) T.z_tuple boot_tuple rfl) pa_nil))))) (pw_or (pt_cmpR op_neI (pe_callB (r := rLenM K) call_lenM (by rfl) T.z_len boot_len (pa_cons (pv 0) pa_nil)) pe_int (nomark _)) (pw_or (pt_not (pt_val (pe_call G_law_number (hr.mono (by decide)) (by rfl) T.g_law_number T.F_law_number.kp T.b_law_number .nil pass0 (pa_cons (pe_ix ix_tup (pv 0) pe_int (fun _ _ => rfl)) pa_nil)))) (pw_or1 (pt_not (pt_val (pe_call G_law_number (hr.mono (by decide)) (by rfl) T.g_law_number T.F_law_number.kp T.b_law_number .nil pass0 (pa_cons (pe_ix ix_tup (pv 0) pe_int (fun _ _ => rfl)) pa_nil)))))))))) (pss_one (ps_ret pe_bl)) pss_nil)
      (pss_one (ps_ret (pe_cut (pe_and (pe_cut (pe_chain op_le op_le pe_int (pe_ix ix_tup (pv 0) pe_int (fun _ _ => rfl)) pe_int)) (pe_and (pe_cut (pe_chain op_le op_le pe_int (pe_ix ix_tup (pv 0) pe_int (fun _ _ => rfl)) pe_int)) (pe_and (pe_callB (r := rIsi K) call_isi (by rfl) T.z_isinstance boot_isinstance (pa_cons (pe_ix ix_tup (pv 0) pe_int (fun _ _ => rfl)) (pa_cons (pe_bltn (v := .ty "bool") (by rfl) T.z_bool boot_bool rfl) pa_nil))) (pe_one (pe_callB (r := rIsi K) call_isi (by rfl) T.z_isinstance boot_isinstance (pa_cons (pe_ix ix_tup (pv 0) pe_int (fun _ _ => rfl)) (pa_cons (pe_bltn (v := .ty "bool") (by rfl) T.z_bool boot_bool rfl) pa_nil))))))))))), ?_⟩
    have E0 := Ext.refl G0
    have hm0 : (Option.bind (if (!true) then some true else (if (!decide ((4 : Int) = (4 : Int))) then some true else (Option.bind (m_law_number block_here1.1) fun r2 =>
  if (!r2) then some true else (Option.bind (m_law_number block_here1.2.1) fun r4 =>
  some (!r4))))) fun x1 =>
  if x1 then (some false)
  else (some (((decide ((0 : Int) ≤ block_here1.1)) && (decide (block_here1.1 ≤ (200 : Int)))) && (((decide ((0 : Int) ≤ block_here1.2.1)) && (decide (block_here1.2.1 ≤ (2 : Int)))) && (true && true))))) = some res := hm
    refine gS_IfS ?_
    obtain ⟨x1, hq5, hm5⟩ := bindS hm0
    refine gCT (fun (b : Bool) (H : Hp) => ∃ (G : Hp), Ext G0 G ∧ Sub G (O) H ∧ b = x1) ?_ ?_
    · skip
      refine gOr ?_
      refine gNot ?_
      refine gB ?_
      refine gCB ?_
      refine gCons' ?_
      refine gV rfl ?_
      refine gCons' ?_
      refine gC ?_
      refine gNil' ?_
      refine q_isi (ty_P4 (R.up S0.ext h1)) (by decide +kernel : kitB "tuple" "tuple" = some true) ?_
      refine ⟨true, rfl, ?_⟩
      refine ite2 (fun c1 => ?_) (fun c1 => ?_)
      · skip
        have hm6 := (if_pos c1).symm.trans hq5
        cases hm6
        exact ⟨G0, (Ext.refl _), S0, rfl⟩
      · skip
        have hm7 := (if_neg c1).symm.trans hq5
        refine gOr ?_
        refine gTest ?_
        refine gOp ?_
        refine gCB ?_
        refine gCons' ?_
        refine gV rfl ?_
        refine gNil' ?_
        refine q_len4 S0 h1 ?_
        refine gC ?_
        refine ⟨_, _, rfl, rfl, ?_⟩
        refine ⟨(!decide ((4 : Int) = (4 : Int))), rfl, ?_⟩
        refine ite2 (fun c2 => ?_) (fun c2 => ?_)
        · skip
          have hm8 := (if_pos c2).symm.trans hm7
          cases hm8
          exact ⟨G0, (Ext.refl _), S0, rfl⟩
        · skip
          have hm9 := (if_neg c2).symm.trans hm7
          refine gOr ?_
          refine gNot ?_
          refine gB ?_
          refine gCall ?_
          refine gCons' ?_
          refine gOp ?_
          refine gV rfl ?_
          refine gC ?_
          refine q_p4_0 S0 h1 (fun v7 h12 => ?_)
          obtain rfl := (show v7 = (V.int block_here1.1) from h12)
          refine gNil' ?_
          obtain ⟨r6, hq7, hm11⟩ := bindS hm9
          refine ⟨G0, (O), block_here1.1, rfl, S0, r6, hq7, fun G6 H6 e6 S6 => ?_⟩
          have h13 := R.up e6 h1
          have E6 := E0.trans e6
          refine ⟨r6, rfl, ?_⟩
          refine ite2 (fun c3 => ?_) (fun c3 => ?_)
          · skip
            have hm12 := (if_pos c3).symm.trans hm11
            cases hm12
            exact ⟨G6, e6, S6, rfl⟩
          · skip
            have hm13 := (if_neg c3).symm.trans hm11
            refine gNot ?_
            refine gB ?_
            refine gCall ?_
            refine gCons' ?_
            refine gOp ?_
            refine gV rfl ?_
            refine gC ?_
            refine q_p4_1 S6 h13 (fun v9 h16 => ?_)
            obtain rfl := (show v9 = (V.int block_here1.2.1) from h16)
            refine gNil' ?_
            obtain ⟨r8, hq9, hm15⟩ := bindS hm13
            refine ⟨G6, (O), block_here1.2.1, rfl, S6, r8, hq9, fun G8 H8 e8 S8 => ?_⟩
            have h17 := R.up e8 h13
            have E8 := E6.trans e8
            refine ⟨r8, rfl, ?_⟩
            cases hm15
            exact ⟨G8, (e6.trans e8), S8, rfl⟩
    · intro b1 H9 hJ
      obtain ⟨G9, e9, S9, rfl⟩ := hJ
      have h18 := R.up e9 h1
      have E9 := E0.trans e9
      refine ite2 (fun c4 => ?_) (fun c4 => ?_)
      · skip
        have hm16 := (if_pos c4).symm.trans hm5
        refine gRet ?_
        refine gC ?_
        cases hm16
        exact q G9 H9 E9 S9
      · skip
        have hm17 := (if_neg c4).symm.trans hm5
        refine gNext ?_
        refine gE ?_
        refine gRet ?_
        refine gCE (fun (b : V) (H : Hp) => ∃ (G : Hp), Ext G9 G ∧ Sub G (O) H ∧ b = V.bl (((decide ((0 : Int) ≤ block_here1.1)) && (decide (block_here1.1 ≤ (200 : Int)))) && (((decide ((0 : Int) ≤ block_here1.2.1)) && (decide (block_here1.2.1 ≤ (2 : Int)))) && (true && true)))) ?_ ?_
        · skip
          refine gAndV ?_
          refine gCE (fun (b : V) (H : Hp) => H = H9 ∧ b = V.bl ((decide ((0 : Int) ≤ block_here1.1)) && (decide (block_here1.1 ≤ (200 : Int))))) ?_ ?_
          · skip
            refine gChain ?_
            refine gC ?_
            refine gOp ?_
            refine gV rfl ?_
            refine gC ?_
            refine q_p4_0 S9 h18 (fun v19 h28 => ?_)
            obtain rfl := (show v19 = (V.int block_here1.1) from h28)
            refine ⟨_, _, rfl, rfl, ⟨(decide ((0 : Int) ≤ block_here1.1)), rfl, ?_⟩⟩
            refine ite2 (fun c7 => ?_) (fun c7 => ?_)
            · skip
              refine gC ?_
              exact ⟨_, _, rfl, rfl, rfl, by rw [c7, Bool.true_and]⟩
            · exact ⟨rfl, by rw [ne_false c7, Bool.false_and]⟩
          · rintro b4 H12 ⟨e12, rfl⟩
            rw [e12]
            refine ⟨((decide ((0 : Int) ≤ block_here1.1)) && (decide (block_here1.1 ≤ (200 : Int)))), rfl, ?_⟩
            refine ite2 (fun c8 => ?_) (fun c8 => ?_)
            · skip
              refine gAndV ?_
              refine gCE (fun (b : V) (H : Hp) => H = H9 ∧ b = V.bl ((decide ((0 : Int) ≤ block_here1.2.1)) && (decide (block_here1.2.1 ≤ (2 : Int))))) ?_ ?_
              · skip
                refine gChain ?_
                refine gC ?_
                refine gOp ?_
                refine gV rfl ?_
                refine gC ?_
                refine q_p4_1 S9 h18 (fun v21 h30 => ?_)
                obtain rfl := (show v21 = (V.int block_here1.2.1) from h30)
                refine ⟨_, _, rfl, rfl, ⟨(decide ((0 : Int) ≤ block_here1.2.1)), rfl, ?_⟩⟩
                refine ite2 (fun c9 => ?_) (fun c9 => ?_)
                · skip
                  refine gC ?_
                  exact ⟨_, _, rfl, rfl, rfl, by rw [c9, Bool.true_and]⟩
                · exact ⟨rfl, by rw [ne_false c9, Bool.false_and]⟩
              · rintro b5 H13 ⟨e13, rfl⟩
                rw [e13]
                refine ⟨((decide ((0 : Int) ≤ block_here1.2.1)) && (decide (block_here1.2.1 ≤ (2 : Int)))), rfl, ?_⟩
                refine ite2 (fun c10 => ?_) (fun c10 => ?_)
                · skip
                  refine gAndV ?_
                  refine gCB ?_
                  refine gCons' ?_
                  refine gOp ?_
                  refine gV rfl ?_
                  refine gC ?_
                  refine q_p4_2 S9 h18 (fun v22 h31 => ?_)
                  obtain rfl := (show v22 = (V.bl block_here1.2.2.1) from h31)
                  refine gCons' ?_
                  refine gC ?_
                  refine gNil' ?_
                  refine q_isi (ty_B _) (by decide +kernel : kitB "bool" "bool" = some true) ?_
                  refine ⟨true, rfl, ?_⟩
                  refine ite2 (fun c11 => ?_) (fun c11 => ?_)
                  · skip
                    refine gCB ?_
                    refine gCons' ?_
                    refine gOp ?_
                    refine gV rfl ?_
                    refine gC ?_
                    refine q_p4_3 S9 h18 (fun v23 h32 => ?_)
                    obtain rfl := (show v23 = (V.bl block_here1.2.2.2) from h32)
                    refine gCons' ?_
                    refine gC ?_
                    refine gNil' ?_
                    refine q_isi (ty_B _) (by decide +kernel : kitB "bool" "bool" = some true) ?_
                    exact ⟨G9, (Ext.refl _), S9, congrArg V.bl (by rw [c8, Bool.true_and, c10, Bool.true_and, c11, Bool.true_and])⟩
                  · skip
                    exact ⟨G9, (Ext.refl _), S9, congrArg V.bl (by rw [c8, Bool.true_and, c10, Bool.true_and, ne_false c11, Bool.false_and])⟩
                · skip
                  exact ⟨G9, (Ext.refl _), S9, congrArg V.bl (by rw [c8, Bool.true_and, ne_false c10, Bool.false_and])⟩
            · skip
              exact ⟨G9, (Ext.refl _), S9, congrArg V.bl (by rw [ne_false c8, Bool.false_and])⟩
        · intro b6 H14 hJ
          obtain ⟨G10, e14, S10, rfl⟩ := hJ
          have h33 := R.up e14 h18
          have E10 := E9.trans e14
          cases hm17
          exact q G10 H14 E10 S10
end
end Mr

set_option Elab.async false
set_option linter.all false
set_option maxRecDepth 100000
set_option maxHeartbeats 4000000
set_option synthInstance.maxSize 4000
set_option synthInstance.maxHeartbeats 400000
namespace Mr
open PySem PySem.Spec PyProof.Rows L2
section
variable {P : Program} {w : World} {K : PySem.W.Frag} {mg : Str → Option Value} {base : Heap}
theorem sc_law_right : FnScope ["_law_length_here", "_law_one", "_law_two", "_law_blocks", "_law_told", "_law_twins", "_law_back", "_law_twin", "_law_block_here", "_law_kept", "_law_again"] ["_law_length_here", "_law_one", "_law_two", "_law_blocks"] (defScope s_law_right) := ⟨rfl, rfl, rfl, by decide +kernel, rfl, by decide +kernel, by decide +kernel⟩
theorem ok_law_right (T : Tx K mg) (PT : PgT K mg) : FnOk P w K mg base CX0 7 (He.fAd K ("_law_right", none)) T.fd_law_right ["_law_length_here", "_law_one", "_law_two", "_law_blocks"] (sp_law_right K) := by
  have G_law_behind := ok_law_behind (P := P) (w := w) (base := base) T
  have G_law_is_block := ok_law_is_block (P := P) (w := w) (base := base) T
  have G_law_resumed := ok_law_resumed (P := P) (w := w) (base := base) T PT
  have G_parting_blocks := ok_parting_blocks (P := P) (w := w) (base := base) T
  refine T.F_law_right.ok sc_law_right (fun vs H Q E h => ?_) (fun cdv A outer s H0 vs Q E hr h => ?_)
  · obtain ⟨G, O, length_here1, v1, one1, v2, two1, v3, blocks1, rfl, _⟩ := h
    rfl
  · obtain ⟨G0, O, length_here1, v1, one1, v2, two1, v3, blocks1, rfl, S0, h1, h2, h3, res, hm, q⟩ := h
    refine ⟨_, PSs.nox (pss_cons (ps_set (i := 4) sc_law_right.nd rfl (.inl rfl) (pe_call G_parting_blocks (hr.mono (by decide)) (by rfl) T.g_parting_blocks T.F_parting_blocks.kp T.b_parting_blocks .nil passL (pa_cons (pv 0) (pa_cons (pv 1) (pa_cons (pv 2) pa_nil)))))
      (pss_cons (ps_setLc (i := 5) (own := [("_law_back", 6)]) (g := gName 6) (by rfl) sc_law_right.nd rfl rfl (sw_true rfl rfl rfl (by decide +kernel)) (pi_range2 (by rfl) T.z_range (pa_cons pe_int (pa_cons (pv 0) pa_nil))) (blkOk_by (own := [("_law_back", 6)]) (N := ["_law_length_here", "_law_one", "_law_two", "_law_blocks", "_law_told", "_law_twins", "_law_back", "_law_twin", "_law_block_here", "_law_kept", "_law_again"]) (sc := defScope s_law_right) (by decide +kernel)) (fun _ _ _ _ _ => (pg_name (i := 6) sc_law_right.nd rfl (.inl rfl))) (fun _ _ _ _ _ => (pts_one (pt_cmpR (op_inDTK (K := K) rfl (un65 hr)) (pe_tup (pa_cons pe_str (pa_cons (pv 6) (pa_cons pe_int pa_nil)))) (pe_tup (pa_cons (pv 1) (pa_cons (pv 2) pa_nil))) (by with_unfolding_all rfl)))) (fun _ _ _ _ _ => (pe_tup (pa_cons pe_str (pa_cons (pv 0) (pa_cons (pv 6) pa_nil))))))
      (pss_cons (ps_if (pt_cut (PW.pt (pw_or (pt_cmpR (op_eqD hr.units) (pv 1) (pv 2) (nomark _)) (pw_or1 (pt_cmpR (op_neD hr.units) (pe_lc (own := [("_law_twin", 7)]) (g := gName 7) (by rfl) sc_law_right.nd (pi_list (pv 5)) (blkOk_by (own := [("_law_twin", 7)]) (N := ["_law_length_here", "_law_one", "_law_two", "_law_blocks", "_law_told", "_law_twins", "_law_back", "_law_twin", "_law_block_here", "_law_kept", "_law_again"]) (sc := defScope s_law_right) (by decide +kernel)) (fun _ _ _ _ _ => (pg_name (i := 7) sc_law_right.nd rfl (.inl rfl))) (fun _ _ _ _ _ => (pts_one (pt_cmpR (op_inDTK (K := K) rfl (un65 hr)) (pv 7) (pe_tup (pa_cons (pv 1) (pa_cons (pv 2) pa_nil))) (by with_unfolding_all rfl)))) (fun _ _ _ _ _ => (pv 7))) (pe_lst pa_nil) (nomark _)))))) (pss_cons (ps_if (pt_cut (PW.pt (pw_or (pt_cmpR op_isNotNon (pv 4) pe_non (nomark _)) (pw_or1 (pt_cmpR (op_neD hr.units) (pe_call G_law_resumed (hr.mono (by decide)) (by rfl) T.g_law_resumed T.F_law_resumed.kp T.b_law_resumed .nil pass0 (pa_cons (pv 0) (pa_cons (pv 1) (pa_cons (pv 3) pa_nil)))) (pe_call G_law_resumed (hr.mono (by decide)) (by rfl) T.g_law_resumed T.F_law_resumed.kp T.b_law_resumed .nil pass0 (pa_cons (pv 0) (pa_cons (pv 2) (pa_cons (pv 3) pa_nil)))) (nomark _)))))) (pss_one (ps_ret pe_bl)) pss_nil)
      (pss_one (ps_ret (pe_cmpR (op_eqD hr.units) (pe_call G_law_behind (hr.mono (by decide)) (by rfl) T.g_law_behind T.F_law_behind.kp T.b_law_behind .nil pass0 (pa_cons (pv 0) (pa_cons (pv 1) (pa_cons (pv 3) pa_nil)))) (pe_call G_law_behind (hr.mono (by decide)) (by rfl) T.g_law_behind T.F_law_behind.kp T.b_law_behind .nil pass0 (pa_cons (pv 0) (pa_cons (pv 2) (pa_cons (pv 3) pa_nil)))) (nomark _))))) pss_nil)
      (pss_cons (ps_if (pt_cut (PW.pt (pw_or (pt_not (pt_val (pe_callB (r := rIsi K) call_isi (by rfl) T.z_isinstance boot_isinstance (pa_cons (pv 4) (pa_cons (pe_bltn (v := .ty "list") (by rfl) T.z_list boot_list rfl) pa_nil))))) (pw_or (pt_cmpR op_gt (pe_callB (r := rLenM K) call_lenM (by rfl) T.z_len boot_len (pa_cons (pv 4) pa_nil)) (pe_op op_add (pv 0) pe_int) (nomark _)) (pw_or1 (pt_not (pt_val (pe_cut (pe_callB (cr_all rfl) (by rfl) T.z_all boot_all (pa_cons (pe_lc (own := [("_law_block_here", 8)]) (g := gName 8) (by rfl) sc_law_right.nd (pi_list (pv 4)) (blkOk_by (own := [("_law_block_here", 8)]) (N := ["_law_length_here", "_law_one", "_law_two", "_law_blocks", "_law_told", "_law_twins", "_law_back", "_law_twin", "_law_block_here", "_law_kept", "_law_again"]) (sc := defScope s_law_right) (by decide +kernel)) (fun _ _ _ _ _ => (pg_name (i := 8) sc_law_right.nd rfl (.inl rfl))) (fun _ _ _ _ _ => pts_nil) (fun _ _ _ _ _ => (pe_call G_law_is_block (hr.mono (by decide)) (by rfl) T.g_law_is_block T.F_law_is_block.kp T.b_law_is_block .nil pass0 (pa_cons (pv 8) pa_nil)))) pa_nil)))))))))) (pss_one (ps_ret pe_bl)) pss_nil)
      (pss_cons (ps_if (pt_cut (pt_cmpR (op_eqD hr.units) (pe_call G_law_behind (hr.mono (by decide)) (by rfl) T.g_law_behind T.F_law_behind.kp T.b_law_behind .nil pass0 (pa_cons (pv 0) (pa_cons (pv 1) (pa_cons (pv 4) pa_nil)))) (pe_call G_law_behind (hr.mono (by decide)) (by rfl) T.g_law_behind T.F_law_behind.kp T.b_law_behind .nil pass0 (pa_cons (pv 0) (pa_cons (pv 2) (pa_cons (pv 4) pa_nil)))) (nomark _))) (pss_one (ps_ret pe_bl)) pss_nil)
      (pss_cons (ps_set (i := 9) sc_law_right.nd rfl (.inl rfl) (pe_callTy (r := rListOf K) call_listOf (by rfl) T.z_list boot_list (pa_cons (pv 4) pa_nil)))
      (pss_cons (ps_expr (pe_bm PySem.F.plainAttrs_list PySem.F.slot_list_append PySem.F.type_list_append mt_append (pv 4) (pa_cons pe_non pa_nil)))
      (pss_cons (ps_set (i := 10) sc_law_right.nd rfl (.inl rfl) (pe_call G_parting_blocks (hr.mono (by decide)) (by rfl) T.g_parting_blocks T.F_parting_blocks.kp T.b_parting_blocks .nil passL (pa_cons (pv 0) (pa_cons (pv 2) (pa_cons (pv 1) pa_nil)))))
      (pss_cons (ps_if (pt_cut (PW.pt (pw_or (pt_not (pt_val (pe_callB (r := rIsi K) call_isi (by rfl) T.z_isinstance boot_isinstance (pa_cons (pv 10) (pa_cons (pe_bltn (v := .ty "list") (by rfl) T.z_list boot_list rfl) pa_nil))))) (pw_or1 (pt_cut (pt_cmpR (op_eqD hr.units) (pe_call G_law_behind (hr.mono (by decide)) (by rfl) T.g_law_behind T.F_law_behind.kp T.b_law_behind .nil pass0 (pa_cons (pv 0) (pa_cons (pv 1) (pa_cons (pv 10) pa_nil)))) (pe_call G_law_behind (hr.mono (by decide)) (by rfl) T.g_law_behind T.F_law_behind.kp T.b_law_behind .nil pass0 (pa_cons (pv 0) (pa_cons (pv 2) (pa_cons (pv 10) pa_nil)))) (nomark _))))))) (pss_one (ps_ret pe_bl)) pss_nil)
      (pss_one (ps_ret (pe_cmpR (op_neD hr.units) (pe_call G_law_resumed (hr.mono (by decide)) (by rfl) T.g_law_resumed T.F_law_resumed.kp T.b_law_resumed .nil pass0 (pa_cons (pv 0) (pa_cons (pv 1) (pa_cons (pv 9) pa_nil)))) (pe_call G_law_resumed (hr.mono (by decide)) (by rfl) T.g_law_resumed T.F_law_resumed.kp T.b_law_resumed .nil pass0 (pa_cons (pv 0) (pa_cons (pv 2) (pa_cons (pv 9) pa_nil)))) (nomark _))))))))))))), ?_⟩
    have E0 := Ext.refl G0
    have hm0 : (Option.bind (okR (m_parting_blocks length_here1 one1 two1)) fun r1 =>
  match r1 with
  | none => (Option.bind (rng2M (1 : Int) length_here1) fun xs1 =>
  Option.bind (folM (m_law_right_c1 length_here1 one1 two1) xs1 ([] : (List (Wd × Int × Int)))) fun acc1 =>
  Option.bind (if (decide (one1 = two1)) then some true else (Option.bind (folM (m_law_right_c2 one1 two1) acc1 ([] : (List (Wd × Int × Int)))) fun acc4 =>
  some (!decide (acc4 = ([] : (List (Wd × Int × Int))))))) fun x3 =>
  if x3 then (Option.bind (Option.bind (m_law_resumed length_here1 one1 blocks1) fun r2 =>
  Option.bind (m_law_resumed length_here1 two1 blocks1) fun r3 =>
  some (!decide (r2 = r3))) fun x5 =>
  if x5 then (some false)
  else (Option.bind (m_law_behind length_here1 one1 blocks1) fun r6 =>
  Option.bind (m_law_behind length_here1 two1 blocks1) fun r7 =>
  some (decide (r6 = r7))))
  else (some false))
  | some told1 => (Option.bind (rng2M (1 : Int) length_here1) fun xs2 =>
  Option.bind (folM (m_law_right_c3 length_here1 one1 two1) xs2 ([] : (List (Wd × Int × Int)))) fun acc10 =>
  Option.bind (if (decide (one1 = two1)) then some true else (Option.bind (folM (m_law_right_c4 one1 two1) acc10 ([] : (List (Wd × Int × Int)))) fun acc13 =>
  some (!decide (acc13 = ([] : (List (Wd × Int × Int))))))) fun x8 =>
  if x8 then (some false)
  else (Option.bind (if (decide ((told1.length : Int) > (length_here1 + (1 : Int)))) then some true else (Option.bind (Option.bind (folM (m_law_right_c5) told1 ([] : (List Bool))) fun acc25 =>
  some (acc25.all id)) fun x14 =>
  some (!x14))) fun x16 =>
  if x16 then (some false)
  else (Option.bind (Option.bind (m_law_behind length_here1 one1 told1) fun r24 =>
  Option.bind (m_law_behind length_here1 two1 told1) fun r25 =>
  some (decide (r24 = r25))) fun x23 =>
  if x23 then (some false)
  else (Option.bind (appU told1) fun u1 =>
  Option.bind (okR (m_parting_blocks length_here1 two1 one1)) fun r28 =>
  match r28 with
  | none => (some false)
  | some again1 => (Option.bind (Option.bind (Option.bind (m_law_behind length_here1 one1 again1) fun r29 =>
  Option.bind (m_law_behind length_here1 two1 again1) fun r30 =>
  some (decide (r29 = r30))) fun x24 =>
  some x24) fun x25 =>
  if x25 then (some false)
  else (Option.bind (m_law_resumed length_here1 one1 told1) fun r37 =>
  Option.bind (m_law_resumed length_here1 two1 told1) fun r38 =>
  some (!decide (r37 = r38))))))))) = some res := hm
    refine gS_AsgN ?_
    refine gCall ?_
    refine gCons' ?_
    refine gV rfl ?_
    refine gCons' ?_
    refine gV rfl ?_
    refine gCons' ?_
    refine gV rfl ?_
    refine gNil' ?_
    obtain ⟨r1, hq1, hm1⟩ := bindS hm0
    refine ⟨G0, (O), length_here1, v1, one1, v2, two1, rfl, S0, h1, h2, Rs.ok r1, (okR_some hq1), q_ok rfl (fun B1 v4 G1 H1 e1 S1 h4 => ?_), q_noer rfl⟩
    have h5 := R.up e1 h1
    have h6 := R.up e1 h2
    have h7 := R.up e1 h3
    have E1 := E0.trans e1
    rcases r1 with _ | told1
    · skip
      dsimp only at hm1
      obtain ⟨rfl, rfl⟩ := h4
      have S2 : Sub G1 (O) H1 := S1
      refine gS_AsgN ?_
      refine gLc ?_
      refine gIR2 ?_
      refine gCons' ?_
      refine gC ?_
      refine gCons' ?_
      refine gV rfl ?_
      refine gNil' ?_
      obtain ⟨xs1, hq2, hm2⟩ := bindS hm1
      obtain ⟨acc1, hq3, hm3⟩ := bindS hm2
      refine lc_R2 hq2 hq3 (fun (D : Addr) (s : (List (Wd × Int × Int))) (H : Hp) => ∃ (G : Hp) (w1 : List V), Ext G1 G ∧ Sub G ((D, HO.lst w1) :: O) H ∧ Al (rP3 K (rEn e_Wd) rInt rInt) G w1 s) ?_ ?_ ?_
      · intro D1 nD1
        exact ⟨G1, [], Ext.refl _, S2.newOwn nD1, True.intro⟩
      · intro D2 i1 x1 acc2 s2 hb1 hr1 H5 hI1
        obtain ⟨G5, w2, e5, S6, h23⟩ := hI1
        have h24 := R.up e5 h5
        have h25 := R.up e5 h6
        have h26 := R.up e5 h7
        have E5 := E1.trans e5
        refine ⟨rfl, ?_⟩
        have hm4 : (if (memB (Wd.kept, x1, (0 : Int)) ([one1, two1] : List (Wd × Int × Int))) then (Option.bind (appM acc2 (Wd.kept, length_here1, x1)) fun acc3 =>   some acc3)   else (some acc2)) = some s2 := hb1
        refine gTest ?_
        refine gOp ?_
        refine gTup' ?_
        refine gCons' ?_
        refine gC ?_
        refine gCons' ?_
        refine gV rfl ?_
        refine gCons' ?_
        refine gC ?_
        refine gNil' ?_
        refine q_tup3 (K := K) S6 (show R.rel (rEn e_Wd) G5 (V.str (e_Wd Wd.kept)) Wd.kept from rfl) (show R.rel rInt G5 (V.int x1) x1 from rfl) (show R.rel rInt G5 (V.int (0 : Int)) (0 : Int) from rfl) (fun v9 G6 H6 e6 S7 h27 => ?_)
        have h28 := R.up e6 h24
        have h29 := R.up e6 h25
        have h30 := R.up e6 h26
        have h31 := Al.up e6 h23
        have E6 := E5.trans e6
        refine gTup' ?_
        refine gCons' ?_
        refine gV rfl ?_
        refine gCons' ?_
        refine gV rfl ?_
        refine gNil' ?_
        have h32 : Al (rP3 K (rEn e_Wd) rInt rInt) G6 [v1, v2] ([one1, two1] : List (Wd × Int × Int)) := ⟨h28, h29, True.intro⟩
        refine q_tupN (K := K) S7 (by show 2 ≤ 100000; decide) h32 (fun v10 G7 H7 e7 S8 h33 => ?_)
        have h34 := R.up e7 h28
        have h35 := R.up e7 h29
        have h36 := R.up e7 h30
        have h37 := Al.up e7 h31
        have h38 := R.up e7 h27
        have E7 := E6.trans e7
        refine q_inDT (dP3 (dEn (K := K) e_Wd e_Wd_inj e_Wd_ok) (dInt (K := K)) (dInt (K := K))) (by show 5 ≤ 64; decide) (R.up S8.ext h38) (R.up S8.ext h33) ((okP3 okEn okI okI) _) (ok_all (okP3 okEn okI okI) _) ?_
        refine ⟨(memB (Wd.kept, x1, (0 : Int)) ([one1, two1] : List (Wd × Int × Int))), rfl, ?_⟩
        refine ite2 (fun c1 => ?_) (fun c1 => ?_)
        · skip
          have hm5 := (if_pos c1).symm.trans hm4
          refine gTup' ?_
          refine gCons' ?_
          refine gC ?_
          refine gCons' ?_
          refine gV rfl ?_
          refine gCons' ?_
          refine gV rfl ?_
          refine gNil' ?_
          refine q_tup3 (K := K) S8 (show R.rel (rEn e_Wd) G7 (V.str (e_Wd Wd.kept)) Wd.kept from rfl) (show R.rel rInt G7 (V.int length_here1) length_here1 from rfl) (show R.rel rInt G7 (V.int x1) x1 from rfl) (fun v11 G8 H8 e8 S9 h39 => ?_)
          have h40 := R.up e8 h34
          have h41 := R.up e8 h35
          have h42 := R.up e8 h36
          have h43 := Al.up e8 h37
          have E8 := E7.trans e8
          obtain ⟨acc3, hq4, hm6⟩ := bindS hm5
          refine q_lcEl S9 h43 (show R.rel (rP3 K (rEn e_Wd) rInt rInt) G8 v11 (Wd.kept, length_here1, x1) from h39) hq4 (fun H9 w3 S10 h44 => ?_)
          cases hm6
          exact ⟨_, ⟨G8, w3, (((e5.trans e6).trans e7).trans e8), S10, h44⟩, hr1⟩
        · skip
          have hm7 := (if_neg c1).symm.trans hm4
          cases hm7
          exact ⟨_, ⟨G7, w2, ((e5.trans e6).trans e7), S8, h37⟩, hr1⟩
      · intro D3 H10 hI2
        obtain ⟨G9, w4, e9, S11, h45⟩ := hI2
        have h46 := R.up e9 h5
        have h47 := R.up e9 h6
        have h48 := R.up e9 h7
        have E9 := E1.trans e9
        obtain ⟨G10, e10, S12, h49⟩ := frz_M S11 h45
        have h50 := R.up e10 h46
        have h51 := R.up e10 h47
        have h52 := R.up e10 h48
        have E10 := E9.trans e10
        refine gS_IfS ?_
        obtain ⟨x3, hq7, hm13⟩ := bindS hm3
        refine gCT (fun (b : Bool) (H : Hp) => ∃ (G : Hp), Ext G10 G ∧ Sub G (O) H ∧ b = x3) ?_ ?_
        · skip
          refine gOr ?_
          refine gTest ?_
          refine gOp ?_
          refine gV rfl ?_
          refine gV rfl ?_
          refine q_eqD (dP3 (dEn (K := K) e_Wd e_Wd_inj e_Wd_ok) (dInt (K := K)) (dInt (K := K))) (by show 4 ≤ 64; decide) (R.up S12.ext h50) (R.up S12.ext h51) ((okP3 okEn okI okI) _) ((okP3 okEn okI okI) _) ?_
          refine ⟨(decide (one1 = two1)), rfl, ?_⟩
          refine ite2 (fun c3 => ?_) (fun c3 => ?_)
          · skip
            have hm14 := (if_pos c3).symm.trans hq7
            cases hm14
            exact ⟨G10, (Ext.refl _), S12, rfl⟩
          · skip
            have hm15 := (if_neg c3).symm.trans hq7
            refine gTest ?_
            refine gOp ?_
            refine gLc ?_
            refine gIL ?_
            refine gV rfl ?_
            obtain ⟨acc7, hq8, hm16⟩ := bindS hm15
            refine lc_L (r := (rP3 K (rEn e_Wd) rInt rInt)) S12 (rM_L (K := K) h49) hq8 (fun (D : Addr) (s : (List (Wd × Int × Int))) (H : Hp) => ∃ (G : Hp) (w9 : List V), Ext G10 G ∧ Sub G ((D, HO.lst w9) :: O) H ∧ Al (rP3 K (rEn e_Wd) rInt rInt) G w9 s) ?_ ?_ ?_ ?_
            · intro D7 nD3
              exact ⟨G10, [], Ext.refl _, S12.newOwn nD3, True.intro⟩
            · intro D s H hI
              obtain ⟨G, k3, ie, iS, _⟩ := hI
              exact ie.trans iS.ext
            · intro D8 i3 x4 acc8 s6 hb3 hr3 v16 H17 hI5 h93
              obtain ⟨G16, w10, e16, S20, h94⟩ := hI5
              have h95 := R.up e16 h50
              have h96 := R.up e16 h51
              have h97 := R.up e16 h52
              have h98 := R.up e16 h49
              have h99 := R.up e16 (rM_L (K := K) h49)
              have E16 := E10.trans e16
              have h100 := R.up e16 h93
              refine ⟨rfl, ?_⟩
              have hm17 : (if (memB x4 ([one1, two1] : List (Wd × Int × Int))) then (Option.bind (appM acc8 x4) fun acc9 =>   some acc9)   else (some acc8)) = some s6 := hb3
              refine gTest ?_
              refine gOp ?_
              refine gV rfl ?_
              refine gTup' ?_
              refine gCons' ?_
              refine gV rfl ?_
              refine gCons' ?_
              refine gV rfl ?_
              refine gNil' ?_
              have h101 : Al (rP3 K (rEn e_Wd) rInt rInt) G16 [v1, v2] ([one1, two1] : List (Wd × Int × Int)) := ⟨h95, h96, True.intro⟩
              refine q_tupN (K := K) S20 (by show 2 ≤ 100000; decide) h101 (fun v17 G17 H18 e17 S21 h102 => ?_)
              have h103 := R.up e17 h95
              have h104 := R.up e17 h96
              have h105 := R.up e17 h97
              have h106 := R.up e17 h98
              have h107 := R.up e17 h100
              have h108 := R.up e17 h99
              have h109 := Al.up e17 h94
              have E17 := E16.trans e17
              refine q_inDT (dP3 (dEn (K := K) e_Wd e_Wd_inj e_Wd_ok) (dInt (K := K)) (dInt (K := K))) (by show 5 ≤ 64; decide) (R.up S21.ext h107) (R.up S21.ext h102) ((okP3 okEn okI okI) _) (ok_all (okP3 okEn okI okI) _) ?_
              refine ⟨(memB x4 ([one1, two1] : List (Wd × Int × Int))), rfl, ?_⟩
              refine ite2 (fun c4 => ?_) (fun c4 => ?_)
              · skip
                have hm18 := (if_pos c4).symm.trans hm17
                refine gV rfl ?_
                obtain ⟨acc9, hq9, hm19⟩ := bindS hm18
                refine q_lcEl S21 h109 (show R.rel (rP3 K (rEn e_Wd) rInt rInt) G17 v16 x4 from h107) hq9 (fun H19 w11 S22 h110 => ?_)
                cases hm19
                exact ⟨_, ⟨G17, w11, (e16.trans e17), S22, h110⟩, hr3⟩
              · skip
                have hm20 := (if_neg c4).symm.trans hm17
                cases hm20
                exact ⟨_, ⟨G17, w10, (e16.trans e17), S21, h109⟩, hr3⟩
            · intro D9 H20 hI6
              obtain ⟨G18, w12, e18, S23, h111⟩ := hI6
              have h112 := R.up e18 h50
              have h113 := R.up e18 h51
              have h114 := R.up e18 h52
              have h115 := R.up e18 h49
              have E18 := E10.trans e18
              refine gLst ?_
              refine gNil' ?_
              refine ⟨sz0, fun p2 np2 => ?_⟩
              have S24 : Sub G18 ((D9, HO.lst w12) :: O) (upd H20 p2 (.lst [])) := S23.junk np2
              have h116 := rM_own S24 h111
              refine q_neD (dM (dP3 (dEn (K := K) e_Wd e_Wd_inj e_Wd_ok) (dInt (K := K)) (dInt (K := K)))) (by show 5 ≤ 64; decide) h116 (⟨p2, [], rfl, upd_same, True.intro⟩ : R.rel (rM (rP3 K (rEn e_Wd) rInt rInt)) (upd H20 p2 (.lst [])) (V.ref p2) []) ((okM (okP3 okEn okI okI)) _) ((okM (okP3 okEn okI okI)) _) ?_
              refine ⟨(!decide (acc7 = ([] : (List (Wd × Int × Int))))), rfl, ?_⟩
              have S25 := S24.tail
              cases hm16
              exact ⟨G18, e18, S25, rfl⟩
        · intro b1 H21 hJ
          obtain ⟨G19, e19, S26, rfl⟩ := hJ
          have h117 := R.up e19 h50
          have h118 := R.up e19 h51
          have h119 := R.up e19 h52
          have h120 := R.up e19 h49
          have E19 := E10.trans e19
          refine ite2 (fun c5 => ?_) (fun c5 => ?_)
          · skip
            have hm21 := (if_pos c5).symm.trans hm13
            refine gS_IfS ?_
            obtain ⟨x5, hq12, hm24⟩ := bindS hm21
            refine gCT (fun (b : Bool) (H : Hp) => ∃ (G : Hp), Ext G19 G ∧ Sub G (O) H ∧ b = x5) ?_ ?_
            · skip
              refine gOr ?_
              refine gTest ?_
              refine gOp ?_
              refine gV rfl ?_
              refine gC ?_
              refine q_isNotNon (r := rBool) (G := G19) (o := none) rO_none ?_
              refine ⟨false, rfl, ?_⟩
              refine ite2 (fun c6 => ?_) (fun c6 => ?_)
              · skip
                exact absurd c6 (by decide)
              · skip
                refine gTest ?_
                refine gOp ?_
                refine gCall ?_
                refine gCons' ?_
                refine gV rfl ?_
                refine gCons' ?_
                refine gV rfl ?_
                refine gCons' ?_
                refine gV rfl ?_
                refine gNil' ?_
                obtain ⟨r4, hq13, hm25⟩ := bindS hq12
                refine ⟨G19, (O), length_here1, v1, one1, v3, blocks1, rfl, S26, h117, h119, r4, hq13, fun v20 G22 H24 e22 S29 h132 => ?_⟩
                have h133 := R.up e22 h117
                have h134 := R.up e22 h118
                have h135 := R.up e22 h119
                have h136 := R.up e22 h120
                have E22 := E19.trans e22
                refine gCall ?_
                refine gCons' ?_
                refine gV rfl ?_
                refine gCons' ?_
                refine gV rfl ?_
                refine gCons' ?_
                refine gV rfl ?_
                refine gNil' ?_
                obtain ⟨r5, hq14, hm26⟩ := bindS hm25
                refine ⟨G22, (O), length_here1, v2, two1, v3, blocks1, rfl, S29, h134, h135, r5, hq14, fun v21 G23 H25 e23 S30 h137 => ?_⟩
                have h138 := R.up e23 h133
                have h139 := R.up e23 h134
                have h140 := R.up e23 h135
                have h141 := R.up e23 h136
                have h142 := R.up e23 h132
                have E23 := E22.trans e23
                refine q_neD (dM (dP2 (dBool (K := K)) (dInt (K := K)))) (by show 4 ≤ 64; decide) (R.up S30.ext h142) (R.up S30.ext h137) ((okM (okP2 okB okI)) _) ((okM (okP2 okB okI)) _) ?_
                refine ⟨(!decide (r4 = r5)), rfl, ?_⟩
                cases hm26
                exact ⟨G23, (e22.trans e23), S30, rfl⟩
            · intro b2 H26 hJ
              obtain ⟨G24, e24, S31, rfl⟩ := hJ
              have h143 := R.up e24 h117
              have h144 := R.up e24 h118
              have h145 := R.up e24 h119
              have h146 := R.up e24 h120
              have E24 := E19.trans e24
              refine ite2 (fun c7 => ?_) (fun c7 => ?_)
              · skip
                have hm27 := (if_pos c7).symm.trans hm24
                refine gRet ?_
                refine gC ?_
                cases hm27
                exact q G24 H26 E24 S31
              · skip
                have hm28 := (if_neg c7).symm.trans hm24
                refine gNext ?_
                refine gE ?_
                refine gRet ?_
                refine gOp ?_
                refine gCall ?_
                refine gCons' ?_
                refine gV rfl ?_
                refine gCons' ?_
                refine gV rfl ?_
                refine gCons' ?_
                refine gV rfl ?_
                refine gNil' ?_
                obtain ⟨r6, hq15, hm29⟩ := bindS hm28
                refine ⟨G24, (O), length_here1, v1, one1, v3, blocks1, rfl, S31, h143, h145, r6, hq15, fun v22 G25 H27 e25 S32 h147 => ?_⟩
                have h148 := R.up e25 h143
                have h149 := R.up e25 h144
                have h150 := R.up e25 h145
                have h151 := R.up e25 h146
                have E25 := E24.trans e25
                refine gCall ?_
                refine gCons' ?_
                refine gV rfl ?_
                refine gCons' ?_
                refine gV rfl ?_
                refine gCons' ?_
                refine gV rfl ?_
                refine gNil' ?_
                obtain ⟨r7, hq16, hm30⟩ := bindS hm29
                refine ⟨G25, (O), length_here1, v2, two1, v3, blocks1, rfl, S32, h149, h150, r7, hq16, fun v23 G26 H28 e26 S33 h152 => ?_⟩
                have h153 := R.up e26 h148
                have h154 := R.up e26 h149
                have h155 := R.up e26 h150
                have h156 := R.up e26 h151
                have h157 := R.up e26 h147
                have E26 := E25.trans e26
                refine q_eqD (dM (dP2 (dBool (K := K)) (dInt (K := K)))) (by show 4 ≤ 64; decide) (R.up S33.ext h157) (R.up S33.ext h152) ((okM (okP2 okB okI)) _) ((okM (okP2 okB okI)) _) ?_
                cases hm30
                exact q G26 H28 E26 S33
          · skip
            have hm31 := (if_neg c5).symm.trans hm13
            refine gNext ?_
            refine gE ?_
            refine gS_IfS ?_
            refine gCT (fun (b : Bool) (H : Hp) => ∃ (G : Hp), Ext G19 G ∧ Sub G (O) H ∧ b = true) ?_ ?_
            · skip
              refine gOr ?_
              refine gNot ?_
              refine gB ?_
              refine gCB ?_
              refine gCons' ?_
              refine gV rfl ?_
              refine gCons' ?_
              refine gC ?_
              refine gNil' ?_
              refine q_isi (ty_N) (by decide +kernel : kitB "NoneType" "list" = some false) ?_
              refine ⟨false, rfl, ?_⟩
              refine ite2 (fun c8 => ?_) (fun c8 => ?_)
              · skip
                exact ⟨G19, (Ext.refl _), S26, rfl⟩
              · skip
                exact absurd c8 (by decide)
            · intro b3 H29 hJ
              obtain ⟨G27, e27, S34, rfl⟩ := hJ
              have h158 := R.up e27 h117
              have h159 := R.up e27 h118
              have h160 := R.up e27 h119
              have h161 := R.up e27 h120
              have E27 := E19.trans e27
              refine ite2 (fun c9 => ?_) (fun c9 => ?_)
              · skip
                refine gRet ?_
                refine gC ?_
                cases hm31
                exact q G27 H29 E27 S34
              · skip
                exact absurd c9 (by decide)
    · skip
      dsimp only at hm1
      obtain ⟨a1, w13, rfl, rfl, h162⟩ := h4
      have S35 : Sub G1 ((a1, HO.lst w13) :: O) H1 := S1
      refine gS_AsgN ?_
      refine gLc ?_
      refine gIR2 ?_
      refine gCons' ?_
      refine gC ?_
      refine gCons' ?_
      refine gV rfl ?_
      refine gNil' ?_
      obtain ⟨xs2, hq17, hm32⟩ := bindS hm1
      obtain ⟨acc10, hq18, hm33⟩ := bindS hm32
      refine lc_R2 hq17 hq18 (fun (D : Addr) (s : (List (Wd × Int × Int))) (H : Hp) => ∃ (G : Hp) (w14 : List V), Ext G1 G ∧ Sub G ((D, HO.lst w14) :: (a1, HO.lst w13) :: O) H ∧ Al (rP3 K (rEn e_Wd) rInt rInt) G w14 s) ?_ ?_ ?_
      · intro D10 nD4
        exact ⟨G1, [], Ext.refl _, S35.newOwn nD4, True.intro⟩
      · intro D11 i4 x6 acc11 s8 hb4 hr4 H33 hI7
        obtain ⟨G31, w15, e31, S39, h181⟩ := hI7
        have h182 := R.up e31 h5
        have h183 := R.up e31 h6
        have h184 := R.up e31 h7
        have h185 := Al.up e31 h162
        have E31 := E1.trans e31
        refine ⟨rfl, ?_⟩
        have hm34 : (if (memB (Wd.kept, x6, (0 : Int)) ([one1, two1] : List (Wd × Int × Int))) then (Option.bind (appM acc11 (Wd.kept, length_here1, x6)) fun acc12 =>   some acc12)   else (some acc11)) = some s8 := hb4
        refine gTest ?_
        refine gOp ?_
        refine gTup' ?_
        refine gCons' ?_
        refine gC ?_
        refine gCons' ?_
        refine gV rfl ?_
        refine gCons' ?_
        refine gC ?_
        refine gNil' ?_
        refine q_tup3 (K := K) S39 (show R.rel (rEn e_Wd) G31 (V.str (e_Wd Wd.kept)) Wd.kept from rfl) (show R.rel rInt G31 (V.int x6) x6 from rfl) (show R.rel rInt G31 (V.int (0 : Int)) (0 : Int) from rfl) (fun v28 G32 H34 e32 S40 h186 => ?_)
        have h187 := R.up e32 h182
        have h188 := R.up e32 h183
        have h189 := R.up e32 h184
        have h190 := Al.up e32 h185
        have h191 := Al.up e32 h181
        have E32 := E31.trans e32
        refine gTup' ?_
        refine gCons' ?_
        refine gV rfl ?_
        refine gCons' ?_
        refine gV rfl ?_
        refine gNil' ?_
        have h192 : Al (rP3 K (rEn e_Wd) rInt rInt) G32 [v1, v2] ([one1, two1] : List (Wd × Int × Int)) := ⟨h187, h188, True.intro⟩
        refine q_tupN (K := K) S40 (by show 2 ≤ 100000; decide) h192 (fun v29 G33 H35 e33 S41 h193 => ?_)
        have h194 := R.up e33 h187
        have h195 := R.up e33 h188
        have h196 := R.up e33 h189
        have h197 := Al.up e33 h190
        have h198 := Al.up e33 h191
        have h199 := R.up e33 h186
        have E33 := E32.trans e33
        refine q_inDT (dP3 (dEn (K := K) e_Wd e_Wd_inj e_Wd_ok) (dInt (K := K)) (dInt (K := K))) (by show 5 ≤ 64; decide) (R.up S41.ext h199) (R.up S41.ext h193) ((okP3 okEn okI okI) _) (ok_all (okP3 okEn okI okI) _) ?_
        refine ⟨(memB (Wd.kept, x6, (0 : Int)) ([one1, two1] : List (Wd × Int × Int))), rfl, ?_⟩
        refine ite2 (fun c10 => ?_) (fun c10 => ?_)
        · skip
          have hm35 := (if_pos c10).symm.trans hm34
          refine gTup' ?_
          refine gCons' ?_
          refine gC ?_
          refine gCons' ?_
          refine gV rfl ?_
          refine gCons' ?_
          refine gV rfl ?_
          refine gNil' ?_
          refine q_tup3 (K := K) S41 (show R.rel (rEn e_Wd) G33 (V.str (e_Wd Wd.kept)) Wd.kept from rfl) (show R.rel rInt G33 (V.int length_here1) length_here1 from rfl) (show R.rel rInt G33 (V.int x6) x6 from rfl) (fun v30 G34 H36 e34 S42 h200 => ?_)
          have h201 := R.up e34 h194
          have h202 := R.up e34 h195
          have h203 := R.up e34 h196
          have h204 := Al.up e34 h197
          have h205 := Al.up e34 h198
          have E34 := E33.trans e34
          obtain ⟨acc12, hq19, hm36⟩ := bindS hm35
          refine q_lcEl S42 h205 (show R.rel (rP3 K (rEn e_Wd) rInt rInt) G34 v30 (Wd.kept, length_here1, x6) from h200) hq19 (fun H37 w16 S43 h206 => ?_)
          cases hm36
          exact ⟨_, ⟨G34, w16, (((e31.trans e32).trans e33).trans e34), S43, h206⟩, hr4⟩
        · skip
          have hm37 := (if_neg c10).symm.trans hm34
          cases hm37
          exact ⟨_, ⟨G33, w15, ((e31.trans e32).trans e33), S41, h198⟩, hr4⟩
      · intro D12 H38 hI8
        obtain ⟨G35, w17, e35, S44, h207⟩ := hI8
        have h208 := R.up e35 h5
        have h209 := R.up e35 h6
        have h210 := R.up e35 h7
        have h211 := Al.up e35 h162
        have E35 := E1.trans e35
        obtain ⟨G36, e36, S45, h212⟩ := frz_M S44 h207
        have h213 := R.up e36 h208
        have h214 := R.up e36 h209
        have h215 := R.up e36 h210
        have h216 := Al.up e36 h211
        have E36 := E35.trans e36
        refine gS_IfS ?_
        obtain ⟨x8, hq22, hm43⟩ := bindS hm33
        refine gCT (fun (b : Bool) (H : Hp) => ∃ (G : Hp), Ext G36 G ∧ Sub G ((a1, HO.lst w13) :: O) H ∧ b = x8) ?_ ?_
        · skip
          refine gOr ?_
          refine gTest ?_
          refine gOp ?_
          refine gV rfl ?_
          refine gV rfl ?_
          refine q_eqD (dP3 (dEn (K := K) e_Wd e_Wd_inj e_Wd_ok) (dInt (K := K)) (dInt (K := K))) (by show 4 ≤ 64; decide) (R.up S45.ext h213) (R.up S45.ext h214) ((okP3 okEn okI okI) _) ((okP3 okEn okI okI) _) ?_
          refine ⟨(decide (one1 = two1)), rfl, ?_⟩
          refine ite2 (fun c12 => ?_) (fun c12 => ?_)
          · skip
            have hm44 := (if_pos c12).symm.trans hq22
            cases hm44
            exact ⟨G36, (Ext.refl _), S45, rfl⟩
          · skip
            have hm45 := (if_neg c12).symm.trans hq22
            refine gTest ?_
            refine gOp ?_
            refine gLc ?_
            refine gIL ?_
            refine gV rfl ?_
            obtain ⟨acc16, hq23, hm46⟩ := bindS hm45
            refine lc_L (r := (rP3 K (rEn e_Wd) rInt rInt)) S45 (rM_L (K := K) h212) hq23 (fun (D : Addr) (s : (List (Wd × Int × Int))) (H : Hp) => ∃ (G : Hp) (w22 : List V), Ext G36 G ∧ Sub G ((D, HO.lst w22) :: (a1, HO.lst w13) :: O) H ∧ Al (rP3 K (rEn e_Wd) rInt rInt) G w22 s) ?_ ?_ ?_ ?_
            · intro D16 nD6
              exact ⟨G36, [], Ext.refl _, S45.newOwn nD6, True.intro⟩
            · intro D s H hI
              obtain ⟨G, k6, ie, iS, _⟩ := hI
              exact ie.trans iS.ext
            · intro D17 i6 x9 acc17 s12 hb6 hr6 v35 H45 hI11 h262
              obtain ⟨G42, w23, e42, S53, h263⟩ := hI11
              have h264 := R.up e42 h213
              have h265 := R.up e42 h214
              have h266 := R.up e42 h215
              have h267 := Al.up e42 h216
              have h268 := R.up e42 h212
              have h269 := R.up e42 (rM_L (K := K) h212)
              have E42 := E36.trans e42
              have h270 := R.up e42 h262
              refine ⟨rfl, ?_⟩
              have hm47 : (if (memB x9 ([one1, two1] : List (Wd × Int × Int))) then (Option.bind (appM acc17 x9) fun acc18 =>   some acc18)   else (some acc17)) = some s12 := hb6
              refine gTest ?_
              refine gOp ?_
              refine gV rfl ?_
              refine gTup' ?_
              refine gCons' ?_
              refine gV rfl ?_
              refine gCons' ?_
              refine gV rfl ?_
              refine gNil' ?_
              have h271 : Al (rP3 K (rEn e_Wd) rInt rInt) G42 [v1, v2] ([one1, two1] : List (Wd × Int × Int)) := ⟨h264, h265, True.intro⟩
              refine q_tupN (K := K) S53 (by show 2 ≤ 100000; decide) h271 (fun v36 G43 H46 e43 S54 h272 => ?_)
              have h273 := R.up e43 h264
              have h274 := R.up e43 h265
              have h275 := R.up e43 h266
              have h276 := Al.up e43 h267
              have h277 := R.up e43 h268
              have h278 := R.up e43 h270
              have h279 := R.up e43 h269
              have h280 := Al.up e43 h263
              have E43 := E42.trans e43
              refine q_inDT (dP3 (dEn (K := K) e_Wd e_Wd_inj e_Wd_ok) (dInt (K := K)) (dInt (K := K))) (by show 5 ≤ 64; decide) (R.up S54.ext h278) (R.up S54.ext h272) ((okP3 okEn okI okI) _) (ok_all (okP3 okEn okI okI) _) ?_
              refine ⟨(memB x9 ([one1, two1] : List (Wd × Int × Int))), rfl, ?_⟩
              refine ite2 (fun c13 => ?_) (fun c13 => ?_)
              · skip
                have hm48 := (if_pos c13).symm.trans hm47
                refine gV rfl ?_
                obtain ⟨acc18, hq24, hm49⟩ := bindS hm48
                refine q_lcEl S54 h280 (show R.rel (rP3 K (rEn e_Wd) rInt rInt) G43 v35 x9 from h278) hq24 (fun H47 w24 S55 h281 => ?_)
                cases hm49
                exact ⟨_, ⟨G43, w24, (e42.trans e43), S55, h281⟩, hr6⟩
              · skip
                have hm50 := (if_neg c13).symm.trans hm47
                cases hm50
                exact ⟨_, ⟨G43, w23, (e42.trans e43), S54, h280⟩, hr6⟩
            · intro D18 H48 hI12
              obtain ⟨G44, w25, e44, S56, h282⟩ := hI12
              have h283 := R.up e44 h213
              have h284 := R.up e44 h214
              have h285 := R.up e44 h215
              have h286 := Al.up e44 h216
              have h287 := R.up e44 h212
              have E44 := E36.trans e44
              refine gLst ?_
              refine gNil' ?_
              refine ⟨sz0, fun p4 np4 => ?_⟩
              have S57 : Sub G44 ((D18, HO.lst w25) :: (a1, HO.lst w13) :: O) (upd H48 p4 (.lst [])) := S56.junk np4
              have h288 := rM_own S57 h282
              refine q_neD (dM (dP3 (dEn (K := K) e_Wd e_Wd_inj e_Wd_ok) (dInt (K := K)) (dInt (K := K)))) (by show 5 ≤ 64; decide) h288 (⟨p4, [], rfl, upd_same, True.intro⟩ : R.rel (rM (rP3 K (rEn e_Wd) rInt rInt)) (upd H48 p4 (.lst [])) (V.ref p4) []) ((okM (okP3 okEn okI okI)) _) ((okM (okP3 okEn okI okI)) _) ?_
              refine ⟨(!decide (acc16 = ([] : (List (Wd × Int × Int))))), rfl, ?_⟩
              have S58 := S57.tail
              cases hm46
              exact ⟨G44, e44, S58, rfl⟩
        · intro b4 H49 hJ
          obtain ⟨G45, e45, S59, rfl⟩ := hJ
          have h289 := R.up e45 h213
          have h290 := R.up e45 h214
          have h291 := R.up e45 h215
          have h292 := Al.up e45 h216
          have h293 := R.up e45 h212
          have E45 := E36.trans e45
          refine ite2 (fun c14 => ?_) (fun c14 => ?_)
          · skip
            have hm51 := (if_pos c14).symm.trans hm43
            refine gS_IfS ?_
            refine gCT (fun (b : Bool) (H : Hp) => ∃ (G : Hp), Ext G45 G ∧ Sub G ((a1, HO.lst w13) :: O) H ∧ b = true) ?_ ?_
            · skip
              refine gOr ?_
              refine gTest ?_
              refine gOp ?_
              refine gV rfl ?_
              refine gC ?_
              refine ⟨rfl, ?_⟩
              refine ⟨true, rfl, ?_⟩
              refine ite2 (fun c15 => ?_) (fun c15 => ?_)
              · skip
                exact ⟨G45, (Ext.refl _), S59, rfl⟩
              · skip
                exact absurd c15 (by decide)
            · intro b5 H50 hJ
              obtain ⟨G46, e46, S60, rfl⟩ := hJ
              have h294 := R.up e46 h289
              have h295 := R.up e46 h290
              have h296 := R.up e46 h291
              have h297 := Al.up e46 h292
              have h298 := R.up e46 h293
              have E46 := E45.trans e46
              refine ite2 (fun c16 => ?_) (fun c16 => ?_)
              · skip
                refine gRet ?_
                refine gC ?_
                have S61 := S60.tail
                cases hm51
                exact q G46 H50 E46 S61
              · skip
                exact absurd c16 (by decide)
          · skip
            have hm52 := (if_neg c14).symm.trans hm43
            refine gNext ?_
            refine gE ?_
            refine gS_IfS ?_
            obtain ⟨x16, hq43, hm75⟩ := bindS hm52
            refine gCT (fun (b : Bool) (H : Hp) => ∃ (G : Hp), Ext G45 G ∧ Sub G ((a1, HO.lst w13) :: O) H ∧ b = x16) ?_ ?_
            · skip
              refine gOr ?_
              refine gNot ?_
              refine gB ?_
              refine gCB ?_
              refine gCons' ?_
              refine gV rfl ?_
              refine gCons' ?_
              refine gC ?_
              refine gNil' ?_
              have h470 := rM_own S59 h292
              refine q_isi (ty_L (rM_L (K := K) h470)) (by decide +kernel : kitB "list" "list" = some true) ?_
              refine ⟨true, rfl, ?_⟩
              refine ite2 (fun c17 => ?_) (fun c17 => ?_)
              · skip
                exact absurd c17 (by decide)
              · skip
                refine gOr ?_
                refine gTest ?_
                refine gOp ?_
                refine gCB ?_
                refine gCons' ?_
                refine gV rfl ?_
                refine gNil' ?_
                refine q_lenO S59 h292 ?_
                refine gOp ?_
                refine gV rfl ?_
                refine gC ?_
                refine ⟨_, _, rfl, rfl, ?_⟩
                refine ⟨_, _, rfl, rfl, ?_⟩
                refine ⟨(decide ((told1.length : Int) > (length_here1 + (1 : Int)))), rfl, ?_⟩
                refine ite2 (fun c18 => ?_) (fun c18 => ?_)
                · skip
                  have hm76 := (if_pos c18).symm.trans hq43
                  cases hm76
                  exact ⟨G45, (Ext.refl _), S59, rfl⟩
                · skip
                  have hm77 := (if_neg c18).symm.trans hq43
                  refine gNot ?_
                  refine gB ?_
                  obtain ⟨x21, hq57, hm94⟩ := bindS hm77
                  refine gCE (fun (v : V) (H : Hp) => Sub G45 ((a1, HO.lst w13) :: O) H ∧ v = V.bl x21) ?_ ?_
                  · skip
                    have e89 : Ext G45 (upd G45 a1 (HO.lst w13)) := Sub.extFrz S59
                    have S114 : Sub (upd G45 a1 (HO.lst w13)) (O) H49 := Sub.frz S59
                    have h597 := rM_lent S59 h292
                    have h598 := R.up e89 h289
                    have h599 := R.up e89 h290
                    have h600 := R.up e89 h291
                    have h601 := R.up e89 h293
                    have E89 := E45.trans e89
                    refine gCB ?_
                    refine gCons' ?_
                    refine gLc ?_
                    refine gIL ?_
                    refine gV rfl ?_
                    obtain ⟨acc40, hq59, hm96⟩ := bindS hq57
                    refine lc_L (r := (rP4 K rInt rInt rBool rBool)) S114 (rM_L (K := K) h597) hq59 (fun (D : Addr) (s : (List Bool)) (H : Hp) => ∃ (G : Hp) (w54 : List V), Ext (upd G45 a1 (HO.lst w13)) G ∧ Sub G ((D, HO.lst w54) :: O) H ∧ Al rBool G w54 s) ?_ ?_ ?_ ?_
                    · intro D40 nD14
                      exact ⟨(upd G45 a1 (HO.lst w13)), [], Ext.refl _, S114.newOwn nD14, True.intro⟩
                    · intro D s H hI
                      obtain ⟨G, k14, ie, iS, _⟩ := hI
                      exact ie.trans iS.ext
                    · intro D41 i14 x22 acc41 s28 hb14 hr14 v47 H90 hI27 h609
                      obtain ⟨G87, w55, e91, S116, h610⟩ := hI27
                      have h611 := R.up e91 h598
                      have h612 := R.up e91 h599
                      have h613 := R.up e91 h600
                      have h614 := R.up e91 h597
                      have h615 := R.up e91 h601
                      have h616 := R.up e91 (rM_L (K := K) h597)
                      have E91 := E89.trans e91
                      have h617 := R.up e91 h609
                      refine ⟨rfl, ?_⟩
                      have hm97 : (Option.bind (m_law_is_block x22) fun r23 =>   Option.bind (appM acc41 r23) fun acc42 =>   some acc42) = some s28 := hb14
                      refine gYes ?_
                      refine iteT ?_
                      refine gCall ?_
                      refine gCons' ?_
                      refine gV rfl ?_
                      refine gNil' ?_
                      obtain ⟨r23, hq60, hm98⟩ := bindS hm97
                      refine ⟨G87, ((D41, HO.lst w55) :: O), v47, x22, rfl, S116, h617, r23, hq60, fun G88 H91 e92 S117 => ?_⟩
                      have h618 := R.up e92 h611
                      have h619 := R.up e92 h612
                      have h620 := R.up e92 h613
                      have h621 := R.up e92 h614
                      have h622 := R.up e92 h615
                      have h623 := R.up e92 h617
                      have h624 := R.up e92 h616
                      have h625 := Al.up e92 h610
                      have E92 := E91.trans e92
                      obtain ⟨acc42, hq61, hm99⟩ := bindS hm98
                      refine q_lcEl S117 h625 (show R.rel rBool G88 (V.bl r23) r23 from rfl) hq61 (fun H92 w56 S118 h626 => ?_)
                      cases hm99
                      exact ⟨_, ⟨G88, w56, (e91.trans e92), S118, h626⟩, hr14⟩
                    · intro D42 H93 hI28
                      obtain ⟨G89, w57, e93, S119, h627⟩ := hI28
                      have h628 := R.up e93 h598
                      have h629 := R.up e93 h599
                      have h630 := R.up e93 h600
                      have h631 := R.up e93 h597
                      have h632 := R.up e93 h601
                      have E93 := E89.trans e93
                      refine gNil' ?_
                      obtain ⟨G90, e94, S120, h633⟩ := frz_M S119 h627
                      have h634 := R.up e94 h628
                      have h635 := R.up e94 h629
                      have h636 := R.up e94 h630
                      have h637 := R.up e94 h631
                      have h638 := R.up e94 h632
                      have E94 := E93.trans e94
                      refine q_all S120 h633 ?_
                      cases hm96
                      exact ⟨Sub.thaw S59 (e93.trans e94) S120, rfl⟩
                  · rintro v48 H94 ⟨S121, rfl⟩
                    refine ⟨x21, rfl, ?_⟩
                    cases hm94
                    exact ⟨G45, (Ext.refl _), S121, rfl⟩
            · intro b6 H95 hJ
              obtain ⟨G91, e95, S122, rfl⟩ := hJ
              have h639 := R.up e95 h289
              have h640 := R.up e95 h290
              have h641 := R.up e95 h291
              have h642 := Al.up e95 h292
              have h643 := R.up e95 h293
              have E95 := E45.trans e95
              refine ite2 (fun c19 => ?_) (fun c19 => ?_)
              · skip
                have hm100 := (if_pos c19).symm.trans hm75
                refine gRet ?_
                refine gC ?_
                have S123 := S122.tail
                cases hm100
                exact q G91 H95 E95 S123
              · skip
                have hm101 := (if_neg c19).symm.trans hm75
                refine gNext ?_
                refine gE ?_
                refine gS_IfS ?_
                obtain ⟨x23, hq64, hm104⟩ := bindS hm101
                refine gCT (fun (v : Bool) (H : Hp) => Sub G91 ((a1, HO.lst w13) :: O) H ∧ v = x23) ?_ ?_
                · skip
                  have e99 : Ext G91 (upd G91 a1 (HO.lst w13)) := Sub.extFrz S122
                  have S127 : Sub (upd G91 a1 (HO.lst w13)) (O) H95 := Sub.frz S122
                  have h662 := rM_lent S122 h642
                  have h663 := R.up e99 h639
                  have h664 := R.up e99 h640
                  have h665 := R.up e99 h641
                  have h666 := R.up e99 h643
                  have E99 := E95.trans e99
                  refine gTest ?_
                  refine gOp ?_
                  refine gCall ?_
                  refine gCons' ?_
                  refine gV rfl ?_
                  refine gCons' ?_
                  refine gV rfl ?_
                  refine gCons' ?_
                  refine gV rfl ?_
                  refine gNil' ?_
                  obtain ⟨r26, hq65, hm105⟩ := bindS hq64
                  refine ⟨(upd G91 a1 (HO.lst w13)), (O), length_here1, v1, one1, (V.ref a1), told1, rfl, S127, h663, h662, r26, hq65, fun v51 G95 H98 e100 S128 h667 => ?_⟩
                  have h668 := R.up e100 h663
                  have h669 := R.up e100 h664
                  have h670 := R.up e100 h665
                  have h671 := R.up e100 h662
                  have h672 := R.up e100 h666
                  have E100 := E99.trans e100
                  refine gCall ?_
                  refine gCons' ?_
                  refine gV rfl ?_
                  refine gCons' ?_
                  refine gV rfl ?_
                  refine gCons' ?_
                  refine gV rfl ?_
                  refine gNil' ?_
                  obtain ⟨r27, hq66, hm106⟩ := bindS hm105
                  refine ⟨G95, (O), length_here1, v2, two1, (V.ref a1), told1, rfl, S128, h669, h671, r27, hq66, fun v52 G96 H99 e101 S129 h673 => ?_⟩
                  have h674 := R.up e101 h668
                  have h675 := R.up e101 h669
                  have h676 := R.up e101 h670
                  have h677 := R.up e101 h671
                  have h678 := R.up e101 h672
                  have h679 := R.up e101 h667
                  have E101 := E100.trans e101
                  refine q_eqD (dM (dP2 (dBool (K := K)) (dInt (K := K)))) (by show 4 ≤ 64; decide) (R.up S129.ext h679) (R.up S129.ext h673) ((okM (okP2 okB okI)) _) ((okM (okP2 okB okI)) _) ?_
                  refine ⟨(decide (r26 = r27)), rfl, ?_⟩
                  cases hm106
                  exact ⟨Sub.thaw S122 (e100.trans e101) S129, rfl⟩
                · rintro v53 H100 ⟨S130, rfl⟩
                  refine ite2 (fun c20 => ?_) (fun c20 => ?_)
                  · skip
                    have hm107 := (if_pos c20).symm.trans hm104
                    refine gRet ?_
                    refine gC ?_
                    have S131 := S130.tail
                    cases hm107
                    exact q G91 H100 E95 S131
                  · skip
                    have hm108 := (if_neg c20).symm.trans hm104
                    refine gNext ?_
                    refine gE ?_
                    refine gS_AsgN ?_
                    refine gCB ?_
                    refine gCons' ?_
                    refine gV rfl ?_
                    refine gNil' ?_
                    refine q_listO S130 h642 (fun v54 G97 H101 e102 S132 h680 => ?_)
                    have h681 := R.up e102 h639
                    have h682 := R.up e102 h640
                    have h683 := R.up e102 h641
                    have h684 := Al.up e102 h642
                    have h685 := R.up e102 h643
                    have E102 := E95.trans e102
                    refine gS_Drop ?_
                    refine gBM ?_
                    refine gV rfl ?_
                    refine ⟨.inl ⟨rfl, _, .inl (.inl S132.head)⟩, ?_⟩
                    refine gCons' ?_
                    refine gC ?_
                    refine gNil' ?_
                    obtain ⟨u1, hq67, hm109⟩ := bindS hm108
                    refine q_appU S132 h684 hq67 (fun H102 S133 => ?_)
                    refine gS_AsgN ?_
                    refine gCall ?_
                    refine gCons' ?_
                    refine gV rfl ?_
                    refine gCons' ?_
                    refine gV rfl ?_
                    refine gCons' ?_
                    refine gV rfl ?_
                    refine gNil' ?_
                    obtain ⟨r28, hq68, hm110⟩ := bindS hm109
                    refine ⟨G97, (O), length_here1, v2, two1, v1, one1, rfl, S133, h682, h681, Rs.ok r28, (okR_some hq68), q_ok rfl (fun B2 v55 G98 H103 e103 S134 h686 => ?_), q_noer rfl⟩
                    have h687 := R.up e103 h681
                    have h688 := R.up e103 h682
                    have h689 := R.up e103 h683
                    have h690 := R.up e103 h685
                    have h691 := R.up e103 h680
                    have E103 := E102.trans e103
                    rcases r28 with _ | again1
                    · skip
                      dsimp only at hm110
                      obtain ⟨rfl, rfl⟩ := h686
                      have S135 : Sub G98 (O) H103 := S134
                      refine gS_IfS ?_
                      refine gCT (fun (b : Bool) (H : Hp) => ∃ (G : Hp), Ext G98 G ∧ Sub G (O) H ∧ b = true) ?_ ?_
                      · skip
                        refine gOr ?_
                        refine gNot ?_
                        refine gB ?_
                        refine gCB ?_
                        refine gCons' ?_
                        refine gV rfl ?_
                        refine gCons' ?_
                        refine gC ?_
                        refine gNil' ?_
                        refine q_isi (ty_N) (by decide +kernel : kitB "NoneType" "list" = some false) ?_
                        refine ⟨false, rfl, ?_⟩
                        refine ite2 (fun c21 => ?_) (fun c21 => ?_)
                        · skip
                          exact ⟨G98, (Ext.refl _), S135, rfl⟩
                        · skip
                          exact absurd c21 (by decide)
                      · intro b7 H104 hJ
                        obtain ⟨G99, e104, S136, rfl⟩ := hJ
                        have h692 := R.up e104 h687
                        have h693 := R.up e104 h688
                        have h694 := R.up e104 h689
                        have h695 := R.up e104 h690
                        have h696 := R.up e104 h691
                        have E104 := E103.trans e104
                        refine ite2 (fun c22 => ?_) (fun c22 => ?_)
                        · skip
                          refine gRet ?_
                          refine gC ?_
                          cases hm110
                          exact q G99 H104 E104 S136
                        · skip
                          exact absurd c22 (by decide)
                    · skip
                      dsimp only at hm110
                      obtain ⟨a2, w58, rfl, rfl, h697⟩ := h686
                      have S137 : Sub G98 ((a2, HO.lst w58) :: O) H103 := S134
                      refine gS_IfS ?_
                      obtain ⟨x25, hq74, hm116⟩ := bindS hm110
                      refine gCT (fun (b : Bool) (H : Hp) => ∃ (G : Hp), Ext G98 G ∧ Sub G ((a2, HO.lst w58) :: O) H ∧ b = x25) ?_ ?_
                      · skip
                        refine gOr ?_
                        refine gNot ?_
                        refine gB ?_
                        refine gCB ?_
                        refine gCons' ?_
                        refine gV rfl ?_
                        refine gCons' ?_
                        refine gC ?_
                        refine gNil' ?_
                        have h743 := rM_own S137 h697
                        refine q_isi (ty_L (rM_L (K := K) h743)) (by decide +kernel : kitB "list" "list" = some true) ?_
                        refine ⟨true, rfl, ?_⟩
                        refine ite2 (fun c23 => ?_) (fun c23 => ?_)
                        · skip
                          exact absurd c23 (by decide)
                        · skip
                          obtain ⟨x26, hq77, hm119⟩ := bindS hq74
                          refine gCT (fun (v : Bool) (H : Hp) => Sub G98 ((a2, HO.lst w58) :: O) H ∧ v = x26) ?_ ?_
                          · skip
                            have e114 : Ext G98 (upd G98 a2 (HO.lst w58)) := Sub.extFrz S137
                            have S148 : Sub (upd G98 a2 (HO.lst w58)) (O) H103 := Sub.frz S137
                            have h765 := rM_lent S137 h697
                            have h766 := R.up e114 h687
                            have h767 := R.up e114 h688
                            have h768 := R.up e114 h689
                            have h769 := R.up e114 h690
                            have h770 := R.up e114 h691
                            have E114 := E103.trans e114
                            refine gTest ?_
                            refine gOp ?_
                            refine gCall ?_
                            refine gCons' ?_
                            refine gV rfl ?_
                            refine gCons' ?_
                            refine gV rfl ?_
                            refine gCons' ?_
                            refine gV rfl ?_
                            refine gNil' ?_
                            obtain ⟨r35, hq78, hm120⟩ := bindS hq77
                            refine ⟨(upd G98 a2 (HO.lst w58)), (O), length_here1, v1, one1, (V.ref a2), again1, rfl, S148, h766, h765, r35, hq78, fun v63 G108 H112 e115 S149 h771 => ?_⟩
                            have h772 := R.up e115 h766
                            have h773 := R.up e115 h767
                            have h774 := R.up e115 h768
                            have h775 := R.up e115 h769
                            have h776 := R.up e115 h770
                            have h777 := R.up e115 h765
                            have E115 := E114.trans e115
                            refine gCall ?_
                            refine gCons' ?_
                            refine gV rfl ?_
                            refine gCons' ?_
                            refine gV rfl ?_
                            refine gCons' ?_
                            refine gV rfl ?_
                            refine gNil' ?_
                            obtain ⟨r36, hq79, hm121⟩ := bindS hm120
                            refine ⟨G108, (O), length_here1, v2, two1, (V.ref a2), again1, rfl, S149, h773, h777, r36, hq79, fun v64 G109 H113 e116 S150 h778 => ?_⟩
                            have h779 := R.up e116 h772
                            have h780 := R.up e116 h773
                            have h781 := R.up e116 h774
                            have h782 := R.up e116 h775
                            have h783 := R.up e116 h776
                            have h784 := R.up e116 h777
                            have h785 := R.up e116 h771
                            have E116 := E115.trans e116
                            refine q_eqD (dM (dP2 (dBool (K := K)) (dInt (K := K)))) (by show 4 ≤ 64; decide) (R.up S150.ext h785) (R.up S150.ext h778) ((okM (okP2 okB okI)) _) ((okM (okP2 okB okI)) _) ?_
                            refine ⟨(decide (r35 = r36)), rfl, ?_⟩
                            cases hm121
                            exact ⟨Sub.thaw S137 (e115.trans e116) S150, rfl⟩
                          · rintro v65 H114 ⟨S151, rfl⟩
                            cases hm119
                            exact ⟨G98, (Ext.refl _), S151, rfl⟩
                      · intro b8 H115 hJ
                        obtain ⟨G110, e117, S152, rfl⟩ := hJ
                        have h786 := R.up e117 h687
                        have h787 := R.up e117 h688
                        have h788 := R.up e117 h689
                        have h789 := R.up e117 h690
                        have h790 := R.up e117 h691
                        have h791 := Al.up e117 h697
                        have E117 := E103.trans e117
                        refine ite2 (fun c24 => ?_) (fun c24 => ?_)
                        · skip
                          have hm122 := (if_pos c24).symm.trans hm116
                          refine gRet ?_
                          refine gC ?_
                          have S153 := S152.tail
                          cases hm122
                          exact q G110 H115 E117 S153
                        · skip
                          have hm123 := (if_neg c24).symm.trans hm116
                          refine gNext ?_
                          refine gE ?_
                          refine gRet ?_
                          refine gOp ?_
                          refine gCall ?_
                          refine gCons' ?_
                          refine gV rfl ?_
                          refine gCons' ?_
                          refine gV rfl ?_
                          refine gCons' ?_
                          refine gV rfl ?_
                          refine gNil' ?_
                          obtain ⟨r37, hq80, hm124⟩ := bindS hm123
                          refine ⟨G110, ((a2, HO.lst w58) :: O), length_here1, v1, one1, v54, told1, rfl, S152, h786, h790, r37, hq80, fun v66 G111 H116 e118 S154 h792 => ?_⟩
                          have h793 := R.up e118 h786
                          have h794 := R.up e118 h787
                          have h795 := R.up e118 h788
                          have h796 := R.up e118 h789
                          have h797 := R.up e118 h790
                          have h798 := Al.up e118 h791
                          have E118 := E117.trans e118
                          refine gCall ?_
                          refine gCons' ?_
                          refine gV rfl ?_
                          refine gCons' ?_
                          refine gV rfl ?_
                          refine gCons' ?_
                          refine gV rfl ?_
                          refine gNil' ?_
                          obtain ⟨r38, hq81, hm125⟩ := bindS hm124
                          refine ⟨G111, ((a2, HO.lst w58) :: O), length_here1, v2, two1, v54, told1, rfl, S154, h794, h797, r38, hq81, fun v67 G112 H117 e119 S155 h799 => ?_⟩
                          have h800 := R.up e119 h793
                          have h801 := R.up e119 h794
                          have h802 := R.up e119 h795
                          have h803 := R.up e119 h796
                          have h804 := R.up e119 h797
                          have h805 := Al.up e119 h798
                          have h806 := R.up e119 h792
                          have E119 := E118.trans e119
                          refine q_neD (dM (dP2 (dBool (K := K)) (dInt (K := K)))) (by show 4 ≤ 64; decide) (R.up S155.ext h806) (R.up S155.ext h799) ((okM (okP2 okB okI)) _) ((okM (okP2 okB okI)) _) ?_
                          have S156 := S155.tail
                          cases hm125
                          exact q G112 H117 E119 S156
end
end Mr

set_option Elab.async false
set_option linter.all false
set_option maxRecDepth 100000
set_option maxHeartbeats 4000000
set_option synthInstance.maxSize 4000
set_option synthInstance.maxHeartbeats 400000
namespace Mr
open PySem PySem.Spec PyProof.Rows L2
section
variable {P : Program} {w : World} {K : PySem.W.Frag} {mg : Str → Option Value} {base : Heap}
theorem sc_law : FnScope ["_law_script", "_law_at", "_law_bag_here", "_law_length_here", "_law_some", "_law_turn", "_law_one", "_law_two", "_law_back", "_law_blocks", "_law_place", "_law_odd_here"] ["_law_script"] (defScope s_law) := ⟨rfl, rfl, rfl, by decide +kernel, rfl, by decide +kernel, by decide +kernel⟩
theorem ok_law (T : Tx K mg) (PT : PgT K mg) (TB : Tbs K mg base) : FnOk P w K mg base CX0 8 (He.fAd K ("law", none)) T.fd_law ["_law_script"] (sp_law K) := by
  have G_law_bag := ok_law_bag (P := P) (w := w) (base := base) T
  have G_law_block := ok_law_block (P := P) (w := w) (base := base) T
  have G_law_draw := ok_law_draw (P := P) (w := w) (base := base) T
  have G_law_length := ok_law_length (P := P) (w := w) (base := base) T
  have G_law_odd := ok_law_odd (P := P) (w := w) (base := base) T
  have G_law_right := ok_law_right (P := P) (w := w) (base := base) T PT
  have G_law_standings := ok_law_standings (P := P) (w := w) (base := base) T
  have G_parting_blocks__1 := ok_parting_blocks__1 (P := P) (w := w) (base := base) T
  have G_parting_blocks__2 := ok_parting_blocks__2 (P := P) (w := w) (base := base) T
  refine FunD_okC T.F_law sc_law (fun vs H Q E h => ?_) (fun A outer s H0 vs Q E hr h => ?_)
  · obtain ⟨G, O, v1, script1, B1, rfl, _⟩ := h
    rfl
  · obtain ⟨G0, O, v1, script1, B1, rfl, S0, h1, hT1, nc1, res, hm, q⟩ := h
    have hu := TbR.uniq (T := tbs K) (E := ([] : Own)) (O := O) hT1 S0 (.head _)
    refine ⟨_, PSs.nox (pss_cons (ps_cut (ps_for PassesOwn.never rfl (pi_range1 (by rfl) T.z_range (pa_cons (pe_callB (call_max2 rfl) (by rfl) T.z_max boot_max (pa_cons pe_int (pa_cons (pe_callB (call_min2 rfl) (by rfl) T.z_min boot_min (pa_cons (pe_callB (r := rLenM K) call_lenM (by rfl) T.z_len boot_len (pa_cons (pv 0) pa_nil)) (pa_cons pe_int pa_nil))) pa_nil))) pa_nil)) (pg_name (i := 1) sc_law.nd rfl (.inl rfl))
      (pss_cons (ps_set (i := 2) sc_law.nd rfl (.inr rfl) (pe_call G_law_bag (hr.mono (by decide)) (by rfl) T.g_law_bag T.F_law_bag.kp T.b_law_bag .nil pass0 (pa_cons (pv 0) (pa_cons (pv 1) pa_nil))))
      (pss_cons (ps_set (i := 3) sc_law.nd rfl (.inr rfl) (pe_call G_law_length (hr.mono (by decide)) (by rfl) T.g_law_length T.F_law_length.kp T.b_law_length .nil pass0 (pa_cons (pv 2) pa_nil)))
      (pss_cons (ps_par (i := 4) (j := 5) (by rfl) sc_law.nd rfl rfl (by decide) rfl rfl (pa_cons (pe_call G_law_standings (hr.mono (by decide)) (by rfl) T.g_law_standings T.F_law_standings.kp T.b_law_standings .nil pass0 (pa_cons (pv 3) pa_nil)) (pa_cons (pe_call G_law_draw (hr.mono (by decide)) (by rfl) T.g_law_draw T.F_law_draw.kp T.b_law_draw .nil pass0 (pa_cons (pv 2) (pa_cons pe_int pa_nil))) pa_nil)) (by rfl))
      (pss_cons (ps_asg (pe_tup (pa_cons (pe_ix ix_list (pv 4) (pe_call G_law_draw (hr.mono (by decide)) (by rfl) T.g_law_draw T.F_law_draw.kp T.b_law_draw .nil pass0 (pa_cons (pv 2) (pa_cons (pe_callB (r := rLenM K) call_lenM (by rfl) T.z_len boot_len (pa_cons (pv 4) pa_nil)) pa_nil))) (fun _ _ => rfl)) (pa_cons (pe_ix ix_list (pv 4) (pe_call G_law_draw (hr.mono (by decide)) (by rfl) T.g_law_draw T.F_law_draw.kp T.b_law_draw .nil pass0 (pa_cons (pv 2) (pa_cons (pe_callB (r := rLenM K) call_lenM (by rfl) T.z_len boot_len (pa_cons (pv 4) pa_nil)) pa_nil))) (fun _ _ => rfl)) pa_nil))) (pg_tup rfl (pgs_cons (pg_name (i := 6) sc_law.nd rfl (.inr rfl)) (pgs_cons (pg_name (i := 7) sc_law.nd rfl (.inl rfl)) pgs_nil))))
      (pss_cons (ps_cut (ps_if (pt_cmpR op_lt (pv 5) pe_int (nomark _)) (pss_cons (ps_set (i := 8) sc_law.nd rfl (.inl rfl) (pe_op op_add pe_int (pe_call G_law_draw (hr.mono (by decide)) (by rfl) T.g_law_draw T.F_law_draw.kp T.b_law_draw .nil pass0 (pa_cons (pv 2) (pa_cons (pe_op op_sub (pv 3) pe_int) pa_nil)))))
      (pss_one (ps_asg (pe_stpL (pe_lst (pa_cons (pe_tup (pa_cons pe_str (pa_cons (pv 3) (pa_cons (pv 8) pa_nil)))) (pa_cons (pe_tup (pa_cons pe_str (pa_cons (pv 8) (pa_cons pe_int pa_nil)))) pa_nil))) (po_some (pe_op op_sub pe_int (pe_op op_mul pe_int (pv 5))))) (pg_lst rfl (pgs_cons (pg_name (i := 6) sc_law.nd rfl (.inr rfl)) (pgs_cons (pg_name (i := 7) sc_law.nd rfl (.inl rfl)) pgs_nil)))))) pss_nil))
      (pss_cons (ps_cut (ps_if (pt_cmpR op_eqI (pv 5) pe_int (nomark _)) (pss_one (ps_set (i := 7) sc_law.nd rfl (.inl rfl) (pv 6))) pss_nil))
      (pss_cons (ps_setLc (i := 9) (own := [("_law_place", 10)]) (g := gName 10) (by rfl) sc_law.nd rfl rfl (sw_true rfl rfl rfl (by decide +kernel)) (pi_range1 (by rfl) T.z_range (pa_cons (pe_call G_law_draw (hr.mono (by decide)) (by rfl) T.g_law_draw T.F_law_draw.kp T.b_law_draw .nil pass0 (pa_cons (pv 2) (pa_cons pe_int pa_nil))) pa_nil)) (blkOk_by (own := [("_law_place", 10)]) (N := ["_law_script", "_law_at", "_law_bag_here", "_law_length_here", "_law_some", "_law_turn", "_law_one", "_law_two", "_law_back", "_law_blocks", "_law_place", "_law_odd_here"]) (sc := defScope s_law) (by decide +kernel)) (fun _ _ _ _ _ => (pg_name (i := 10) sc_law.nd rfl (.inl rfl))) (fun _ _ _ _ _ => pts_nil) (fun _ _ _ _ _ => (pe_call G_law_block (hr.mono (by decide)) (by rfl) T.g_law_block T.F_law_block.kp T.b_law_block .nil pass0 (pa_cons (pv 2) (pa_cons pe_int pa_nil)))))
      (pss_cons (ps_if (pt_not (pt_val (pe_call G_law_right (hr.mono (by decide)) (by rfl) T.g_law_right T.F_law_right.kp T.b_law_right .nil pass0 (pa_cons (pv 3) (pa_cons (pv 6) (pa_cons (pv 7) (pa_cons (pv 9) pa_nil))))))) (pss_one (ps_ret pe_bl)) pss_nil)
      (pss_cons (ps_set (i := 11) sc_law.nd rfl (.inr rfl) (pe_call G_law_odd (hr.mono (by decide)) (by rfl) T.g_law_odd T.F_law_odd.kp T.b_law_odd .nil pass0 (pa_cons (pv 2) (pa_cons (pv 3) pa_nil))))
      (pss_cons (ps_if (pt_cmpR (op_neD hr.units) (pe_cut (pe_lamF (k := 4) T.F_law_refused T.b_law_refused (by rfl) T.g_law_refused sc_law_refused rfl (.inl rfl) (fun cdg => gives_law_refused T _ _ cdg) (TB ("law", none) (.head _)) rfl (.head _) hu (hr.mono (by decide)) (LamX.lamS_by (sc := defScope s_law) (by decide +kernel)) rfl (fun _ _ _ _ _ => rfl) (fun A outer s H E f c' hr => (pe_call G_parting_blocks__1 (hr.mono (by decide)) (by rfl) T.g_parting_blocks T.F_parting_blocks.kp T.b_parting_blocks .nil passLam (pa_cons (pv 3) (pa_cons (pv 11) (pa_cons pe_non pa_nil))))))) (pe_tup (pa_cons (pv 11) pa_nil)) (nomark _)) (pss_one (ps_ret pe_bl)) pss_nil)
      (pss_one (ps_if (pt_cmpR (op_neD hr.units) (pe_cut (pe_lamF (k := 4) T.F_law_refused T.b_law_refused (by rfl) T.g_law_refused sc_law_refused rfl (.inl rfl) (fun cdg => gives_law_refused T _ _ cdg) (TB ("law", none) (.head _)) rfl (.head _) hu (hr.mono (by decide)) (LamX.lamS_by (sc := defScope s_law) (by decide +kernel)) rfl (fun _ _ _ _ _ => rfl) (fun A outer s H E f c' hr => (pe_call G_parting_blocks__2 (hr.mono (by decide)) (by rfl) T.g_parting_blocks T.F_parting_blocks.kp T.b_parting_blocks .nil passLam (pa_cons (pv 3) (pa_cons (pv 6) (pa_cons (pv 11) pa_nil))))))) (pe_tup (pa_cons (pv 11) pa_nil)) (nomark _)) (pss_one (ps_ret pe_bl)) pss_nil))))))))))))))
      (pss_one (ps_ret pe_bl))), ?_⟩
    have E0 := Ext.refl G0
    have hm0 : (Option.bind (rngM (if (if (12 : Int) < (script1.length : Int) then (12 : Int) else (script1.length : Int)) > (1 : Int) then (if (12 : Int) < (script1.length : Int) then (12 : Int) else (script1.length : Int)) else (1 : Int))) fun xs1 =>
  Option.bind (forL (m_law_b1 script1) xs1 ()) fun res => match res with
  | Fl.rt r => some r
  | Fl.nx _ => some true) = some res := hm
    obtain ⟨xs1, hq1, hm1⟩ := bindS hm0
    obtain ⟨res1, hl1, hm2⟩ := bindS hm1
    refine gS_CS (fun (σ : L2.St) (H : Hp) => ∃ s : Unit, res1 = Fl.nx s ∧ ∃ (G : Hp) (y1 : Option V) (y2 : Option V) (y3 : Option V) (y4 : Option V) (y5 : Option V) (y6 : Option V) (y7 : Option V) (y8 : Option V) (y9 : Option V) (y10 : Option V) (y11 : Option V) (B2 : Own), Ext G0 G ∧ Sub G ((B2 ++ O)) H ∧ σ = [some v1, y1, y2, y3, y4, y5, y6, y7, y8, y9, y10, y11] ∧ TbR (tbs K) B2 G) ?_ ?_
    · skip
      refine gFor ?_
      refine gIR ?_
      refine gCons' ?_
      refine gCB ?_
      refine gCons' ?_
      refine gC ?_
      refine gCons' ?_
      refine gCB ?_
      refine gCons' ?_
      refine gCB ?_
      refine gCons' ?_
      refine gV rfl ?_
      refine gNil' ?_
      refine q_lenL (y := V.non) S0 h1 ?_
      refine gCons' ?_
      refine gC ?_
      refine gNil' ?_
      refine ⟨_, _, rfl, ?_⟩
      refine gNil' ?_
      refine ⟨_, _, rfl, ?_⟩
      refine gNil' ?_
      refine lp_R hq1 hl1 (fun (s : Unit) (σ : L2.St) (H : Hp) => ∃ (G : Hp) (y1 : Option V) (y2 : Option V) (y3 : Option V) (y4 : Option V) (y5 : Option V) (y6 : Option V) (y7 : Option V) (y8 : Option V) (y9 : Option V) (y10 : Option V) (y11 : Option V) (B2 : Own), Ext G0 G ∧ Sub G ((B2 ++ O)) H ∧ σ = [some v1, y1, y2, y3, y4, y5, y6, y7, y8, y9, y10, y11] ∧ TbR (tbs K) B2 G) ⟨G0, _, _, _, _, _, _, _, _, _, _, _, B1, (Ext.refl _), S0, rfl, (TbR.up hT1 (Ext.refl _))⟩ ?_ ?_
      · intro i1 x1 s1 b1 hb1 hr1 σ1 H1 hI1
        obtain ⟨G1, y12, y13, y14, y15, y16, y17, y18, y19, y20, y21, y22, B3, e1, S1, rfl, h3⟩ := hI1
        have h4 := R.up e1 h1
        have E1 := E0.trans e1
        have hm3 : (Option.bind (m_law_bag script1 x1) fun r1 =>   Option.bind (m_law_length r1) fun (r2, r3) =>   Option.bind (m_law_standings r2) fun r4 =>   Option.bind (m_law_draw r3 (8 : Int)) fun (r5, r6) =>   Option.bind (m_law_draw r6 (r4.length : Int)) fun (r7, r8) =>   Option.bind (getM r4 r7) fun x2 =>   Option.bind (m_law_draw r8 (r4.length : Int)) fun (r9, r10) =>   Option.bind (getM r4 r9) fun x3 =>   Option.bind (if (decide (r5 < (2 : Int))) then (Option.bind (m_law_draw r10 (r2 - (1 : Int))) fun (r13, r14) =>   Option.bind (stpM ([(Wd.kept, r2, ((1 : Int) + r13)), (Wd.kept, ((1 : Int) + r13), (0 : Int))] : List (Wd × Int × Int)) ((1 : Int) - ((2 : Int) * r5))) fun z2 =>   Option.bind (two2M z2) fun p2 =>   some (r14, p2.1, p2.2))   else (some (r10, (x2, x3).1, (x2, x3).2))) fun (bag_here1, one1, two1) =>   Option.bind (if (decide (r5 = (2 : Int))) then (some one1)   else (some two1)) fun two2 =>   Option.bind (m_law_draw bag_here1 (9 : Int)) fun (r15, bag_here2) =>   Option.bind (rngM r15) fun xs2 =>   Option.bind (folM (m_law_c2) xs2 (bag_here2, ([] : (List (Int × Int × Bool × Bool))))) fun (bag_here4, acc1) =>   Option.bind (m_law_right r2 one1 two2 acc1) fun r19 =>   if (!r19) then (some (Bf.rt false))   else (Option.bind (m_law_odd bag_here4 r2) fun (r20, bag_here7) =>   Option.bind (m_parting_blocks__1 r2 r20 ()) fun rs1 =>   Option.bind (m_law_refused rs1) fun told1 =>   Option.bind (told1) fun j1 =>   Option.bind (eqA (PyData.tuple j1) (PyData.tuple ([r20] : List PyData))) fun b2 =>   if (!b2) then (some (Bf.rt false))   else (Option.bind (m_parting_blocks__2 r2 one1 r20) fun rs2 =>   Option.bind (m_law_refused rs2) fun told2 =>   Option.bind (told2) fun j2 =>   Option.bind (eqA (PyData.tuple j2) (PyData.tuple ([r20] : List PyData))) fun b3 =>   if (!b3) then (some (Bf.rt false))   else (some (Bf.go ()))))) = some b1 := hb1
        refine gS_AsgN ?_
        refine gCall ?_
        refine gCons' ?_
        refine gV rfl ?_
        refine gCons' ?_
        refine gV rfl ?_
        refine gNil' ?_
        obtain ⟨r1, hq2, hm4⟩ := bindS hm3
        refine ⟨G1, ((B3 ++ O)), v1, script1, x1, rfl, S1, h4, r1, hq2, fun a1 w1 G2 H2 e2 S2 h5 => ?_⟩
        have h6 := R.up e2 h4
        have E2 := E1.trans e2
        refine gS_AsgN ?_
        refine gCall ?_
        refine gCons' ?_
        refine gV rfl ?_
        refine gNil' ?_
        obtain ⟨⟨r2, r3⟩, hq3, hm5⟩ := bindS hm4
        dsimp only at hm5
        refine ⟨G2, ((B3 ++ O)), a1, w1, r1, rfl, S2, h5, (r2, r3), hq3, fun G3 H3 w2 e3 S3 h7 => ?_⟩
        have h8 := R.up e3 h6
        have E3 := E2.trans e3
        refine gS_Par ?_
        refine gCons' ?_
        refine gCall ?_
        refine gCons' ?_
        refine gV rfl ?_
        refine gNil' ?_
        obtain ⟨r4, hq4, hm6⟩ := bindS hm5
        refine ⟨G3, ((a1, HO.lst w2) :: (B3 ++ O)), r2, rfl, S3, r4, hq4, fun v3 G4 H4 e4 S4 h9 => ?_⟩
        have h10 := R.up e4 h8
        have h11 := Al.up e4 h7
        have E4 := E3.trans e4
        refine gCons' ?_
        refine gCall ?_
        refine gCons' ?_
        refine gV rfl ?_
        refine gCons' ?_
        refine gC ?_
        refine gNil' ?_
        obtain ⟨⟨r5, r6⟩, hq5, hm7⟩ := bindS hm6
        dsimp only at hm7
        refine ⟨G4, ((B3 ++ O)), a1, w2, r3, (8 : Int), rfl, S4, h11, (r5, r6), hq5, fun G5 H5 w3 e5 S5 h12 => ?_⟩
        have h13 := R.up e5 h10
        have h14 := R.up e5 h9
        have E5 := E4.trans e5
        refine gNil' ?_
        refine ⟨_, _, rfl, ?_⟩
        refine gS_Asg ?_
        refine gTup' ?_
        refine gCons' ?_
        refine gOp ?_
        refine gV rfl ?_
        refine gCall ?_
        refine gCons' ?_
        refine gV rfl ?_
        refine gCons' ?_
        refine gCB ?_
        refine gCons' ?_
        refine gV rfl ?_
        refine gNil' ?_
        refine q_lenL (y := V.non) S5 (rM_L (K := K) h14) ?_
        refine gNil' ?_
        obtain ⟨⟨r7, r8⟩, hq6, hm8⟩ := bindS hm7
        dsimp only at hm8
        refine ⟨G5, ((B3 ++ O)), a1, w3, r6, (r4.length : Int), rfl, S5, h12, (r7, r8), hq6, fun G6 H6 w4 e6 S6 h15 => ?_⟩
        have h16 := R.up e6 h13
        have h17 := R.up e6 h14
        have E6 := E5.trans e6
        obtain ⟨x2, hq7, hm9⟩ := bindS hm8
        refine q_ixL S6 (rM_L (K := K) h17) hq7 (fun v4 h18 => ?_)
        refine gCons' ?_
        refine gOp ?_
        refine gV rfl ?_
        refine gCall ?_
        refine gCons' ?_
        refine gV rfl ?_
        refine gCons' ?_
        refine gCB ?_
        refine gCons' ?_
        refine gV rfl ?_
        refine gNil' ?_
        refine q_lenL (y := V.non) S6 (rM_L (K := K) h17) ?_
        refine gNil' ?_
        obtain ⟨⟨r9, r10⟩, hq8, hm10⟩ := bindS hm9
        dsimp only at hm10
        refine ⟨G6, ((B3 ++ O)), a1, w4, r8, (r4.length : Int), rfl, S6, h15, (r9, r10), hq8, fun G7 H7 w5 e7 S7 h19 => ?_⟩
        have h20 := R.up e7 h16
        have h21 := R.up e7 h17
        have h22 := R.up e7 h18
        have E7 := E6.trans e7
        obtain ⟨x3, hq9, hm11⟩ := bindS hm10
        refine q_ixL S7 (rM_L (K := K) h21) hq9 (fun v5 h23 => ?_)
        refine gNil' ?_
        refine q_tup2 (K := K) S7 (show R.rel (rP3 K (rEn e_Wd) rInt rInt) G7 v4 x2 from h22) (show R.rel (rP3 K (rEn e_Wd) rInt rInt) G7 v5 x3 from h23) (fun v6 G8 H8 e8 S8 h24 => ?_)
        have h25 := R.up e8 h20
        have h26 := Al.up e8 h19
        have h27 := R.up e8 h21
        have E8 := E7.trans e8
        refine q_gt2 S8 h24 (fun v7 v8 h28 h29 => ?_)
        obtain ⟨⟨bag_here1, one1, two1⟩, hq13, hm15⟩ := bindS hm11
        dsimp only at hm15
        refine gS_CS (fun (σ : L2.St) (H : Hp) => ∃ (G : Hp) (w8 : List V) (v14 : V) (v15 : V) (y23 : Option V) (y24 : Option V) (y25 : Option V) (y26 : Option V), Ext G8 G ∧ Sub G ((a1, HO.lst w8) :: (B3 ++ O)) H ∧ σ = [some v1, some (V.int x1), some (V.ref a1), some (V.int r2), some v3, some (V.int r5), some v14, some v15, y23, y24, y25, y26] ∧ Al rInt G w8 bag_here1 ∧ R.rel (rP3 K (rEn e_Wd) rInt rInt) G v14 one1 ∧ R.rel (rP3 K (rEn e_Wd) rInt rInt) G v15 two1) ?_ ?_
        · skip
          refine gIfS ?_
          refine gTest ?_
          refine gOp ?_
          refine gV rfl ?_
          refine gC ?_
          refine ⟨_, _, rfl, rfl, ?_⟩
          refine ⟨(decide (r5 < (2 : Int))), rfl, ?_⟩
          refine ite2 (fun c1 => ?_) (fun c1 => ?_)
          · skip
            have hm16 := (if_pos c1).symm.trans hq13
            refine gS_AsgN ?_
            refine gOp ?_
            refine gC ?_
            refine gCall ?_
            refine gCons' ?_
            refine gV rfl ?_
            refine gCons' ?_
            refine gOp ?_
            refine gV rfl ?_
            refine gC ?_
            refine ⟨_, _, rfl, rfl, ?_⟩
            refine gNil' ?_
            obtain ⟨⟨r13, r14⟩, hq14, hm17⟩ := bindS hm16
            dsimp only at hm17
            refine ⟨G8, ((B3 ++ O)), a1, w5, r10, (r2 - (1 : Int)), rfl, S8, h26, (r13, r14), hq14, fun G13 H14 w9 e13 S14 h58 => ?_⟩
            have h59 := R.up e13 h25
            have h60 := R.up e13 h27
            have h61 := R.up e13 h28
            have h62 := R.up e13 h29
            have E13 := E8.trans e13
            refine ⟨_, _, rfl, rfl, ?_⟩
            refine gAsg ?_
            refine gStpL ?_
            refine gLst ?_
            refine gCons' ?_
            refine gTup' ?_
            refine gCons' ?_
            refine gC ?_
            refine gCons' ?_
            refine gV rfl ?_
            refine gCons' ?_
            refine gV rfl ?_
            refine gNil' ?_
            refine q_tup3 (K := K) S14 (show R.rel (rEn e_Wd) G13 (V.str (e_Wd Wd.kept)) Wd.kept from rfl) (show R.rel rInt G13 (V.int r2) r2 from rfl) (show R.rel rInt G13 (V.int ((1 : Int) + r13)) ((1 : Int) + r13) from rfl) (fun v16 G14 H15 e14 S15 h63 => ?_)
            have h64 := R.up e14 h59
            have h65 := Al.up e14 h58
            have h66 := R.up e14 h60
            have h67 := R.up e14 h61
            have h68 := R.up e14 h62
            have E14 := E13.trans e14
            refine gCons' ?_
            refine gTup' ?_
            refine gCons' ?_
            refine gC ?_
            refine gCons' ?_
            refine gV rfl ?_
            refine gCons' ?_
            refine gC ?_
            refine gNil' ?_
            refine q_tup3 (K := K) S15 (show R.rel (rEn e_Wd) G14 (V.str (e_Wd Wd.kept)) Wd.kept from rfl) (show R.rel rInt G14 (V.int ((1 : Int) + r13)) ((1 : Int) + r13) from rfl) (show R.rel rInt G14 (V.int (0 : Int)) (0 : Int) from rfl) (fun v17 G15 H16 e15 S16 h69 => ?_)
            have h70 := R.up e15 h64
            have h71 := Al.up e15 h65
            have h72 := R.up e15 h66
            have h73 := R.up e15 h67
            have h74 := R.up e15 h68
            have h75 := R.up e15 h63
            have E15 := E14.trans e15
            refine gNil' ?_
            have h76 : Al (rP3 K (rEn e_Wd) rInt rInt) G15 [v16, v17] [(Wd.kept, r2, ((1 : Int) + r13)), (Wd.kept, ((1 : Int) + r13), (0 : Int))] := ⟨h75, h69, True.intro⟩
            refine q_lst S16 h76 (by show 2 ≤ 100000; decide) (fun a3 H17 w10 S17 h77 => ?_)
            refine gPart ?_
            refine gOp ?_
            refine gC ?_
            refine gOp ?_
            refine gC ?_
            refine gV rfl ?_
            refine ⟨_, _, rfl, rfl, .inl ⟨by decide, by decide⟩, ?_⟩
            refine ⟨_, _, rfl, rfl, ?_⟩
            refine ⟨_, rfl, ?_⟩
            obtain ⟨z2, hq15, hm18⟩ := bindS hm17
            refine q_stpO S17 h77 hq15 (fun v18 G16 H18 e16 S18 h78 => ?_)
            have h79 := R.up e16 h70
            have h80 := Al.up e16 h71
            have h81 := R.up e16 h72
            have h82 := R.up e16 h73
            have h83 := R.up e16 h74
            have E16 := E15.trans e16
            obtain ⟨p2, hq16, hm19⟩ := bindS hm18
            refine q_gl2 S18 (rM_L (K := K) h78) hq16 (fun v19 v20 h84 h85 => ?_)
            have S19 := S18.tail
            cases hm19
            exact ⟨G16, w9, v19, v20, _, _, _, _, (((e13.trans e14).trans e15).trans e16), S19, rfl, h80, h84, h85⟩
          · skip
            have hm20 := (if_neg c1).symm.trans hq13
            refine gNext ?_
            cases hm20
            exact ⟨G8, w5, v7, v8, _, _, _, _, (Ext.refl _), S8, rfl, h26, h28, h29⟩
        · intro σ2 H19 hJ1
          obtain ⟨G17, w11, v21, v22, y27, y28, y29, y30, e17, S20, rfl, h86, h87, h88⟩ := hJ1
          have h89 := R.up e17 h25
          have h90 := R.up e17 h27
          have E17 := E8.trans e17
          obtain ⟨two2, hq17, hm21⟩ := bindS hm15
          refine gS_CS (fun (σ : L2.St) (H : Hp) => ∃ (G : Hp) (v23 : V) (y31 : Option V) (y32 : Option V) (y33 : Option V) (y34 : Option V), Ext G17 G ∧ Sub G ((a1, HO.lst w11) :: (B3 ++ O)) H ∧ σ = [some v1, some (V.int x1), some (V.ref a1), some (V.int r2), some v3, some (V.int r5), some v21, some v23, y31, y32, y33, y34] ∧ R.rel (rP3 K (rEn e_Wd) rInt rInt) G v23 two2) ?_ ?_
          · skip
            refine gIfS ?_
            refine gTest ?_
            refine gOp ?_
            refine gV rfl ?_
            refine gC ?_
            refine ⟨_, _, rfl, rfl, ?_⟩
            refine ⟨(decide (r5 = (2 : Int))), rfl, ?_⟩
            refine ite2 (fun c2 => ?_) (fun c2 => ?_)
            · skip
              have hm22 := (if_pos c2).symm.trans hq17
              refine gAsgN ?_
              refine gV rfl ?_
              cases hm22
              exact ⟨G17, v21, _, _, _, _, (Ext.refl _), S20, rfl, h87⟩
            · skip
              have hm23 := (if_neg c2).symm.trans hq17
              refine gNext ?_
              cases hm23
              exact ⟨G17, v22, _, _, _, _, (Ext.refl _), S20, rfl, h88⟩
          · intro σ3 H20 hJ2
            obtain ⟨G18, v24, y35, y36, y37, y38, e18, S21, rfl, h91⟩ := hJ2
            have h92 := R.up e18 h89
            have h93 := Al.up e18 h86
            have h94 := R.up e18 h90
            have h95 := R.up e18 h87
            have E18 := E17.trans e18
            refine gS_AsgN ?_
            refine gLc ?_
            refine gIR ?_
            refine gCons' ?_
            refine gCall ?_
            refine gCons' ?_
            refine gV rfl ?_
            refine gCons' ?_
            refine gC ?_
            refine gNil' ?_
            obtain ⟨⟨r15, bag_here2⟩, hq18, hm24⟩ := bindS hm21
            dsimp only at hm24
            refine ⟨G18, ((B3 ++ O)), a1, w11, bag_here1, (9 : Int), rfl, S21, h93, (r15, bag_here2), hq18, fun G19 H21 w12 e19 S22 h96 => ?_⟩
            have h97 := R.up e19 h92
            have h98 := R.up e19 h94
            have h99 := R.up e19 h95
            have h100 := R.up e19 h91
            have E19 := E18.trans e19
            refine gNil' ?_
            obtain ⟨xs2, hq19, hm25⟩ := bindS hm24
            obtain ⟨⟨bag_here4, acc1⟩, hq21, hm27⟩ := bindS hm25
            dsimp only at hm27
            refine lc_R hq19 hq21 (fun (D : Addr) (s : (List Int) × (List (Int × Int × Bool × Bool))) (H : Hp) => ∃ (G : Hp) (w14 : List V) (w15 : List V), Ext G19 G ∧ Sub G ((D, HO.lst w15) :: (a1, HO.lst w14) :: (B3 ++ O)) H ∧ Al (rP4 K rInt rInt rBool rBool) G w15 s.2 ∧ Al rInt G w14 s.1) ?_ ?_ ?_
            · intro D1 nD1
              exact ⟨G19, w12, [], Ext.refl _, S22.newOwn nD1, True.intro, h96⟩
            · intro D2 i2 x4 s2 s3 hb2 hr2 H23 hI2
              obtain ⟨bag_here5, acc2⟩ := s2
              obtain ⟨G21, w16, w17, e21, S24, h108, h109⟩ := hI2
              have h110 := R.up e21 h97
              have h111 := R.up e21 h98
              have h112 := R.up e21 h99
              have h113 := R.up e21 h100
              have E21 := E19.trans e21
              refine ⟨rfl, ?_⟩
              have hm28 : (Option.bind (m_law_block bag_here5 (20 : Int)) fun (r17, bag_here6) =>   Option.bind (appM acc2 r17) fun acc3 =>   some (bag_here6, acc3)) = some s3 := hb2
              refine gYes ?_
              refine iteT ?_
              refine gCall ?_
              refine gCons' ?_
              refine gV rfl ?_
              refine gCons' ?_
              refine gC ?_
              refine gNil' ?_
              have S25 : Sub G21 ((a1, HO.lst w16) :: (D2, HO.lst w17) :: (B3 ++ O)) H23 := S24.front 1 rfl rfl
              obtain ⟨⟨r17, bag_here6⟩, hq22, hm29⟩ := bindS hm28
              dsimp only at hm29
              refine ⟨G21, ((D2, HO.lst w17) :: (B3 ++ O)), a1, w16, bag_here5, (20 : Int), rfl, S25, h109, (r17, bag_here6), hq22, fun v27 G22 H24 w18 e22 S26 h114 h115 => ?_⟩
              have h116 := R.up e22 h110
              have h117 := R.up e22 h111
              have h118 := R.up e22 h112
              have h119 := R.up e22 h113
              have h120 := Al.up e22 h108
              have E22 := E21.trans e22
              obtain ⟨acc3, hq23, hm30⟩ := bindS hm29
              have S27 : Sub G22 ((D2, HO.lst w17) :: (a1, HO.lst w18) :: (B3 ++ O)) H24 := S26.front 1 rfl rfl
              refine q_lcEl S27 h120 (show R.rel (rP4 K rInt rInt rBool rBool) G22 v27 r17 from h114) hq23 (fun H25 w19 S28 h121 => ?_)
              cases hm30
              exact ⟨_, ⟨G22, w18, w19, (e21.trans e22), S28, h121, h115⟩, hr2⟩
            · intro D3 H26 hI3
              obtain ⟨G23, w20, w21, e23, S29, h122, h123⟩ := hI3
              have h124 := R.up e23 h97
              have h125 := R.up e23 h98
              have h126 := R.up e23 h99
              have h127 := R.up e23 h100
              have E23 := E19.trans e23
              refine gS_IfS ?_
              refine gNot ?_
              refine gB ?_
              refine gCall ?_
              refine gCons' ?_
              refine gV rfl ?_
              refine gCons' ?_
              refine gV rfl ?_
              refine gCons' ?_
              refine gV rfl ?_
              refine gCons' ?_
              refine gV rfl ?_
              refine gNil' ?_
              have e26 : Ext G23 (upd G23 D3 (HO.lst w21)) := Sub.extFrz S29
              have S33 : Sub (upd G23 D3 (HO.lst w21)) ((a1, HO.lst w20) :: (B3 ++ O)) H26 := Sub.frz S29
              obtain ⟨r19, hq25, hm32⟩ := bindS hm27
              refine ⟨(upd G23 D3 (HO.lst w21)), ((a1, HO.lst w20) :: (B3 ++ O)), r2, v21, one1, v24, two2, (V.ref D3), acc1, rfl, S33, (R.up e26 h126), (R.up e26 h127), (rM_lent S29 h122), r19, hq25, fun G25 H28 e27 S34 => ?_⟩
              have S35 : Sub G23 ((D3, HO.lst w21) :: (a1, HO.lst w20) :: (B3 ++ O)) H28 := Sub.thaw S29 e27 S34
              refine ⟨r19, rfl, ?_⟩
              refine ite2 (fun c3 => ?_) (fun c3 => ?_)
              · skip
                have hm33 := (if_pos c3).symm.trans hm32
                refine gRet ?_
                refine gC ?_
                have S36 := S35.tail
                have S37 := S36.tail
                cases hm33
                have hr3 := Option.some.inj (show some (Fl.rt _) = some res1 from hr1)
                subst hr3
                dsimp only at hm2
                cases hm2
                exact q G23 H28 B3 E23 S37 (TbR.up h3 ((((((((((e2.trans e3).trans e4).trans e5).trans e6).trans e7).trans e8).trans e17).trans e18).trans e19).trans e23))
              · skip
                have hm34 := (if_neg c3).symm.trans hm32
                refine gNext ?_
                refine gE ?_
                refine gS_AsgN ?_
                refine gCall ?_
                refine gCons' ?_
                refine gV rfl ?_
                refine gCons' ?_
                refine gV rfl ?_
                refine gNil' ?_
                have S38 : Sub G23 ((a1, HO.lst w20) :: (D3, HO.lst w21) :: (B3 ++ O)) H28 := S35.front 1 rfl rfl
                obtain ⟨⟨r20, bag_here7⟩, hq26, hm35⟩ := bindS hm34
                dsimp only at hm35
                refine ⟨G23, ((D3, HO.lst w21) :: (B3 ++ O)), a1, w20, bag_here4, r2, rfl, S38, h123, (r20, bag_here7), hq26, fun v28 G26 H29 w22 e28 S39 h128 h129 => ?_⟩
                have h130 := R.up e28 h124
                have h131 := R.up e28 h125
                have h132 := R.up e28 h126
                have h133 := R.up e28 h127
                have h134 := Al.up e28 h122
                have E24 := E23.trans e28
                refine gS_IfS ?_
                refine gTest ?_
                refine gOp ?_
                obtain ⟨rs1, hq27, hm36⟩ := bindS hm35
                obtain ⟨told1, hq28, hm37⟩ := bindS hm36
                refine gCE (fun (v : V) (H : Hp) => ∃ (G : Hp) (B4 : Own), Ext G26 G ∧ Sub G ((a1, HO.lst w22) :: (D3, HO.lst w21) :: (B4 ++ O)) H ∧ R.rel (rO (rT K (rAny K))) G v told1 ∧ TbR (tbs K) B4 G) ?_ ?_
                · skip
                  refine gLam ⟨TbR.tabs (E := ((a1, HO.lst w22) :: (D3, HO.lst w21) :: [] : Own)) (O := O) (TbR.up h3 (((((((((((e2.trans e3).trans e4).trans e5).trans e6).trans e7).trans e8).trans e17).trans e18).trans e19).trans e23).trans e28)) S39, fun H30 eN1 T1 => ?_⟩
                  obtain ⟨G27, B5, e29, S40, hT2⟩ := tab_step (E := ((a1, HO.lst w22) :: (D3, HO.lst w21) :: [] : Own)) (O := O) S39 (TbR.up h3 (((((((((((e2.trans e3).trans e4).trans e5).trans e6).trans e7).trans e8).trans e17).trans e18).trans e19).trans e23).trans e28)) (NoC.lst (NoC.lst nc1)) eN1 T1
                  have h135 := R.up e29 h130
                  have h136 := Al.up e29 h129
                  have h137 := R.up e29 h131
                  have h138 := R.up e29 h132
                  have h139 := R.up e29 h133
                  have h140 := Al.up e29 h134
                  have h141 := R.up e29 h128
                  have E25 := E24.trans e29
                  have S41 : Sub G27 ((a1, HO.lst w22) :: (D3, HO.lst w21) :: (B5 ++ O)) H30 := S40
                  refine gTO_law_refused ?_
                  refine gCall ?_
                  refine gCons' ?_
                  refine gV rfl ?_
                  refine gCons' ?_
                  refine gV rfl ?_
                  refine gCons' ?_
                  refine gC ?_
                  refine gNil' ?_
                  refine ⟨G27, ((a1, HO.lst w22) :: (D3, HO.lst w21) :: (B5 ++ O)), r2, v28, r20, (), rfl, S41, h141, rs1, hq27, fun r hres v29 G28 H31 e30 S42 h142 => ?_, fun x hres c d G28 H31 e30 S42 h142 => ?_⟩
                  · subst hres
                    cases hq28
                    exact ⟨G28, B5, e29.trans e30, S42, (rO_none : R.rel (rO (rT K (rAny K))) G28 V.non none), TbR.up (TbR.up hT2 (Ext.refl _)) e30⟩
                  · subst hres
                    refine ⟨x, G28, ((a1, HO.lst w22) :: (D3, HO.lst w21) :: (B5 ++ O)), told1, S42, h142, hq28, fun v30 G29 H32 e31 S43 h143 => ?_⟩
                    exact ⟨G29, B5, (e29.trans e30).trans e31, S43, h143, TbR.up (TbR.up hT2 (Ext.refl _)) (e30.trans e31)⟩
                · intro v31 H33 hJ
                  obtain ⟨G30, B6, e32, S44, h144, hT3⟩ := hJ
                  have h145 := R.up e32 h130
                  have h146 := Al.up e32 h129
                  have h147 := R.up e32 h131
                  have h148 := R.up e32 h132
                  have h149 := R.up e32 h133
                  have h150 := Al.up e32 h134
                  have h151 := R.up e32 h128
                  have E26 := E24.trans e32
                  refine gTup' ?_
                  refine gCons' ?_
                  refine gV rfl ?_
                  refine gNil' ?_
                  have h152 : Al (rAny K) G30 [v28] ([r20] : List PyData) := ⟨h151, True.intro⟩
                  refine q_tupN (K := K) S44 (by show 1 ≤ 100000; decide) h152 (fun v32 G31 H34 e33 S45 h153 => ?_)
                  have h154 := R.up e33 h145
                  have h155 := Al.up e33 h146
                  have h156 := R.up e33 h147
                  have h157 := R.up e33 h148
                  have h158 := R.up e33 h149
                  have h159 := Al.up e33 h150
                  have h160 := R.up e33 h151
                  have h161 := R.up e33 h144
                  have E27 := E26.trans e33
                  obtain ⟨j1, hq29, hm38⟩ := bindS hm37
                  have h162 := rO_get h161 hq29
                  obtain ⟨b2, hq30, hm39⟩ := bindS hm38
                  refine q_neA S45 (R.up S45.ext (any_T h162)) (R.up S45.ext (any_T h153)) hq30 ?_
                  refine ⟨(!b2), rfl, ?_⟩
                  refine ite2 (fun c4 => ?_) (fun c4 => ?_)
                  · skip
                    have hm40 := (if_pos c4).symm.trans hm39
                    refine gRet ?_
                    refine gC ?_
                    have S46 := S45.tail
                    have S47 := S46.tail
                    cases hm40
                    have hr4 := Option.some.inj (show some (Fl.rt _) = some res1 from hr1)
                    subst hr4
                    dsimp only at hm2
                    cases hm2
                    exact q G31 H34 B6 E27 S47 (TbR.up hT3 e33)
                  · skip
                    have hm41 := (if_neg c4).symm.trans hm39
                    refine gNext ?_
                    refine gE ?_
                    refine gIfS ?_
                    refine gTest ?_
                    refine gOp ?_
                    obtain ⟨rs2, hq31, hm42⟩ := bindS hm41
                    obtain ⟨told2, hq32, hm43⟩ := bindS hm42
                    refine gCE (fun (v : V) (H : Hp) => ∃ (G : Hp) (B7 : Own), Ext G31 G ∧ Sub G ((a1, HO.lst w22) :: (D3, HO.lst w21) :: (B7 ++ O)) H ∧ R.rel (rO (rT K (rAny K))) G v told2 ∧ TbR (tbs K) B7 G) ?_ ?_
                    · skip
                      refine gLam ⟨TbR.tabs (E := ((a1, HO.lst w22) :: (D3, HO.lst w21) :: [] : Own)) (O := O) (TbR.up hT3 e33) S45, fun H35 eN2 T2 => ?_⟩
                      obtain ⟨G32, B8, e34, S48, hT4⟩ := tab_step (E := ((a1, HO.lst w22) :: (D3, HO.lst w21) :: [] : Own)) (O := O) S45 (TbR.up hT3 e33) (NoC.lst (NoC.lst nc1)) eN2 T2
                      have h163 := R.up e34 h154
                      have h164 := Al.up e34 h155
                      have h165 := R.up e34 h156
                      have h166 := R.up e34 h157
                      have h167 := R.up e34 h158
                      have h168 := Al.up e34 h159
                      have h169 := R.up e34 h160
                      have E28 := E27.trans e34
                      have S49 : Sub G32 ((a1, HO.lst w22) :: (D3, HO.lst w21) :: (B8 ++ O)) H35 := S48
                      refine gTO_law_refused ?_
                      refine gCall ?_
                      refine gCons' ?_
                      refine gV rfl ?_
                      refine gCons' ?_
                      refine gV rfl ?_
                      refine gCons' ?_
                      refine gV rfl ?_
                      refine gNil' ?_
                      refine ⟨G32, ((a1, HO.lst w22) :: (D3, HO.lst w21) :: (B8 ++ O)), r2, v21, one1, v28, r20, rfl, S49, h166, h169, rs2, hq31, fun r hres v33 G33 H36 e35 S50 h170 => ?_, fun x hres c d G33 H36 e35 S50 h170 => ?_⟩
                      · subst hres
                        cases hq32
                        exact ⟨G33, B8, e34.trans e35, S50, (rO_none : R.rel (rO (rT K (rAny K))) G33 V.non none), TbR.up (TbR.up hT4 (Ext.refl _)) e35⟩
                      · subst hres
                        refine ⟨x, G33, ((a1, HO.lst w22) :: (D3, HO.lst w21) :: (B8 ++ O)), told2, S50, h170, hq32, fun v34 G34 H37 e36 S51 h171 => ?_⟩
                        exact ⟨G34, B8, (e34.trans e35).trans e36, S51, h171, TbR.up (TbR.up hT4 (Ext.refl _)) (e35.trans e36)⟩
                    · intro v35 H38 hJ
                      obtain ⟨G35, B9, e37, S52, h172, hT5⟩ := hJ
                      have h173 := R.up e37 h154
                      have h174 := Al.up e37 h155
                      have h175 := R.up e37 h156
                      have h176 := R.up e37 h157
                      have h177 := R.up e37 h158
                      have h178 := Al.up e37 h159
                      have h179 := R.up e37 h160
                      have E29 := E27.trans e37
                      refine gTup' ?_
                      refine gCons' ?_
                      refine gV rfl ?_
                      refine gNil' ?_
                      have h180 : Al (rAny K) G35 [v28] ([r20] : List PyData) := ⟨h179, True.intro⟩
                      refine q_tupN (K := K) S52 (by show 1 ≤ 100000; decide) h180 (fun v36 G36 H39 e38 S53 h181 => ?_)
                      have h182 := R.up e38 h173
                      have h183 := Al.up e38 h174
                      have h184 := R.up e38 h175
                      have h185 := R.up e38 h176
                      have h186 := R.up e38 h177
                      have h187 := Al.up e38 h178
                      have h188 := R.up e38 h179
                      have h189 := R.up e38 h172
                      have E30 := E29.trans e38
                      obtain ⟨j2, hq33, hm44⟩ := bindS hm43
                      have h190 := rO_get h189 hq33
                      obtain ⟨b3, hq34, hm45⟩ := bindS hm44
                      refine q_neA S53 (R.up S53.ext (any_T h190)) (R.up S53.ext (any_T h181)) hq34 ?_
                      refine ⟨(!b3), rfl, ?_⟩
                      refine ite2 (fun c5 => ?_) (fun c5 => ?_)
                      · skip
                        have hm46 := (if_pos c5).symm.trans hm45
                        refine gRet ?_
                        refine gC ?_
                        have S54 := S53.tail
                        have S55 := S54.tail
                        cases hm46
                        have hr5 := Option.some.inj (show some (Fl.rt _) = some res1 from hr1)
                        subst hr5
                        dsimp only at hm2
                        cases hm2
                        exact q G36 H39 B9 E30 S55 (TbR.up hT5 e38)
                      · skip
                        have hm47 := (if_neg c5).symm.trans hm45
                        refine gNext ?_
                        have S56 := S53.tail
                        have S57 := S56.tail
                        cases hm47
                        exact ⟨_, ⟨G36, _, _, _, _, _, _, _, _, _, _, _, B9, ((((((((((((((((e1.trans e2).trans e3).trans e4).trans e5).trans e6).trans e7).trans e8).trans e17).trans e18).trans e19).trans e23).trans e28).trans e32).trans e33).trans e37).trans e38), S57, rfl, (TbR.up hT5 e38)⟩, hr1⟩
      · intro s σ H h1 h2
        obtain ⟨G, k1, k2, k3, k4, k5, k6, k7, k8, k9, k10, k11, k12, ie, irest⟩ := h2
        exact ⟨s, h1, G, k1, k2, k3, k4, k5, k6, k7, k8, k9, k10, k11, k12, (ie), irest⟩
    · intro σ4 H40 hJ3
      obtain ⟨s4, hres1, hJ4⟩ := hJ3
      subst hres1
      dsimp only at hm2
      obtain ⟨G37, y39, y40, y41, y42, y43, y44, y45, y46, y47, y48, y49, B10, e39, S58, rfl, h191⟩ := hJ4
      have h192 := R.up e39 h1
      have E31 := E0.trans e39
      refine gRet ?_
      refine gC ?_
      cases hm2
      exact q G37 H40 B10 E31 S58 (TbR.up h191 (Ext.refl _))
end
end Mr

set_option linter.all false
set_option maxRecDepth 100000
set_option maxHeartbeats 1000000
/-! DrawP: the law's source of draws. -/
namespace Mr
theorem bindOk {α β : Type} {o : Option α} {f : α → Option β} {a : α} {r : Option β} (h : o = some a) (h2 : f a = r) : o.bind f = r := by
  subst h; exact h2
theorem modM_pos {a b : Int} (h : 0 < b) : modM a b = some (a % b) := if_pos h
theorem fdivM_ok {a b : Int} (h : 0 < b) (h2 : b.natAbs.log2 < 9000) : fdivM a b = some (a / b) := if_pos ⟨h, h2⟩
theorem appM_ok {α : Type} {xs : List α} {x : α} (h : xs.length < 100000) : appM xs x = some (xs ++ [x]) := if_pos h
theorem getM_nat {α : Type} {xs : List α} {j : Nat} {x : α} (h : xs[j]? = some x) : getM xs (j : Int) = some x := by
  have hj : j < xs.length := (List.getElem?_eq_some_iff.mp h).1
  unfold getM ixM
  rw [if_pos (by omega), if_pos (by omega)]
  simpa using h
theorem rngM_ok {n : Int} (h : 0 ≤ n) (h2 : n < 2 ^ 62) : rngM n = some ((List.range n.toNat).map fun (i : Nat) => (i : Int)) := if_pos ⟨by omega, h2⟩
theorem folM_inv {α σ : Type} {f : σ → α → Option σ} (P : σ → Prop) : ∀ (xs : List α) (s : σ), P s → (∀ x ∈ xs, ∀ s, P s → ∃ s', f s x = some s' ∧ P s') → ∃ s', folM f xs s = some s' ∧ P s'
  | [], s, h, _ => ⟨s, rfl, h⟩
  | x :: xs, s, h, hs => by
    obtain ⟨s1, h1, p1⟩ := hs x (List.mem_cons_self ..) s h
    obtain ⟨s2, h2, p2⟩ := folM_inv P xs s1 p1 fun y hy => hs y (List.mem_cons_of_mem _ hy)
    exact ⟨s2, bindOk h1 h2, p2⟩
theorem forL_inv {α σ ρ : Type} {f : σ → α → Option (Bf σ ρ)} (P : σ → Prop) : ∀ (xs : List α) (s : σ), P s → (∀ x ∈ xs, ∀ s, P s → ∃ s', f s x = some (.go s') ∧ P s') → ∃ s', forL f xs s = some (.nx s') ∧ P s'
  | [], s, h, _ => ⟨s, rfl, h⟩
  | x :: xs, s, h, hs => by
    obtain ⟨s1, h1, p1⟩ := hs x (List.mem_cons_self ..) s h
    obtain ⟨s2, h2, p2⟩ := forL_inv P xs s1 p1 fun y hy => hs y (List.mem_cons_of_mem _ hy)
    exact ⟨s2, bindOk h1 h2, p2⟩
/-- all turns go on -/
def goL {α σ ρ : Type} (f : σ → α → Option (Bf σ ρ)) : List α → σ → Option σ
  | [], s => some s
  | x :: xs, s => match f s x with
    | some (.go s') => goL f xs s'
    | _ => none
theorem goL_cons {α σ ρ : Type} {f : σ → α → Option (Bf σ ρ)} {x : α} {xs : List α} {s s' : σ} (h : f s x = some (.go s')) : goL f (x :: xs) s = goL f xs s' := by
  show (match f s x with
    | some (.go s') => goL f xs s'
    | _ => none) = _
  rw [h]
theorem goL_for {α σ ρ : Type} {f : σ → α → Option (Bf σ ρ)} : ∀ {xs : List α} {s r : σ}, goL f xs s = some r → forL f xs s = some (.nx r)
  | [], s, r, h => by cases h; rfl
  | x :: xs, s, r, h => by
    have h' : (match f s x with
      | some (.go s') => goL f xs s'
      | _ => none) = some r := h
    split at h'
    · rename_i s' e
      exact bindOk e (goL_for h')
    · cases h'
theorem goL_app {α σ ρ : Type} {f : σ → α → Option (Bf σ ρ)} : ∀ {xs ys : List α} {s s1 : σ}, goL f xs s = some s1 → goL f (xs ++ ys) s = goL f ys s1
  | [], ys, s, s1, h => by cases h; rfl
  | x :: xs, ys, s, s1, h => by
    have h' : (match f s x with
      | some (.go s') => goL f xs s'
      | _ => none) = some s1 := h
    split at h'
    · rename_i s' e
      rw [List.cons_append, goL_cons e]
      exact goL_app h'
    · cases h'
theorem enumF_app {α : Type} : ∀ (xs ys : List α) (k : Nat), enumF k (xs ++ ys) = enumF k xs ++ enumF (k + xs.length) ys
  | [], ys, k => rfl
  | x :: xs, ys, k => by
    show ((k : Int), x) :: enumF (k + 1) (xs ++ ys) = ((k : Int), x) :: (enumF (k + 1) xs ++ enumF (k + (xs.length + 1)) ys)
    rw [enumF_app xs ys (k + 1)]
    have e : k + 1 + xs.length = k + (xs.length + 1) := by omega
    rw [e]
theorem log2_lt {n m : Nat} (h : n < 2 ^ m) (hm : 0 < m) : n.log2 < m := by
  by_cases h0 : n = 0
  · subst h0; simpa using hm
  · exact (Nat.log2_lt h0).mpr h

/-! ### bags -/
def BagOk (b : List Int) : Prop := ∃ g m c : Int, b = [g, m, c]
theorem draw_ok {b : List Int} {n : Int} (hb : BagOk b) (h0 : 0 < n) (h1 : n < 2 ^ 60) : ∃ x b', m_law_draw b n = some (x, b') ∧ 0 ≤ x ∧ x < n ∧ BagOk b' := by
  obtain ⟨g, m, c, rfl⟩ := hb
  have hl : n.natAbs.log2 < 9000 := Nat.lt_of_lt_of_le (log2_lt (m := 60) (by omega) (by decide)) (by decide)
  unfold m_law_draw
  by_cases hg : decide (g > 0) = true
  · exact ⟨g % n, [g / n, m, c], bindOk (a := g) rfl ((if_pos hg).trans (bindOk (a := g) rfl (bindOk (modM_pos h0) (bindOk (a := g) rfl (bindOk (fdivM_ok h0 hl) (bindOk (a := [g / n, m, c]) rfl rfl)))))),
      Int.emod_nonneg _ (by omega), Int.emod_lt_of_pos _ h0, _, _, _, rfl⟩
  · refine ⟨_, [g, (m * 48271 + 11 * (c + 1) + 7) % 2147483647, c + 1], bindOk (a := g) rfl ((if_neg hg).trans (bindOk (a := c) rfl (bindOk (a := [g, m, c + 1]) rfl (bindOk (a := m) rfl (bindOk (a := c + 1) rfl (bindOk (a := [g, (m * 48271 + 11 * (c + 1) + 7) % 2147483647, c + 1]) rfl
      (bindOk (a := (m * 48271 + 11 * (c + 1) + 7) % 2147483647) rfl (bindOk (a := c + 1) rfl (bindOk (modM_pos h0) rfl))))))))), ?_, ?_, _, _, _, rfl⟩
    · exact Int.emod_nonneg _ (by omega)
    · exact Int.emod_lt_of_pos _ h0
theorem bag_ok {ns : List Int} {j : Nat} : ∃ b, m_law_bag ns (j : Int) = some b ∧ BagOk b := by
  unfold m_law_bag
  obtain ⟨m, hm, _⟩ := folM_inv (f := m_law_bag_b1) (fun _ => True) (enumM (cutM ns none (some (63 : Int)))) ((1009 : Int) + ((77 : Int) * (j : Int))) True.intro (fun x _ s _ => ⟨_, rfl, True.intro⟩)
  by_cases h : decide ((j : Int) < (ns.length : Int)) = true
  · have hj : j < ns.length := by have := of_decide_eq_true h; omega
    exact ⟨_, bindOk ((if_pos h).trans (bindOk (getM_nat (List.getElem?_eq_getElem hj)) rfl)) (bindOk hm rfl), _, _, _, rfl⟩
  · exact ⟨_, bindOk (if_neg h) (bindOk hm rfl), _, _, _, rfl⟩
end Mr

set_option linter.all false
set_option maxRecDepth 100000
set_option maxHeartbeats 1000000
/-! FinP: lines (space, barred, due) on pages, put one by one (fin), and page by page (cutR, rowsF). -/
namespace Mr
abbrev Ln := Bool × Int
def br (xs : List Int) : Int := if h : xs = [] then 0 else xs.getLast h + 1
def sty (rows : Int) (xs : List Int) : List Ln := xs.map fun x => (false, rows - br xs + x)
theorem sty_nil (rows : Int) : sty rows [] = [] := rfl
def gov (xs : List Int) : List Ln := (enumM xs).map fun p => (decide (p.1 = 0), p.2)
theorem br_nil : br [] = 0 := rfl
theorem br_cons (a : Int) (xs : List Int) : br (a :: xs) = (a :: xs).getLast (by simp) + 1 := by simp [br]
theorem br_add (xs : List Int) (y : Int) : br (xs ++ [y]) = y + 1 := by simp [br]
abbrev L3 := Int × Bool × Bool
/-- the places of the pending and the coming lines -/
def fin (len : Int) : Int → List Int → List L3 → List Ln
  | u, offs, [] => sty u offs
  | u, offs, (sp, b, f) :: t =>
    if u = 0 ∨ f = true then sty u offs ++ (true, 0) :: fin len 1 [] t
    else if u + sp + 1 ≤ len then
      (if b = false then sty u offs ++ fin len (u + sp + 1) [0] t
       else if offs = [] then (false, u + sp) :: fin len (u + sp + 1) [] t
       else fin len (u + sp + 1) (offs ++ [br offs + sp]) t)
    else if b = false ∨ offs = [] then sty u offs ++ (true, 0) :: fin len 1 [] t
    else gov offs ++ (if br offs + sp + 1 ≤ len then (false, br offs + sp) :: fin len (br offs + sp + 1) [] t else (true, 0) :: fin len 1 [] t)
theorem fin_forced (len u : Int) (offs : List Int) (sp : Int) (b : Bool) (t : List L3) : fin len u offs ((sp, b, true) :: t) = sty u offs ++ (true, 0) :: fin len 1 [] t := by
  rw [fin]; simp
theorem fin_zero (len : Int) (l : L3) (t : List L3) : fin len 0 [] (l :: t) = (true, 0) :: fin len 1 [] t := by
  obtain ⟨sp, f, b⟩ := l
  rw [fin]; simp [sty]
/-- how many of the coming lines the page holds; none: it ends ahead of the last line that is not barred -/
def cutR (len : Int) : List L3 → Int → Bool → Option Nat
  | [], _, _ => some 0
  | (sp, b, f) :: t, u, h =>
    if f = true then some 0
    else if u + sp + 1 > len then (if b = false then some 0 else if h = true then none else some 0)
    else if b = false then (match cutR len t (u + sp + 1) true with
      | none => some 0
      | some c => some (c + 1))
    else (match cutR len t (u + sp + 1) h with
      | none => none
      | some c => some (c + 1))
theorem cutR_ne (len : Int) : ∀ (ls : List L3) (u : Int), cutR len ls u false ≠ none
  | [], u => by simp [cutR]
  | (sp, b, f) :: t, u => by
    rw [cutR]
    have ih := cutR_ne len t (u + sp + 1)
    cases f with
    | true => simp
    | false =>
      by_cases h : u + sp + 1 > len
      · cases b <;> simp [h]
      · cases b with
        | false =>
          simp only [h, if_false]
          cases cutR len t (u + sp + 1) true <;> simp
        | true =>
          cases hc : cutR len t (u + sp + 1) false with
          | none => exact absurd hc ih
          | some c => simp [h]
def rowsF : Int → List L3 → List Ln
  | _, [] => []
  | r, (sp, _, _) :: t => (false, r + 1 + sp) :: rowsF (r + 1 + sp) t
theorem sty_one (u : Int) : sty u [0] = [(false, u - 1)] := by simp [sty, br]
theorem gov_one : gov [0] = [(true, 0)] := rfl
theorem sty_add (u sp : Int) {offs : List Int} : sty (u + sp + 1) (offs ++ [br offs + sp]) = sty u offs ++ [(false, u + sp)] := by
  unfold sty
  rw [br_add, List.map_append]
  congr 1
  · apply List.map_congr_left
    intro x _
    simp only [Prod.mk.injEq, true_and]; omega
  · simp only [List.map_cons, List.map_nil]
    congr 2; omega
theorem enumF_snoc {α : Type} (xs : List α) (x : α) (k : Nat) : enumF k (xs ++ [x]) = enumF k xs ++ [(((k + xs.length : Nat) : Int), x)] := by
  rw [enumF_app]; rfl
theorem gov_add {offs : List Int} (h : offs ≠ []) (y : Int) : gov (offs ++ [y]) = gov offs ++ [(false, y)] := by
  unfold gov enumM
  rw [enumF_snoc, List.map_append]
  congr 1
  simp only [List.map_cons, List.map_nil]
  have : 0 < offs.length := List.length_pos_iff.mpr h
  rw [decide_eq_false (by omega)]
/-- what fin says, page by page -/
theorem fin_page (len : Int) : ∀ (ls : List L3) (u : Int), 1 ≤ u → (∀ l ∈ ls, 0 ≤ l.1) →
    (∃ c, cutR len ls u false = some c ∧ c ≤ ls.length ∧ fin len u [] ls = rowsF (u - 1) (ls.take c) ++ fin len 0 [] (ls.drop c)) ∧
    (∀ offs : List Int, offs ≠ [] → 1 ≤ br offs → br offs < u →
      match cutR len ls u true with
      | none => fin len u offs ls = gov offs ++ fin len (br offs) [] ls
      | some c => c ≤ ls.length ∧ fin len u offs ls = sty u offs ++ rowsF (u - 1) (ls.take c) ++ fin len 0 [] (ls.drop c))
  | [], u, hu, _ => by
    refine ⟨⟨0, rfl, Nat.le_refl _, by simp [fin, rowsF, sty]⟩, fun offs _ _ _ => ?_⟩
    show 0 ≤ _ ∧ _
    exact ⟨Nat.le_refl _, by simp [fin, rowsF, sty_nil]⟩
  | (sp, b, f) :: t, u, hu, hn => by
    have hsp : 0 ≤ sp := hn (sp, b, f) (List.mem_cons_self ..)
    have hnt : ∀ l ∈ t, 0 ≤ l.1 := fun l hl => hn l (List.mem_cons_of_mem _ hl)
    have hu0 : ¬ u = 0 := by omega
    cases f with
    | true =>
      refine ⟨⟨0, by simp [cutR], by simp, ?_⟩, fun offs h1 h2 h3 => ?_⟩
      · rw [fin_forced]; simp only [List.take_zero, List.drop_zero, rowsF, List.nil_append, fin_zero, sty_nil]
      · rw [show cutR len ((sp, b, true) :: t) u true = some 0 by simp [cutR]]
        refine ⟨by simp, ?_⟩
        rw [fin_forced]; simp only [List.take_zero, List.drop_zero, rowsF, List.append_nil, fin_zero]
    | false =>
      by_cases hfit : u + sp + 1 ≤ len
      · have hng : ¬ u + sp + 1 > len := by omega
        obtain ⟨iN, iS⟩ := fin_page len t (u + sp + 1) (by omega) hnt
        have hs1 : u + sp + 1 - 1 = u + sp := by omega
        cases b with
        | false =>
          have i1 := iS [0] (by simp) (by decide) (by have : br [0] = 1 := rfl; omega)
          have cu : ∀ h, cutR len ((sp, false, false) :: t) u h = match cutR len t (u + sp + 1) true with
            | none => some 0
            | some c => some (c + 1) := by intro h; rw [cutR]; simp [hng]
          have fu : ∀ offs, fin len u offs ((sp, false, false) :: t) = sty u offs ++ fin len (u + sp + 1) [0] t := by
            intro offs; rw [fin]; simp [hu0, hfit]
          cases hc : cutR len t (u + sp + 1) true with
          | none =>
            rw [hc] at i1
            have e : fin len (u + sp + 1) [0] t = fin len 0 [] ((sp, false, false) :: t) := by
              rw [i1, fin_zero, gov_one]; rfl
            refine ⟨⟨0, by rw [cu, hc], by simp, ?_⟩, fun offs h1 h2 h3 => ?_⟩
            · rw [fu, e, sty_nil]; simp [rowsF]
            · rw [cu, hc]
              refine ⟨by simp, ?_⟩
              rw [fu, e]; simp [rowsF]
          | some c =>
            rw [hc] at i1
            obtain ⟨hcl, i2⟩ := i1
            rw [hs1, sty_one, hs1] at i2
            refine ⟨⟨c + 1, by rw [cu, hc], by simp; omega, ?_⟩, fun offs h1 h2 h3 => ?_⟩
            · rw [fu, i2, sty_nil]
              simp only [List.take_succ_cons, List.drop_succ_cons, rowsF, List.nil_append, List.cons_append]
              have : u - 1 + 1 + sp = u + sp := by omega
              rw [this]
            · rw [cu, hc]
              refine ⟨by simp; omega, ?_⟩
              rw [fu, i2]
              simp only [List.take_succ_cons, List.drop_succ_cons, rowsF, List.nil_append, List.cons_append, List.append_assoc]
              have : u - 1 + 1 + sp = u + sp := by omega
              rw [this]
        | true =>
          have cu : ∀ h, cutR len ((sp, true, false) :: t) u h = match cutR len t (u + sp + 1) h with
            | none => none
            | some c => some (c + 1) := by intro h; rw [cutR]; simp [hng]
          refine ⟨?_, fun offs h1 h2 h3 => ?_⟩
          · obtain ⟨c, hc, hcl, i2⟩ := iN
            refine ⟨c + 1, by rw [cu, hc], by simp; omega, ?_⟩
            have fu : fin len u [] ((sp, true, false) :: t) = (false, u + sp) :: fin len (u + sp + 1) [] t := by
              rw [fin]; simp [hu0, hfit]
            rw [fu, i2, hs1]
            simp only [List.take_succ_cons, List.drop_succ_cons, rowsF, List.cons_append]
            have : u - 1 + 1 + sp = u + sp := by omega
            rw [this]
          · have fu : fin len u offs ((sp, true, false) :: t) = fin len (u + sp + 1) (offs ++ [br offs + sp]) t := by
              rw [fin]; simp [hu0, hfit, h1]
            have i1 := iS (offs ++ [br offs + sp]) (by simp) (by rw [br_add]; omega) (by rw [br_add]; omega)
            rw [cu]
            cases hc : cutR len t (u + sp + 1) true with
            | none =>
              rw [hc] at i1
              show fin len u offs ((sp, true, false) :: t) = gov offs ++ fin len (br offs) [] ((sp, true, false) :: t)
              have fb : fin len (br offs) [] ((sp, true, false) :: t) = (false, br offs + sp) :: fin len (br offs + sp + 1) [] t := by
                rw [fin]
                rw [if_neg (by rintro (h | h); · omega
                               · cases h), if_pos (by omega)]
                simp
              rw [fu, i1, gov_add h1, br_add, fb]
              simp
            | some c =>
              rw [hc] at i1
              obtain ⟨hcl, i2⟩ := i1
              refine ⟨by simp; omega, ?_⟩
              rw [fu, i2, sty_add, hs1]
              simp only [List.take_succ_cons, List.drop_succ_cons, rowsF, List.nil_append, List.cons_append, List.append_assoc]
              have : u - 1 + 1 + sp = u + sp := by omega
              rw [this]
      · have hg : u + sp + 1 > len := by omega
        cases b with
        | false =>
          have fu : ∀ offs, fin len u offs ((sp, false, false) :: t) = sty u offs ++ (true, 0) :: fin len 1 [] t := by
            intro offs; rw [fin]; simp [hu0, hfit]
          have cu : ∀ h, cutR len ((sp, false, false) :: t) u h = some 0 := by intro h; rw [cutR]; simp [hg]
          refine ⟨⟨0, cu _, by simp, ?_⟩, fun offs h1 h2 h3 => ?_⟩
          · rw [fu]; simp only [List.take_zero, List.drop_zero, rowsF, List.nil_append, fin_zero, sty_nil]
          · rw [cu]
            refine ⟨by simp, ?_⟩
            rw [fu]; simp only [List.take_zero, List.drop_zero, rowsF, List.append_nil, fin_zero]
        | true =>
          refine ⟨⟨0, by rw [cutR]; simp [hg], by simp, ?_⟩, fun offs h1 h2 h3 => ?_⟩
          · have fu : fin len u [] ((sp, true, false) :: t) = sty u [] ++ (true, 0) :: fin len 1 [] t := by
              rw [fin]; simp [hu0, hfit]
            rw [fu]; simp only [List.take_zero, List.drop_zero, rowsF, List.nil_append, fin_zero, sty_nil]
          · rw [show cutR len ((sp, true, false) :: t) u true = none by rw [cutR]; simp [hg]]
            show fin len u offs ((sp, true, false) :: t) = gov offs ++ fin len (br offs) [] ((sp, true, false) :: t)
            have hb0 : ¬ br offs = 0 := by omega
            have fu : fin len u offs ((sp, true, false) :: t) = gov offs ++ (if br offs + sp + 1 ≤ len then (false, br offs + sp) :: fin len (br offs + sp + 1) [] t else (true, 0) :: fin len 1 [] t) := by
              rw [fin]; simp [hu0, hfit, h1]
            have fb : fin len (br offs) [] ((sp, true, false) :: t) = (if br offs + sp + 1 ≤ len then (false, br offs + sp) :: fin len (br offs + sp + 1) [] t else (true, 0) :: fin len 1 [] t) := by
              rw [fin]; simp [hb0, sty_nil]
            rw [fu, fb]
theorem rng2_ok {a b : Nat} (h : a ≤ b) (hb : b ≤ 100000) : rng2M (a : Int) (b : Int) = some ((List.range' a (b - a)).map fun (i : Nat) => (i : Int)) := by
  unfold rng2M
  rw [if_pos (by omega)]
  congr 1
  have e : ((b : Int) - (a : Int)).toNat = b - a := by omega
  rw [e, List.range'_eq_map_range, List.map_map]
  apply List.map_congr_left
  intro i _
  simp
theorem rowsF_length : ∀ (ls : List L3) (r : Int), (rowsF r ls).length = ls.length
  | [], _ => rfl
  | (_, _, _) :: t, r => congrArg Nat.succ (rowsF_length t _)
end Mr

set_option linter.all false
set_option maxRecDepth 100000
set_option maxHeartbeats 1000000
/-! PagF: what Page's methods put is fin. -/
namespace Mr
structure Rep (p : Pg) (done : List Ln) (offs : List Int) : Prop where
  es : p.es = done ++ sty p.high offs
  nl : p.nl = offs.length
  lo : offs ≠ [] → (∃ xs, offs = 0 :: xs) ∧ 1 ≤ br offs ∧ br offs < p.high
theorem sty_length (u : Int) (offs : List Int) : (sty u offs).length = offs.length := by simp [sty]
theorem gov_zero (xs : List Int) : gov (0 :: xs) = (true, 0) :: xs.map fun x => (false, x) := by
  unfold gov enumM
  show (decide (((0 : Nat) : Int) = 0), (0 : Int)) :: (enumF 1 xs).map (fun p => (decide (p.1 = 0), p.2)) = _
  have h : ∀ (xs : List Int) (k : Nat), 1 ≤ k → (enumF k xs).map (fun p => (decide (p.1 = 0), p.2)) = xs.map fun x => (false, x) := by
    intro xs
    induction xs with
    | nil => intro k _; rfl
    | cons x xs ih =>
      intro k hk
      show (decide ((k : Int) = 0), x) :: (enumF (k + 1) xs).map (fun p => (decide (p.1 = 0), p.2)) = (false, x) :: xs.map fun x => (false, x)
      rw [ih (k + 1) (by omega), decide_eq_false (by omega)]
  rw [h xs 1 (Nat.le_refl _)]
  rfl
theorem shI_app (done xs : List Ln) (sh : Int) : shI done.length xs.length (done ++ xs) sh = done ++ xs.map fun e => (e.1, e.2 - sh) := by
  unfold shI
  rw [List.mapIdx_append]
  congr 1
  · apply List.ext_getElem
    · simp
    · intro i h1 h2
      have hi : i < done.length := by simpa using h1
      simp only [List.getElem_mapIdx]
      rw [if_neg (by omega)]
  · apply List.ext_getElem
    · simp
    · intro i h1 h2
      have hi : i < xs.length := by simpa using h1
      simp only [List.getElem_mapIdx, List.getElem_map]
      rw [if_pos (by omega)]
section
variable {p : Pg} {done : List Ln} {offs : List Int}
theorem Rep.len (R : Rep p done offs) : p.es.length = done.length + offs.length := by rw [R.es]; simp [sty_length]
theorem over_ok (R : Rep p done offs) (h : offs ≠ []) : p.over = some { p with es := done ++ gov offs, nl := 0, high := br offs } := by
  obtain ⟨⟨xs, rfl⟩, h1, h2⟩ := R.lo h
  have hl := R.len
  have hk : p.es.length - p.nl = done.length := by rw [hl, R.nl]; simp
  have hst : sty p.high (0 :: xs) = (false, p.high - br (0 :: xs)) :: xs.map (fun x => (false, p.high - br (0 :: xs) + x)) := by simp [sty]
  unfold Pg.over
  rw [hk]
  have hf : p.es[done.length]? = some (false, p.high - br (0 :: xs)) := by rw [R.es, hst]; simp
  rw [hf]
  show (if p.nl = 0 then none else some _) = _
  rw [if_neg (by rw [R.nl]; simp)]
  congr 1
  have e1 : shI done.length p.nl p.es (p.high - br (0 :: xs)) = done ++ (sty p.high (0 :: xs)).map fun e => (e.1, e.2 - (p.high - br (0 :: xs))) := by
    rw [← shI_app, sty_length, ← R.nl, ← R.es]
  have e2 : (shI done.length p.nl p.es (p.high - br (0 :: xs))).set done.length (true, 0) = done ++ gov (0 :: xs) := by
    rw [e1, hst, gov_zero, List.map_cons, List.set_append_right _ _ (Nat.le_refl _), Nat.sub_self, List.set_cons_zero, List.map_map]
    congr 2
    apply List.map_congr_left
    intro x _
    simp only [Function.comp_apply, Prod.mk.injEq, true_and]
    omega
  show ({ len := p.len, es := (shI done.length p.nl p.es (p.high - br (0 :: xs))).set done.length (true, 0), nl := 0, high := p.high - (p.high - br (0 :: xs)), bar := p.bar } : Pg) = _
  rw [e2]
  congr 1
  omega
/-- the next line (sp, b, f); a begun page takes it whatever b is -/
theorem line_ok {sp : Int} {b b' f : Bool} (R : Rep p done offs) (hu : 0 ≤ p.high) (hsp : 0 ≤ sp) (hz : p.es.length < 100000) (hf : f = true → p.high = 0) (hb : p.high = 0 ∨ b' = b) :
    ∃ q done' offs', p.line sp b' = some q ∧ Rep q done' offs' ∧ q.len = p.len ∧ q.bar = p.bar ∧ 1 ≤ q.high ∧ q.es.length = p.es.length + 1 ∧ (∀ t, done ++ fin p.len p.high offs ((sp, b, f) :: t) = done' ++ fin p.len q.high offs' t) ∧ done <+: done' := by
  by_cases h0 : p.high = 0
  · have ho : offs = [] := by
      cases offs with
      | nil => rfl
      | cons x xs => obtain ⟨_, h1, h2⟩ := R.lo (by simp); omega
    subst ho
    refine ⟨{ p with es := p.es ++ [(true, 0)], nl := 0, high := 1 }, done ++ [(true, 0)], [], ?_, ⟨?_, rfl, fun h => absurd rfl h⟩, rfl, rfl, by show (1 : Int) ≤ 1; decide, by simp, fun t => ?_, (by first | exact ⟨_, rfl⟩ | exact ⟨_, (List.append_assoc ..).symm⟩ | exact List.prefix_rfl)⟩
    · unfold Pg.line Pg.put
      rw [if_neg (by omega), if_pos hz, if_pos (.inl h0)]
    · show p.es ++ [(true, 0)] = _
      rw [R.es]; simp [sty]
    · rw [h0, fin]; simp [sty]
  · have hb' : b' = b := hb.resolve_left h0
    subst hb'
    have hff : f = false := by
      cases f with
      | false => rfl
      | true => exact absurd (hf rfl) h0
    subst hff
    have hu1 : 1 ≤ p.high := by omega
    by_cases hfit : p.high + sp + 1 ≤ p.len
    · have hng : ¬ (0 < p.high ∧ p.high + sp ≥ p.len ∧ b' = true ∧ p.nl ≠ 0) := by omega
      have hng2 : ¬ (p.high = 0 ∨ p.high + sp ≥ p.len) := by omega
      cases b' with
      | false =>
        refine ⟨{ p with es := p.es ++ [(false, p.high + sp)], nl := 1, high := p.high + sp + 1 }, done ++ sty p.high offs, [0], ?_, ⟨?_, rfl, fun _ => ⟨⟨[], rfl⟩, by decide, ?_⟩⟩, rfl, rfl, by show 1 ≤ p.high + sp + 1; omega, by simp, fun t => ?_, (by first | exact ⟨_, rfl⟩ | exact ⟨_, (List.append_assoc ..).symm⟩ | exact List.prefix_rfl)⟩
        · unfold Pg.line Pg.put
          rw [if_neg hng, if_pos hz, if_neg hng2, if_pos rfl]
        · show p.es ++ [(false, p.high + sp)] = _
          rw [R.es, sty_one]
          show _ = _ ++ [(false, p.high + sp + 1 - 1)]
          have : p.high + sp + 1 - 1 = p.high + sp := by omega
          rw [this]
        · show (1 : Int) < p.high + sp + 1; omega
        · rw [fin]; simp [h0, hfit]
      | true =>
        by_cases ho : offs = []
        · subst ho
          refine ⟨{ p with es := p.es ++ [(false, p.high + sp)], high := p.high + sp + 1 }, done ++ [(false, p.high + sp)], [], ?_, ⟨?_, R.nl, fun h => absurd rfl h⟩, rfl, rfl, by show 1 ≤ p.high + sp + 1; omega, by simp, fun t => ?_, (by first | exact ⟨_, rfl⟩ | exact ⟨_, (List.append_assoc ..).symm⟩ | exact List.prefix_rfl)⟩
          · unfold Pg.line Pg.put
            rw [if_neg hng, if_pos hz, if_neg hng2, if_neg (by simp), if_pos (show p.nl = 0 from R.nl)]
          · show p.es ++ [(false, p.high + sp)] = _
            rw [R.es]; simp [sty]
          · rw [fin]; simp [h0, hfit]
        · obtain ⟨⟨xs, hxs⟩, h1, h2⟩ := R.lo ho
          refine ⟨{ p with es := p.es ++ [(false, p.high + sp)], nl := p.nl + 1, high := p.high + sp + 1 }, done, offs ++ [br offs + sp], ?_, ⟨?_, ?_, fun _ => ⟨⟨xs ++ [br offs + sp], by rw [hxs]; rfl⟩, ?_, ?_⟩⟩, rfl, rfl, by show 1 ≤ p.high + sp + 1; omega, by simp, fun t => ?_, (by first | exact ⟨_, rfl⟩ | exact ⟨_, (List.append_assoc ..).symm⟩ | exact List.prefix_rfl)⟩
          · unfold Pg.line Pg.put
            rw [if_neg hng, if_pos hz, if_neg hng2, if_neg (by simp), if_neg (by rw [R.nl]; simp [ho])]
          · show p.es ++ [(false, p.high + sp)] = done ++ sty (p.high + sp + 1) _
            rw [sty_add, R.es]; simp
          · show p.nl + 1 = _
            rw [R.nl]; simp
          · rw [br_add]; omega
          · show br (offs ++ [br offs + sp]) < p.high + sp + 1
            rw [br_add]; omega
          · rw [fin]; simp [h0, hfit, ho]
    · have hge : p.high + sp ≥ p.len := by omega
      by_cases hgo : b' = true ∧ offs ≠ []
      · obtain ⟨hb1, ho⟩ := hgo
        subst hb1
        obtain ⟨⟨xs, hxs⟩, h1, h2⟩ := R.lo ho
        have hov := over_ok R ho
        have hl2 : (done ++ gov offs).length = p.es.length := by
          rw [R.len, hxs, gov_zero]; simp
        have hnl : p.nl ≠ 0 := by rw [R.nl]; simp [ho]
        have hfin : ∀ t, fin p.len p.high offs ((sp, true, false) :: t) = gov offs ++ (if br offs + sp + 1 ≤ p.len then (false, br offs + sp) :: fin p.len (br offs + sp + 1) [] t else (true, 0) :: fin p.len 1 [] t) := by
          intro t; rw [fin]; simp [h0, hfit, ho]
        by_cases hfit2 : br offs + sp + 1 ≤ p.len
        · refine ⟨{ p with es := done ++ gov offs ++ [(false, br offs + sp)], nl := 0, high := br offs + sp + 1 }, done ++ gov offs ++ [(false, br offs + sp)], [], ?_, ⟨?_, rfl, fun h => absurd rfl h⟩, rfl, rfl, by show 1 ≤ br offs + sp + 1; omega, ?_, fun t => ?_, (by first | exact ⟨_, rfl⟩ | exact ⟨_, (List.append_assoc ..).symm⟩ | exact List.prefix_rfl)⟩
          · unfold Pg.line
            rw [if_pos ⟨by omega, hge, rfl, hnl⟩, hov, Option.bind_some]
            unfold Pg.put
            rw [if_pos (by show (done ++ gov offs).length < _; omega), if_neg (by show ¬ (br offs = 0 ∨ br offs + sp ≥ p.len); omega), if_neg (by simp), if_pos rfl]
          · simp [sty]
          · show (done ++ gov offs ++ [(false, br offs + sp)]).length = _
            rw [List.length_append, hl2]; rfl
          · rw [hfin, if_pos hfit2]; simp
        · refine ⟨{ p with es := done ++ gov offs ++ [(true, 0)], nl := 0, high := 1 }, done ++ gov offs ++ [(true, 0)], [], ?_, ⟨?_, rfl, fun h => absurd rfl h⟩, rfl, rfl, by show (1 : Int) ≤ 1; decide, ?_, fun t => ?_, (by first | exact ⟨_, rfl⟩ | exact ⟨_, (List.append_assoc ..).symm⟩ | exact List.prefix_rfl)⟩
          · unfold Pg.line
            rw [if_pos ⟨by omega, hge, rfl, hnl⟩, hov, Option.bind_some]
            unfold Pg.put
            rw [if_pos (by show (done ++ gov offs).length < _; omega), if_pos (by show (br offs = 0 ∨ br offs + sp ≥ p.len); omega)]
          · simp [sty]
          · show (done ++ gov offs ++ [(true, 0)]).length = _
            rw [List.length_append, hl2]; rfl
          · rw [hfin, if_neg hfit2]; simp
      · have hno : b' = false ∨ offs = [] := by
          cases b' with
          | false => exact .inl rfl
          | true => exact .inr (Classical.byContradiction fun h => hgo ⟨rfl, h⟩)
        have hng : ¬ (0 < p.high ∧ p.high + sp ≥ p.len ∧ b' = true ∧ p.nl ≠ 0) := by
          rintro ⟨_, _, h3, h4⟩
          rcases hno with h | h
          · rw [h] at h3; cases h3
          · rw [R.nl, h] at h4; exact h4 rfl
        refine ⟨{ p with es := p.es ++ [(true, 0)], nl := 0, high := 1 }, done ++ sty p.high offs ++ [(true, 0)], [], ?_, ⟨?_, rfl, fun h => absurd rfl h⟩, rfl, rfl, by show (1 : Int) ≤ 1; decide, by simp, fun t => ?_, (by first | exact ⟨_, rfl⟩ | exact ⟨_, (List.append_assoc ..).symm⟩ | exact List.prefix_rfl)⟩
        · unfold Pg.line Pg.put
          rw [if_neg hng, if_pos hz, if_pos (.inr hge)]
        · show p.es ++ [(true, 0)] = _
          rw [R.es]; simp [sty]
        · rw [fin]
          rw [if_neg (by rintro (h | h); · exact h0 h
                         · cases h), if_neg hfit, if_pos hno]
          simp
theorem begin_ok (R : Rep p done offs) : Rep p.begin (done ++ sty p.high offs) [] := ⟨by show p.es = _; rw [R.es]; simp [sty], rfl, fun h => absurd rfl h⟩
theorem stay_ok {c : Bool} (R : Rep p done offs) : Rep { p with bar := c, nl := 0 } (done ++ sty p.high offs) [] := ⟨by show p.es = _; rw [R.es]; simp [sty], rfl, fun h => absurd rfl h⟩
theorem bar_ok {c : Bool} (R : Rep p done offs) : Rep { p with bar := c } done offs := ⟨R.es, R.nl, R.lo⟩
end
/-! ### lines of blocks -/
abbrev Bk := Int × Int × Bool × Bool
def tlL (c : Int) (j m : Nat) : List L3 := (List.range' j m).map fun (k : Nat) => ((0 : Int), decide ((k : Int) ∈ ([1, c - 1] : List Int)), false)
def blkL (c sp : Int) (barred due : Bool) : List L3 := if c ≤ 0 then [] else (sp, barred, due) :: tlL c 1 (c.toNat - 1)
def lns : Bool → Bool → List Bk → List L3
  | _, _, [] => []
  | barred, due, (c, sp, k, pg) :: bs => blkL c sp barred (due || pg) ++ lns (if c > 0 then k else barred) ((due || pg) && decide (c ≤ 0)) bs
/-- due lines begin with a due one; lines that begin unbarred -/
theorem lns_due : ∀ (bs : List Bk) (barred : Bool), lns barred true bs = [] ∨ ∃ sp b t, lns barred true bs = (sp, b, true) :: t
  | [], _ => .inl rfl
  | (c, sp, k, pg) :: bs, barred => by
    by_cases h : c ≤ 0
    · have e : lns barred true ((c, sp, k, pg) :: bs) = lns barred true bs := by
        show blkL c sp barred (true || pg) ++ lns (if c > 0 then k else barred) ((true || pg) && decide (c ≤ 0)) bs = _
        rw [blkL, if_pos h, if_neg (by omega), decide_eq_true h, Bool.true_or]; rfl
      rw [e]; exact lns_due bs barred
    · refine .inr ⟨sp, barred, tlL c 1 (c.toNat - 1) ++ lns (if c > 0 then k else barred) ((true || pg) && decide (c ≤ 0)) bs, ?_⟩
      show blkL c sp barred (true || pg) ++ _ = _
      rw [blkL, if_neg h, Bool.true_or]; rfl
theorem lns_free : ∀ (bs : List Bk), lns false false bs = [] ∨ ∃ sp f t, lns false false bs = (sp, false, f) :: t ∨ lns false false bs = (sp, f, true) :: t
  | [] => .inl rfl
  | (c, sp, k, pg) :: bs => by
    by_cases h : c ≤ 0
    · have e : lns false false ((c, sp, k, pg) :: bs) = lns false pg bs := by
        show blkL c sp false (false || pg) ++ lns (if c > 0 then k else false) ((false || pg) && decide (c ≤ 0)) bs = _
        rw [blkL, if_pos h, if_neg (by omega), decide_eq_true h, Bool.false_or, Bool.and_true]; rfl
      rw [e]
      cases pg with
      | true =>
        rcases lns_due bs false with h | ⟨sp, b, t, h⟩
        · exact .inl h
        · exact .inr ⟨sp, b, t, .inr h⟩
      | false => exact lns_free bs
    · refine .inr ⟨sp, pg, tlL c 1 (c.toNat - 1) ++ lns (if c > 0 then k else false) ((false || pg) && decide (c ≤ 0)) bs, .inl ?_⟩
      show blkL c sp false (false || pg) ++ _ = _
      rw [blkL, if_neg h, Bool.false_or]; rfl
theorem fin_drop {len u : Int} {offs : List Int} {ls : List L3} (h : ls = [] ∨ ∃ sp f t, ls = (sp, false, f) :: t ∨ ls = (sp, f, true) :: t) : fin len u offs ls = sty u offs ++ fin len u [] ls := by
  rcases h with rfl | ⟨sp, f, t, rfl | rfl⟩
  · simp [fin, sty]
  · simp only [fin, sty_nil]
    split
    · simp
    · split
      · simp
      · simp
  · simp [fin, sty_nil]
theorem fin_due {len u : Int} {offs : List Int} {ls : List L3} (h : ls = [] ∨ ∃ sp b t, ls = (sp, b, true) :: t) : fin len u offs ls = sty u offs ++ fin len 0 [] ls := by
  rcases h with rfl | ⟨sp, b, t, rfl⟩
  · simp [fin, sty]
  · simp [fin, sty_nil]
theorem tail_go {c s : Int} : ∀ (m j : Nat) (p : Pg) (done : List Ln) (offs : List Int), 1 ≤ j → Rep p done offs → 1 ≤ p.high → p.es.length + m ≤ 100000 →
    ∃ q done' offs', folM (Pg.turn c s) ((List.range' j m).map fun (k : Nat) => (k : Int)) p = some q ∧ Rep q done' offs' ∧ q.len = p.len ∧ q.bar = p.bar ∧ 1 ≤ q.high ∧ q.es.length = p.es.length + m ∧
      (∀ t, done ++ fin p.len p.high offs (tlL c j m ++ t) = done' ++ fin p.len q.high offs' t) ∧ done <+: done'
  | 0, j, p, done, offs, _, R, h1, _ => ⟨p, done, offs, rfl, R, rfl, rfl, h1, rfl, fun t => rfl, List.prefix_rfl⟩
  | m + 1, j, p, done, offs, hj, R, h1, hz => by
    obtain ⟨q, d, o, e1, R1, l1, b1, u1, n1, f1, g1⟩ := line_ok (sp := 0) (b := decide ((j : Int) ∈ ([1, c - 1] : List Int))) (b' := decide ((j : Int) ∈ ([1, c - 1] : List Int))) (f := false) R (by omega) (by decide) (by omega) (fun h => by cases h) (.inr rfl)
    obtain ⟨q2, d2, o2, e2, R2, l2, b2, u2, n2, f2, g2⟩ := tail_go (c := c) (s := s) m (j + 1) q d o (by omega) R1 u1 (by omega)
    refine ⟨q2, d2, o2, ?_, R2, l2.trans l1, b2.trans b1, u2, by omega, fun t => ?_, g1.trans g2⟩
    · rw [List.range'_succ, List.map_cons]
      show (Pg.turn c s p (j : Int)).bind _ = _
      have : Pg.turn c s p (j : Int) = some q := by
        unfold Pg.turn
        rw [if_neg (by omega)]; exact e1
      rw [this]
      exact e2
    · have ht : tlL c j (m + 1) = (0, decide ((j : Int) ∈ ([1, c - 1] : List Int)), false) :: tlL c (j + 1) m := by
        unfold tlL; rw [List.range'_succ]; rfl
      rw [ht, List.cons_append, f1]
      rw [← l1]; exact f2 t
def BkOk (b : Bk) : Prop := 0 ≤ b.1 ∧ b.1 ≤ 1000 ∧ 0 ≤ b.2.1
/-- where a page stands between blocks -/
structure Bnd (p : Pg) (barred due : Bool) : Prop where
  u : 0 ≤ p.high
  dz : due = true → p.high = 0
  bz : due = false → p.bar = barred ∧ 1 ≤ p.high
theorem block_ok {p : Pg} {done : List Ln} {offs : List Int} {barred due : Bool} {c sp : Int} {k pg : Bool} (R : Rep p done offs) (B : Bnd p barred due) (ho : BkOk (c, sp, k, pg)) (hz : p.es.length + c.toNat ≤ 100000) :
    ∃ q done' offs', p.block c sp k pg = some q ∧ Rep q done' offs' ∧ q.len = p.len ∧ Bnd q (if c > 0 then k else barred) ((due || pg) && decide (c ≤ 0)) ∧ q.es.length = p.es.length + c.toNat ∧
      (∀ bs, done ++ fin p.len p.high offs (lns barred due ((c, sp, k, pg) :: bs)) = done' ++ fin p.len q.high offs' (lns (if c > 0 then k else barred) ((due || pg) && decide (c ≤ 0)) bs)) ∧ done <+: done' := by
  obtain ⟨hc0, hc1, hs0⟩ := ho
  dsimp only at hc0 hc1 hs0
  -- begin
  have h1 : ∃ d1 o1, Rep (if pg = true then p.begin else p) d1 o1 ∧ (if pg = true then p.begin else p).len = p.len ∧ (if pg = true then p.begin else p).es = p.es ∧ Bnd (if pg = true then p.begin else p) barred (due || pg) ∧
      (∀ bs, done ++ fin p.len p.high offs (lns barred due ((c, sp, k, pg) :: bs)) = d1 ++ fin p.len (if pg = true then p.begin else p).high o1 (lns barred due ((c, sp, k, pg) :: bs))) ∧ done <+: d1 := by
    cases pg with
    | false => exact ⟨done, offs, R, rfl, rfl, by rw [Bool.or_false]; exact B, fun bs => rfl, List.prefix_rfl⟩
    | true =>
      refine ⟨_, _, begin_ok R, rfl, rfl, ⟨by show (0 : Int) ≤ 0; decide, fun _ => rfl, fun h => by simp at h⟩, fun bs => ?_, List.prefix_append ..⟩
      have e : lns barred due ((c, sp, k, true) :: bs) = lns barred true ((c, sp, k, true) :: bs) := by
        show blkL c sp barred (due || true) ++ lns _ ((due || true) && _) bs = blkL c sp barred (true || true) ++ lns _ ((true || true) && _) bs
        rw [Bool.or_true]; rfl
      show _ = done ++ sty p.high offs ++ fin p.len 0 [] _
      rw [e, fin_due (lns_due _ _), List.append_assoc]
  obtain ⟨d1, o1, R1, l1, e1, B1, f1, g1⟩ := h1
  unfold Pg.block
  rw [rngM_ok hc0 (by omega), Option.bind_some]
  generalize hp1 : (if pg = true then p.begin else p) = p1 at R1 l1 e1 B1 f1 ⊢
  by_cases hc : c ≤ 0
  · have hcz : c = 0 := by omega
    subst hcz
    refine ⟨p1, d1, o1, ?_, R1, l1, ?_, ?_, fun bs => ?_, g1⟩
    · show (some p1).bind _ = _
      rw [Option.bind_some, if_neg (by decide)]
    · rw [if_neg (by decide), decide_eq_true hc, Bool.and_true]; exact B1
    · rw [e1]; rfl
    · rw [f1]
      show d1 ++ fin p.len p1.high o1 (blkL 0 sp barred (due || pg) ++ _) = _
      rw [blkL, if_pos hc]; rfl
  · obtain ⟨q, d2, o2, eq, R2, l2, b2, u2, n2, f2, g2⟩ := line_ok (sp := sp) (b := barred) (b' := p1.bar) (f := (due || pg)) R1 B1.u hs0 (by rw [e1]; omega) B1.dz (by
      cases hd : (due || pg) with
      | true => exact .inl (B1.dz hd)
      | false => exact .inr (B1.bz hd).1)
    obtain ⟨q2, d3, o3, eq2, R3, l3, b3, u3, n3, f3, g3⟩ := tail_go (c := c) (s := sp) (c.toNat - 1) 1 q d2 o2 (Nat.le_refl _) R2 u2 (by rw [n2, e1]; omega)
    have hrun : Pg.lines c sp ((List.range c.toNat).map fun (i : Nat) => (i : Int)) p1 = some q2 := by
      unfold Pg.lines
      have e : c.toNat = (c.toNat - 1) + 1 := by omega
      rw [e, List.range_eq_range', List.range'_succ, List.map_cons]
      show (Pg.turn c sp p1 ((0 : Nat) : Int)).bind _ = _
      have e2 : Pg.turn c sp p1 ((0 : Nat) : Int) = some q := by
        unfold Pg.turn
        rw [if_pos (by simp)]; exact eq
      rw [e2]
      exact eq2
    have hf : ∀ bs, done ++ fin p.len p.high offs (lns barred due ((c, sp, k, pg) :: bs)) = d3 ++ fin p.len q2.high o3 (lns k false bs) := by
      intro bs
      rw [f1]
      have e : lns barred due ((c, sp, k, pg) :: bs) = (sp, barred, due || pg) :: (tlL c 1 (c.toNat - 1) ++ lns k false bs) := by
        show blkL c sp barred (due || pg) ++ lns (if c > 0 then k else barred) ((due || pg) && decide (c ≤ 0)) bs = _
        rw [blkL, if_neg hc, if_pos (by omega), decide_eq_false hc, Bool.and_false]; rfl
      rw [e, ← l1, f2, ← l2, f3]
    have hcp : c > 0 := by omega
    rw [hrun, Option.bind_some]
    simp only [if_pos hcp]
    have hd : ((due || pg) && decide (c ≤ 0)) = false := by rw [decide_eq_false hc, Bool.and_false]
    rw [hd]
    have hn : q2.es.length = p.es.length + c.toNat := by have := congrArg List.length e1; omega
    cases k with
    | true =>
      refine ⟨{ q2 with bar := true }, d3, o3, rfl, bar_ok R3, (l3.trans l2).trans l1, ⟨(by show 0 ≤ q2.high; omega), (fun h => by cases h), fun _ => ⟨rfl, u3⟩⟩, hn, hf, (g1.trans g2).trans g3⟩
    | false =>
      refine ⟨{ q2 with bar := false, nl := 0 }, d3 ++ sty q2.high o3, [], rfl, stay_ok R3, (l3.trans l2).trans l1, ⟨(by show 0 ≤ q2.high; omega), (fun h => by cases h), fun _ => ⟨rfl, u3⟩⟩, hn, fun bs => ?_, ((g1.trans g2).trans g3).trans (List.prefix_append ..)⟩
      rw [hf, fin_drop (lns_free bs), List.append_assoc]
def cnt (bs : List Bk) : Nat := (bs.map fun b => b.1.toNat).sum
theorem blocks_go {F : Pg → Bk → Option Pg} (hF : ∀ p c sp k pg, F p (c, sp, k, pg) = p.block c sp k pg) : ∀ (bs : List Bk) (p : Pg) (done : List Ln) (offs : List Int) (barred due : Bool), Rep p done offs → Bnd p barred due → (∀ b ∈ bs, BkOk b) → p.es.length + cnt bs ≤ 100000 →
    ∃ q done' offs', folM F bs p = some q ∧ Rep q done' offs' ∧ q.len = p.len ∧ q.es.length = p.es.length + cnt bs ∧ q.es = done ++ fin p.len p.high offs (lns barred due bs)
  | [], p, done, offs, _, _, R, _, _, _ => ⟨p, done, offs, rfl, R, rfl, rfl, by rw [R.es]; simp [lns, fin]⟩
  | (c, sp, k, pg) :: bs, p, done, offs, barred, due, R, B, ho, hz => by
    have hcn : cnt ((c, sp, k, pg) :: bs) = c.toNat + cnt bs := by simp [cnt]
    rw [hcn] at hz ⊢
    obtain ⟨q, d, o, e1, R1, l1, B1, n1, f1, g1⟩ := block_ok R B (ho _ (List.mem_cons_self ..)) (by omega)
    obtain ⟨q2, d2, o2, e2, R2, l2, n2, f2⟩ := blocks_go hF bs q d o _ _ R1 B1 (fun b hb => ho b (List.mem_cons_of_mem _ hb)) (by omega)
    refine ⟨q2, d2, o2, ?_, R2, l2.trans l1, by omega, ?_⟩
    · show (F p (c, sp, k, pg)).bind _ = _
      rw [hF, e1]
      exact e2
    · rw [f2, f1, l1]
theorem page_fin {F : Pg → Bk → Option Pg} (hF : ∀ p c sp k pg, F p (c, sp, k, pg) = p.block c sp k pg) (len : Int) (bs : List Bk) (ho : ∀ b ∈ bs, BkOk b) (hz : cnt bs ≤ 100000) : ∃ q, folM F bs (Pg.new len) = some q ∧ q.es = fin len 0 [] (lns false true bs) := by
  obtain ⟨q, d, o, e, _, _, _, f⟩ := blocks_go hF bs (Pg.new len) [] [] false true ⟨rfl, rfl, fun h => absurd rfl h⟩ ⟨(by show (0 : Int) ≤ 0; decide), fun _ => rfl, (fun h => by cases h)⟩ ho (by show 0 + cnt bs ≤ 100000; omega)
  exact ⟨q, e, f⟩
end Mr

set_option linter.all false
set_option maxRecDepth 100000
set_option maxHeartbeats 1000000
/-! RunP: a page by its run of lines. -/
namespace Mr
/-! ### a page's lines -/
inductive Run (ls : List L3) (len : Int) : Nat → Int → Nat → Int → Prop
  | refl (i : Nat) (r : Int) : Run ls len i r i r
  | step {i p : Nat} {r q sp : Int} {b : Bool} : ls[i]? = some (sp, b, false) → r + sp + 1 < len → Run ls len (i + 1) (r + sp + 1) p q → Run ls len i r p q
def Stp (ls : List L3) (len : Int) (p : Nat) (q : Int) : Prop := p = ls.length ∨ ∃ sp b f, ls[p]? = some (sp, b, f) ∧ (f = true ∨ len ≤ q + sp + 1)
section
variable {ls : List L3} {len : Int}
theorem run_le {i p : Nat} {r q : Int} (h : Run ls len i r p q) : i ≤ p := by
  induction h with
  | refl => exact Nat.le_refl _
  | step _ _ _ ih => omega
theorem run_ex : ∀ (n i : Nat) (r : Int), ls.length = i + n → ∃ p q, Run ls len i r p q ∧ Stp ls len p q ∧ p ≤ ls.length
  | 0, i, r, h => ⟨i, r, .refl i r, .inl (by omega), by omega⟩
  | n + 1, i, r, h => by
    obtain ⟨⟨sp, b, f⟩, hx⟩ : ∃ x, ls[i]? = some x := ⟨ls[i]'(by omega), List.getElem?_eq_getElem (by omega)⟩
    by_cases hs : f = true ∨ len ≤ r + sp + 1
    · exact ⟨i, r, .refl i r, .inr ⟨sp, b, f, hx, hs⟩, by omega⟩
    · have hf : f = false := by
        cases f with
        | false => rfl
        | true => exact absurd (.inl rfl) hs
      subst hf
      obtain ⟨p, q, h1, h2, h3⟩ := run_ex n (i + 1) (r + sp + 1) (by omega)
      exact ⟨p, q, .step hx (by omega) h1, h2, h3⟩
/-! unbarred places -/
def ub (ls : List L3) (k : Nat) : Bool := match ls[k]? with
  | some l => !l.2.1
  | none => false
def frs (ls : List L3) (i m : Nat) : List Nat := (List.range' i m).filter (ub ls)
theorem fr_gen {F : List Int → Int → Option (List Int)} (hF : ∀ (acc : List Int) (i : Nat) (x : L3), ls[i]? = some x → acc.length < 100000 → F acc (i : Int) = some (if (!x.2.1) = true then acc ++ [(i : Int)] else acc)) : ∀ (m i : Nat) (acc : List Int), i + m ≤ ls.length → acc.length + m ≤ 100000 → folM F ((List.range' i m).map fun (k : Nat) => (k : Int)) acc = some (acc ++ (frs ls i m).map fun (k : Nat) => (k : Int))
  | 0, i, acc, _, _ => by simp [folM, frs]
  | m + 1, i, acc, h, hz => by
    obtain ⟨⟨sp, b, f⟩, hx⟩ : ∃ x, ls[i]? = some x := ⟨ls[i]'(by omega), List.getElem?_eq_getElem (by omega)⟩
    have hu : ub ls i = !b := by unfold ub; rw [hx]
    rw [List.range'_succ, List.map_cons]
    show (F acc (i : Int)).bind _ = _
    rw [hF acc i _ hx (by omega), Option.bind_some]
    cases b with
    | true =>
      have : frs ls i (m + 1) = frs ls (i + 1) m := by
        unfold frs; rw [List.range'_succ, List.filter_cons_of_neg (by rw [hu]; simp)]
      rw [this]
      exact fr_gen hF m (i + 1) acc (by omega) (by omega)
    | false =>
      have : frs ls i (m + 1) = i :: frs ls (i + 1) m := by
        unfold frs; rw [List.range'_succ, List.filter_cons_of_pos (by rw [hu]; simp)]
      rw [this]
      show folM F _ (acc ++ [(i : Int)]) = _
      rw [fr_gen hF m (i + 1) _ (by omega) (by simp; omega)]
      simp
/-- where the page stops, by the last unbarred place -/
def cutB (p i : Nat) (h : Bool) : Option Nat → Option Nat
  | some x => some (x - i)
  | none => if h then none else some (p - i)
theorem run_cutA {i p : Nat} {r q : Int} (h : Run ls len i r p q) (hp : p = ls.length ∨ ∃ sp b, ls[p]? = some (sp, b, true)) : ∀ hh, cutR len (ls.drop i) (r + 1) hh = some (p - i) := by
  induction h with
  | refl i r =>
    intro hh
    rcases hp with h | ⟨sp, b, hx⟩
    · rw [List.drop_eq_nil_of_le (by omega)]; simp [cutR]
    · have hi : i < ls.length := (List.getElem?_eq_some_iff.mp hx).1
      have e : ls[i] = (sp, b, true) := (List.getElem?_eq_some_iff.mp hx).2
      rw [List.drop_eq_getElem_cons hi, e, cutR]; simp
  | @step i p r q sp b hx hf hrun ih =>
    intro hh
    have hle := run_le hrun
    have hi : i < ls.length := (List.getElem?_eq_some_iff.mp hx).1
    have e : ls[i] = (sp, b, false) := (List.getElem?_eq_some_iff.mp hx).2
    rw [List.drop_eq_getElem_cons hi, e, cutR]
    have e1 : r + 1 + sp + 1 = r + sp + 1 + 1 := by omega
    have hng : ¬ (r + 1 + sp + 1 > len) := by omega
    have e2 : p - i = p - (i + 1) + 1 := by omega
    rw [if_neg (by simp), if_neg hng, e1, ih hp, ih hp, e2]
    cases b <;> simp
theorem getLast_cons' {α : Type} (a : α) (l : List α) : (a :: l).getLast? = some (l.getLast?.getD a) := by
  rw [List.getLast?_cons]
theorem frs_ge {i m x : Nat} (h : x ∈ frs ls i m) : i ≤ x ∧ x < i + m ∧ ub ls x = true := by
  unfold frs at h
  obtain ⟨h1, h2⟩ := List.mem_filter.mp h
  rw [List.mem_range'_1] at h1
  exact ⟨h1.1, h1.2, h2⟩
theorem run_cutB {i p : Nat} {r q sp : Int} {b : Bool} (h : Run ls len i r p q) (hx : ls[p]? = some (sp, b, false)) (ho : len ≤ q + sp + 1) : ∀ hh, cutR len (ls.drop i) (r + 1) hh = cutB p i hh (frs ls i (p + 1 - i)).getLast? := by
  induction h with
  | refl i r =>
    intro hh
    have hi : i < ls.length := (List.getElem?_eq_some_iff.mp hx).1
    have e : ls[i] = (sp, b, false) := (List.getElem?_eq_some_iff.mp hx).2
    have hu : ub ls i = !b := by unfold ub; rw [hx]
    rw [List.drop_eq_getElem_cons hi, e, cutR]
    have hg : r + 1 + sp + 1 > len := by omega
    have e1 : i + 1 - i = 1 := by omega
    rw [if_neg (by simp), if_pos hg, e1]
    cases b with
    | false =>
      have : frs ls i 1 = [i] := by unfold frs; simp [List.range'_succ, hu]
      rw [this]; simp [cutB]
    | true =>
      have : frs ls i 1 = [] := by unfold frs; simp [List.range'_succ, hu]
      rw [this]; cases hh <;> simp [cutB]
  | @step i p r q sp' b' hx' hf hrun ih =>
    intro hh
    have hle := run_le hrun
    have hi : i < ls.length := (List.getElem?_eq_some_iff.mp hx').1
    have e : ls[i] = (sp', b', false) := (List.getElem?_eq_some_iff.mp hx').2
    have hu : ub ls i = !b' := by unfold ub; rw [hx']
    rw [List.drop_eq_getElem_cons hi, e, cutR]
    have e1 : r + 1 + sp' + 1 = r + sp' + 1 + 1 := by omega
    have hng : ¬ (r + 1 + sp' + 1 > len) := by omega
    have e2 : p + 1 - i = (p + 1 - (i + 1)) + 1 := by omega
    rw [if_neg (by simp), if_neg hng, e1, ih hx ho, ih hx ho, e2]
    cases b' with
    | false =>
      have : frs ls i (p + 1 - (i + 1) + 1) = i :: frs ls (i + 1) (p + 1 - (i + 1)) := by
        unfold frs; rw [List.range'_succ, List.filter_cons_of_pos (by rw [hu]; simp)]
      rw [this, getLast_cons', if_pos rfl]
      cases hl : (frs ls (i + 1) (p + 1 - (i + 1))).getLast? with
      | none => simp [cutB]
      | some x =>
        have := (frs_ge (List.mem_of_getLast? hl)).1
        show some (x - (i + 1) + 1) = some (x - i)
        congr 1; omega
    | true =>
      have : frs ls i (p + 1 - (i + 1) + 1) = frs ls (i + 1) (p + 1 - (i + 1)) := by
        unfold frs; rw [List.range'_succ, List.filter_cons_of_neg (by rw [hu]; simp)]
      rw [this, if_neg (by simp)]
      cases hl : (frs ls (i + 1) (p + 1 - (i + 1))).getLast? with
      | none =>
        cases hh with
        | true => simp [cutB]
        | false => show some (p - (i + 1) + 1) = some (p - i); congr 1; omega
      | some x =>
        have := (frs_ge (List.mem_of_getLast? hl)).1
        show some (x - (i + 1) + 1) = some (x - i)
        congr 1; omega
theorem frs_app (i m k : Nat) : frs ls i (m + k) = frs ls i m ++ frs ls (i + m) k := by
  unfold frs
  rw [← List.range'_append_1, List.filter_append]
/-- behind the last unbarred place all are barred -/
theorem frs_last {i m x : Nat} (h : (frs ls i m).getLast? = some x) : frs ls (x + 1) (i + m - (x + 1)) = [] := by
  have hx := frs_ge (List.mem_of_getLast? h)
  have e : m = (x + 1 - i) + (i + m - (x + 1)) := by omega
  rw [e, frs_app] at h
  have e2 : i + (x + 1 - i) = x + 1 := by omega
  rw [e2] at h
  cases hf : frs ls (x + 1) (i + m - (x + 1)) with
  | nil => rfl
  | cons y ys =>
    rw [hf, List.getLast?_append] at h
    have hy : (y :: ys).getLast? = some x := by
      rw [getLast_cons'] at h ⊢
      simpa using h
    have hm := List.mem_of_getLast? hy
    rw [← hf] at hm
    have := (frs_ge hm).1
    omega
theorem lst_neg {xs : List Int} {x : Int} (h : xs.getLast? = some x) : getM xs (-1) = some x := by
  have hne : xs ≠ [] := by intro e; subst e; cases h
  have hl : 0 < xs.length := List.length_pos_iff.mpr hne
  unfold getM ixM
  rw [if_neg (by decide), if_pos (by omega)]
  show xs[((-1 : Int) + (xs.length : Int)).toNat]? = some x
  have e : ((-1 : Int) + (xs.length : Int)).toNat = xs.length - 1 := by omega
  rw [e, ← h, List.getLast?_eq_getElem?]
def Fits (len : Int) : Int → List L3 → Prop
  | _, [] => True
  | r, (sp, _, f) :: t => f = false ∧ r + sp + 1 < len ∧ Fits len (r + sp + 1) t
theorem run_fits {i p : Nat} {r q : Int} (h : Run ls len i r p q) : ∀ m, m ≤ p - i → Fits len r ((ls.drop i).take m) := by
  induction h with
  | refl i r =>
    intro m hm
    have : m = 0 := by omega
    subst this; simp [Fits]
  | @step i p r q sp b hx hf hrun ih =>
    intro m hm
    have hi : i < ls.length := (List.getElem?_eq_some_iff.mp hx).1
    have e : ls[i] = (sp, b, false) := (List.getElem?_eq_some_iff.mp hx).2
    cases m with
    | zero => simp [Fits]
    | succ m =>
      rw [List.drop_eq_getElem_cons hi, e, List.take_succ_cons]
      exact ⟨rfl, hf, ih m (by omega)⟩
theorem fin_next {s c : Nat} (hs : s < ls.length) (hn : ∀ x ∈ ls, 0 ≤ x.1) (hc : cutR len (ls.drop (s + 1)) 1 false = some c) : fin len 0 [] (ls.drop s) = (true, 0) :: (rowsF 0 ((ls.drop (s + 1)).take c) ++ fin len 0 [] (ls.drop (s + 1 + c))) := by
  rw [List.drop_eq_getElem_cons hs, fin_zero]
  obtain ⟨⟨c', hc', _, hf⟩, _⟩ := fin_page len (ls.drop (s + 1)) 1 (by decide) (fun x hx => hn x (List.mem_of_mem_drop hx))
  rw [hc] at hc'
  cases hc'
  rw [hf, List.drop_drop]
  rfl
end
end Mr

set_option linter.all false
set_option maxRecDepth 100000
set_option maxHeartbeats 1000000
/-! LawPg: the law's own lines, cuts and pages. -/
namespace Mr
theorem ll_tail {bd du : Bool} {c sp : Int} {k pg : Bool} : ∀ (m j : Nat) (acc : List L3), 1 ≤ j → acc.length + m ≤ 100000 →
    folM (m_law_lines_b2 bd du (c, sp, k, pg)) ((List.range' j m).map fun (i : Nat) => (i : Int)) acc = some (acc ++ tlL c j m)
  | 0, j, acc, _, _ => by simp [folM, tlL]
  | m + 1, j, acc, hj, hz => by
    rw [List.range'_succ, List.map_cons]
    show (m_law_lines_b2 bd du (c, sp, k, pg) acc (j : Int)).bind _ = _
    have e : m_law_lines_b2 bd du (c, sp, k, pg) acc (j : Int) = some (acc ++ [(0, decide ((j : Int) ∈ ([1, c - 1] : List Int)), false)]) := by
      unfold m_law_lines_b2
      dsimp only
      exact bindOk (if_neg (by simp; omega)) (bindOk (appM_ok (by omega)) rfl)
    rw [e, Option.bind_some, ll_tail m (j + 1) _ (by omega) (by simp; omega)]
    unfold tlL
    rw [List.range'_succ]
    simp
theorem ll_blk {bd du : Bool} {c sp : Int} {k pg : Bool} {acc : List L3} (hc : 0 ≤ c) (hz : acc.length + c.toNat ≤ 100000) :
    m_law_lines_b1 (acc, bd, du) (c, sp, k, pg) = some (acc ++ blkL c sp bd (du || pg), (if c > 0 then k else bd), (du || pg) && decide (c ≤ 0)) := by
  unfold m_law_lines_b1
  dsimp only
  refine bindOk (rngM_ok hc (by omega)) ?_
  have e0 : (decide (c = 0)) = decide (c ≤ 0) := by
    by_cases h : c ≤ 0
    · rw [decide_eq_true h, decide_eq_true (by omega)]
    · rw [decide_eq_false h, decide_eq_false (by omega)]
  by_cases h : c ≤ 0
  · have hz' : c = 0 := by omega
    subst hz'
    refine bindOk (a := acc) rfl ?_
    simp [blkL]
  · have e : c.toNat = (c.toNat - 1) + 1 := by omega
    rw [e, List.range_eq_range', List.range'_succ, List.map_cons]
    refine bindOk (a := acc ++ blkL c sp bd (du || pg)) ?_ ?_
    · show (m_law_lines_b2 bd du (c, sp, k, pg) acc ((0 : Nat) : Int)).bind _ = _
      have e : m_law_lines_b2 bd du (c, sp, k, pg) acc ((0 : Nat) : Int) = some (acc ++ [(sp, bd, du || pg)]) := by
        unfold m_law_lines_b2
        dsimp only
        exact bindOk (if_pos (by simp)) (bindOk (appM_ok (by omega)) rfl)
      rw [e, Option.bind_some, ll_tail _ _ _ (Nat.le_refl _) (by simp; omega), blkL, if_neg h]
      simp
    · have hp : c > 0 := by omega
      rw [e0]
      simp [hp]
theorem blkL_length {c sp : Int} {bd du : Bool} (hc : 0 ≤ c) : (blkL c sp bd du).length = c.toNat := by
  unfold blkL
  split
  · simp; omega
  · simp [tlL]; omega
theorem lines_go {F : (List L3 × Bool × Bool) → Bk → Option (List L3 × Bool × Bool)}
    (hF : ∀ (acc : List L3) (bd du : Bool) (c sp : Int) (k pg : Bool), 0 ≤ c → acc.length + c.toNat ≤ 100000 → F (acc, bd, du) (c, sp, k, pg) = some (acc ++ blkL c sp bd (du || pg), (if c > 0 then k else bd), (du || pg) && decide (c ≤ 0))) :
    ∀ (bs : List Bk) (acc : List L3) (bd du : Bool), (∀ b ∈ bs, BkOk b) → acc.length + cnt bs ≤ 100000 → ∃ r, folM F bs (acc, bd, du) = some (acc ++ lns bd du bs, r)
  | [], acc, bd, du, _, _ => ⟨(bd, du), by simp [folM, lns]⟩
  | (c, sp, k, pg) :: bs, acc, bd, du, ho, hz => by
    have hcn : cnt ((c, sp, k, pg) :: bs) = c.toNat + cnt bs := by simp [cnt]
    have hc : 0 ≤ c := (ho _ (List.mem_cons_self ..)).1
    obtain ⟨r, h⟩ := lines_go hF bs (acc ++ blkL c sp bd (du || pg)) (if c > 0 then k else bd) ((du || pg) && decide (c ≤ 0)) (fun b hb => ho b (List.mem_cons_of_mem _ hb)) (by rw [List.length_append, blkL_length hc]; omega)
    refine ⟨r, ?_⟩
    show (F (acc, bd, du) (c, sp, k, pg)).bind _ = _
    rw [hF _ _ _ _ _ _ _ hc (by omega), Option.bind_some, h]
    show _ = some (acc ++ (blkL c sp bd (du || pg) ++ _), r)
    rw [List.append_assoc]
theorem law_lines_ok {bs : List Bk} (ho : ∀ b ∈ bs, BkOk b) (hz : cnt bs ≤ 100000) : ∃ r, m_law_lines bs = some (lns false true bs, r) := by
  obtain ⟨r, h⟩ := lines_go (F := m_law_lines_b1) (fun _ _ _ _ _ _ _ h1 h2 => ll_blk h1 h2) bs [] false true ho (by simpa using hz)
  unfold m_law_lines
  exact ⟨r, bindOk h (by simp)⟩
theorem lns_length : ∀ (bs : List Bk) (bd du : Bool), (∀ b ∈ bs, BkOk b) → (lns bd du bs).length = cnt bs
  | [], _, _, _ => rfl
  | (c, sp, k, pg) :: bs, bd, du, ho => by
    have hcn : cnt ((c, sp, k, pg) :: bs) = c.toNat + cnt bs := by simp [cnt]
    show (blkL c sp bd (du || pg) ++ lns _ _ bs).length = _
    rw [List.length_append, blkL_length (ho _ (List.mem_cons_self ..)).1, lns_length bs _ _ (fun b hb => ho b (List.mem_cons_of_mem _ hb)), hcn]
theorem lns_nonneg : ∀ (bs : List Bk) (bd du : Bool), (∀ b ∈ bs, BkOk b) → ∀ l ∈ lns bd du bs, 0 ≤ l.1
  | [], _, _, _, l, hl => by cases hl
  | (c, sp, k, pg) :: bs, bd, du, ho, l, hl => by
    rcases List.mem_append.mp (show l ∈ blkL c sp bd (du || pg) ++ lns _ _ bs from hl) with h | h
    · unfold blkL at h
      split at h
      · cases h
      · rcases List.mem_cons.mp h with rfl | h
        · exact (ho _ (List.mem_cons_self ..)).2.2
        · unfold tlL at h
          obtain ⟨k, _, rfl⟩ := List.mem_map.mp h
          exact Int.le_refl _
    · exact lns_nonneg bs _ _ (fun b hb => ho b (List.mem_cons_of_mem _ hb)) l h
section
variable {ls : List L3} {len : Int}
theorem lc_c2 {acc : List Int} {i : Nat} {x : L3} (hx : ls[i]? = some x) (hz : acc.length < 100000) : m_law_cut_c2 ls acc (i : Int) = some (if (!x.2.1) = true then acc ++ [(i : Int)] else acc) := by
  unfold m_law_cut_c2
  refine bindOk (getM_nat hx) ?_
  by_cases h : (!x.2.1) = true
  · rw [if_pos h, if_pos h]; exact bindOk (appM_ok hz) rfl
  · rw [if_neg h, if_neg h]
theorem lc_run {s : Nat} {i p : Nat} {r q : Int} (h : Run ls len i r p q) (hp : p ≤ ls.length) : forL (m_law_cut_b1 len ls (s : Int)) ((List.range' i (ls.length - i)).map fun (k : Nat) => (k : Int)) r = forL (m_law_cut_b1 len ls (s : Int)) ((List.range' p (ls.length - p)).map fun (k : Nat) => (k : Int)) q := by
  induction h with
  | refl i r => rfl
  | @step i p r q sp b hx hf hrun ih =>
    have hi : i < ls.length := (List.getElem?_eq_some_iff.mp hx).1
    have g := getM_nat hx
    have e1 : ls.length - i = (ls.length - (i + 1)) + 1 := by omega
    rw [e1, List.range'_succ, List.map_cons, forL_cons]
    have e : m_law_cut_b1 len ls (s : Int) r (i : Int) = some (.go (r + sp + 1)) := by
      unfold m_law_cut_b1
      refine bindOk g (bindOk g ((if_neg (by simp)).trans (if_neg (by simp; omega))))
    rw [e]
    exact ih hp
theorem law_cut_ok {s : Nat} (hs : s < ls.length) (hz : ls.length ≤ 50000) : ∃ c : Nat, m_law_cut len ls (s : Int) = some ((s : Int) + 1 + (c : Int)) ∧ cutR len (ls.drop (s + 1)) 1 false = some c ∧ s + 1 + c ≤ ls.length ∧ Fits len 0 ((ls.drop (s + 1)).take c) := by
  obtain ⟨p, q, hr, hstp, hp⟩ := run_ex (ls := ls) (len := len) (ls.length - (s + 1)) (s + 1) 0 (by omega)
  have hle := run_le hr
  have hrng0 : rng2M ((s : Int) + 1) (ls.length : Int) = some ((List.range' (s + 1) (ls.length - (s + 1))).map fun (k : Nat) => (k : Int)) := rng2_ok (a := s + 1) (b := ls.length) (by omega) (by omega)
  by_cases hA : p = ls.length ∨ ∃ sp b, ls[p]? = some (sp, b, true)
  · refine ⟨p - (s + 1), ?_, run_cutA hr hA false, by omega, run_fits hr _ (Nat.le_refl _)⟩
    unfold m_law_cut
    refine bindOk hrng0 ?_
    rw [lc_run hr hp]
    rcases hA with h | ⟨sp, b, hx⟩
    · have e : ls.length - p = 0 := by omega
      rw [e]
      refine bindOk (a := .nx q) rfl ?_
      exact congrArg some (by omega)
    · have hi : p < ls.length := (List.getElem?_eq_some_iff.mp hx).1
      have e : ls.length - p = (ls.length - (p + 1)) + 1 := by omega
      rw [e, List.range'_succ, List.map_cons, forL_cons]
      have e2 : m_law_cut_b1 len ls (s : Int) q (p : Int) = some (.rt (p : Int)) := by
        unfold m_law_cut_b1
        exact bindOk (getM_nat hx) (bindOk (getM_nat hx) rfl)
      rw [e2]
      refine bindOk (a := .rt (p : Int)) rfl ?_
      exact congrArg some (by omega)
  · have hnl : ¬ p = ls.length := fun h => hA (.inl h)
    obtain ⟨sp, b, f, hx, hov⟩ := hstp.resolve_left hnl
    have hf : f = false := by
      cases f with
      | false => rfl
      | true => exact absurd (.inr ⟨sp, b, hx⟩) hA
    subst hf
    have ho : len ≤ q + sp + 1 := hov.resolve_left (by simp)
    have hi : p < ls.length := (List.getElem?_eq_some_iff.mp hx).1
    have hcut := run_cutB hr hx ho false
    have e1 : p + 1 - (s + 1) = p - s := by omega
    rw [e1] at hcut
    have hfr := fr_gen (ls := ls) (F := m_law_cut_c2 ls) (fun acc i x h1 h2 => lc_c2 h1 h2) (p - s) (s + 1) [] (by omega) (by simp; omega)
    have hrng : rng2M ((s : Int) + 1) ((p : Int) + 1) = some ((List.range' (s + 1) (p - s)).map fun (k : Nat) => (k : Int)) := by
      have := rng2_ok (a := s + 1) (b := p + 1) (by omega) (by omega)
      have e : p + 1 - (s + 1) = p - s := by omega
      rw [e] at this
      exact this
    have hhead : ∀ x : Int, (if (!decide (((frs ls (s + 1) (p - s)).map fun (k : Nat) => (k : Int)) = ([] : (List Int)))) then (Option.bind (getM ((frs ls (s + 1) (p - s)).map fun (k : Nat) => (k : Int)) (-(1 : Int))) fun x19 => some x19) else (some (p : Int))) = some x → m_law_cut len ls (s : Int) = some x := by
      intro x hxx
      unfold m_law_cut
      refine bindOk hrng0 ?_
      rw [lc_run hr hp]
      have e : ls.length - p = (ls.length - (p + 1)) + 1 := by omega
      rw [e, List.range'_succ, List.map_cons, forL_cons]
      have e2 : m_law_cut_b1 len ls (s : Int) q (p : Int) = some (.rt x) := by
        unfold m_law_cut_b1
        refine bindOk (getM_nat hx) (bindOk (getM_nat hx) ((if_neg (by simp)).trans ((if_pos (by simp; omega)).trans ?_)))
        refine bindOk hrng (bindOk hfr ?_)
        exact bindOk hxx rfl
      rw [e2]
      rfl
    cases hl : (frs ls (s + 1) (p - s)).getLast? with
    | some x =>
      rw [hl] at hcut
      have hxx := frs_ge (List.mem_of_getLast? hl)
      have hne : frs ls (s + 1) (p - s) ≠ [] := by intro e; rw [e] at hl; cases hl
      refine ⟨x - (s + 1), ?_, hcut, by omega, run_fits hr _ (by omega)⟩
      refine hhead _ ?_
      have hg : getM ((frs ls (s + 1) (p - s)).map fun (k : Nat) => (k : Int)) (-1) = some (x : Int) := lst_neg (by rw [List.getLast?_map, hl]; rfl)
      refine (if_pos (by simp [hne])).trans (bindOk hg ?_)
      exact congrArg some (by omega)
    | none =>
      rw [hl] at hcut
      have hnil : frs ls (s + 1) (p - s) = [] := List.getLast?_eq_none_iff.mp hl
      refine ⟨p - (s + 1), ?_, hcut, by omega, run_fits hr _ (by omega)⟩
      refine hhead _ ?_
      refine (if_neg (by simp [hnil])).trans ?_
      exact congrArg some (by omega)
theorem fin_len1 : ∀ (n : Nat) (s : Nat), ls.length = s + n → (∀ x ∈ ls, 0 ≤ x.1) → ls.length ≤ 50000 → (fin len 0 [] (ls.drop s)).length = n := by
  intro n
  induction n using Nat.strongRecOn with
  | _ n ih =>
    intro s h hn hz
    by_cases h0 : n = 0
    · subst h0
      rw [List.drop_eq_nil_of_le (by omega)]; simp [fin, sty]
    · obtain ⟨c, _, hc, hcl, _⟩ := law_cut_ok (ls := ls) (len := len) (s := s) (by omega) hz
      rw [fin_next (by omega) hn hc]
      have hi := ih (n - (1 + c)) (by omega) (s + 1 + c) (by omega) hn hz
      simp only [List.length_cons, List.length_append, rowsF_length, List.length_take, List.length_drop, hi]
      omega
theorem fin_length (hn : ∀ x ∈ ls, 0 ≤ x.1) (hz : ls.length ≤ 50000) : (fin len 0 [] ls).length = ls.length := by
  have := fin_len1 (ls := ls) (len := len) ls.length 0 (by omega) hn hz
  simpa using this
/-! ### the law's pages -/
theorem lp_rows {start : Nat} : ∀ (seg : List L3) (k : Nat) (acc : List Ln) (b : Bool) (r : Int), acc.getLast? = some (b, r) → (∀ i, i < seg.length → ls[k + i]? = seg[i]?) → k + seg.length ≤ start → acc.length + seg.length ≤ 100000 →
    folM (m_law_pages_b1 len ls) ((List.range' k seg.length).map fun (i : Nat) => (i : Int)) (acc, (start : Int)) = some (acc ++ rowsF r seg, (start : Int))
  | [], k, acc, b, r, _, _, _, _ => by simp [folM, rowsF]
  | (sp, bb, f) :: t, k, acc, b, r, hl, h1, hk, hz => by
    have hz' : acc.length + (t.length + 1) ≤ 100000 := hz
    have hk' : k + (t.length + 1) ≤ start := hk
    have hx : ls[k]? = some (sp, bb, f) := by simpa using h1 0 (by simp)
    have hne : acc ≠ [] := by intro e; subst e; cases hl
    have hp : 0 < acc.length := List.length_pos_iff.mpr hne
    have g : getM acc (-1) = some (b, r) := by
      unfold getM ixM
      rw [if_neg (by decide), if_pos (by omega)]
      show acc[((-1 : Int) + (acc.length : Int)).toNat]? = some (b, r)
      have e : ((-1 : Int) + (acc.length : Int)).toNat = acc.length - 1 := by omega
      rw [e, ← hl, List.getLast?_eq_getElem?]
    have e0 : r + sp + 1 = r + 1 + sp := by omega
    rw [List.length_cons, List.range'_succ, List.map_cons]
    show (m_law_pages_b1 len ls (acc, (start : Int)) (k : Int)).bind _ = _
    have e : m_law_pages_b1 len ls (acc, (start : Int)) (k : Int) = some (acc ++ [(false, r + 1 + sp)], (start : Int)) := by
      unfold m_law_pages_b1
      dsimp only
      refine bindOk ((if_neg (by simp; omega)).trans (bindOk g (bindOk (getM_nat hx) (bindOk (appM_ok (by omega)) rfl)))) ?_
      dsimp only
      rw [e0]
    rw [e, Option.bind_some, lp_rows t (k + 1) (acc ++ [(false, r + 1 + sp)]) false (r + 1 + sp) (by simp) (fun i hi => ?_) (by omega) (by simp; omega)]
    · simp [rowsF]
    · have := h1 (i + 1) (by simpa using hi)
      have e2 : k + 1 + i = k + (i + 1) := by omega
      rw [e2, this]; simp
theorem folM_app {α σ : Type} {f : σ → α → Option σ} : ∀ {xs ys : List α} {s s1 : σ}, folM f xs s = some s1 → folM f (xs ++ ys) s = folM f ys s1
  | [], ys, s, s1, h => by cases h; rfl
  | x :: xs, ys, s, s1, h => by
    obtain ⟨s2, h1, h2⟩ := bindS h
    show (f s x).bind _ = _
    rw [h1]
    exact folM_app h2
theorem lp_go (hz : ls.length ≤ 50000) (hn : ∀ x ∈ ls, 0 ≤ x.1) : ∀ (n s : Nat) (acc : List Ln), ls.length = s + n → acc.length = s →
    ∃ e, folM (m_law_pages_b1 len ls) ((List.range' s n).map fun (i : Nat) => (i : Int)) (acc, (s : Int)) = some (acc ++ fin len 0 [] (ls.drop s), e) := by
  intro n
  induction n using Nat.strongRecOn with
  | _ n ih =>
    intro s acc hs ha
    by_cases h0 : n = 0
    · subst h0
      refine ⟨(s : Int), ?_⟩
      rw [List.drop_eq_nil_of_le (by omega)]; simp [fin, sty, folM]
    · obtain ⟨c, hst, hc, hcl, _⟩ := law_cut_ok (ls := ls) (len := len) (s := s) (by omega) hz
      have hseg : ((ls.drop (s + 1)).take c).length = c := by rw [List.length_take, List.length_drop]; omega
      have hrows := lp_rows (ls := ls) (len := len) (start := s + 1 + c) ((ls.drop (s + 1)).take c) (s + 1) (acc ++ [(true, 0)]) true 0 (by simp) (fun i hi => by
          rw [hseg] at hi
          rw [List.getElem?_take_of_lt hi, List.getElem?_drop]) (by omega) (by simp; omega)
      rw [hseg] at hrows
      obtain ⟨e, he⟩ := ih (n - (1 + c)) (by omega) (s + 1 + c) (acc ++ [(true, 0)] ++ rowsF 0 ((ls.drop (s + 1)).take c)) (by omega) (by simp [rowsF_length]; omega)
      refine ⟨e, ?_⟩
      have er : List.range' s n = s :: (List.range' (s + 1) c ++ List.range' (s + 1 + c) (n - (1 + c))) := by
        have h : ∀ m, n = (c + m) + 1 → List.range' s n = s :: (List.range' (s + 1) c ++ List.range' (s + 1 + c) m) := by
          intro m hm
          rw [hm, List.range'_succ, ← List.range'_append_1]
        exact h _ (by omega)
      rw [er, List.map_cons, List.map_append]
      show (m_law_pages_b1 len ls (acc, (s : Int)) (s : Int)).bind _ = _
      have e1 : m_law_pages_b1 len ls (acc, (s : Int)) (s : Int) = some (acc ++ [(true, 0)], ((s + 1 + c : Nat) : Int)) := by
        unfold m_law_pages_b1
        dsimp only
        refine bindOk ((if_pos (by simp)).trans (bindOk (appM_ok (by omega)) (bindOk hst rfl))) ?_
        dsimp only
        rw [show ((s + 1 + c : Nat) : Int) = (s : Int) + 1 + (c : Int) by omega]
      rw [e1, Option.bind_some, folM_app hrows, he, fin_next (by omega) hn hc]
      simp
theorem law_pages_ok (hz : ls.length ≤ 50000) (hn : ∀ x ∈ ls, 0 ≤ x.1) : m_law_pages len ls = some (fin len 0 [] ls) := by
  unfold m_law_pages
  obtain ⟨e, h⟩ := lp_go (ls := ls) (len := len) hz hn ls.length 0 [] (by omega) rfl
  refine bindOk (rngM_ok (by omega) (by omega)) ?_
  have e1 : ((ls.length : Nat) : Int).toNat = ls.length := by omega
  rw [e1, List.range_eq_range']
  exact bindOk h (by simp)
end
/-! ### flags behind the blocks -/
def flg : Bool → Bool → List Bk → Bool × Bool
  | bd, du, [] => (bd, du)
  | bd, du, (c, sp, k, pg) :: bs => flg (if c > 0 then k else bd) ((du || pg) && decide (c ≤ 0)) bs
theorem lns_app : ∀ (bs cs : List Bk) (bd du : Bool), lns bd du (bs ++ cs) = lns bd du bs ++ lns (flg bd du bs).1 (flg bd du bs).2 cs
  | [], cs, bd, du => rfl
  | (c, sp, k, pg) :: bs, cs, bd, du => by
    show blkL c sp bd (du || pg) ++ lns _ _ (bs ++ cs) = (blkL c sp bd (du || pg) ++ lns _ _ bs) ++ lns _ _ cs
    rw [lns_app bs cs, List.append_assoc]; rfl
theorem flg_app : ∀ (bs cs : List Bk) (bd du : Bool), flg bd du (bs ++ cs) = flg (flg bd du bs).1 (flg bd du bs).2 cs
  | [], cs, bd, du => rfl
  | (c, sp, k, pg) :: bs, cs, bd, du => flg_app bs cs _ _
theorem lines_go2 {F : (List L3 × Bool × Bool) → Bk → Option (List L3 × Bool × Bool)}
    (hF : ∀ (acc : List L3) (bd du : Bool) (c sp : Int) (k pg : Bool), 0 ≤ c → acc.length + c.toNat ≤ 100000 → F (acc, bd, du) (c, sp, k, pg) = some (acc ++ blkL c sp bd (du || pg), (if c > 0 then k else bd), (du || pg) && decide (c ≤ 0))) :
    ∀ (bs : List Bk) (acc : List L3) (bd du : Bool), (∀ b ∈ bs, BkOk b) → acc.length + cnt bs ≤ 100000 → folM F bs (acc, bd, du) = some (acc ++ lns bd du bs, flg bd du bs)
  | [], acc, bd, du, _, _ => by simp [folM, lns, flg]
  | (c, sp, k, pg) :: bs, acc, bd, du, ho, hz => by
    have hcn : cnt ((c, sp, k, pg) :: bs) = c.toNat + cnt bs := by simp [cnt]
    have hc : 0 ≤ c := (ho _ (List.mem_cons_self ..)).1
    have h := lines_go2 hF bs (acc ++ blkL c sp bd (du || pg)) (if c > 0 then k else bd) ((du || pg) && decide (c ≤ 0)) (fun b hb => ho b (List.mem_cons_of_mem _ hb)) (by rw [List.length_append, blkL_length hc]; omega)
    show (F (acc, bd, du) (c, sp, k, pg)).bind _ = _
    rw [hF _ _ _ _ _ _ _ hc (by omega), Option.bind_some, h]
    show _ = some (acc ++ (blkL c sp bd (du || pg) ++ _), _)
    rw [List.append_assoc]; rfl
theorem law_lines_ok2 {bs : List Bk} (ho : ∀ b ∈ bs, BkOk b) (hz : cnt bs ≤ 100000) : m_law_lines bs = some (lns false true bs, flg false true bs) := by
  have h := lines_go2 (F := m_law_lines_b1) (fun _ _ _ _ _ _ _ h1 h2 => ll_blk h1 h2) bs [] false true ho (by simpa using hz)
  unfold m_law_lines
  exact bindOk h (by simp)
/-! ### the last page -/
section
variable {ls : List L3} {len : Int}
theorem last_page (hz : ls.length ≤ 50000) (hn : ∀ x ∈ ls, 0 ≤ x.1) : ∀ (n s : Nat), ls.length = s + n → 0 < n → ∃ first, s ≤ first ∧ first < ls.length ∧ (fin len 0 [] (ls.drop s)).drop (first - s) = (true, 0) :: rowsF 0 (ls.drop (first + 1)) := by
  intro n
  induction n using Nat.strongRecOn with
  | _ n ih =>
    intro s hs h0
    obtain ⟨c, _, hc, hcl, _⟩ := law_cut_ok (ls := ls) (len := len) (s := s) (by omega) hz
    have hfn := fin_next (by omega) hn hc
    by_cases he : s + 1 + c = ls.length
    · refine ⟨s, Nat.le_refl _, by omega, ?_⟩
      rw [Nat.sub_self, List.drop_zero, hfn, he, List.drop_eq_nil_of_le (Nat.le_refl _), List.take_of_length_le (by rw [List.length_drop]; omega)]
      simp [fin, sty]
    · obtain ⟨first, h1, h2, h3⟩ := ih (n - (1 + c)) (by omega) (s + 1 + c) (by omega) (by omega)
      refine ⟨first, by omega, h2, ?_⟩
      rw [hfn]
      have e : first - s = (first - (s + 1 + c)) + c + 1 := by omega
      have hl : (rowsF 0 ((ls.drop (s + 1)).take c)).length = c := by rw [rowsF_length, List.length_take, List.length_drop]; omega
      rw [e, List.drop_succ_cons, List.drop_append, hl, List.drop_eq_nil_of_le (by omega), List.nil_append, show first - (s + 1 + c) + c - c = first - (s + 1 + c) by omega]
      exact h3
theorem last_page0 (hz : ls.length ≤ 50000) (hn : ∀ x ∈ ls, 0 ≤ x.1) (h : ls ≠ []) : ∃ first, first < ls.length ∧ (fin len 0 [] ls).drop first = (true, 0) :: rowsF 0 (ls.drop (first + 1)) := by
  obtain ⟨first, _, h2, h3⟩ := last_page (ls := ls) (len := len) hz hn ls.length 0 (by omega) (List.length_pos_iff.mpr h)
  exact ⟨first, h2, by simpa using h3⟩
theorem rowsF_false : ∀ (t : List L3) (r : Int), ∀ e ∈ rowsF r t, e.1 = false
  | [], _, e, h => by cases h
  | (sp, b, f) :: t, r, e, h => by
    rcases List.mem_cons.mp (show e ∈ (false, r + 1 + sp) :: rowsF (r + 1 + sp) t from h) with rfl | h
    · rfl
    · exact rowsF_false t _ e h
theorem rowsF_gt : ∀ (t : List L3) (r : Int), (∀ l ∈ t, 0 ≤ l.1) → ∀ e ∈ rowsF r t, r < e.2
  | [], _, _, e, h => by cases h
  | (sp, b, f) :: t, r, hn, e, h => by
    have hsp : 0 ≤ sp := hn _ (List.mem_cons_self ..)
    rcases List.mem_cons.mp (show e ∈ (false, r + 1 + sp) :: rowsF (r + 1 + sp) t from h) with rfl | h
    · show r < r + 1 + sp; omega
    · have := rowsF_gt t _ (fun l hl => hn l (List.mem_cons_of_mem _ hl)) e h
      omega
theorem rowsF_pw : ∀ (t : List L3) (r : Int), (∀ l ∈ t, 0 ≤ l.1) → List.Pairwise (fun a b : Ln => a.2 < b.2) (rowsF r t)
  | [], _, _ => List.Pairwise.nil
  | (sp, b, f) :: t, r, hn => List.Pairwise.cons (fun e he => rowsF_gt t _ (fun l hl => hn l (List.mem_cons_of_mem _ hl)) e he) (rowsF_pw t _ (fun l hl => hn l (List.mem_cons_of_mem _ hl)))
end
/-- indices that are picked -/
theorem sel_gen {N : Nat} {F : List Int → Int → Option (List Int)} {P : Nat → Bool} (hF : ∀ (acc : List Int) (i : Nat), i < N → acc.length < 100000 → F acc (i : Int) = some (if P i = true then acc ++ [(i : Int)] else acc)) : ∀ (m i : Nat) (acc : List Int), i + m ≤ N → acc.length + m ≤ 100000 → folM F ((List.range' i m).map fun (k : Nat) => (k : Int)) acc = some (acc ++ ((List.range' i m).filter P).map fun (k : Nat) => (k : Int))
  | 0, i, acc, _, _ => by simp [folM]
  | m + 1, i, acc, h, hz => by
    rw [List.range'_succ, List.map_cons]
    show (F acc (i : Int)).bind _ = _
    rw [hF acc i (by omega) (by omega), Option.bind_some]
    by_cases hp : P i = true
    · rw [if_pos hp, List.filter_cons_of_pos hp, sel_gen hF m (i + 1) _ (by omega) (by simp; omega)]
      simp
    · rw [if_neg hp, List.filter_cons_of_neg hp]
      exact sel_gen hF m (i + 1) acc (by omega) (by omega)
theorem maxM_is {xs : List Int} {m : Int} (h1 : m ∈ xs) (h2 : ∀ y ∈ xs, y ≤ m) : maxM xs = some m := by
  cases hx : maxM xs with
  | none =>
    cases xs with
    | nil => cases h1
    | cons x xs => cases hx
  | some m' =>
    obtain ⟨h3, h4, _⟩ := maxM_some hx
    rw [max_uniq ⟨h3, h4⟩ ⟨h1, h2⟩]
theorem getM_last {α : Type} {xs : List α} {x : α} (h : xs.getLast? = some x) : getM xs (-1) = some x := by
  have hne : xs ≠ [] := by intro e; subst e; cases h
  have hl : 0 < xs.length := List.length_pos_iff.mpr hne
  unfold getM ixM
  rw [if_neg (by decide), if_pos (by omega)]
  show xs[((-1 : Int) + (xs.length : Int)).toNat]? = some x
  have e : ((-1 : Int) + (xs.length : Int)).toNat = xs.length - 1 := by omega
  rw [e, ← h, List.getLast?_eq_getElem?]
theorem cutM_take {α : Type} {xs : List α} {n : Nat} (h : n ≤ xs.length) : cutM xs none (some (n : Int)) = xs.take n := by
  have e2 : slIx xs.length xs.length (some (n : Int)) = n := by
    show (if (n : Int) < 0 then ((n : Int) + (xs.length : Int)).toNat else min (n : Int).toNat xs.length) = n
    rw [if_neg (by omega)]; omega
  unfold cutM
  rw [e2]
  show (xs.drop 0).take (n - 0) = _
  simp
end Mr

set_option linter.all false
set_option maxRecDepth 100000
set_option maxHeartbeats 1000000
/-! PagS: which lines are loose. -/
namespace Mr
structure Strong (p : Pg) (ls : List L3) : Prop where
  s1 : p.nl = 0 → ∀ k, k < ls.length → (∀ j e, k ≤ j → p.es[j]? = some e → e.1 = false) → ub ls k = false
  s2 : p.nl ≠ 0 → p.nl ≤ ls.length ∧ ub ls (ls.length - p.nl) = true ∧ ∀ k, ls.length - p.nl < k → k < ls.length → ub ls k = false
theorem ub_lt {ls : List L3} {x : L3} {k : Nat} (h : k < ls.length) : ub (ls ++ [x]) k = ub ls k := by
  unfold ub; rw [List.getElem?_append_left h]
theorem ub_eq {ls : List L3} {x : L3} : ub (ls ++ [x]) ls.length = !x.2.1 := by
  unfold ub; simp
def LastOk (p : Pg) : Prop := ∃ e, p.es.getLast? = some e ∧ p.high = e.2 + 1
theorem strong_new {p : Pg} {es : List Ln} {ls : List L3} {x : L3} (he : es.length = ls.length) (h1 : p.es = es ++ [(true, 0)]) (h2 : p.nl = 0) : Strong p (ls ++ [x]) := by
  refine ⟨fun _ k hk h => ?_, fun h => absurd h2 h⟩
  have hk' : k < ls.length + 1 := by simpa using hk
  have := h es.length (true, 0) (by omega) (by rw [h1]; simp)
  cases this
theorem line_str {p q : Pg} {ls : List L3} {sp : Int} {b b' f : Bool} {done : List Ln} {offs : List Int} (R : Rep p done offs) (hn : p.es.length = ls.length) (hS : Strong p ls ∨ p.high = 0 ∨ b = false) (hb : p.high = 0 ∨ b' = b) (hu : 0 ≤ p.high) (h : p.line sp b' = some q) :
    Strong q (ls ++ [(sp, b, f)]) ∧ LastOk q := by
  unfold Pg.line at h
  split at h
  · rename_i hc
    obtain ⟨c1, c2, c3, c4⟩ := hc
    have h0 : ¬ p.high = 0 := by omega
    have hbb : b' = b := hb.resolve_left h0
    subst hbb
    have hS' : Strong p ls := by
      rcases hS with h | h | h
      · exact h
      · exact absurd h h0
      · rw [c3] at h; cases h
    have ho : offs ≠ [] := by
      intro e; rw [R.nl, e] at c4; exact c4 rfl
    have hov := over_ok R ho
    obtain ⟨⟨xs, hxs⟩, _, _⟩ := R.lo ho
    obtain ⟨s0, s1, s2⟩ := hS'.s2 c4
    rw [hov, Option.bind_some] at h
    have hlen : (done ++ gov offs).length = ls.length := by
      rw [← hn, R.len, hxs, gov_zero]; simp
    have hdl : done.length = ls.length - p.nl := by
      have := R.len
      rw [R.nl]; omega
    unfold Pg.put at h
    dsimp only at h
    split at h
    · split at h
      · cases h
        exact ⟨strong_new (es := done ++ gov offs) hlen rfl rfl, (true, 0), by simp, rfl⟩
      · rw [c3] at h
        rw [if_neg (by simp), if_pos rfl] at h
        cases h
        refine ⟨⟨fun _ k hk hh => ?_, fun hh => absurd rfl hh⟩, (false, br offs + sp), by simp, rfl⟩
        have hk' : k < ls.length + 1 := by simpa using hk
        have hkd : done.length < k := by
          by_cases hc : done.length < k
          · exact hc
          · have := hh done.length (true, 0) (by omega) (by
              show (done ++ gov offs ++ [(false, br offs + sp)])[done.length]? = _
              rw [hxs, gov_zero]; simp)
            cases this
        by_cases hkn : k < ls.length
        · rw [ub_lt hkn]; exact s2 k (by omega) hkn
        · have : k = ls.length := by omega
          subst this
          rw [ub_eq, c3]; rfl
    · cases h
  · rename_i hc
    unfold Pg.put at h
    split at h
    · rename_i hz
      split at h
      · cases h
        exact ⟨strong_new (es := p.es) hn rfl rfl, (true, 0), by simp, rfl⟩
      · rename_i hnp
        have h0 : ¬ p.high = 0 := fun e => hnp (.inl e)
        have hbb : b' = b := hb.resolve_left h0
        subst hbb
        cases b' with
        | false =>
          rw [if_pos rfl] at h
          cases h
          refine ⟨⟨fun hh => absurd (show (1 : Nat) = 0 from hh) (by decide), fun _ => ⟨by simp, ?_, fun k h1 h2 => ?_⟩⟩, (false, p.high + sp), by simp, rfl⟩
          · show ub (ls ++ [(sp, false, f)]) ((ls ++ [(sp, false, f)]).length - 1) = true
            have : (ls ++ [(sp, false, f)]).length - 1 = ls.length := by simp
            rw [this, ub_eq]; rfl
          · have h1' : (ls ++ [(sp, false, f)]).length - 1 < k := h1
            simp at h1' h2; omega
        | true =>
          rw [if_neg (by simp)] at h
          have hS' : Strong p ls := by
            rcases hS with h | h | h
            · exact h
            · exact absurd h h0
            · cases h
          split at h
          · rename_i hz0
            cases h
            refine ⟨⟨fun _ k hk hh => ?_, fun hh => absurd hz0 hh⟩, (false, p.high + sp), by simp, rfl⟩
            have hk' : k < ls.length + 1 := by simpa using hk
            by_cases hkn : k < ls.length
            · rw [ub_lt hkn]
              refine hS'.s1 hz0 k hkn fun j e hj he => hh j e hj ?_
              show (p.es ++ [(false, p.high + sp)])[j]? = some e
              rw [List.getElem?_append_left (List.getElem?_eq_some_iff.mp he).1]; exact he
            · have : k = ls.length := by omega
              subst this
              rw [ub_eq]; rfl
          · rename_i hz0
            cases h
            obtain ⟨s0, s1, s2⟩ := hS'.s2 hz0
            refine ⟨⟨fun hh => absurd hh (by show ¬ p.nl + 1 = 0; omega), fun _ => ⟨?_, ?_, fun k h1 h2 => ?_⟩⟩, (false, p.high + sp), by simp, rfl⟩
            · show p.nl + 1 ≤ _
              simp; omega
            · show ub (ls ++ [(sp, true, f)]) ((ls ++ [(sp, true, f)]).length - (p.nl + 1)) = true
              have : (ls ++ [(sp, true, f)]).length - (p.nl + 1) = ls.length - p.nl := by simp
              rw [this]
              have hpos : 0 < p.nl := by omega
              rw [ub_lt (by omega)]; exact s1
            · have h1' : (ls ++ [(sp, true, f)]).length - (p.nl + 1) < k := h1
              have e1 : (ls ++ [(sp, true, f)]).length = ls.length + 1 := by simp
              rw [e1] at h1' h2
              by_cases hkn : k < ls.length
              · rw [ub_lt hkn]; exact s2 k (by omega) hkn
              · have : k = ls.length := by omega
                subst this
                rw [ub_eq]; rfl
    · cases h
theorem tail_str {c s : Int} : ∀ (m j : Nat) (p q : Pg) (ls : List L3) (done : List Ln) (offs : List Int), 1 ≤ j → Rep p done offs → 1 ≤ p.high → p.es.length + m ≤ 100000 → p.es.length = ls.length → Strong p ls ∧ LastOk p →
    folM (Pg.turn c s) ((List.range' j m).map fun (k : Nat) => (k : Int)) p = some q → Strong q (ls ++ tlL c j m) ∧ LastOk q
  | 0, j, p, q, ls, done, offs, _, R, h1, _, hn, hS, h => by
    cases h
    simpa [tlL] using hS
  | m + 1, j, p, q, ls, done, offs, hj, R, h1, hz, hn, hS, h => by
    rw [List.range'_succ, List.map_cons] at h
    obtain ⟨p2, e1, h2⟩ := bindS (show (Pg.turn c s p (j : Int)).bind _ = some q from h)
    have hline : p.line 0 (decide ((j : Int) ∈ ([1, c - 1] : List Int))) = some p2 := by
      unfold Pg.turn at e1
      rw [if_neg (by omega)] at e1
      exact e1
    obtain ⟨p2', d2, o2, e2, R2, l2, b2, u2, n2, f2, g2⟩ := line_ok (sp := 0) (b := decide ((j : Int) ∈ ([1, c - 1] : List Int))) (b' := decide ((j : Int) ∈ ([1, c - 1] : List Int))) (f := false) R (by omega) (by decide) (by omega) (fun h => by cases h) (.inr rfl)
    rw [hline] at e2
    cases e2
    have hs := line_str (f := false) (b := decide ((j : Int) ∈ ([1, c - 1] : List Int))) R hn (.inl hS.1) (.inr rfl) (by omega) hline
    have ht : tlL c j (m + 1) = (0, decide ((j : Int) ∈ ([1, c - 1] : List Int)), false) :: tlL c (j + 1) m := by
      unfold tlL; rw [List.range'_succ]; rfl
    have := tail_str (c := c) (s := s) m (j + 1) p2 q (ls ++ [(0, decide ((j : Int) ∈ ([1, c - 1] : List Int)), false)]) d2 o2 (by omega) R2 u2 (by omega) (by rw [n2]; simp; omega) hs h2
    rw [ht]
    simpa using this
/-- between blocks: ls the lines so far -/
structure Btw (p : Pg) (ls : List L3) (barred due : Bool) : Prop where
  n : p.es.length = ls.length
  z : p.high = 0 → p.nl = 0
  l : 1 ≤ p.high → LastOk p
  s : 1 ≤ p.high → (p.nl = 0 ∧ barred = false) ∨ (barred = true ∧ Strong p ls)
theorem block_str {p q : Pg} {done : List Ln} {offs : List Int} {barred due : Bool} {c sp : Int} {k pg : Bool} {ls : List L3} (R : Rep p done offs) (B : Bnd p barred due) (W : Btw p ls barred due) (ho : BkOk (c, sp, k, pg)) (hz : p.es.length + c.toNat ≤ 100000) (h : p.block c sp k pg = some q) :
    Btw q (ls ++ blkL c sp barred (due || pg)) (if c > 0 then k else barred) ((due || pg) && decide (c ≤ 0)) := by
  obtain ⟨hc0, hc1, hs0⟩ := ho
  dsimp only at hc0 hc1 hs0
  have h1 : ∃ d1 o1, Rep (if pg = true then p.begin else p) d1 o1 ∧ (if pg = true then p.begin else p).es = p.es ∧ Bnd (if pg = true then p.begin else p) barred (due || pg) ∧ Btw (if pg = true then p.begin else p) ls barred (due || pg) := by
    cases pg with
    | false => exact ⟨done, offs, R, rfl, by rw [Bool.or_false]; exact B, ⟨W.n, W.z, W.l, W.s⟩⟩
    | true =>
      refine ⟨_, _, begin_ok R, rfl, ⟨by show (0 : Int) ≤ 0; decide, fun _ => rfl, fun h => by simp at h⟩, ⟨W.n, fun _ => rfl, fun h => ?_, fun h => ?_⟩⟩
      · exact absurd (show (1 : Int) ≤ 0 from h) (by decide)
      · exact absurd (show (1 : Int) ≤ 0 from h) (by decide)
  obtain ⟨d1, o1, R1, e1, B1, W1⟩ := h1
  unfold Pg.block at h
  rw [rngM_ok hc0 (by omega), Option.bind_some] at h
  generalize hp1 : (if pg = true then p.begin else p) = p1 at R1 e1 B1 W1 h
  by_cases hc : c ≤ 0
  · have hcz : c = 0 := by omega
    subst hcz
    rw [show Pg.lines 0 sp ((List.range (0 : Int).toNat).map fun (i : Nat) => (i : Int)) p1 = some p1 from rfl, Option.bind_some, if_neg (by decide)] at h
    cases h
    rw [blkL, if_pos hc, if_neg (by decide), decide_eq_true hc, Bool.and_true, List.append_nil]
    exact W1
  · obtain ⟨q1, hl, h⟩ := bindS h
    have hcp : c > 0 := by omega
    have ec : c.toNat = (c.toNat - 1) + 1 := by omega
    unfold Pg.lines at hl
    rw [ec, List.range_eq_range', List.range'_succ, List.map_cons] at hl
    obtain ⟨q0, hl0, hl2⟩ := bindS (show (Pg.turn c sp p1 ((0 : Nat) : Int)).bind _ = some q1 from hl)
    have hline : p1.line sp p1.bar = some q0 := by
      unfold Pg.turn at hl0
      rw [if_pos (by simp)] at hl0
      exact hl0
    have hbb : p1.high = 0 ∨ p1.bar = barred := by
      cases hd : (due || pg) with
      | true => exact .inl (B1.dz hd)
      | false => exact .inr (B1.bz hd).1
    obtain ⟨q0', d2, o2, e2, R2, l2, b2, u2, n2, f2, g2⟩ := line_ok (sp := sp) (b := barred) (b' := p1.bar) (f := (due || pg)) R1 B1.u hs0 (by rw [e1]; omega) B1.dz hbb
    rw [hline] at e2
    cases e2
    have hS : Strong p1 ls ∨ p1.high = 0 ∨ barred = false := by
      by_cases h0 : p1.high = 0
      · exact .inr (.inl h0)
      · rcases W1.s (by have := B1.u; omega) with h | h
        · exact .inr (.inr h.2)
        · exact .inl h.2
    have hs := line_str (f := (due || pg)) (b := barred) R1 W1.n hS hbb B1.u hline
    have hn0 : q0.es.length = (ls ++ [(sp, barred, due || pg)]).length := by rw [n2, W1.n]; simp
    have ht := tail_str (c := c) (s := sp) (c.toNat - 1) 1 q0 q1 (ls ++ [(sp, barred, due || pg)]) d2 o2 (Nat.le_refl _) R2 u2 (by rw [n2, e1]; omega) hn0 hs hl2
    obtain ⟨q1', d3, o3, eq3, R3, l3, b3, u3, n3, f3, g3⟩ := tail_go (c := c) (s := sp) (c.toNat - 1) 1 q0 d2 o2 (Nat.le_refl _) R2 u2 (by rw [n2, e1]; omega)
    rw [hl2] at eq3
    cases eq3
    have hls : ls ++ blkL c sp barred (due || pg) = ls ++ [(sp, barred, due || pg)] ++ tlL c 1 (c.toNat - 1) := by
      rw [blkL, if_neg hc]; simp
    have hnl : q1.es.length = (ls ++ blkL c sp barred (due || pg)).length := by
      rw [hls, n3, hn0]; simp [tlL]; omega
    rw [if_pos hcp] at h ⊢
    rw [← hls] at ht
    have h := Option.some.inj h
    cases k with
    | true =>
      rw [if_pos rfl] at h
      subst h
      exact ⟨hnl, fun h0 => absurd (show q1.high = 0 from h0) (by omega), fun _ => ht.2, fun _ => .inr ⟨rfl, ⟨ht.1.s1, ht.1.s2⟩⟩⟩
    | false =>
      rw [if_neg (by simp)] at h
      subst h
      exact ⟨hnl, fun _ => rfl, fun _ => ht.2, fun _ => .inl ⟨rfl, rfl⟩⟩
end Mr

set_option linter.all false
set_option maxRecDepth 100000
set_option maxHeartbeats 1000000
/-! LawInv: a page behind blocks. -/
namespace Mr
theorem cp_go : ∀ (xs acc : List Ln), acc.length + xs.length ≤ 100000 → folM cpE xs acc = some (acc ++ xs)
  | [], acc, _ => by simp [folM]
  | x :: xs, acc, h => by
    have h' : acc.length + (xs.length + 1) ≤ 100000 := h
    show (cpE acc x).bind _ = _
    have e : cpE acc x = some (acc ++ [x]) := bindOk (appM_ok (by omega)) rfl
    rw [e, Option.bind_some, cp_go xs _ (by simp; omega)]
    simp
/-- a page behind blocks -/
structure Inv (len : Int) (p : Pg) (bs : List Bk) (done : List Ln) (offs : List Int) : Prop where
  R : Rep p done offs
  B : Bnd p (flg false true bs).1 (flg false true bs).2
  W : Btw p (lns false true bs) (flg false true bs).1 (flg false true bs).2
  l : p.len = len
  f : ∀ cs, fin len 0 [] (lns false true (bs ++ cs)) = done ++ fin len p.high offs (lns (flg false true bs).1 (flg false true bs).2 cs)
theorem Inv.es {len : Int} {p : Pg} {bs : List Bk} {done : List Ln} {offs : List Int} (I : Inv len p bs done offs) : p.es = fin len 0 [] (lns false true bs) := by
  have := I.f []
  rw [List.append_nil] at this
  rw [this, I.R.es]
  simp [lns, fin]
theorem inv_new (len : Int) : Inv len (Pg.new len) [] [] [] :=
  ⟨⟨rfl, rfl, fun h => absurd rfl h⟩, ⟨(by show (0 : Int) ≤ 0; decide), fun _ => rfl, (fun h => by cases h)⟩,
    ⟨rfl, fun _ => rfl, fun h => absurd (show (1 : Int) ≤ 0 from h) (by decide), fun h => absurd (show (1 : Int) ≤ 0 from h) (by decide)⟩, rfl, fun cs => rfl⟩
theorem inv_block {len : Int} {p : Pg} {bs : List Bk} {done : List Ln} {offs : List Int} {c sp : Int} {k pg : Bool} (I : Inv len p bs done offs) (ho : BkOk (c, sp, k, pg)) (hz : p.es.length + c.toNat ≤ 100000) :
    ∃ q d o, p.block c sp k pg = some q ∧ Inv len q (bs ++ [(c, sp, k, pg)]) d o ∧ done <+: d ∧ q.es.length = p.es.length + c.toNat := by
  obtain ⟨q, d, o, e1, R1, l1, B1, n1, f1, g1⟩ := block_ok I.R I.B ho hz
  have W1 := block_str I.R I.B I.W ho hz e1
  have hfl : flg false true (bs ++ [(c, sp, k, pg)]) = ((if c > 0 then k else (flg false true bs).1), ((flg false true bs).2 || pg) && decide (c ≤ 0)) := by
    rw [flg_app]; rfl
  have hln : lns false true (bs ++ [(c, sp, k, pg)]) = lns false true bs ++ blkL c sp (flg false true bs).1 ((flg false true bs).2 || pg) := by
    rw [lns_app]
    show _ ++ (blkL c sp _ _ ++ []) = _
    rw [List.append_nil]
  refine ⟨q, d, o, e1, ⟨R1, by rw [hfl]; exact B1, by rw [hfl, hln]; exact W1, l1.trans I.l, fun cs => ?_⟩, g1, n1⟩
  rw [List.append_assoc, hfl]
  show fin len 0 [] (lns false true (bs ++ ((c, sp, k, pg) :: cs))) = _
  rw [I.f, ← I.l]
  exact f1 cs
end Mr

set_option linter.all false
set_option maxRecDepth 100000
set_option maxHeartbeats 1000000
/-! SimP: a page that goes on behind a standing, beside the page that the blocks of its lead made. -/
namespace Mr
theorem shI_right {A X : List Ln} {k i : Nat} {s : Int} : shI (A.length + k) i (A ++ X) s = A ++ shI k i X s := by
  unfold shI
  rw [List.mapIdx_append]
  congr 1
  · apply List.ext_getElem
    · simp
    · intro j h1 h2
      have hj : j < A.length := by simpa using h1
      simp only [List.getElem_mapIdx]
      rw [if_neg (by omega)]
  · apply List.ext_getElem
    · simp
    · intro j h1 h2
      simp only [List.getElem_mapIdx]
      by_cases h : k ≤ j ∧ j < k + i
      · rw [if_pos h, if_pos (by omega)]
      · rw [if_neg h, if_neg (by omega)]
theorem shI_all {A X : List Ln} {k i : Nat} {s : Int} (h1 : k ≤ A.length) (h2 : k + i = A.length + X.length) : ∃ A', A'.length = A.length ∧ shI k i (A ++ X) s = A' ++ X.map fun e => (e.1, e.2 - s) := by
  unfold shI
  rw [List.mapIdx_append]
  refine ⟨List.mapIdx (fun j e => if k ≤ j ∧ j < k + i then (e.fst, e.snd - s) else e) A, by simp, ?_⟩
  congr 1
  · apply List.ext_getElem
    · simp
    · intro j h3 h4
      have hj : j < X.length := by simpa using h3
      simp only [List.getElem_mapIdx, List.getElem_map]
      rw [if_pos (by omega)]
/-- p goes on as q does; A: what stood before -/
structure Sim (n0 : Nat) (p : Px) (q : Pg) : Prop where
  len : p.len = q.len
  high : p.high = q.high
  bar : p.bar = q.bar
  es : ∃ A Gh X : List Ln, q.es = A ++ X ∧ p.es = Gh ++ X ∧ A.length = n0 ∧ Gh.length = p.gh ∧
    ((q.nl = p.nl ∧ p.nl ≤ X.length) ∨ (p.gh = 1 ∧ p.nl = 1 + X.length ∧ ∃ k r, 1 ≤ k ∧ k ≤ n0 ∧ q.nl = k + X.length ∧ p.es[0]? = some (false, r) ∧ q.es[n0 - k]? = some (false, r)))
  gh : p.gh ≤ n0
theorem Sim.fin {n0 : Nat} {p : Px} {q : Pg} (S : Sim n0 p q) : p.es.drop p.gh = q.es.drop n0 ∧ p.es.length ≤ q.es.length ∧ p.es.length + n0 = q.es.length + p.gh := by
  obtain ⟨A, Gh, X, h1, h2, h3, h4, _⟩ := S.es
  have := S.gh
  rw [h1, h2, ← h3, ← h4, List.drop_left, List.drop_left]
  refine ⟨rfl, ?_, ?_⟩
  · simp; omega
  · simp; omega
theorem Sim.stay {n0 : Nat} {p : Px} {q : Pg} (S : Sim n0 p q) {u : Option Bool} {c : Bool} : Sim n0 { p with nl := 0, bar := c, unk := u } { q with nl := 0, bar := c } := by
  obtain ⟨A, Gh, X, h1, h2, h3, h4, _⟩ := S.es
  exact ⟨S.len, S.high, rfl, ⟨A, Gh, X, h1, h2, h3, h4, .inl ⟨rfl, Nat.zero_le _⟩⟩, S.gh⟩
theorem Sim.zero {n0 : Nat} {p : Px} {q : Pg} (S : Sim n0 p q) : p.nl = 0 ↔ q.nl = 0 := by
  obtain ⟨A, Gh, X, h1, h2, h3, h4, h | ⟨g, h5, k, r, h6, h7, h8, _⟩⟩ := S.es
  · rw [h.1]
  · omega
theorem Sim.over {n0 : Nat} {p : Px} {q q2 : Pg} (S : Sim n0 p q) (h : q.over = some q2) : ∃ p2, p.over = some p2 ∧ Sim n0 p2 q2 ∧ q2.nl = 0 := by
  obtain ⟨A, Gh, X, h1, h2, h3, h4, hc⟩ := S.es
  unfold Pg.over at h
  obtain ⟨f, hf, h⟩ := bindS h
  by_cases hz : q.nl = 0
  · rw [if_pos hz] at h; cases h
  · rw [if_neg hz] at h
    have h := Option.some.inj h
    have hpz : ¬ p.nl = 0 := fun e => hz (S.zero.mp e)
    have hql : q.es.length = A.length + X.length := by rw [h1]; simp
    have hpl : p.es.length = Gh.length + X.length := by rw [h2]; simp
    rcases hc with ⟨c1, c2⟩ | ⟨c1, c2, k, r, c3, c4, c5, c6, c7⟩
    · -- the loose lines are all p's own
      have eq1 : q.es.length - q.nl = A.length + (X.length - p.nl) := by omega
      have eq2 : p.es.length - p.nl = Gh.length + (X.length - p.nl) := by omega
      have hfx : X[X.length - p.nl]? = some f := by
        rw [eq1, h1, List.getElem?_append_right (by omega)] at hf
        rw [show A.length + (X.length - p.nl) - A.length = X.length - p.nl by omega] at hf
        exact hf
      have hfp : p.es[p.es.length - p.nl]? = some f := by
        rw [eq2, h2, List.getElem?_append_right (by omega), show Gh.length + (X.length - p.nl) - Gh.length = X.length - p.nl by omega]
        exact hfx
      refine ⟨{ p with es := (shI (p.es.length - p.nl) p.nl p.es f.2).set (p.es.length - p.nl) (true, 0), nl := 0, high := p.high - f.2, unk := some (p.unk.getD true) }, ?_, ?_, by rw [← h]⟩
      · unfold Px.over
        rw [hfp, Option.bind_some, if_neg hpz]
      · rw [← h]
        refine ⟨S.len, by show p.high - f.2 = q.high - f.2; rw [S.high], S.bar, ⟨A, Gh, (shI (X.length - p.nl) p.nl X f.2).set (X.length - p.nl) (true, 0), ?_, ?_, h3, h4, .inl ⟨rfl, Nat.zero_le _⟩⟩, S.gh⟩
        · show (shI (q.es.length - q.nl) q.nl q.es f.2).set (q.es.length - q.nl) (true, 0) = _
          rw [eq1, h1, c1, shI_right, List.set_append_right _ _ (by omega), show A.length + (X.length - p.nl) - A.length = X.length - p.nl by omega]
        · show (shI (p.es.length - p.nl) p.nl p.es f.2).set (p.es.length - p.nl) (true, 0) = _
          rw [eq2, h2, shI_right, List.set_append_right _ _ (by omega), show Gh.length + (X.length - p.nl) - Gh.length = X.length - p.nl by omega]
    · have eq1 : q.es.length - q.nl = n0 - k := by omega
      have eq2 : p.es.length - p.nl = 0 := by omega
      have hfr : f = (false, r) := by
        rw [eq1, c7] at hf
        exact (Option.some.inj hf).symm
      subst hfr
      have hfp : p.es[p.es.length - p.nl]? = some (false, r) := by rw [eq2]; exact c6
      obtain ⟨A', a1, a2⟩ := shI_all (A := A) (X := X) (k := n0 - k) (i := q.nl) (s := r) (by omega) (by omega)
      obtain ⟨B', b1, b2⟩ := shI_all (A := Gh) (X := X) (k := 0) (i := p.nl) (s := r) (by omega) (by omega)
      refine ⟨{ p with es := (shI (p.es.length - p.nl) p.nl p.es r).set (p.es.length - p.nl) (true, 0), nl := 0, high := p.high - r, unk := some (p.unk.getD true) }, ?_, ?_, by rw [← h]⟩
      · unfold Px.over
        rw [hfp, Option.bind_some, if_neg hpz]
      · rw [← h]
        refine ⟨S.len, by show p.high - r = q.high - r; rw [S.high], S.bar, ⟨A'.set (n0 - k) (true, 0), B'.set 0 (true, 0), X.map fun e => (e.1, e.2 - r), ?_, ?_, by simp [a1, h3], by simp [b1, h4], .inl ⟨rfl, Nat.zero_le _⟩⟩, S.gh⟩
        · show (shI (q.es.length - q.nl) q.nl q.es r).set (q.es.length - q.nl) (true, 0) = _
          rw [eq1, h1, a2, List.set_append_left _ _ (by omega)]
        · show (shI (p.es.length - p.nl) p.nl p.es r).set (p.es.length - p.nl) (true, 0) = _
          rw [eq2, h2, b2, List.set_append_left _ _ (by omega)]
theorem Sim.put {n0 : Nat} {p : Px} {q q2 : Pg} {sp : Int} {b : Bool} (S : Sim n0 p q) (h : q.put sp b = some q2) : ∃ p2, p.put sp b = some p2 ∧ Sim n0 p2 q2 := by
  obtain ⟨f1, f2, f3⟩ := S.fin
  obtain ⟨A, Gh, X, h1, h2, h3, h4, hc⟩ := S.es
  unfold Pg.put at h
  unfold Px.put
  split at h
  · rename_i hz
    rw [if_pos (by omega), S.high, S.len]
    split at h
    · rename_i c1
      cases h
      rw [if_pos c1]
      exact ⟨_, rfl, rfl, rfl, S.bar, ⟨A, Gh, X ++ [(true, 0)], by rw [h1]; simp, by rw [h2]; simp, h3, h4, .inl ⟨rfl, Nat.zero_le _⟩⟩, S.gh⟩
    · rename_i c1
      rw [if_neg c1]
      split at h
      · rename_i c2
        cases h
        rw [if_pos c2]
        exact ⟨_, rfl, rfl, rfl, S.bar, ⟨A, Gh, X ++ [(false, q.high + sp)], by rw [h1]; simp, by rw [h2]; simp, h3, h4, .inl ⟨rfl, by simp⟩⟩, S.gh⟩
      · rename_i c2
        rw [if_neg c2]
        split at h
        · rename_i c3
          cases h
          rw [if_pos (S.zero.mpr c3)]
          exact ⟨_, rfl, rfl, rfl, S.bar, ⟨A, Gh, X ++ [(false, q.high + sp)], by rw [h1]; simp, by rw [h2]; simp, h3, h4, .inl ⟨by show q.nl = p.nl; rw [c3, S.zero.mpr c3], by show p.nl ≤ _; rw [S.zero.mpr c3]; exact Nat.zero_le _⟩⟩, S.gh⟩
        · rename_i c3
          cases h
          rw [if_neg (fun e => c3 (S.zero.mp e))]
          refine ⟨_, rfl, rfl, rfl, S.bar, ⟨A, Gh, X ++ [(false, q.high + sp)], by rw [h1]; simp, by rw [h2]; simp, h3, h4, ?_⟩, S.gh⟩
          rcases hc with ⟨c4, c5⟩ | ⟨d1, d2, k, r, d3, d4, d5, d6, d7⟩
          · exact .inl ⟨by show q.nl + 1 = p.nl + 1; omega, by show p.nl + 1 ≤ _; simp; omega⟩
          · refine .inr ⟨d1, by show p.nl + 1 = _; simp; omega, k, r, d3, d4, by show q.nl + 1 = _; simp; omega, ?_, ?_⟩
            · show (p.es ++ [(false, q.high + sp)])[0]? = _
              rw [List.getElem?_append_left (List.getElem?_eq_some_iff.mp d6).1]; exact d6
            · show (q.es ++ [(false, q.high + sp)])[n0 - k]? = _
              rw [List.getElem?_append_left (List.getElem?_eq_some_iff.mp d7).1]; exact d7
  · cases h
theorem Sim.line {n0 : Nat} {p : Px} {q q2 : Pg} {sp : Int} {b : Bool} (S : Sim n0 p q) (h : q.line sp b = some q2) : ∃ p2, p.line sp b = some p2 ∧ Sim n0 p2 q2 := by
  unfold Pg.line at h
  unfold Px.line
  rw [S.high, S.len]
  by_cases c : 0 < q.high ∧ q.high + sp ≥ q.len ∧ b = true ∧ q.nl ≠ 0
  · rw [if_pos c] at h
    obtain ⟨q1, e1, e2⟩ := bindS h
    obtain ⟨p1, k1, S1, _⟩ := S.over e1
    rw [if_pos ⟨c.1, c.2.1, c.2.2.1, fun e => c.2.2.2 (S.zero.mp e)⟩, k1, Option.bind_some]
    exact S1.put e2
  · rw [if_neg c] at h
    rw [if_neg (fun e => c ⟨e.1, e.2.1, e.2.2.1, fun z => e.2.2.2 (S.zero.mpr z)⟩)]
    exact S.put h
theorem Sim.turns {n0 : Nat} {c sp : Int} : ∀ (ks : List Int) {p : Px} {q q2 : Pg}, Sim n0 p q → folM (Pg.turn c sp) ks q = some q2 → ∃ p2, folM (Px.turn c sp) ks p = some p2 ∧ Sim n0 p2 q2
  | [], p, q, q2, S, h => by cases h; exact ⟨p, rfl, S⟩
  | k :: ks, p, q, q2, S, h => by
    obtain ⟨q1, e1, e2⟩ := bindS (show (Pg.turn c sp q k).bind _ = some q2 from h)
    have h1 : ∃ p1, Px.turn c sp p k = some p1 ∧ Sim n0 p1 q1 := by
      unfold Pg.turn at e1
      unfold Px.turn
      split at e1
      · rename_i c1
        rw [if_pos c1, S.bar]; exact S.line e1
      · rename_i c1
        rw [if_neg c1]; exact S.line e1
    obtain ⟨p1, k1, S1⟩ := h1
    obtain ⟨p2, k2, S2⟩ := Sim.turns ks S1 e2
    exact ⟨p2, bindOk k1 k2, S2⟩
theorem Sim.block {n0 : Nat} {p : Px} {q q2 : Pg} {c sp : Int} {k pg : Bool} (S : Sim n0 p q) (h : q.block c sp k pg = some q2) : ∃ p2, p.block c sp k pg = some p2 ∧ Sim n0 p2 q2 := by
  unfold Pg.block at h
  unfold Px.block
  obtain ⟨ks, e1, h⟩ := bindS h
  obtain ⟨q1, e2, h⟩ := bindS h
  have h := Option.some.inj h
  have S0 : Sim n0 (if pg = true then p.begin else p) (if pg = true then q.begin else q) := by
    cases pg with
    | false => exact S
    | true =>
      obtain ⟨A, Gh, X, h1, h2, h3, h4, _⟩ := S.es
      exact ⟨S.len, rfl, rfl, ⟨A, Gh, X, h1, h2, h3, h4, .inl ⟨rfl, Nat.zero_le _⟩⟩, S.gh⟩
  obtain ⟨p1, k2, S1⟩ := Sim.turns ks S0 e2
  refine ⟨_, bindOk e1 (bindOk k2 rfl), ?_⟩
  rw [← h]
  by_cases hc : c > 0
  · rw [if_pos hc, if_pos hc]
    cases k with
    | true =>
      rw [if_pos rfl, if_pos rfl]
      exact ⟨S1.len, S1.high, rfl, S1.es, S1.gh⟩
    | false =>
      rw [if_neg (by simp), if_neg (by simp)]
      exact S1.stay
  · rw [if_neg hc, if_neg hc]; exact S1
end Mr

set_option Elab.async false
set_option linter.all false
set_option maxRecDepth 100000
set_option maxHeartbeats 1000000
/-! Stnd: the standings that a length has, and the pages of their leads. -/
namespace Mr
open PySem
abbrev St := Wd × Int × Int
def stE (z : St) : PyData := .tuple [.str (e_Wd z.1), .int z.2.1, .int z.2.2]
/-- as found, before the sort -/
def stU (length1 : Int) : Option (List St) := (rng2M 1 (length1 + 1)).bind fun xs => folM (m_standings_b1 length1) xs [(Wd.top, 0, 0)]
def stGood (len : Int) (z : St) : Bool := (decide (z = (Wd.top, 0, 0)) || (decide (z.1 = Wd.opn) && decide (1 ≤ z.2.1) && decide (z.2.1 < len) && decide (z.2.2 = 0))) || (decide (z.1 = Wd.kept) && decide (1 ≤ z.2.1) && decide (z.2.1 ≤ len) && decide (0 ≤ z.2.2) && decide (z.2.2 < z.2.1) && (decide (z.2.1 < len) || decide (z.2.2 > 0)))
def nums (n : Nat) : List Int := (List.range n).map fun (i : Nat) => (i : Int)
def kp (h b : Int) : St := (Wd.kept, h, b)
def op (h : Int) : St := (Wd.opn, h, 0)
def tp : St := (Wd.top, 0, 0)
def stL : Nat → List St
  | 2 => [kp 1 0, kp 2 1, op 1, tp]
  | 3 => [kp 1 0, kp 2 0, kp 2 1, kp 3 1, kp 3 2, op 1, op 2, tp]
  | 4 => [kp 1 0, kp 2 0, kp 2 1, kp 3 0, kp 3 1, kp 3 2, kp 4 1, kp 4 2, kp 4 3, op 1, op 2, op 3, tp]
  | 5 => [kp 1 0, kp 2 0, kp 2 1, kp 3 0, kp 3 1, kp 3 2, kp 4 0, kp 4 1, kp 4 2, kp 4 3, kp 5 1, kp 5 2, kp 5 3, kp 5 4, op 1, op 2, op 3, op 4, tp]
  | 6 => [kp 1 0, kp 2 0, kp 2 1, kp 3 0, kp 3 1, kp 3 2, kp 4 0, kp 4 1, kp 4 2, kp 4 3, kp 5 0, kp 5 1, kp 5 2, kp 5 3, kp 5 4, kp 6 1, kp 6 2, kp 6 3, kp 6 4, kp 6 5, op 1, op 2, op 3, op 4, op 5, tp]
  | 7 => [kp 1 0, kp 2 0, kp 2 1, kp 3 0, kp 3 1, kp 3 2, kp 4 0, kp 4 1, kp 4 2, kp 4 3, kp 5 0, kp 5 1, kp 5 2, kp 5 3, kp 5 4, kp 6 0, kp 6 1, kp 6 2, kp 6 3, kp 6 4, kp 6 5, kp 7 1, kp 7 2, kp 7 3, kp 7 4, kp 7 5, kp 7 6, op 1, op 2, op 3, op 4, op 5, op 6, tp]
  | 8 => [kp 1 0, kp 2 0, kp 2 1, kp 3 0, kp 3 1, kp 3 2, kp 4 0, kp 4 1, kp 4 2, kp 4 3, kp 5 0, kp 5 1, kp 5 2, kp 5 3, kp 5 4, kp 6 0, kp 6 1, kp 6 2, kp 6 3, kp 6 4, kp 6 5, kp 7 0, kp 7 1, kp 7 2, kp 7 3, kp 7 4, kp 7 5, kp 7 6, kp 8 1, kp 8 2, kp 8 3, kp 8 4, kp 8 5, kp 8 6, kp 8 7, op 1, op 2, op 3, op 4, op 5, op 6, op 7, tp]
  | 9 => [kp 1 0, kp 2 0, kp 2 1, kp 3 0, kp 3 1, kp 3 2, kp 4 0, kp 4 1, kp 4 2, kp 4 3, kp 5 0, kp 5 1, kp 5 2, kp 5 3, kp 5 4, kp 6 0, kp 6 1, kp 6 2, kp 6 3, kp 6 4, kp 6 5, kp 7 0, kp 7 1, kp 7 2, kp 7 3, kp 7 4, kp 7 5, kp 7 6, kp 8 0, kp 8 1, kp 8 2, kp 8 3, kp 8 4, kp 8 5, kp 8 6, kp 8 7, kp 9 1, kp 9 2, kp 9 3, kp 9 4, kp 9 5, kp 9 6, kp 9 7, kp 9 8, op 1, op 2, op 3, op 4, op 5, op 6, op 7, op 8, tp]
  | _ => []
def c1o (sl : List St) : Option (List St) → Bool
  | some U => U.isPerm sl && decide (U.length ≤ 1000)
  | none => false
def c1 (n : Nat) : Bool := c1o (stL n) (stU (n : Int))
def c2 (n : Nat) : Bool := decide (m_law_standings (n : Int) = some (stL n))
def pwB {α : Type} (r : α → α → Bool) : List α → Bool
  | [] => true
  | x :: xs => xs.all (r x) && pwB r xs
theorem pwB_iff {α : Type} {r : α → α → Bool} : ∀ {xs : List α}, pwB r xs = true → xs.Pairwise fun a b => r a b = true
  | [], _ => .nil
  | x :: xs, h => by
    have h := (Bool.and_eq_true ..).mp h
    exact .cons (fun y hy => List.all_eq_true.mp h.1 y hy) (pwB_iff h.2)
def c3 (n : Nat) : Bool := pwB (fun a b => PySem.W.dataLe false stE a b && !PySem.W.dataLe false stE b a) (stL n)
def c4 (n : Nat) : Bool := (stL n).all (stGood (n : Int)) && memB (Wd.top, (0 : Int), (0 : Int)) (stL n)
def ldF (n : Int) (bs : List Bk) : Option Pg := folM (fun p y => Pg.block p y.1 y.2.1 y.2.2.1 y.2.2.2) bs (Pg.new n)
def simChk (n : Int) (z : St) (q : Pg) : Bool := (decide (q.high = z.2.1) && (decide (q.bar = decide (z.1 = Wd.kept)) && decide (q.len = n))) && (if z.2.2 > 0 then decide (1 ≤ q.nl) && (decide (q.nl ≤ q.es.length) && decide (q.es[q.es.length - q.nl]? = some (false, z.2.1 - z.2.2))) else decide (q.nl = 0))
def c6 (n : Nat) : Bool := (stL n).all fun z => match m_law_lead z with
  | some bs => (match ldF (n : Int) bs with
    | some q => simChk (n : Int) z q
    | none => false) && (bs.all (fun y => decide (y.1 = 1 ∧ y.2.1 = 0)) && decide (bs.length ≤ 20))
  | none => false
theorem c1_2 : c1 2 = true := by decide +kernel
theorem c1_3 : c1 3 = true := by decide +kernel
theorem c1_4 : c1 4 = true := by decide +kernel
theorem c1_5 : c1 5 = true := by decide +kernel
theorem c1_6 : c1 6 = true := by decide +kernel
theorem c1_7 : c1 7 = true := by decide +kernel
theorem c1_8 : c1 8 = true := by decide +kernel
theorem c1_9 : c1 9 = true := by decide +kernel
theorem c2_2 : c2 2 = true := by decide +kernel
theorem c2_3 : c2 3 = true := by decide +kernel
theorem c2_4 : c2 4 = true := by decide +kernel
theorem c2_5 : c2 5 = true := by decide +kernel
theorem c2_6 : c2 6 = true := by decide +kernel
theorem c2_7 : c2 7 = true := by decide +kernel
theorem c2_8 : c2 8 = true := by decide +kernel
theorem c2_9 : c2 9 = true := by decide +kernel
theorem c3_2 : c3 2 = true := by decide +kernel
theorem c3_3 : c3 3 = true := by decide +kernel
theorem c3_4 : c3 4 = true := by decide +kernel
theorem c3_5 : c3 5 = true := by decide +kernel
theorem c3_6 : c3 6 = true := by decide +kernel
theorem c3_7 : c3 7 = true := by decide +kernel
theorem c3_8 : c3 8 = true := by decide +kernel
theorem c3_9 : c3 9 = true := by decide +kernel
theorem c4_2 : c4 2 = true := by decide +kernel
theorem c4_3 : c4 3 = true := by decide +kernel
theorem c4_4 : c4 4 = true := by decide +kernel
theorem c4_5 : c4 5 = true := by decide +kernel
theorem c4_6 : c4 6 = true := by decide +kernel
theorem c4_7 : c4 7 = true := by decide +kernel
theorem c4_8 : c4 8 = true := by decide +kernel
theorem c4_9 : c4 9 = true := by decide +kernel
theorem c6_2 : c6 2 = true := by decide +kernel
theorem c6_3 : c6 3 = true := by decide +kernel
theorem c6_4 : c6 4 = true := by decide +kernel
theorem c6_5 : c6 5 = true := by decide +kernel
theorem c6_6 : c6 6 = true := by decide +kernel
theorem c6_7 : c6 7 = true := by decide +kernel
theorem c6_8 : c6 8 = true := by decide +kernel
theorem c6_9 : c6 9 = true := by decide +kernel
theorem st_len {len : Int} (h0 : 2 ≤ len) (h1 : len ≤ 9) : ∃ n : Nat, len = (n : Int) ∧ (c1 n = true ∧ c2 n = true ∧ c3 n = true) ∧ (c4 n = true ∧ c6 n = true) := by
  refine ⟨len.toNat, by omega, ?_⟩
  have : len.toNat = 2 ∨ len.toNat = 3 ∨ len.toNat = 4 ∨ len.toNat = 5 ∨ len.toNat = 6 ∨ len.toNat = 7 ∨ len.toNat = 8 ∨ len.toNat = 9 := by omega
  rcases this with h | h | h | h | h | h | h | h <;> rw [h]
  · exact ⟨⟨c1_2, c2_2, c3_2⟩, c4_2, c6_2⟩
  · exact ⟨⟨c1_3, c2_3, c3_3⟩, c4_3, c6_3⟩
  · exact ⟨⟨c1_4, c2_4, c3_4⟩, c4_4, c6_4⟩
  · exact ⟨⟨c1_5, c2_5, c3_5⟩, c4_5, c6_5⟩
  · exact ⟨⟨c1_6, c2_6, c3_6⟩, c4_6, c6_6⟩
  · exact ⟨⟨c1_7, c2_7, c3_7⟩, c4_7, c6_7⟩
  · exact ⟨⟨c1_8, c2_8, c3_8⟩, c4_8, c6_8⟩
  · exact ⟨⟨c1_9, c2_9, c3_9⟩, c4_9, c6_9⟩
theorem mem_nums {x : Int} {n : Nat} (h0 : 0 ≤ x) (h1 : x < (n : Int)) : x ∈ nums n := List.mem_map.mpr ⟨x.toNat, List.mem_range.mpr (by omega), by omega⟩
/-- the standings of a length: sorted, all good, with whatever a page leaves -/
structure Stands (len : Int) (L : List St) : Prop where
  lw : m_law_standings len = some L
  st : m_standings len = some L
  sz : L.length ≤ 1000
  gd : ∀ z ∈ L, stGood len z = true
  tp : (Wd.top, (0 : Int), (0 : Int)) ∈ L
  ld : ∀ z ∈ L, ∃ bs q, m_law_lead z = some bs ∧ ldF len bs = some q ∧ simChk len z q = true ∧ (∀ y ∈ bs, y.1 = 1 ∧ y.2.1 = 0) ∧ bs.length ≤ 20
theorem stE_total : PySem.W.TotalLe (PySem.W.dataLe (β := St) false stE) := PySem.W.sortLe_total (PyProof.Rows.listOrd PyProof.Rows.itemOrd) false fun b => PySem.W.keyToks (stE b)
theorem sort_one {α : Type} {le : α → α → Bool} (T : PySem.W.TotalLe le) {U sl : List α} (p1 : U.Perm sl) (p3 : pwB (fun a b => le a b && !le b a) sl = true) : U.mergeSort le = sl := by
  have p3 := pwB_iff p3
  refine List.Perm.eq_of_pairwise (le := fun a b => le a b = true) (fun a b ha hb e1 e2 => ?_) (List.pairwise_mergeSort T.trans (fun a b => by
    rcases T.total a b with h | h
    · exact (Bool.or_eq_true ..).mpr (.inl h)
    · exact (Bool.or_eq_true ..).mpr (.inr h)) U) (p3.imp fun h => ((Bool.and_eq_true ..).mp h).1) ((List.mergeSort_perm U _).trans p1)
  have ha' : a ∈ sl := p1.subset ((List.mergeSort_perm U _).subset ha)
  obtain ⟨i, hi, rfl⟩ := List.mem_iff_getElem.mp ha'
  obtain ⟨j, hj, rfl⟩ := List.mem_iff_getElem.mp hb
  have hp := List.pairwise_iff_getElem.mp p3
  rcases Nat.lt_trichotomy i j with hij | hij | hij
  · have := ((Bool.and_eq_true ..).mp (hp i j hi hj hij)).2
    rw [e2] at this; cases this
  · subst hij; rfl
  · have := ((Bool.and_eq_true ..).mp (hp j i hj hi hij)).2
    rw [e1] at this; cases this
theorem sorted_st {n : Int} {U sl : List St} (hU : stU n = some U) (p1 : U.Perm sl) (p0 : U.length ≤ 1000) (p3 : pwB (fun a b => PySem.W.dataLe false stE a b && !PySem.W.dataLe false stE b a) sl = true) : m_standings n = some sl := by
  have hsort := sort_one stE_total p1 p3
  unfold stU at hU
  obtain ⟨xs, e1, e2⟩ := bindS hU
  have hs : sortM stE U = some sl := by
    unfold sortM
    rw [if_pos (by omega), hsort]
  unfold m_standings
  exact bindOk e1 (bindOk e2 (bindOk (a := sl) hs rfl))
theorem u1o {sl : List St} : ∀ {o : Option (List St)}, c1o sl o = true → ∃ U, o = some U ∧ U.Perm sl ∧ U.length ≤ 1000
  | some U, h => ⟨U, rfl, List.isPerm_iff.mp ((Bool.and_eq_true ..).mp h).1, of_decide_eq_true ((Bool.and_eq_true ..).mp h).2⟩
  | none, h => by cases h
theorem u1 {n : Nat} (p1 : c1 n = true) : ∃ U, stU (n : Int) = some U ∧ U.Perm (stL n) ∧ U.length ≤ 1000 := u1o p1
theorem u2 {n : Nat} (p2 : c2 n = true) : m_law_standings (n : Int) = some (stL n) := by
  unfold c2 at p2
  exact of_decide_eq_true p2
theorem u4 {n : Nat} (p4 : c4 n = true) : (∀ z ∈ stL n, stGood (n : Int) z = true) ∧ (Wd.top, (0 : Int), (0 : Int)) ∈ stL n := by
  unfold c4 at p4
  have p4 := (Bool.and_eq_true ..).mp p4
  exact ⟨List.all_eq_true.mp p4.1, memB_iff.mp p4.2⟩
theorem u6 {n : Nat} (p6 : c6 n = true) : ∀ z ∈ stL n, ∃ bs q, m_law_lead z = some bs ∧ ldF (n : Int) bs = some q ∧ simChk (n : Int) z q = true ∧ (∀ y ∈ bs, y.1 = 1 ∧ y.2.1 = 0) ∧ bs.length ≤ 20 := by
  intro z hz
  unfold c6 at p6
  have h := List.all_eq_true.mp p6 z hz
  cases hl : m_law_lead z with
  | none => rw [hl] at h; cases h
  | some bs =>
    rw [hl] at h
    have h := (Bool.and_eq_true ..).mp h
    have h2 := (Bool.and_eq_true ..).mp h.2
    cases hq : ldF (n : Int) bs with
    | none => rw [hq] at h; cases h.1
    | some q =>
      rw [hq] at h
      exact ⟨bs, q, rfl, hq, h.1, fun y hy => of_decide_eq_true (List.all_eq_true.mp h2.1 y hy), of_decide_eq_true h2.2⟩
theorem standings_ex {len : Int} (h0 : 2 ≤ len) (h1 : len ≤ 9) : Stands len (stL len.toNat) := by
  obtain ⟨n, rfl, ⟨p1, p2, p3⟩, p4, p6⟩ := st_len h0 h1
  rw [Int.toNat_natCast]
  obtain ⟨U, hU, pp, p0⟩ := u1 p1
  unfold c3 at p3
  exact ⟨u2 p2, sorted_st hU pp p0 p3, (by have := pp.length_eq; omega), (u4 p4).1, (u4 p4).2, u6 p6⟩
end Mr

set_option linter.all false
set_option maxRecDepth 100000
set_option maxHeartbeats 1000000
/-! DrawB: the law's drawn blocks and lengths. -/
namespace Mr
theorem draw_any {b : List Int} {n : Int} (hb : BagOk b) (h0 : 0 < n) (hl : n.natAbs.log2 < 9000) : ∃ x b', m_law_draw b n = some (x, b') ∧ 0 ≤ x ∧ x < n ∧ BagOk b' := by
  obtain ⟨g, m, c, rfl⟩ := hb
  unfold m_law_draw
  by_cases hg : decide (g > 0) = true
  · exact ⟨g % n, [g / n, m, c], bindOk (a := g) rfl ((if_pos hg).trans (bindOk (a := g) rfl (bindOk (modM_pos h0) (bindOk (a := g) rfl (bindOk (fdivM_ok h0 hl) (bindOk (a := [g / n, m, c]) rfl rfl)))))),
      Int.emod_nonneg _ (by omega), Int.emod_lt_of_pos _ h0, _, _, _, rfl⟩
  · refine ⟨_, [g, (m * 48271 + 11 * (c + 1) + 7) % 2147483647, c + 1], bindOk (a := g) rfl ((if_neg hg).trans (bindOk (a := c) rfl (bindOk (a := [g, m, c + 1]) rfl (bindOk (a := m) rfl (bindOk (a := c + 1) rfl (bindOk (a := [g, (m * 48271 + 11 * (c + 1) + 7) % 2147483647, c + 1]) rfl
      (bindOk (a := (m * 48271 + 11 * (c + 1) + 7) % 2147483647) rfl (bindOk (a := c + 1) rfl (bindOk (modM_pos h0) rfl))))))))), ?_, ?_, _, _, _, rfl⟩
    · exact Int.emod_nonneg _ (by omega)
    · exact Int.emod_lt_of_pos _ h0
theorem block_drawM {b : List Int} {m : Int} (hm0 : 0 ≤ m) (hm1 : m ≤ 30) (hb : BagOk b) : ∃ x b', m_law_block b m = some (x, b') ∧ 0 ≤ x.1 ∧ x.1 ≤ 30 ∧ 0 ≤ x.2.1 ∧ BagOk b' := by
  unfold m_law_block
  obtain ⟨x1, b1, e1, h1, h1', B1⟩ := draw_ok hb (n := 4) (by decide) (by decide)
  have hA : ∃ x b', (Option.bind (m_law_draw b (4 : Int)) fun (r1, bag_here2) =>
  if (decide (r1 = (3 : Int))) then (Option.bind (m_law_draw bag_here2 (m + (1 : Int))) fun (r2, bag_here3) =>
  some (r2, bag_here3)) else (Option.bind (m_law_draw bag_here2 (5 : Int)) fun (r3, bag_here4) =>
  some (r3, bag_here4))) = some (x, b') ∧ 0 ≤ x ∧ x ≤ 30 ∧ BagOk b' := by
    by_cases h3 : x1 = 3
    · obtain ⟨x2, b2, e2, h2, h2', B2⟩ := draw_ok B1 (n := m + 1) (by omega) (by omega)
      exact ⟨x2, b2, bindOk e1 ((if_pos (by simpa using h3)).trans (bindOk e2 rfl)), h2, by omega, B2⟩
    · obtain ⟨x2, b2, e2, h2, h2', B2⟩ := draw_ok B1 (n := 5) (by decide) (by decide)
      exact ⟨x2, b2, bindOk e1 ((if_neg (by simpa using h3)).trans (bindOk e2 rfl)), h2, by omega, B2⟩
  obtain ⟨x, b2, e2, h2, h2', B2⟩ := hA
  obtain ⟨x3, b3, e3, h3, h3', B3⟩ := draw_ok B2 (n := 3) (by decide) (by decide)
  obtain ⟨x4, b4, e4, h4, h4', B4⟩ := draw_ok B3 (n := 2) (by decide) (by decide)
  obtain ⟨x5, b5, e5, h5, h5', B5⟩ := draw_ok B4 (n := 8) (by decide) (by decide)
  exact ⟨(x, x3, decide (x4 = 1), decide (x5 = 7)), b5, bindOk e2 (bindOk e3 (bindOk e4 (bindOk e5 rfl))), h2, h2', h3, B5⟩
theorem block_draw {b : List Int} (hb : BagOk b) : ∃ x b', m_law_block b 30 = some (x, b') ∧ 0 ≤ x.1 ∧ x.1 ≤ 30 ∧ 0 ≤ x.2.1 ∧ BagOk b' := block_drawM (by decide) (by decide) hb
theorem length_draw {b : List Int} (hb : BagOk b) : ∃ x b', m_law_length b = some (x, b') ∧ 2 ≤ x ∧ x ≤ 9 ∧ BagOk b' := by
  unfold m_law_length
  obtain ⟨x1, b1, e1, h1, h1', B1⟩ := draw_ok hb (n := 4) (by decide) (by decide)
  by_cases h3 : x1 = 3
  · obtain ⟨x2, b2, e2, h2, h2', B2⟩ := draw_ok B1 (n := 8) (by decide) (by decide)
    exact ⟨2 + x2, b2, bindOk (a := (x2, b2)) (bindOk e1 ((if_pos (by simpa using h3)).trans (bindOk e2 rfl))) rfl, by omega, by omega, B2⟩
  · obtain ⟨x2, b2, e2, h2, h2', B2⟩ := draw_ok B1 (n := 3) (by decide) (by decide)
    exact ⟨2 + x2, b2, bindOk (a := (x2, b2)) (bindOk e1 ((if_neg (by simpa using h3)).trans (bindOk e2 rfl))) rfl, by omega, by omega, B2⟩
theorem cnt_le : ∀ (bs : List Bk), (∀ y ∈ bs, BkOk y ∧ y.1 ≤ 30) → cnt bs ≤ 30 * bs.length
  | [], _ => by simp [cnt]
  | y :: bs, h => by
    have h1 := (h y (List.mem_cons_self ..)).2
    have h2 := cnt_le bs fun z hz => h z (List.mem_cons_of_mem _ hz)
    have e : cnt (y :: bs) = y.1.toNat + cnt bs := by simp [cnt]
    rw [e, List.length_cons]; omega

theorem cut_pre {pre t : List Bk} {b : Bk} : cutM (pre ++ b :: t) none (some ((pre.length : Int) + 1)) = pre ++ [b] := by
  have e : (pre.length : Int) + 1 = ((pre.length + 1 : Nat) : Int) := by omega
  rw [e, cutM_take (by simp)]
  rw [show pre ++ b :: t = (pre ++ [b]) ++ t by simp]
  exact List.take_left' (by simp)
theorem cnt_app (a b : List Bk) : cnt (a ++ b) = cnt a + cnt b := by simp [cnt]
end Mr

set_option linter.all false
set_option maxRecDepth 100000
set_option maxHeartbeats 1000000
/-! Res: what a resumed page puts is what the law says stands behind the lead. -/
namespace Mr
theorem checked_ok {len : Int} {L : List St} {st : St} (S : Stands len L) (hm : st ∈ L) : m_checked_standing len st = some (.ok st) := by
  unfold m_checked_standing
  refine (if_neg (by simp)).trans (bindOk (a := false) ?_ ((if_neg (by simp)).trans (bindOk S.st (if_neg (by rw [memB_iff.mpr hm]; simp)))))
  exact (if_neg (by simp)).trans (bindOk (a := true) rfl rfl)
theorem lead_ok {bs : List Bk} (h : ∀ y ∈ bs, y.1 = 1 ∧ y.2.1 = 0) (hl : bs.length ≤ 20) : (∀ y ∈ bs, BkOk y) ∧ cnt bs ≤ 600 := by
  have h1 : ∀ y ∈ bs, BkOk y ∧ y.1 ≤ 30 := fun y hy => ⟨⟨by rw [(h y hy).1]; decide, by rw [(h y hy).1]; decide, by rw [(h y hy).2]; decide⟩, by rw [(h y hy).1]; decide⟩
  exact ⟨fun y hy => (h1 y hy).1, Nat.le_trans (cnt_le bs h1) (by omega)⟩
theorem inv_run {len : Int} : ∀ (t pre : List Bk) (p q : Pg) (done : List Ln) (offs : List Int), Inv len p pre done offs → (∀ y ∈ t, BkOk y) → p.es.length + cnt t ≤ 100000 → folM (fun p y => Pg.block p y.1 y.2.1 y.2.2.1 y.2.2.2) t p = some q →
    (∃ d o, Inv len q (pre ++ t) d o) ∧ q.es.length = p.es.length + cnt t
  | [], pre, p, q, done, offs, I, _, _, h => by
    cases h
    exact ⟨⟨done, offs, by rw [List.append_nil]; exact I⟩, by simp [cnt]⟩
  | (c, sp, k, pg) :: t, pre, p, q, done, offs, I, ho, hz, h => by
    have hcn : cnt ((c, sp, k, pg) :: t) = c.toNat + cnt t := by simp [cnt]
    rw [hcn] at hz ⊢
    obtain ⟨p1, d, o, h1, I1, _, hn⟩ := inv_block I (ho _ (List.mem_cons_self ..)) (by omega)
    obtain ⟨p1', e1, e2⟩ := bindS (show (Pg.block p c sp k pg).bind _ = some q from h)
    rw [h1] at e1
    cases e1
    obtain ⟨hI, hl⟩ := inv_run t (pre ++ [(c, sp, k, pg)]) p1 q d o I1 (fun y hy => ho y (List.mem_cons_of_mem _ hy)) (by omega) e2
    rw [List.append_assoc] at hI
    exact ⟨hI, by omega⟩
/-- blocks on both pages -/
theorem sim_run {len : Int} {n0 : Nat} : ∀ (t pre : List Bk) (p : Pg) (x : Px) (done : List Ln) (offs : List Int), Inv len p pre done offs → Sim n0 x p → (∀ y ∈ t, BkOk y) → p.es.length + cnt t ≤ 100000 →
    ∃ q y d o, Inv len q (pre ++ t) d o ∧ Sim n0 y q ∧ folM m_law_resumed_b1 t x = some y ∧ q.es.length = p.es.length + cnt t
  | [], pre, p, x, done, offs, I, S, _, _ => ⟨p, x, done, offs, by rw [List.append_nil]; exact I, S, rfl, by simp [cnt]⟩
  | (c, sp, k, pg) :: t, pre, p, x, done, offs, I, S, ho, hz => by
    have hcn : cnt ((c, sp, k, pg) :: t) = c.toNat + cnt t := by simp [cnt]
    rw [hcn] at hz ⊢
    obtain ⟨p1, d, o, h1, I1, _, hn⟩ := inv_block I (ho _ (List.mem_cons_self ..)) (by omega)
    obtain ⟨x1, e1, S1⟩ := S.block h1
    obtain ⟨q, y, d2, o2, I2, S2, e2, hl⟩ := sim_run t (pre ++ [(c, sp, k, pg)]) p1 x1 d o I1 S1 (fun y hy => ho y (List.mem_cons_of_mem _ hy)) (by omega)
    rw [List.append_assoc] at I2
    refine ⟨q, y, d2, o2, I2, S2, ?_, by omega⟩
    have e : m_law_resumed_b1 x (c, sp, k, pg) = some x1 := by
      unfold m_law_resumed_b1
      exact bindOk e1 rfl
    exact bindOk e e2
theorem sim_start {len : Int} {z : St} {q : Pg} (h : simChk len z q = true) : Sim q.es.length (Px.res len z) q := by
  unfold simChk at h
  obtain ⟨h1, h2⟩ := (Bool.and_eq_true ..).mp h
  obtain ⟨h3, h4⟩ := (Bool.and_eq_true ..).mp h1
  obtain ⟨h5, h6⟩ := (Bool.and_eq_true ..).mp h4
  have h3 := of_decide_eq_true h3
  have h5 := of_decide_eq_true h5
  have h6 := of_decide_eq_true h6
  unfold Px.res
  by_cases c : z.2.2 > 0
  · rw [if_pos c] at h2 ⊢
    obtain ⟨k1, k2⟩ := (Bool.and_eq_true ..).mp h2
    obtain ⟨k3, k4⟩ := (Bool.and_eq_true ..).mp k2
    have k1 := of_decide_eq_true k1
    have k3 := of_decide_eq_true k3
    have k4 := of_decide_eq_true k4
    exact ⟨h6.symm, h3.symm, h5.symm, ⟨q.es, [(false, z.2.1 - z.2.2)], [], by simp, rfl, rfl, rfl, .inr ⟨rfl, rfl, q.nl, z.2.1 - z.2.2, k1, k3, rfl, rfl, k4⟩⟩, by show 1 ≤ _; omega⟩
  · rw [if_neg c] at h2 ⊢
    have h2 := of_decide_eq_true h2
    exact ⟨h6.symm, h3.symm, h5.symm, ⟨q.es, [], [], by simp, rfl, rfl, rfl, .inl ⟨h2, Nat.zero_le _⟩⟩, Nat.zero_le _⟩
theorem cp_go2 : ∀ (xs acc : List Ln), acc.length + xs.length ≤ 100000 → folM cpE xs acc = some (acc ++ xs) := cp_go
theorem cutM_from {α : Type} {xs : List α} {n : Nat} (h : n ≤ xs.length) : cutM xs (some (n : Int)) none = xs.drop n := by
  have e : slIx xs.length 0 (some (n : Int)) = n := by
    show (if (n : Int) < 0 then ((n : Int) + (xs.length : Int)).toNat else min (n : Int).toNat xs.length) = n
    rw [if_neg (by omega)]; omega
  have e2 : slIx xs.length xs.length none = xs.length := rfl
  unfold cutM
  rw [e, e2]
  exact List.take_of_length_le (by simp)
theorem behind_resumed {len : Int} {L : List St} (G : Stands len L) {z : St} (hz : z ∈ L) {rest : List Bk} (ho : ∀ y ∈ rest, BkOk y) (hc : cnt rest ≤ 40000) (hrl : rest.length ≤ 1000) :
    ∃ xs, m_law_behind len z rest = some xs ∧ m_law_resumed len z rest = some xs := by
  obtain ⟨bs, q, e1, e2, e3, e4, e5⟩ := G.ld z hz
  obtain ⟨o1, o2⟩ := lead_ok e4 e5
  obtain ⟨⟨d, o, I⟩, hl⟩ := inv_run bs [] (Pg.new len) q [] [] (inv_new len) o1 (by show 0 + cnt bs ≤ _; omega) e2
  have I0 : Inv len q bs d o := I
  have hql : q.es.length = cnt bs := by rw [hl]; show 0 + cnt bs = _; omega
  have S := sim_start e3
  obtain ⟨q2, y, d2, o2', I2, S2, f1, f2⟩ := sim_run rest bs q (Px.res len z) d o I0 S ho (by omega)
  obtain ⟨g1, g2, g3⟩ := S2.fin
  have hall : ∀ b ∈ bs ++ rest, BkOk b := fun b hb => by
    rcases List.mem_append.mp hb with h | h
    · exact o1 b h
    · exact ho b h
  have hcnt : cnt (bs ++ rest) = cnt bs + cnt rest := cnt_app _ _
  have hbl : bs.length ≤ 20 := e5
  have hll : (lns false true bs).length = q.es.length := by rw [lns_length bs _ _ o1, hql]
  refine ⟨q2.es.drop q.es.length, ?_, ?_⟩
  · have hp : m_law_pages len (lns false true (bs ++ rest)) = some q2.es := by
      rw [law_pages_ok (by rw [lns_length _ _ _ hall]; omega) (lns_nonneg _ _ _ hall), I2.es]
    unfold m_law_behind
    refine bindOk e1 (bindOk (if_pos (by omega)) (bindOk (law_lines_ok2 hall (by omega)) (bindOk hp (bindOk (law_lines_ok2 o1 (by omega)) ?_))))
    show some (cutM q2.es (some ((lns false true bs).length : Int)) none) = _
    rw [hll, cutM_from (by omega)]
  · unfold m_law_resumed
    refine bindOk (a := Px.res len z) (bindOk (a := z) (by rw [checked_ok G hz]; rfl) rfl) (bindOk f1 (bindOk (a := q2.es.drop q.es.length) ?_ rfl))
    unfold Px.fin
    rw [g1]
    exact cp_go _ [] (by simp; omega)
end Mr

set_option linter.all false
set_option maxRecDepth 100000
set_option maxHeartbeats 1000000
/-! Twin: two standings that no blocks part. -/
namespace Mr
theorem core_over {p p2 : Px} (h : p.over = some p2) : p.toPg.over = some p2.toPg := by
  unfold Px.over at h
  unfold Pg.over
  obtain ⟨f, hf, h⟩ := bindS h
  rw [hf, Option.bind_some]
  split at h
  · cases h
  · rename_i c
    cases h
    rw [if_neg c]
theorem core_put {p p2 : Px} {sp : Int} {b : Bool} (h : p.put sp b = some p2) : p.toPg.put sp b = some p2.toPg := by
  unfold Px.put at h
  unfold Pg.put
  split at h
  · rename_i c0
    rw [if_pos c0]
    split at h
    · rename_i c1
      cases h
      rw [if_pos c1]
    · rename_i c1
      rw [if_neg c1]
      split at h
      · rename_i c2
        cases h
        rw [if_pos c2]
      · rename_i c2
        rw [if_neg c2]
        split at h
        · rename_i c3
          cases h
          rw [if_pos c3]
        · rename_i c3
          cases h
          rw [if_neg c3]
  · cases h
theorem core_line {p p2 : Px} {sp : Int} {b : Bool} (h : p.line sp b = some p2) : p.toPg.line sp b = some p2.toPg := by
  unfold Px.line at h
  unfold Pg.line
  split at h
  · rename_i c
    obtain ⟨q, e1, e2⟩ := bindS h
    rw [if_pos c, core_over e1, Option.bind_some]
    exact core_put e2
  · rename_i c
    rw [if_neg c]
    exact core_put h
theorem core_turn {c s : Int} {p p2 : Px} {k : Int} (h : Px.turn c s p k = some p2) : Pg.turn c s p.toPg k = some p2.toPg := by
  unfold Px.turn at h
  unfold Pg.turn
  split at h
  · rename_i c1
    rw [if_pos c1]; exact core_line h
  · rename_i c1
    rw [if_neg c1]; exact core_line h
theorem core_turns {c s : Int} : ∀ (ks : List Int) {p p2 : Px}, folM (Px.turn c s) ks p = some p2 → folM (Pg.turn c s) ks p.toPg = some p2.toPg
  | [], p, p2, h => by cases h; rfl
  | k :: ks, p, p2, h => by
    obtain ⟨q, e1, e2⟩ := bindS (show (Px.turn c s p k).bind _ = some p2 from h)
    exact bindOk (core_turn e1) (core_turns ks e2)
theorem core_block {p p2 : Px} {c s : Int} {k pg : Bool} (h : p.block c s k pg = some p2) : p.toPg.block c s k pg = some p2.toPg := by
  unfold Px.block at h
  unfold Pg.block
  obtain ⟨ks, e1, h⟩ := bindS h
  obtain ⟨q, e2, h⟩ := bindS h
  have h := Option.some.inj h
  have e3 : (if pg = true then p.toPg.begin else p.toPg) = (if pg = true then p.begin else p).toPg := by cases pg <;> rfl
  refine bindOk e1 (bindOk (a := q.toPg) ?_ ?_)
  · rw [e3]; exact core_turns ks e2
  · rw [← h]
    by_cases hc : c > 0
    · rw [if_pos hc, if_pos hc]
      cases k <;> rfl
    · rw [if_neg hc, if_neg hc]
/-- both beside one core -/
def Beside (p1 p2 : Px) : Prop := Sim 1 p1 p1.toPg ∧ Sim 1 p2 p1.toPg
theorem Beside.fin {p1 p2 : Px} (h : Beside p1 p2) : Px.fin p1 = Px.fin p2 := by
  unfold Px.fin
  rw [h.1.fin.1, h.2.fin.1]
theorem Beside.block {p1 p2 r1 : Px} {c s : Int} {k pg : Bool} (h : Beside p1 p2) (e1 : p1.block c s k pg = some r1) : ∃ r2, p2.block c s k pg = some r2 ∧ Beside r1 r2 := by
  have e := core_block e1
  obtain ⟨x1, f1, g1⟩ := h.1.block e
  obtain ⟨x2, f2, g2⟩ := h.2.block e
  rw [e1] at f1
  cases f1
  exact ⟨x2, f2, g1, g2⟩
/-- not yet begun -/
def w1 (len b : Int) : Px := ⟨⟨len, [(false, len - b)], 1, len, true⟩, 1, none⟩
def w2 (len b : Int) : Px := ⟨⟨len, [], 0, b, true⟩, 0, some false⟩
theorem res1 {len b : Int} (hb : 0 < b) : Px.res len (Wd.kept, len, b) = w1 len b := if_pos (show b > 0 from hb)
theorem res2 {len b : Int} : Px.res len (Wd.kept, b, 0) = w2 len b := if_neg (show ¬ (0 : Int) > 0 by decide)
/-- the lines gone over -/
def w3 (len b : Int) : Px := ⟨⟨len, [(true, 0)], 0, b, true⟩, 1, some true⟩
theorem w3_beside {len b : Int} : Beside (w3 len b) (w2 len b) :=
  ⟨⟨rfl, rfl, rfl, ⟨[(true, 0)], [(true, 0)], [], rfl, rfl, rfl, rfl, .inl ⟨rfl, Nat.le_refl _⟩⟩, Nat.le_refl _⟩, ⟨rfl, rfl, rfl, ⟨[(true, 0)], [], [], rfl, rfl, rfl, rfl, .inl ⟨rfl, Nat.le_refl _⟩⟩, Nat.zero_le _⟩⟩
theorem wb_beside {len b : Int} : Beside (w1 len b).begin (w2 len b).begin :=
  ⟨⟨rfl, rfl, rfl, ⟨[(false, len - b)], [(false, len - b)], [], rfl, rfl, rfl, rfl, .inl ⟨rfl, Nat.le_refl _⟩⟩, Nat.le_refl _⟩, ⟨rfl, rfl, rfl, ⟨[(false, len - b)], [], [], rfl, rfl, rfl, rfl, .inl ⟨rfl, Nat.le_refl _⟩⟩, Nat.zero_le _⟩⟩
theorem w1_over {len b : Int} : (w1 len b).over = some (w3 len b) := by
  unfold Px.over
  refine bindOk (a := (false, len - b)) rfl ((if_neg (show ¬ (1 : Nat) = 0 by decide)).trans ?_)
  have e : len - (len - b) = b := by omega
  have e2 : (shI 0 1 [(false, len - b)] (len - b)).set 0 (true, 0) = [(true, (0 : Int))] := rfl
  show some (⟨⟨len, (shI 0 1 [(false, len - b)] (len - b)).set 0 (true, 0), 0, len - (len - b), true⟩, 1, some true⟩ : Px) = _
  rw [e, e2]; rfl
theorem w1_line {len b sp : Int} (hl : 0 < len) (hs : 0 ≤ sp) : (w1 len b).line sp true = (w3 len b).line sp true := by
  have h1 : (w1 len b).line sp true = (w3 len b).put sp true := by
    unfold Px.line
    refine (if_pos (show 0 < len ∧ len + sp ≥ len ∧ true = true ∧ (1 : Nat) ≠ 0 from ⟨hl, by omega, rfl, by decide⟩)).trans ?_
    rw [w1_over, Option.bind_some]
  have h2 : (w3 len b).line sp true = (w3 len b).put sp true := by
    unfold Px.line
    exact if_neg (fun h => h.2.2.2 rfl)
  rw [h1, h2]
theorem w1_block {len b c sp : Int} {k : Bool} (hl : 0 < len) (hs : 0 ≤ sp) (hc : 0 < c) (hc2 : c ≤ 1000) : (w1 len b).block c sp k false = (w3 len b).block c sp k false := by
  unfold Px.block
  rw [rngM_ok (by omega) (by omega), Option.bind_some, Option.bind_some]
  have ec : c.toNat = (c.toNat - 1) + 1 := by omega
  unfold Px.lines
  rw [ec, List.range_eq_range', List.range'_succ, List.map_cons]
  have e : Px.turn c sp (w1 len b) ((0 : Nat) : Int) = Px.turn c sp (w3 len b) ((0 : Nat) : Int) := by
    unfold Px.turn
    rw [if_pos (by rfl), if_pos (by rfl)]
    exact w1_line hl hs
  show ((Px.turn c sp (w1 len b) ((0 : Nat) : Int)).bind _).bind _ = ((Px.turn c sp (w3 len b) ((0 : Nat) : Int)).bind _).bind _
  rw [e]
theorem twin_run {len b : Int} (hl : 0 < len) : ∀ (t : List Bk) (p1 p2 r1 : Px), (Beside p1 p2 ∨ (p1 = w1 len b ∧ p2 = w2 len b)) → (∀ y ∈ t, BkOk y) → folM m_law_resumed_b1 t p1 = some r1 → ∃ r2, folM m_law_resumed_b1 t p2 = some r2 ∧ Px.fin r1 = Px.fin r2
  | [], p1, p2, r1, h, _, e => by
    cases e
    refine ⟨p2, rfl, ?_⟩
    rcases h with h | ⟨rfl, rfl⟩
    · exact h.fin
    · rfl
  | (c, sp, k, pg) :: t, p1, p2, r1, h, ho, e => by
    obtain ⟨hc0, hc1, hs0⟩ := ho _ (List.mem_cons_self ..)
    dsimp only at hc0 hc1 hs0
    obtain ⟨x1, e1, e2⟩ := bindS (show (m_law_resumed_b1 p1 (c, sp, k, pg)).bind _ = some r1 from e)
    have e1' : p1.block c sp k pg = some x1 := by
      unfold m_law_resumed_b1 at e1
      obtain ⟨z, f1, f2⟩ := bindS e1
      cases f2
      exact f1
    have hstep : ∃ x2, p2.block c sp k pg = some x2 ∧ (Beside x1 x2 ∨ (x1 = w1 len b ∧ x2 = w2 len b)) := by
      rcases h with h | ⟨rfl, rfl⟩
      · obtain ⟨x2, f, g⟩ := h.block e1'
        exact ⟨x2, f, .inl g⟩
      · cases pg with
        | true =>
          obtain ⟨x2, f, g⟩ := wb_beside.block (pg := false) (show ((w1 len b).begin).block c sp k false = some x1 from e1')
          exact ⟨x2, f, .inl g⟩
        | false =>
          by_cases hc : 0 < c
          · rw [w1_block hl hs0 hc hc1] at e1'
            obtain ⟨x2, f, g⟩ := w3_beside.block e1'
            exact ⟨x2, f, .inl g⟩
          · have hz : c = 0 := by omega
            subst hz
            have f1 : x1 = w1 len b := (Option.some.inj e1').symm
            exact ⟨w2 len b, rfl, .inr ⟨f1, rfl⟩⟩
    obtain ⟨x2, f, g⟩ := hstep
    obtain ⟨r2, f2, g2⟩ := twin_run hl t x1 x2 r1 g (fun y hy => ho y (List.mem_cons_of_mem _ hy)) e2
    refine ⟨r2, ?_, g2⟩
    have : m_law_resumed_b1 p2 (c, sp, k, pg) = some x2 := by
      unfold m_law_resumed_b1
      exact bindOk f rfl
    exact bindOk this f2
end Mr

set_option Elab.async false
set_option linter.all false
set_option maxRecDepth 100000
set_option maxHeartbeats 1000000
/-! OddS: things that are no standing. -/
namespace Mr
open PySem
theorem catM_ok {α : Type} {xs ys : List α} (h : xs.length + ys.length ≤ 100000) : catM xs ys = some (xs ++ ys) := if_pos h
/-- some true: no standing -/
def oddC (L : List St) (d : PyData) : Option Bool :=
  (Option.bind (Option.bind (isA "tuple" d) fun b2 => if (!b2) then some true else (Option.bind (lenA d) fun k1 => some (!decide (k1 = (3 : Int))))) fun x1 =>
  if x1 then some true else (Option.bind (Option.bind (ixA d (0 : Int)) fun x3 =>
  Option.bind (isA "str" x3) fun b7 =>
  if (!b7) then some true else (Option.bind (ixA d (1 : Int)) fun x7 =>
  Option.bind (m_is_number__2 x7) fun r2 =>
  if (!r2) then some true else (Option.bind (ixA d (2 : Int)) fun x11 =>
  Option.bind (m_is_number__2 x11) fun r4 =>
  some (!r4)))) fun x12 =>
  if x12 then some true else (Option.bind (inA d (L.map stE)) fun b11 => some (!b11))))
theorem odd_of {len : Int} {L : List St} {d : PyData} (S : Stands len L) (h : oddC L d = some true) (hf : fmtB d = true) : m_checked_standing__1 len d = some (.er (.BadStanding d)) := by
  have hfm : fmtM d = some () := if_pos hf
  unfold oddC at h
  obtain ⟨x1, e1, h⟩ := bindS h
  unfold m_checked_standing__1
  refine bindOk e1 ?_
  cases x1 with
  | true => exact (if_pos rfl).trans (bindOk hfm rfl)
  | false =>
    rw [if_neg (by simp)] at h
    obtain ⟨x2, e2, h⟩ := bindS h
    refine (if_neg (by simp)).trans (bindOk e2 ?_)
    cases x2 with
    | true => exact (if_pos rfl).trans (bindOk hfm rfl)
    | false =>
      rw [if_neg (by simp)] at h
      obtain ⟨x3, e3, h⟩ := bindS h
      have h := Option.some.inj h
      refine (if_neg (by simp)).trans (bindOk S.st (bindOk e3 ((if_pos h).trans (bindOk hfm rfl))))
def oA0 (length_here1 : Int) : List PyData := [PyData.none, (PyData.int (0 : Int)), (PyData.str (Str.ofString "top")), (PyData.tuple ([] : List PyData)), (PyData.tuple ([(PyData.str (Str.ofString "top"))] : List PyData)), (PyData.tuple ([(PyData.str (Str.ofString "top")), (PyData.int (0 : Int))] : List PyData)), (PyData.tuple ([(PyData.str (Str.ofString "top")), (PyData.int (0 : Int)), (PyData.int (0 : Int)), (PyData.int (0 : Int))] : List PyData)), (PyData.list ([(PyData.str (Str.ofString "top")), (PyData.int (0 : Int)), (PyData.int (0 : Int))] : List PyData)), (PyData.list ([(PyData.str (Str.ofString "open")), (PyData.int (1 : Int)), (PyData.int (0 : Int))] : List PyData)), (PyData.tuple ([(PyData.str (Str.ofString "top")), (PyData.int (0 : Int)), (PyData.int (1 : Int))] : List PyData))]
def oB0 (length_here1 : Int) : List PyData := [(PyData.tuple ([(PyData.str (Str.ofString "top")), (PyData.bool false), (PyData.int (0 : Int))] : List PyData)), (PyData.tuple ([(PyData.str (Str.ofString "top")), (PyData.int (0 : Int)), (PyData.bool false)] : List PyData)), (PyData.tuple ([(PyData.str (Str.ofString "open")), (PyData.bool true), (PyData.int (0 : Int))] : List PyData)), (PyData.tuple ([(PyData.str (Str.ofString "open")), (PyData.int (1 : Int)), (PyData.bool false)] : List PyData)), (PyData.tuple ([(PyData.str (Str.ofString "kept")), (PyData.bool true), (PyData.int (0 : Int))] : List PyData))]
def oC0 (length_here1 : Int) : List PyData := [(PyData.tuple ([(PyData.str (Str.ofString "open")), (PyData.int (0 : Int)), (PyData.int (0 : Int))] : List PyData)), (PyData.tuple ([(PyData.str (Str.ofString "open")), (PyData.int (1 : Int)), (PyData.int (1 : Int))] : List PyData)), (PyData.tuple ([(PyData.str (Str.ofString "open")), (PyData.int length_here1), (PyData.int (0 : Int))] : List PyData)), (PyData.tuple ([(PyData.str (Str.ofString "kept")), (PyData.int length_here1), (PyData.int (0 : Int))] : List PyData)), (PyData.tuple ([(PyData.str (Str.ofString "kept")), (PyData.int (0 : Int)), (PyData.int (0 : Int))] : List PyData))]
def oD0 (length_here1 : Int) : List PyData := [(PyData.tuple ([(PyData.str (Str.ofString "kept")), (PyData.int (1 : Int)), (PyData.int (1 : Int))] : List PyData)), (PyData.tuple ([(PyData.str (Str.ofString "kept")), (PyData.int (1 : Int)), (PyData.int (-(1 : Int)))] : List PyData)), (PyData.tuple ([(PyData.str (Str.ofString "kept")), (PyData.int length_here1), (PyData.int length_here1)] : List PyData))]
def oD1 (length_here1 r1 : Int) : List PyData := [(PyData.tuple ([(PyData.str (Str.ofString "kept")), (PyData.int (length_here1 + ((1 : Int) + r1))), (PyData.int (1 : Int))] : List PyData))]
def oE0 (length_here1 r1 : Int) : List PyData := [(PyData.tuple ([(PyData.str (Str.ofString "open")), (PyData.int (length_here1 + ((1 : Int) + r1))), (PyData.int (0 : Int))] : List PyData)), (PyData.tuple ([(PyData.str (Str.ofString "open")), (PyData.int (-((1 : Int) + r1))), (PyData.int (0 : Int))] : List PyData))]
def oE1 (length_here1 : Int) : List PyData := [(PyData.tuple ([(PyData.str (Str.ofString "Open")), (PyData.int (1 : Int)), (PyData.int (0 : Int))] : List PyData)), (PyData.tuple ([(PyData.str (Str.ofString "")), (PyData.int (1 : Int)), (PyData.int (0 : Int))] : List PyData)), (PyData.tuple ([(PyData.int (0 : Int)), (PyData.int (1 : Int)), (PyData.int (0 : Int))] : List PyData))]
def oF0 (length_here1 : Int) : List PyData := [(PyData.tuple ([(PyData.str (Str.ofString "kept")), (PyData.str (Str.ofString "1")), (PyData.int (0 : Int))] : List PyData)), (PyData.tuple ([(PyData.str (Str.ofString "kept")), (PyData.int (1 : Int)), PyData.none] : List PyData)), (PyData.tuple ([(PyData.tuple ([(PyData.str (Str.ofString "top")), (PyData.int (0 : Int)), (PyData.int (0 : Int))] : List PyData))] : List PyData)), (PyData.tuple ([(PyData.str (Str.ofString "kept")), (PyData.tuple ([(PyData.int (1 : Int)), (PyData.int (0 : Int))] : List PyData))] : List PyData)), (PyData.tuple ([(PyData.str (Str.ofString "top")), (PyData.int (1 : Int)), (PyData.int (0 : Int))] : List PyData))]
def oddL (length_here1 : Int) : List PyData := oA0 length_here1 ++ oB0 length_here1 ++ oC0 length_here1 ++ oD0 length_here1 ++ oE1 length_here1 ++ oF0 length_here1
def oddM (length_here1 r1 : Int) : List PyData := oD1 length_here1 r1 ++ oE0 length_here1 r1
def oA (length_here1 r1 : Int) : List PyData := oA0 length_here1
def oB (length_here1 r1 : Int) : List PyData := oB0 length_here1
def oC (length_here1 r1 : Int) : List PyData := oC0 length_here1
def oD (length_here1 r1 : Int) : List PyData := oD0 length_here1 ++ oD1 length_here1 r1
def oE (length_here1 r1 : Int) : List PyData := oE0 length_here1 r1 ++ oE1 length_here1
def oF (length_here1 r1 : Int) : List PyData := oF0 length_here1
def oddZ (length_here1 r1 : Int) : List PyData := oA length_here1 r1 ++ oB length_here1 r1 ++ oC length_here1 r1 ++ oD length_here1 r1 ++ oE length_here1 r1 ++ oF length_here1 r1
theorem oddZ_mem {length_here1 r1 : Int} {d : PyData} (h : d ∈ oddZ length_here1 r1) : d ∈ oddL length_here1 ∨ d ∈ oddM length_here1 r1 := by
  unfold oddZ oA oB oC oD oE oF at h
  unfold oddL oddM
  simp only [List.mem_append] at h ⊢
  grind
def oddB (n : Nat) (d : PyData) : Bool := decide (oddC (stL n) d = some true) && fmtB d && decide (eqA (PyData.tuple [d]) (PyData.tuple [d]) = some true)
def c8 (n : Nat) : Bool := (oddL (n : Int)).all (oddB n) && decide (shA (.list ((stL n).map stE)) ≠ none)
theorem c8_2 : c8 2 = true := by decide +kernel
theorem c8_3 : c8 3 = true := by decide +kernel
theorem c8_4 : c8 4 = true := by decide +kernel
theorem c8_5 : c8 5 = true := by decide +kernel
theorem c8_6 : c8 6 = true := by decide +kernel
theorem c8_7 : c8 7 = true := by decide +kernel
theorem c8_8 : c8 8 = true := by decide +kernel
theorem c8_9 : c8 9 = true := by decide +kernel
theorem odd_len {len : Int} (h0 : 2 ≤ len) (h1 : len ≤ 9) : c8 len.toNat = true := by
  have : len.toNat = 2 ∨ len.toNat = 3 ∨ len.toNat = 4 ∨ len.toNat = 5 ∨ len.toNat = 6 ∨ len.toNat = 7 ∨ len.toNat = 8 ∨ len.toNat = 9 := by omega
  rcases this with h | h | h | h | h | h | h | h <;> rw [h]
  · exact c8_2
  · exact c8_3
  · exact c8_4
  · exact c8_5
  · exact c8_6
  · exact c8_7
  · exact c8_8
  · exact c8_9
/-- no standing, and a thing to be told -/
def Odd (len : Int) (d : PyData) : Prop := m_checked_standing__1 len d = some (.er (.BadStanding d)) ∧ eqA (PyData.tuple [d]) (PyData.tuple [d]) = some true
theorem odd_big {len : Int} {L : List St} (G : Stands len L) (hs : shA (.list (L.map stE)) ≠ none) {w : Str} {a b : Int} (hw : PyData.strOk w = true) (hw2 : (reprText w).length ≤ 1000) (ha : a.natAbs < 2 ^ 1000) (hb : b.natAbs < 2 ^ 1000) (ho : a < 0 ∨ len < a) (hl : 1 ≤ len) : Odd len (.tuple [.str w, .int a, .int b]) := by
  have l1 : a.natAbs.log2 < 1920 := Nat.lt_of_lt_of_le (log2_lt ha (by decide)) (by decide)
  have l2 : b.natAbs.log2 < 1920 := Nat.lt_of_lt_of_le (log2_lt hb (by decide)) (by decide)
  have r1 := PyProof.Rows.int_text_len_1921 l1
  have r2 := PyProof.Rows.int_text_len_1921 l2
  have hsh : shA (.tuple [.str w, .int a, .int b]) = some (.tuple [.str w, .int a, .int b]) := by
    unfold shA
    refine if_pos ?_
    simp [PyData.canLay0, PyData.canLayAll0, PyData.depth, PyData.depthAll, hw]
  refine ⟨odd_of G ?_ ?_, ?_⟩
  · unfold oddC
    refine bindOk (a := false) rfl ((if_neg (by simp)).trans (bindOk (a := false) rfl ((if_neg (by simp)).trans ?_)))
    refine bindOk (a := false) ?_ rfl
    unfold inA
    refine bindOk hsh ?_
    cases hx : shA (.list (L.map stE)) with
    | none => exact absurd hx hs
    | some e =>
      rw [Option.bind_some]
      refine congrArg some ?_
      rw [List.any_eq_false]
      intro z hz
      obtain ⟨st, hst, rfl⟩ := List.mem_map.mp hz
      have g := G.gd st hst
      intro hh
      unfold stE at hh
      simp only [PyData.eqv, PyData.eqvAll, Bool.and_eq_true, beq_iff_eq] at hh
      have ha2 : st.2.1 = a := hh.2.1
      have g2 : 0 ≤ st.2.1 ∧ st.2.1 ≤ len := by
        unfold stGood at g
        simp only [Bool.or_eq_true, Bool.and_eq_true, decide_eq_true_eq] at g
        rcases g with (g | g) | g
        · rw [g]; exact ⟨by show (0 : Int) ≤ 0; decide, by show (0 : Int) ≤ len; omega⟩
        · omega
        · omega
      omega
  · unfold fmtB
    simp only [rok, rokAll, rcost, rcostAll, PyData.depth, PyData.depthAll, Bool.and_eq_true, decide_eq_true_eq, Bool.and_true]
    refine ⟨⟨Nat.le_trans hw2 (by decide +kernel), l1, l2⟩, ?_, by simp⟩
    · exact decide_eq_true (by omega)
  · unfold eqA
    have hsh2 : shA (.tuple [.tuple [.str w, .int a, .int b]]) = some (.tuple [.tuple [.str w, .int a, .int b]]) := by
      unfold shA
      refine if_pos ?_
      simp [PyData.canLay0, PyData.canLayAll0, PyData.depth, PyData.depthAll, hw]
    rw [hsh2, Option.bind_some, Option.bind_some]
    simp [PyData.eqv, PyData.eqvAll]
theorem odds {len r : Int} (h0 : 2 ≤ len) (h1 : len ≤ 9) (hr0 : 0 ≤ r) (hr1 : r < 10 ^ 20) : (∀ d ∈ oddL len, Odd len d) ∧ ∀ d ∈ oddM len r, Odd len d := by
  have G := standings_ex h0 h1
  have h8 := odd_len h0 h1
  unfold c8 at h8
  have h8 := (Bool.and_eq_true ..).mp h8
  have hln : ((len.toNat : Nat) : Int) = len := by omega
  rw [hln] at h8
  refine ⟨fun d hd => ?_, fun d hd => ?_⟩
  · have q := List.all_eq_true.mp h8.1 d hd
    unfold oddB at q
    have q := (Bool.and_eq_true ..).mp q
    have q1 := (Bool.and_eq_true ..).mp q.1
    exact ⟨odd_of G (of_decide_eq_true q1.1) q1.2, of_decide_eq_true q.2⟩
  · have hs := of_decide_eq_true h8.2
    have hb : (10 : Int) ^ 20 = 100000000000000000000 := by decide
    rw [hb] at hr1
    have hbig : (200000000000000000000 : Nat) ≤ 2 ^ 1000 := Nat.le_trans (show _ ≤ 2 ^ 68 by decide) (Nat.pow_le_pow_right (by decide) (by decide))
    simp only [oddM, oD1, oE0, List.mem_append, List.mem_cons, List.not_mem_nil, or_false] at hd
    rcases hd with rfl | rfl | rfl
    · exact odd_big G hs (by decide +kernel) (by decide +kernel) (Nat.lt_of_lt_of_le (by omega) hbig) (Nat.lt_of_lt_of_le (by omega) hbig) (.inr (by omega)) (by omega)
    · exact odd_big G hs (by decide +kernel) (by decide +kernel) (Nat.lt_of_lt_of_le (by omega) hbig) (Nat.lt_of_lt_of_le (by omega) hbig) (.inr (by omega)) (by omega)
    · exact odd_big G hs (by decide +kernel) (by decide +kernel) (Nat.lt_of_lt_of_le (by omega) hbig) (Nat.lt_of_lt_of_le (by omega) hbig) (.inl (by omega)) (by omega)
theorem odd_draw {b : List Int} {len : Int} (hb : BagOk b) (h0 : 2 ≤ len) (h1 : len ≤ 9) : ∃ x b', m_law_odd b len = some (x, b') ∧ BagOk b' ∧ Odd len x := by
  obtain ⟨r1, b1, e1, k0, k1, B1⟩ := draw_any hb (n := (10 : Int) ^ (20 : Int).toNat) (by decide) (by decide +kernel)
  obtain ⟨O1, O2⟩ := odds (r := r1) h0 h1 k0 k1
  unfold m_law_odd
  have hn : (((oddZ len r1).length : Nat) : Int) = 34 := rfl
  obtain ⟨r2, b2, e2, k2, k3, B2⟩ := draw_ok B1 (n := (((oddZ len r1).length : Nat) : Int)) (by omega) (by omega)
  have hj : r2.toNat < (oddZ len r1).length := by omega
  refine ⟨(oddZ len r1)[r2.toNat], b2, bindOk e1 (bindOk (catM_ok (xs := oA len r1) (ys := oB len r1) (Nat.le_of_ble_eq_true rfl)) (bindOk (catM_ok (xs := oA len r1 ++ oB len r1) (ys := oC len r1) (Nat.le_of_ble_eq_true rfl)) (bindOk (catM_ok (xs := oA len r1 ++ oB len r1 ++ oC len r1) (ys := oD len r1) (Nat.le_of_ble_eq_true rfl)) (bindOk (catM_ok (xs := oA len r1 ++ oB len r1 ++ oC len r1 ++ oD len r1) (ys := oE len r1) (Nat.le_of_ble_eq_true rfl)) (bindOk (catM_ok (xs := oA len r1 ++ oB len r1 ++ oC len r1 ++ oD len r1 ++ oE len r1) (ys := oF len r1) (Nat.le_of_ble_eq_true rfl)) (bindOk e2 (bindOk (a := (oddZ len r1)[r2.toNat]) ?_ rfl))))))), B2, ?_⟩
  · have := getM_nat (List.getElem?_eq_getElem hj)
    rw [show ((r2.toNat : Nat) : Int) = r2 by omega] at this
    exact this
  · rcases oddZ_mem (List.getElem_mem hj) with h | h
    · exact O1 _ h
    · exact O2 _ h
end Mr

set_option Elab.async false
set_option linter.all false
set_option maxRecDepth 100000
set_option maxHeartbeats 1000000
/-! Part: the blocks that part two standings, by the kernel for every length. -/
namespace Mr
/-- parting_blocks behind its checks -/
def prtC (len : Int) (one two : St) : Option (Option (List Bk)) :=
  Option.bind (m_next_line len one) fun r3 =>
  Option.bind (m_next_line len two) fun r4 =>
  if (!decide (r4 = (r3.1, r3.2))) then (some (some ([((1 : Int), (0 : Int), false, false)] : List Bk)))
  else (if ((decide (one = two)) || ((memB one ([(Wd.kept, r3.2, (0 : Int)), (Wd.kept, len, r3.2)] : List St)) && (memB two ([(Wd.kept, r3.2, (0 : Int)), (Wd.kept, len, r3.2)] : List St)))) then (some none)
  else (Option.bind (repM ([((1 : Int), (0 : Int), true, false)] : List Bk) (len - r3.2)) fun z1 =>
  Option.bind (catM z1 ([((1 : Int), (0 : Int), false, false)] : List Bk)) fun z2 =>
  some (some z2)))
theorem parting_ok {len : Int} {L : List St} (G : Stands len L) {one two : St} (h1 : one ∈ L) (h2 : two ∈ L) {o : Option (List Bk)} (h : prtC len one two = some o) : m_parting_blocks len one two = some (.ok o) := by
  unfold m_parting_blocks
  refine bindOk (checked_ok G h1) (bindOk (checked_ok G h2) ?_)
  unfold prtC at h
  obtain ⟨r3, e3, h⟩ := bindS h
  obtain ⟨r4, e4, h⟩ := bindS h
  refine bindOk e3 (bindOk e4 ?_)
  split at h
  · rename_i c
    cases h
    exact if_pos c
  · rename_i c
    refine (if_neg c).trans ?_
    split at h
    · rename_i c2
      cases h
      exact if_pos c2
    · rename_i c2
      refine (if_neg c2).trans ?_
      obtain ⟨z1, f1, h⟩ := bindS h
      obtain ⟨z2, f2, h⟩ := bindS h
      cases h
      exact bindOk f1 (bindOk f2 rfl)
/-- twins: no blocks part them -/
def twB (n : Nat) (one two : St) : Bool := (List.range n).any fun b => decide (1 ≤ b) && ((decide (one = (Wd.kept, (b : Int), 0)) && decide (two = (Wd.kept, (n : Int), (b : Int)))) || (decide (two = (Wd.kept, (b : Int), 0)) && decide (one = (Wd.kept, (n : Int), (b : Int)))))
def blkB (y : Bk) : Bool := decide (0 ≤ y.1) && (decide (y.1 ≤ 1) && decide (y.2.1 = 0))
def prtB (n : Nat) (one two : St) : Bool := match prtC (n : Int) one two with
  | none => false
  | some none => decide (one = two) || twB n one two
  | some (some t) => !(decide (one = two) || twB n one two) && (decide (t.length ≤ n + 1) && (t.all blkB && !decide (m_law_behind (n : Int) one t = m_law_behind (n : Int) two t)))
def c9 (n : Nat) : Bool := (stL n).all fun one => (stL n).all fun two => prtB n one two
theorem c9_2 : c9 2 = true := by decide +kernel
theorem c9_3 : c9 3 = true := by decide +kernel
theorem c9_4 : c9 4 = true := by decide +kernel
theorem c9_5 : c9 5 = true := by decide +kernel
theorem c9_6 : c9 6 = true := by decide +kernel
theorem c9_7 : c9 7 = true := by decide +kernel
theorem c9_8 : c9 8 = true := by decide +kernel
theorem c9_9 : c9 9 = true := by decide +kernel
theorem c9_len {len : Int} (h0 : 2 ≤ len) (h1 : len ≤ 9) : c9 len.toNat = true := by
  have : len.toNat = 2 ∨ len.toNat = 3 ∨ len.toNat = 4 ∨ len.toNat = 5 ∨ len.toNat = 6 ∨ len.toNat = 7 ∨ len.toNat = 8 ∨ len.toNat = 9 := by omega
  rcases this with h | h | h | h | h | h | h | h <;> rw [h]
  · exact c9_2
  · exact c9_3
  · exact c9_4
  · exact c9_5
  · exact c9_6
  · exact c9_7
  · exact c9_8
  · exact c9_9
/-- what parting_blocks tells of two standings -/
theorem part_cases {len : Int} (h0 : 2 ≤ len) (h1 : len ≤ 9) {one two : St} (m1 : one ∈ stL len.toNat) (m2 : two ∈ stL len.toNat) :
    (m_parting_blocks len one two = some (.ok none) ∧ (one = two ∨ twB len.toNat one two = true)) ∨
    ∃ t : List Bk, m_parting_blocks len one two = some (.ok (some t)) ∧ one ≠ two ∧ twB len.toNat one two = false ∧ (t.length : Int) ≤ len + 1 ∧ (∀ y ∈ t, blkB y = true) ∧ m_law_behind len one t ≠ m_law_behind len two t := by
  have G := standings_ex h0 h1
  have h := List.all_eq_true.mp (List.all_eq_true.mp (c9_len h0 h1) one m1) two m2
  have hln : ((len.toNat : Nat) : Int) = len := by omega
  unfold prtB at h
  rw [hln] at h
  cases hp : prtC len one two with
  | none => rw [hp] at h; cases h
  | some o =>
    rw [hp] at h
    cases o with
    | none =>
      refine .inl ⟨parting_ok G m1 m2 hp, ?_⟩
      rcases (Bool.or_eq_true ..).mp h with h | h
      · exact .inl (of_decide_eq_true h)
      · exact .inr h
    | some t =>
      have h := (Bool.and_eq_true ..).mp h
      have k1 : (decide (one = two) || twB len.toNat one two) = false := by simpa using h.1
      have k2 := (Bool.or_eq_false_iff ..).mp k1
      have h2 := (Bool.and_eq_true ..).mp h.2
      have h3 := (Bool.and_eq_true ..).mp h2.2
      refine .inr ⟨t, parting_ok G m1 m2 hp, of_decide_eq_false k2.1, k2.2, ?_, List.all_eq_true.mp h3.1, ?_⟩
      · have := of_decide_eq_true h2.1
        omega
      · have h4 : decide (m_law_behind len one t = m_law_behind len two t) = false := by simpa using h3.2
        exact of_decide_eq_false h4
theorem part1 {len : Int} {x : PySem.PyData} (O : Odd len x) : m_parting_blocks__1 len x () = some (.er (.BadStanding x)) := by
  unfold m_parting_blocks__1
  exact bindOk O.1 rfl
theorem part2 {len : Int} {L : List St} (G : Stands len L) {one : St} (h : one ∈ L) {x : PySem.PyData} (O : Odd len x) : m_parting_blocks__2 len one x = some (.er (.BadStanding x)) := by
  unfold m_parting_blocks__2
  exact bindOk (checked_ok G h) (bindOk O.1 rfl)
end Mr

set_option linter.all false
set_option maxRecDepth 100000
set_option maxHeartbeats 1000000
/-! Pln: the law of the standings parted, in plain numbers. -/
namespace Mr
open PySem
theorem blocks_draw20 : ∀ (xs : List Int) (b : List Int) (acc : List Bk), BagOk b → (∀ y ∈ acc, BkOk y ∧ y.1 ≤ 30) → acc.length + xs.length ≤ 100 →
    ∃ b' bs, folM m_law_c2 xs (b, acc) = some (b', bs) ∧ BagOk b' ∧ (∀ y ∈ bs, BkOk y ∧ y.1 ≤ 30) ∧ bs.length = acc.length + xs.length
  | [], b, acc, hb, ha, _ => ⟨b, acc, rfl, hb, ha, rfl⟩
  | x :: xs, b, acc, hb, ha, hz => by
    have hz' : acc.length + (xs.length + 1) ≤ 100 := hz
    obtain ⟨y, b1, e1, h0, h1, h2, B1⟩ := block_drawM (m := 20) (by decide) (by decide) hb
    obtain ⟨b2, bs, e2, B2, h3, h4⟩ := blocks_draw20 xs b1 (acc ++ [y]) B1 (fun z hz => by
      rcases List.mem_append.mp hz with h | h
      · exact ha z h
      · obtain rfl := List.mem_singleton.mp h
        exact ⟨⟨h0, by omega, h2⟩, h1⟩) (by simp; omega)
    refine ⟨b2, bs, ?_, B2, h3, by rw [h4]; simp; omega⟩
    show (m_law_c2 (b, acc) x).bind _ = _
    have e : m_law_c2 (b, acc) x = some (b1, acc ++ [y]) := by
      unfold m_law_c2
      dsimp only
      exact bindOk e1 (bindOk (appM_ok (by omega)) rfl)
    rw [e]
    exact e2
/-- the law's own look for twins -/
def twM (len : Int) (one two : St) : Option Bool :=
  Option.bind (rng2M (1 : Int) len) fun xs1 =>
  Option.bind (folM (m_law_right_c1 len one two) xs1 ([] : List St)) fun acc1 =>
  if (decide (one = two)) then some true else (Option.bind (folM (m_law_right_c2 one two) acc1 ([] : List St)) fun acc4 => some (!decide (acc4 = ([] : List St))))
def tw2B (n : Nat) (one two : St) : Bool := decide (twM (n : Int) one two = some (decide (one = two) || twB n one two)) && (twB n one two == twB n two one)
def c10 (n : Nat) : Bool := (stL n).all fun one => (stL n).all fun two => tw2B n one two
def c11 (n : Nat) : Bool := (List.range n).all fun b => decide (b = 0) || (memB (kp n b) (stL n) && memB (kp b 0) (stL n))
theorem c10_2 : c10 2 = true := by decide +kernel
theorem c10_3 : c10 3 = true := by decide +kernel
theorem c10_4 : c10 4 = true := by decide +kernel
theorem c10_5 : c10 5 = true := by decide +kernel
theorem c10_6 : c10 6 = true := by decide +kernel
theorem c10_7 : c10 7 = true := by decide +kernel
theorem c10_8 : c10 8 = true := by decide +kernel
theorem c10_9 : c10 9 = true := by decide +kernel
theorem c10_len {len : Int} (h0 : 2 ≤ len) (h1 : len ≤ 9) : c10 len.toNat = true ∧ c11 len.toNat = true := by
  have : len.toNat = 2 ∨ len.toNat = 3 ∨ len.toNat = 4 ∨ len.toNat = 5 ∨ len.toNat = 6 ∨ len.toNat = 7 ∨ len.toNat = 8 ∨ len.toNat = 9 := by omega
  rcases this with h | h | h | h | h | h | h | h <;> rw [h]
  · exact ⟨c10_2, by decide +kernel⟩
  · exact ⟨c10_3, by decide +kernel⟩
  · exact ⟨c10_4, by decide +kernel⟩
  · exact ⟨c10_5, by decide +kernel⟩
  · exact ⟨c10_6, by decide +kernel⟩
  · exact ⟨c10_7, by decide +kernel⟩
  · exact ⟨c10_8, by decide +kernel⟩
  · exact ⟨c10_9, by decide +kernel⟩
theorem tw_split {len : Int} {one two : St} {b : Bool} (h : twM len one two = some b) : ∃ xs acc, rng2M 1 len = some xs ∧ folM (m_law_right_c1 len one two) xs [] = some acc ∧
    (if (decide (one = two)) then some true else (Option.bind (folM (m_law_right_c2 one two) acc ([] : List St)) fun acc4 => some (!decide (acc4 = ([] : List St))))) = some b := by
  unfold twM at h
  obtain ⟨xs, e1, h⟩ := bindS h
  obtain ⟨acc, e2, h⟩ := bindS h
  exact ⟨xs, acc, e1, e2, h⟩
theorem res_split {len : Int} {z : St} {bs : List Bk} {rows : List Ln} (h : m_law_resumed len z bs = some rows) : okR (m_checked_standing len z) = some z → ∃ r, folM m_law_resumed_b1 bs (Px.res len z) = some r ∧ Px.fin r = some rows := by
  intro hc
  unfold m_law_resumed at h
  obtain ⟨p, e1, h1⟩ := bindS h
  obtain ⟨r, e2, h2⟩ := bindS h1
  obtain ⟨f, e3, h3⟩ := bindS h2
  unfold Px.resumed at e1
  rw [hc] at e1
  have e4 := Option.some.inj e1
  subst e4
  exact ⟨r, e2, e3.trans h3⟩
theorem twin_same {len b : Int} {L : List St} (G : Stands len L) (hl : 0 < len) (hb : 0 < b) (m1 : ((Wd.kept, len, b) : St) ∈ L) (m2 : ((Wd.kept, b, 0) : St) ∈ L) {bs : List Bk} (ho : ∀ y ∈ bs, BkOk y) {r1 r2 : List Ln}
    (e1 : m_law_resumed len (Wd.kept, len, b) bs = some r1) (e2 : m_law_resumed len (Wd.kept, b, 0) bs = some r2) : r1 = r2 := by
  obtain ⟨p1, f1, g1⟩ := res_split e1 (by rw [checked_ok G m1]; rfl)
  obtain ⟨p2, f2, g2⟩ := res_split e2 (by rw [checked_ok G m2]; rfl)
  rw [res1 hb] at f1
  rw [res2] at f2
  obtain ⟨q, k1, k2⟩ := twin_run hl bs _ _ p1 (.inr ⟨rfl, rfl⟩) ho f1
  rw [f2] at k1
  cases k1
  rw [g1, g2] at k2
  exact Option.some.inj k2
theorem tw_iff {n : Nat} {one two : St} (h : twB n one two = true) : ∃ b : Int, 0 < b ∧ b < n ∧ ((one = (Wd.kept, b, 0) ∧ two = (Wd.kept, (n : Int), b)) ∨ (two = (Wd.kept, b, 0) ∧ one = (Wd.kept, (n : Int), b))) := by
  unfold twB at h
  obtain ⟨b, hb, h⟩ := List.any_eq_true.mp h
  have hb := List.mem_range.mp hb
  have h := (Bool.and_eq_true ..).mp h
  have h0 := of_decide_eq_true h.1
  refine ⟨(b : Int), by omega, by omega, ?_⟩
  rcases (Bool.or_eq_true ..).mp h.2 with h | h
  · have h := (Bool.and_eq_true ..).mp h
    exact .inl ⟨of_decide_eq_true h.1, of_decide_eq_true h.2⟩
  · have h := (Bool.and_eq_true ..).mp h
    exact .inr ⟨of_decide_eq_true h.1, of_decide_eq_true h.2⟩
theorem blk_ok {y : Bk} (h : blkB y = true) : BkOk y ∧ y.1 ≤ 30 := by
  unfold blkB at h
  have h := (Bool.and_eq_true ..).mp h
  have h2 := (Bool.and_eq_true ..).mp h.2
  have k1 := of_decide_eq_true h.1
  have k2 := of_decide_eq_true h2.1
  have k3 := of_decide_eq_true h2.2
  exact ⟨⟨k1, by omega, by omega⟩, by omega⟩
theorem is_block {y : Bk} (h : blkB y = true) : m_law_is_block y = some true := by
  unfold blkB at h
  have h := (Bool.and_eq_true ..).mp h
  have h2 := (Bool.and_eq_true ..).mp h.2
  have k1 := of_decide_eq_true h.1
  have k2 := of_decide_eq_true h2.1
  have k3 := of_decide_eq_true h2.2
  unfold m_law_is_block
  have k4 : y.1 ≤ 200 := by omega
  simp [m_law_is_block, m_law_number, k1, k3, k4]
theorem all_blocks : ∀ (xs : List Bk) (acc : List Bool), acc.all id = true → (∀ y ∈ xs, blkB y = true) → acc.length + xs.length ≤ 100000 → ∃ r, folM m_law_right_c5 xs acc = some r ∧ r.all id = true
  | [], acc, h, _, _ => ⟨acc, rfl, h⟩
  | x :: xs, acc, h, hb, hz => by
    have hz' : acc.length + (xs.length + 1) ≤ 100000 := hz
    have e : m_law_right_c5 acc x = some (acc ++ [true]) := by
      unfold m_law_right_c5
      exact bindOk (is_block (hb x (List.mem_cons_self ..))) (bindOk (appM_ok (by omega)) rfl)
    obtain ⟨r, h1, h2⟩ := all_blocks xs (acc ++ [true]) (by simpa using h) (fun y hy => hb y (List.mem_cons_of_mem _ hy)) (by simp; omega)
    exact ⟨r, bindOk e h1, h2⟩
theorem right_ok {len : Int} (h0 : 2 ≤ len) (h1 : len ≤ 9) {one two : St} (m1 : one ∈ stL len.toNat) (m2 : two ∈ stL len.toNat) {bs : List Bk} (hb : ∀ y ∈ bs, BkOk y ∧ y.1 ≤ 30) (hbl : bs.length ≤ 100) :
    m_law_right len one two bs = some true := by
  have G := standings_ex h0 h1
  have hln : ((len.toNat : Nat) : Int) = len := by omega
  have h10 := List.all_eq_true.mp (List.all_eq_true.mp (c10_len h0 h1).1 one m1) two m2
  unfold tw2B at h10
  rw [hln] at h10
  have h10 := (Bool.and_eq_true ..).mp h10
  have hsym : twB len.toNat one two = twB len.toNat two one := by simpa using h10.2
  obtain ⟨xs, acc, f1, f2, f3⟩ := tw_split (of_decide_eq_true h10.1)
  have ho : ∀ y ∈ bs, BkOk y := fun y hy => (hb y hy).1
  have hc : cnt bs ≤ 3000 := Nat.le_trans (cnt_le bs hb) (by omega)
  unfold m_law_right
  rcases part_cases h0 h1 m1 m2 with ⟨p, q⟩ | ⟨t, p, q1, q2, q3, q4, q5⟩
  · obtain ⟨r1, b1, s1⟩ := behind_resumed G m1 ho (by omega) (by omega)
    obtain ⟨r2, b2, s2⟩ := behind_resumed G m2 ho (by omega) (by omega)
    have hr : r1 = r2 := by
      rcases q with q | q
      · subst q
        rw [b1] at b2
        exact Option.some.inj b2
      · obtain ⟨b, hb0, hb1, q⟩ := tw_iff q
        rw [hln] at q
        rcases q with ⟨e1, e2⟩ | ⟨e1, e2⟩
        · subst e1 e2
          exact (twin_same G (by omega) hb0 m2 m1 ho s2 s1).symm
        · subst e1 e2
          exact twin_same G (by omega) hb0 m1 m2 ho s1 s2
    subst hr
    have hx : (decide (one = two) || twB len.toNat one two) = true := by
      rcases q with q | q
      · rw [decide_eq_true q]; rfl
      · rw [q, Bool.or_true]
    rw [hx] at f3
    refine bindOk (a := none) (by rw [p]; rfl) (bindOk f1 (bindOk f2 (bindOk (a := true) f3 ((if_pos rfl).trans (bindOk (a := false) (bindOk s1 (bindOk s2 (by simp))) ((if_neg (by simp)).trans (bindOk b1 (bindOk b2 (by simp)))))))))
  · have hx : (decide (one = two) || twB len.toNat one two) = false := by
      rw [decide_eq_false q1, q2]; rfl
    rw [hx] at f3
    have hb4 : ∀ y ∈ t, BkOk y ∧ y.1 ≤ 30 := fun y hy => blk_ok (q4 y hy)
    have ho4 : ∀ y ∈ t, BkOk y := fun y hy => (hb4 y hy).1
    have hc4 : cnt t ≤ 3000 := Nat.le_trans (cnt_le t hb4) (by omega)
    obtain ⟨r1, b1, s1⟩ := behind_resumed G m1 ho4 (by omega) (by omega)
    obtain ⟨r2, b2, s2⟩ := behind_resumed G m2 ho4 (by omega) (by omega)
    have hne : r1 ≠ r2 := fun e => q5 (by rw [b1, b2, e])
    obtain ⟨rb, g1, g2⟩ := all_blocks t [] rfl q4 (by simp; omega)
    rcases part_cases h0 h1 m2 m1 with ⟨p', q'⟩ | ⟨t', p', q1', q2', q3', q4', q5'⟩
    · exfalso
      rcases q' with q' | q'
      · exact q1 q'.symm
      · rw [hsym, q'] at q2; cases q2
    · have hb5 : ∀ y ∈ t', BkOk y ∧ y.1 ≤ 30 := fun y hy => blk_ok (q4' y hy)
      have ho5 : ∀ y ∈ t', BkOk y := fun y hy => (hb5 y hy).1
      have hc5 : cnt t' ≤ 3000 := Nat.le_trans (cnt_le t' hb5) (by omega)
      obtain ⟨u1, b1', s1'⟩ := behind_resumed G m1 ho5 (by omega) (by omega)
      obtain ⟨u2, b2', s2'⟩ := behind_resumed G m2 ho5 (by omega) (by omega)
      have hne' : u1 ≠ u2 := fun e => q5' (by rw [b1', b2', e])
      refine bindOk (a := some t) (by rw [p]; rfl) (bindOk f1 (bindOk f2 (bindOk (a := false) f3 ((if_neg (by simp)).trans (bindOk (a := false) ?_ ((if_neg (by simp)).trans (bindOk (a := false) ?_ ((if_neg (by simp)).trans (bindOk (a := ()) ?_ (bindOk (a := some t') (by rw [p']; rfl) (bindOk (a := false) ?_ ((if_neg (by simp)).trans (bindOk s1 (bindOk s2 (by simp [hne])))))))))))))))
      · refine (if_neg (by simp; omega)).trans (bindOk (a := true) (bindOk g1 (congrArg some g2)) rfl)
      · exact bindOk b1 (bindOk b2 (by simp [hne]))
      · exact if_pos (by omega)
      · exact bindOk (a := false) (bindOk b1' (bindOk b2' (by simp [hne']))) rfl
theorem tw_mem {len b : Int} (h0 : 2 ≤ len) (h1 : len ≤ 9) (hb0 : 1 ≤ b) (hb1 : b < len) : ((Wd.kept, len, b) : St) ∈ stL len.toNat ∧ ((Wd.kept, b, 0) : St) ∈ stL len.toNat := by
  have h := List.all_eq_true.mp (c10_len h0 h1).2 b.toNat (List.mem_range.mpr (by omega))
  have e1 : ((len.toNat : Nat) : Int) = len := by omega
  have e2 : ((b.toNat : Nat) : Int) = b := by omega
  rw [e1, e2] at h
  rcases (Bool.or_eq_true ..).mp h with h | h
  · have := of_decide_eq_true h
    omega
  · have h := (Bool.and_eq_true ..).mp h
    exact ⟨memB_iff.mp h.1, memB_iff.mp h.2⟩
theorem turn_ok {ns : List Int} {j : Nat} : m_law_b1 ns () (j : Int) = some (.go ()) := by
  unfold m_law_b1
  obtain ⟨b0, e0, B0⟩ := bag_ok (ns := ns) (j := j)
  obtain ⟨len, b1, e1, hlen, hlen2, B1⟩ := length_draw B0
  have G := standings_ex hlen hlen2
  have hsz := G.sz
  have hpos : 0 < (stL len.toNat).length := List.length_pos_of_mem G.tp
  obtain ⟨r5, b2, e2, h5, h5', B2⟩ := draw_ok B1 (n := 8) (by decide) (by decide)
  obtain ⟨r7, b3, e3, h7, h7', B3⟩ := draw_ok B2 (n := ((stL len.toNat).length : Int)) (by omega) (by omega)
  obtain ⟨r9, b4, e4, h9, h9', B4⟩ := draw_ok B3 (n := ((stL len.toNat).length : Int)) (by omega) (by omega)
  have hj7 : r7.toNat < (stL len.toNat).length := by omega
  have hj9 : r9.toNat < (stL len.toNat).length := by omega
  have g7 : getM (stL len.toNat) r7 = some (stL len.toNat)[r7.toNat] := by
    have := getM_nat (List.getElem?_eq_getElem hj7)
    rwa [show ((r7.toNat : Nat) : Int) = r7 by omega] at this
  have g9 : getM (stL len.toNat) r9 = some (stL len.toNat)[r9.toNat] := by
    have := getM_nat (List.getElem?_eq_getElem hj9)
    rwa [show ((r9.toNat : Nat) : Int) = r9 by omega] at this
  have hA : ∃ b5 one two, (if (decide (r5 < (2 : Int))) then (Option.bind (m_law_draw b4 (len - (1 : Int))) fun (r13, r14) =>
      Option.bind (stpM ([(Wd.kept, len, ((1 : Int) + r13)), (Wd.kept, ((1 : Int) + r13), (0 : Int))] : List (Wd × Int × Int)) ((1 : Int) - ((2 : Int) * r5))) fun z2 =>
      Option.bind (two2M z2) fun p2 =>
      some (r14, p2.1, p2.2))
      else (some (b4, (stL len.toNat)[r7.toNat], (stL len.toNat)[r9.toNat]))) = some (b5, one, two) ∧ BagOk b5 ∧ one ∈ stL len.toNat ∧ two ∈ stL len.toNat := by
    by_cases c : r5 < 2
    · obtain ⟨r13, b5, e5, h13, h13', B5⟩ := draw_ok B4 (n := len - 1) (by omega) (by omega)
      obtain ⟨k1, k2⟩ := tw_mem hlen hlen2 (b := 1 + r13) (by omega) (by omega)
      have : r5 = 0 ∨ r5 = 1 := by omega
      rcases this with h | h
      · subst h
        exact ⟨b5, _, _, (if_pos (by decide)).trans (bindOk e5 (bindOk (a := [(Wd.kept, len, 1 + r13), (Wd.kept, 1 + r13, 0)]) rfl (bindOk (a := ((Wd.kept, len, 1 + r13), (Wd.kept, 1 + r13, 0))) rfl rfl))), B5, k1, k2⟩
      · subst h
        exact ⟨b5, _, _, (if_pos (by decide)).trans (bindOk e5 (bindOk (a := [(Wd.kept, 1 + r13, 0), (Wd.kept, len, 1 + r13)]) rfl (bindOk (a := ((Wd.kept, 1 + r13, 0), (Wd.kept, len, 1 + r13))) rfl rfl))), B5, k2, k1⟩
    · exact ⟨b4, _, _, if_neg (by simpa using c), B4, List.getElem_mem hj7, List.getElem_mem hj9⟩
  obtain ⟨b5, one, two, eA, B5, m1, m2⟩ := hA
  have hB : ∃ two2, (if (decide (r5 = (2 : Int))) then (some one) else (some two)) = some two2 ∧ two2 ∈ stL len.toNat := by
    by_cases c : r5 = 2
    · exact ⟨one, if_pos (by simpa using c), m1⟩
    · exact ⟨two, if_neg (by simpa using c), m2⟩
  obtain ⟨two2, eB, m3⟩ := hB
  obtain ⟨r15, b6, e6, h15, h15', B6⟩ := draw_ok B5 (n := 9) (by decide) (by decide)
  obtain ⟨b7, bs, e7, B7, hbs, hbl⟩ := blocks_draw20 ((List.range r15.toNat).map fun (i : Nat) => (i : Int)) b6 [] B6 (fun y hy => by cases hy) (by simp; omega)
  have hbl' : bs.length ≤ 9 := by rw [hbl]; simp; omega
  obtain ⟨x, b8, e8, B8, O⟩ := odd_draw B7 hlen hlen2
  exact bindOk e0 (bindOk e1 (bindOk G.lw (bindOk e2 (bindOk e3 (bindOk g7 (bindOk e4 (bindOk g9 (bindOk eA (bindOk eB (bindOk e6 (bindOk (rngM_ok h15 (by omega)) (bindOk e7 (bindOk (right_ok hlen hlen2 m1 m3 hbs (by omega)) ((if_neg (by simp)).trans
    (bindOk e8 (bindOk (part1 O) (bindOk (a := some [x]) rfl (bindOk (a := [x]) rfl (bindOk O.2 ((if_neg (by simp)).trans (bindOk (part2 G m1 O) (bindOk (a := some [x]) rfl (bindOk (a := [x]) rfl (bindOk O.2 ((if_neg (by simp)).trans rfl)))))))))))))))))))))))))
theorem law_plain (ns : List Int) (h : ns.length ≤ 63) : m_law ns = some true := by
  unfold m_law
  obtain ⟨n, hn⟩ : ∃ n : Int, (if (if (12 : Int) < (ns.length : Int) then (12 : Int) else (ns.length : Int)) > (1 : Int) then (if (12 : Int) < (ns.length : Int) then (12 : Int) else (ns.length : Int)) else (1 : Int)) = n := ⟨_, rfl⟩
  rw [hn]
  have hn0 : 0 ≤ n ∧ n ≤ 100 := by
    rw [← hn]
    constructor <;> (repeat' split) <;> omega
  refine bindOk (rngM_ok hn0.1 (by omega)) ?_
  obtain ⟨s, hs, _⟩ := forL_inv (f := m_law_b1 ns) (fun _ => True) ((List.range n.toNat).map fun (i : Nat) => (i : Int)) () True.intro (fun x hx s _ => by
    obtain ⟨j, _, rfl⟩ := List.mem_map.mp hx
    exact ⟨(), turn_ok, True.intro⟩)
  exact bindOk hs rfl
end Mr

set_option Elab.async false
set_option linter.all false
set_option maxRecDepth 100000
set_option maxHeartbeats 4000000
set_option synthInstance.maxSize 4000
set_option synthInstance.maxHeartbeats 400000
namespace Mr
open PySem PySem.Spec PyProof.Rows L2
def mkDK (n : Str) (i : Nat) (kws : List (Str × He.Dv)) : He5.DefA := ⟨fun K => He.fAd K (n, none), n, n, defArgs (top i), defBody (top i), defScope (top i), [], kws⟩
def mkD (n : Str) (i : Nat) : He5.DefA := ⟨fun K => He.fAd K (n, none), n, n, defArgs (top i), defBody (top i), defScope (top i), [], []⟩
def fn : List He5.DefA := [mkD "_law_refused" 27, mkD "standings" 6, mkD "is_number" 7, mkD "checked_standing" 8, mkD "next_line" 10, mkD "parting_blocks" 11, mkD "_law_bag" 15, mkD "_law_draw" 16, mkD "_law_number" 17, mkD "_law_lines" 18, mkD "_law_cut" 19, mkD "_law_pages" 20, mkD "_law_standings" 22, mkD "_law_lead" 23, mkD "_law_block" 24, mkD "_law_length" 25, mkD "_law_odd" 26, mkD "_law_behind" 28, mkD "_law_resumed" 29, mkD "_law_is_block" 30, mkD "_law_right" 31, mkD "law" 32, ⟨fun K => He.ma K (He.ga K "BadStanding") "__init__", "__init__", "BadStanding.__init__", defArgs s_x_BadStanding, defBody s_x_BadStanding, defScope s_x_BadStanding, [], []⟩, ⟨fun K => He.fAd K ("Page", some "stay"), "stay", "Page.stay", defArgs s_Page_stay, defBody s_Page_stay, defScope s_Page_stay, [], []⟩, ⟨fun K => He.fAd K ("Page", some "begin"), "begin", "Page.begin", defArgs s_Page_begin, defBody s_Page_begin, defScope s_Page_begin, [], []⟩, ⟨fun K => He.fAd K ("Page", some "go_over"), "go_over", "Page.go_over", defArgs s_Page_go_over, defBody s_Page_go_over, defScope s_Page_go_over, [], []⟩, ⟨fun K => He.fAd K ("Page", some "line"), "line", "Page.line", defArgs s_Page_line, defBody s_Page_line, defScope s_Page_line, [], []⟩, ⟨fun K => He.fAd K ("Page", some "block"), "block", "Page.block", defArgs s_Page_block, defBody s_Page_block, defScope s_Page_block, [], [("space", .int 0), ("kept", .bl false), ("page", .bl false)]⟩, ⟨fun K => He.fAd K ("Page", some "finish"), "finish", "Page.finish", defArgs s_Page_finish, defBody s_Page_finish, defScope s_Page_finish, [], []⟩, ⟨fun K => He.fAd K ("Page", some "__init__"), "__init__", "Page.__init__", defArgs s_Page_init, defBody s_Page_init, defScope s_Page_init, [], []⟩, ⟨fun K => He5.wf K (He.ga K "Page") "staticmethod" "resumed", "resumed", "Page.resumed", defArgs s_Page_resumed, defBody s_Page_resumed, defScope s_Page_resumed, [], []⟩]
def fa : List He.Fa := [.glo "_law_refused", .glo "standings", .glo "is_number", .glo "checked_standing", .glo "next_line", .glo "parting_blocks", .glo "_law_bag", .glo "_law_draw", .glo "_law_number", .glo "_law_lines", .glo "_law_cut", .glo "_law_pages", .glo "_law_standings", .glo "_law_lead", .glo "_law_block", .glo "_law_length", .glo "_law_odd", .glo "_law_behind", .glo "_law_resumed", .glo "_law_is_block", .glo "_law_right", .glo "law", .free "abs", .free "all", .free "bool", .free "enumerate", .free "int", .free "isinstance", .free "len", .free "list", .free "max", .free "min", .free "range", .free "sorted", .free "str", .free "tuple", .glo "TOP", .glo "BadStanding", .noat "BadStanding" "standing", .exm "BadStanding" "BadStanding" true, .glo "PressError", .glo "Page", .cls "Page", .mkr "Page", .noat "Page" "length", .noat "Page" "put_lines", .noat "Page" "loose", .noat "Page" "high", .noat "Page" "is_barred", .noat "Page" "unknown", .meth "Page" "stay", .meth "Page" "begin", .meth "Page" "go_over", .meth "Page" "line", .meth "Page" "block", .meth "Page" "finish"]
def fx : List FrT := [(fun K => He.tupB K "TOP" [.str "top", .int 0, .int 0]), (xcB "BadStanding"), (ibB "PressError"), (smB "Page" "resumed"), (fun K => decide ((tbs K).map (·.1)).Nodup)]
abbrev Rw : PySem.W.OpenRow := PySem.W.OpenLaw.row PySem.Challenge.rw_pressalike_k32_whole_standings_parted
abbrev hk : PySem.W.Hook := hookET 5 fa fn fx tfs
def ob (s : PySem.W.SharedT) : He.AlD × Bool := obsEGT 5 fa fn fx tfs (HandSHeadRun.getT s)
theorem ob_eq (s : PySem.W.SharedT) : ob s = hk.obs s.abs := obsEGT_eq (HandSHeadRun.getT_eq s)
theorem run (w : World) : HandSHeadRun.RunEq Rw (PySem.W.view Rw.prog [32]) hk ob 9000 ["_wall", "PressError", "BadStanding", "TOP", "standings", "is_number", "checked_standing", "next_line", "parting_blocks", "Page", "_law_bag", "_law_draw", "_law_number", "_law_lines", "_law_cut", "_law_pages", "_law_standing", "_law_standings", "_law_lead", "_law_block", "_law_length", "_law_odd", "_law_refused", "_law_behind", "_law_resumed", "_law_is_block", "_law_right"] w := by
  intro os
  kernel_rfl
theorem facts {P : Program} {w : World} {K : PySem.W.Frag} {h : Heap} {mg : Str → Option Value} {f : Addr} (X : K.In h) (G : h.Ns mainGlobals mg) (hfa : mg ("law" : Str) = some (.ref f)) (c0 : SaysET fa fn fx tfs h K) :
    ∃ fd : FuncData, (∀ (s : Shared) (v : Value), BindsTo s fd ⟨[v], []⟩ [("_law_script", v)]) ∧ ∀ base : Heap, K.In base → base.Ns mainGlobals mg → Tbs K mg base → FnOk P w K mg base CX0 8 f fd ["_law_script"] (sp_law K) := by
  have c := c0.t
  obtain ⟨fd_law_refused, F_law_refused⟩ := c.def_ 0 rfl
  obtain ⟨fd_standings, F_standings⟩ := c.def_ 1 rfl
  obtain ⟨fd_is_number, F_is_number⟩ := c.def_ 2 rfl
  obtain ⟨fd_checked_standing, F_checked_standing⟩ := c.def_ 3 rfl
  obtain ⟨fd_next_line, F_next_line⟩ := c.def_ 4 rfl
  obtain ⟨fd_parting_blocks, F_parting_blocks⟩ := c.def_ 5 rfl
  obtain ⟨fd_law_bag, F_law_bag⟩ := c.def_ 6 rfl
  obtain ⟨fd_law_draw, F_law_draw⟩ := c.def_ 7 rfl
  obtain ⟨fd_law_number, F_law_number⟩ := c.def_ 8 rfl
  obtain ⟨fd_law_lines, F_law_lines⟩ := c.def_ 9 rfl
  obtain ⟨fd_law_cut, F_law_cut⟩ := c.def_ 10 rfl
  obtain ⟨fd_law_pages, F_law_pages⟩ := c.def_ 11 rfl
  obtain ⟨fd_law_standings, F_law_standings⟩ := c.def_ 12 rfl
  obtain ⟨fd_law_lead, F_law_lead⟩ := c.def_ 13 rfl
  obtain ⟨fd_law_block, F_law_block⟩ := c.def_ 14 rfl
  obtain ⟨fd_law_length, F_law_length⟩ := c.def_ 15 rfl
  obtain ⟨fd_law_odd, F_law_odd⟩ := c.def_ 16 rfl
  obtain ⟨fd_law_behind, F_law_behind⟩ := c.def_ 17 rfl
  obtain ⟨fd_law_resumed, F_law_resumed⟩ := c.def_ 18 rfl
  obtain ⟨fd_law_is_block, F_law_is_block⟩ := c.def_ 19 rfl
  obtain ⟨fd_law_right, F_law_right⟩ := c.def_ 20 rfl
  obtain ⟨fd_law, F_law⟩ := c.def_ 21 rfl
  obtain ⟨fd_x_BadStanding, F_x_BadStanding⟩ := c.def_ 22 rfl
  obtain ⟨fd_Page_stay, F_Page_stay⟩ := c.def_ 23 rfl
  obtain ⟨fd_Page_begin, F_Page_begin⟩ := c.def_ 24 rfl
  obtain ⟨fd_Page_go_over, F_Page_go_over⟩ := c.def_ 25 rfl
  obtain ⟨fd_Page_line, F_Page_line⟩ := c.def_ 26 rfl
  obtain ⟨fd_Page_block, F_Page_block⟩ := c.def_ 27 rfl
  obtain ⟨fd_Page_finish, F_Page_finish⟩ := c.def_ 28 rfl
  obtain ⟨fd_Page_init, F_Page_init⟩ := c.def_ 29 rfl
  obtain ⟨fd_Page_resumed, F_Page_resumed⟩ := c.def_ 30 rfl
  let T : Tx K mg := {
    fd_law_refused := fd_law_refused
    F_law_refused := F_law_refused
    g_law_refused := He.glo_ok X G (c.fact 0 rfl)
    b_law_refused := F_law_refused.bindsN fun _ _ _ _ _ _ us hl => (match us, hl with | [_], _ => rfl)
    fd_standings := fd_standings
    F_standings := F_standings
    g_standings := He.glo_ok X G (c.fact 1 rfl)
    b_standings := F_standings.bindsN fun _ _ _ _ _ _ us hl => (match us, hl with | [_], _ => rfl)
    fd_is_number := fd_is_number
    F_is_number := F_is_number
    g_is_number := He.glo_ok X G (c.fact 2 rfl)
    b_is_number := F_is_number.bindsN fun _ _ _ _ _ _ us hl => (match us, hl with | [_], _ => rfl)
    fd_checked_standing := fd_checked_standing
    F_checked_standing := F_checked_standing
    g_checked_standing := He.glo_ok X G (c.fact 3 rfl)
    b_checked_standing := F_checked_standing.bindsN fun _ _ _ _ _ _ us hl => (match us, hl with | [_, _], _ => rfl)
    fd_next_line := fd_next_line
    F_next_line := F_next_line
    g_next_line := He.glo_ok X G (c.fact 4 rfl)
    b_next_line := F_next_line.bindsN fun _ _ _ _ _ _ us hl => (match us, hl with | [_, _], _ => rfl)
    fd_parting_blocks := fd_parting_blocks
    F_parting_blocks := F_parting_blocks
    g_parting_blocks := He.glo_ok X G (c.fact 5 rfl)
    b_parting_blocks := F_parting_blocks.bindsN fun _ _ _ _ _ _ us hl => (match us, hl with | [_, _, _], _ => rfl)
    fd_law_bag := fd_law_bag
    F_law_bag := F_law_bag
    g_law_bag := He.glo_ok X G (c.fact 6 rfl)
    b_law_bag := F_law_bag.bindsN fun _ _ _ _ _ _ us hl => (match us, hl with | [_, _], _ => rfl)
    fd_law_draw := fd_law_draw
    F_law_draw := F_law_draw
    g_law_draw := He.glo_ok X G (c.fact 7 rfl)
    b_law_draw := F_law_draw.bindsN fun _ _ _ _ _ _ us hl => (match us, hl with | [_, _], _ => rfl)
    fd_law_number := fd_law_number
    F_law_number := F_law_number
    g_law_number := He.glo_ok X G (c.fact 8 rfl)
    b_law_number := F_law_number.bindsN fun _ _ _ _ _ _ us hl => (match us, hl with | [_], _ => rfl)
    fd_law_lines := fd_law_lines
    F_law_lines := F_law_lines
    g_law_lines := He.glo_ok X G (c.fact 9 rfl)
    b_law_lines := F_law_lines.bindsN fun _ _ _ _ _ _ us hl => (match us, hl with | [_], _ => rfl)
    fd_law_cut := fd_law_cut
    F_law_cut := F_law_cut
    g_law_cut := He.glo_ok X G (c.fact 10 rfl)
    b_law_cut := F_law_cut.bindsN fun _ _ _ _ _ _ us hl => (match us, hl with | [_, _, _], _ => rfl)
    fd_law_pages := fd_law_pages
    F_law_pages := F_law_pages
    g_law_pages := He.glo_ok X G (c.fact 11 rfl)
    b_law_pages := F_law_pages.bindsN fun _ _ _ _ _ _ us hl => (match us, hl with | [_, _], _ => rfl)
    fd_law_standings := fd_law_standings
    F_law_standings := F_law_standings
    g_law_standings := He.glo_ok X G (c.fact 12 rfl)
    b_law_standings := F_law_standings.bindsN fun _ _ _ _ _ _ us hl => (match us, hl with | [_], _ => rfl)
    fd_law_lead := fd_law_lead
    F_law_lead := F_law_lead
    g_law_lead := He.glo_ok X G (c.fact 13 rfl)
    b_law_lead := F_law_lead.bindsN fun _ _ _ _ _ _ us hl => (match us, hl with | [_], _ => rfl)
    fd_law_block := fd_law_block
    F_law_block := F_law_block
    g_law_block := He.glo_ok X G (c.fact 14 rfl)
    b_law_block := F_law_block.bindsN fun _ _ _ _ _ _ us hl => (match us, hl with | [_, _], _ => rfl)
    fd_law_length := fd_law_length
    F_law_length := F_law_length
    g_law_length := He.glo_ok X G (c.fact 15 rfl)
    b_law_length := F_law_length.bindsN fun _ _ _ _ _ _ us hl => (match us, hl with | [_], _ => rfl)
    fd_law_odd := fd_law_odd
    F_law_odd := F_law_odd
    g_law_odd := He.glo_ok X G (c.fact 16 rfl)
    b_law_odd := F_law_odd.bindsN fun _ _ _ _ _ _ us hl => (match us, hl with | [_, _], _ => rfl)
    fd_law_behind := fd_law_behind
    F_law_behind := F_law_behind
    g_law_behind := He.glo_ok X G (c.fact 17 rfl)
    b_law_behind := F_law_behind.bindsN fun _ _ _ _ _ _ us hl => (match us, hl with | [_, _, _], _ => rfl)
    fd_law_resumed := fd_law_resumed
    F_law_resumed := F_law_resumed
    g_law_resumed := He.glo_ok X G (c.fact 18 rfl)
    b_law_resumed := F_law_resumed.bindsN fun _ _ _ _ _ _ us hl => (match us, hl with | [_, _, _], _ => rfl)
    fd_law_is_block := fd_law_is_block
    F_law_is_block := F_law_is_block
    g_law_is_block := He.glo_ok X G (c.fact 19 rfl)
    b_law_is_block := F_law_is_block.bindsN fun _ _ _ _ _ _ us hl => (match us, hl with | [_], _ => rfl)
    fd_law_right := fd_law_right
    F_law_right := F_law_right
    g_law_right := He.glo_ok X G (c.fact 20 rfl)
    b_law_right := F_law_right.bindsN fun _ _ _ _ _ _ us hl => (match us, hl with | [_, _, _, _], _ => rfl)
    fd_law := fd_law
    F_law := F_law
    g_law := He.glo_ok X G (c.fact 21 rfl)
    b_law := F_law.bindsN fun _ _ _ _ _ _ us hl => (match us, hl with | [_], _ => rfl)
    z_abs := He.free_ok X G (c.fact 22 rfl)
    z_all := He.free_ok X G (c.fact 23 rfl)
    z_bool := He.free_ok X G (c.fact 24 rfl)
    z_enumerate := He.free_ok X G (c.fact 25 rfl)
    z_int := He.free_ok X G (c.fact 26 rfl)
    z_isinstance := He.free_ok X G (c.fact 27 rfl)
    z_len := He.free_ok X G (c.fact 28 rfl)
    z_list := He.free_ok X G (c.fact 29 rfl)
    z_max := He.free_ok X G (c.fact 30 rfl)
    z_min := He.free_ok X G (c.fact 31 rfl)
    z_range := He.free_ok X G (c.fact 32 rfl)
    z_sorted := He.free_ok X G (c.fact 33 rfl)
    z_str := He.free_ok X G (c.fact 34 rfl)
    z_tuple := He.free_ok X G (c.fact 35 rfl)
    c_TOP := He.glo_ok X G (c.fact 36 rfl)
    v_TOP := fun G => ⟨_, _, _, _, rfl, He.tupB_ok (c.test 0 rfl) G, rfl, rfl, rfl⟩
    fdx_BadStanding := fd_x_BadStanding
    Fx_BadStanding := F_x_BadStanding
    bx_BadStanding := F_x_BadStanding.bindsN fun _ _ _ _ _ _ us hl => (match us, hl with | [_, _], _ => rfl)
    gx_BadStanding := He.glo_ok X G (c.fact 37 rfl)
    x_BadStanding := xcB_ok (c.test 1 rfl)
    nx_BadStanding_standing := He.noat_ok (c.fact 38 rfl)
    exm_BadStanding := He.exm_ok (c.fact 39 rfl)
    gx_PressError := He.glo_ok X G (c.fact 40 rfl)
    ib_PressError := ibB_ok (c.test 2 rfl) }
  let PT : PgT K mg := {
    g_Page := He.glo_ok X G (c.fact 41 rfl)
    c := He.cls_ok (c.fact 42 rfl)
    z_range := T.z_range
    mkr := He.mkr_ok (c.fact 43 rfl)
    n_length := He.noat_ok (c.fact 44 rfl)
    n_put_lines := He.noat_ok (c.fact 45 rfl)
    n_loose := He.noat_ok (c.fact 46 rfl)
    n_high := He.noat_ok (c.fact 47 rfl)
    n_is_barred := He.noat_ok (c.fact 48 rfl)
    n_unknown := He.noat_ok (c.fact 49 rfl)
    fd_stay := fd_Page_stay
    F_stay := F_Page_stay
    b_stay := F_Page_stay.bindsN fun _ _ _ _ _ _ us hl => (match us, hl with | [_], _ => rfl)
    fd_begin := fd_Page_begin
    F_begin := F_Page_begin
    b_begin := F_Page_begin.bindsN fun _ _ _ _ _ _ us hl => (match us, hl with | [_], _ => rfl)
    fd_go_over := fd_Page_go_over
    F_go_over := F_Page_go_over
    b_go_over := F_Page_go_over.bindsN fun _ _ _ _ _ _ us hl => (match us, hl with | [_], _ => rfl)
    fd_line := fd_Page_line
    F_line := F_Page_line
    b_line := F_Page_line.bindsN fun _ _ _ _ _ _ us hl => (match us, hl with | [_, _, _], _ => rfl)
    fd_block := fd_Page_block
    F_block := F_Page_block
    fd_finish := fd_Page_finish
    F_finish := F_Page_finish
    b_finish := F_Page_finish.bindsN fun _ _ _ _ _ _ us hl => (match us, hl with | [_], _ => rfl)
    fd_init := fd_Page_init
    F_init := F_Page_init
    b_init := F_Page_init.bindsN fun _ _ _ _ _ _ us hl => (match us, hl with | [_, _], _ => rfl)
    m_stay := He.meth_ok (c.fact 50 rfl)
    m_begin := He.meth_ok (c.fact 51 rfl)
    m_go_over := He.meth_ok (c.fact 52 rfl)
    m_line := He.meth_ok (c.fact 53 rfl)
    m_block := He.meth_ok (c.fact 54 rfl)
    m_finish := He.meth_ok (c.fact 55 rfl)
    fd_resumed := fd_Page_resumed
    F_resumed := F_Page_resumed
    b_resumed := F_Page_resumed.bindsN fun _ _ _ _ _ _ us hl => (match us, hl with | [_, _], _ => rfl)
    s_resumed := smB_ok (c.test 3 rfl) }
  have e := hfa.symm.trans T.g_law
  cases e
  have b := FunD.bindsA (ps := ["_law_script"]) F_law fun _ _ _ _ _ _ us hl => match us, hl with | [_], _ => rfl
  exact ⟨fd_law, fun s v => b s [v] rfl, fun base _ _ TB => ok_law T PT TB⟩
end Mr
open PySem PySem.W PySem.Calls PyProof.Rows
theorem PySem.Challenge.cw_pressalike_k32_whole_standings_parted_holds : PySem.Challenge.rw_pressalike_k32_whole_standings_parted.Holds := by
  w_on; o_law
  refine HandSHeadRun.head_any (r := OpenLaw.row PySem.Challenge.rw_pressalike_k32_whole_standings_parted) (q := view (OpenLaw.row PySem.Challenge.rw_pressalike_k32_whole_standings_parted).prog [32]) (H := Mr.hk) (ob := Mr.ob) (M := 9000) (loose := ["_wall", "PressError", "BadStanding", "TOP", "standings", "is_number", "checked_standing", "next_line", "parting_blocks", "Page", "_law_bag", "_law_draw", "_law_number", "_law_lines", "_law_cut", "_law_pages", "_law_standing", "_law_standings", "_law_lead", "_law_block", "_law_length", "_law_odd", "_law_refused", "_law_behind", "_law_resumed", "_law_is_block", "_law_right"]) (d := HandSHeadRun.topDef (OpenLaw.row PySem.Challenge.rw_pressalike_k32_whole_standings_parted).prog 32) (kwd := []) Mr.ob_eq
    (by kernel_rfl) (fun s => by kernel_rfl) Mr.run (by kernel_rfl) (by kernel_rfl) (by kernel_rfl) (by rfl) (by first | assumption | decide +kernel) (by decide +kernel) ⟨rfl, rfl, rfl, rfl, rfl, by decide +kernel⟩ ?hw ?hc
  case hw => w_witness2
  case hc =>
    refine LamX.walk_ofTsE (l := PySem.Challenge.rw_pressalike_k32_whole_standings_parted) (n := 63) (k := 8) (x := "_law_script") (CX := fun _ => L2.CX0) rfl (by decide) (by kernel_rfl) ⟨rfl, by decide, by decide⟩ ?F (fun _ _ _ _ _ z => z)
    intro w mg fa h Y G hmg0
    obtain ⟨K, KX, c⟩ := Y
    have hmg : mg ("law" : PySem.Str) = some (.ref fa) := by
      have e : (HandSHeadRun.topDef (OpenLaw.row PySem.Challenge.rw_pressalike_k32_whole_standings_parted).prog 32).name = ("law" : PySem.Str) := by kernel_rfl
      rw [← e]
      exact hmg0
    obtain ⟨fd, hb, hF⟩ := Mr.facts (P := (PySem.Challenge.rw_pressalike_k32_whole_standings_parted).prog) (w := w) KX G hmg c
    refine ⟨K, KX, fd, Mr.tfs.map (He.cT K), Mr.sp_law K, fun p hp => ?_, fun p hp => ?_, fun p hp => ?_, hb, fun H a ns hl hbits hH hS => ?_, fun base hK hN hTB => hF base hK hN fun p hp => hTB _ (List.mem_map.mpr ⟨p, hp, rfl⟩)⟩
    · obtain ⟨q, hq, rfl⟩ := List.mem_map.mp hp
      exact c.empty q hq
    · obtain ⟨q, hq, rfl⟩ := List.mem_map.mp hp
      exact c.out q hq
    · obtain ⟨q, hq, rfl⟩ := List.mem_map.mp hp
      exact PySem.W.codeHd_of_K KX (c.hd q hq)
    · have hm : ∀ p ∈ Mr.tbs K, ∃ q ∈ Mr.tfs, p.1 = (He.cT K q).2 := by
        intro p hp
        simp only [Mr.tbs, List.mem_cons, List.not_mem_nil, or_false] at hp
        simp only [Mr.tfs, List.mem_cons, List.not_mem_nil, or_false]
        rcases hp with rfl <;> exact ⟨_, by simp, rfl⟩
      obtain ⟨G1, S, hG⟩ := Mr.lam_start (T := Mr.tbs K) hS (fun p hp => by
        obtain ⟨q, hq, e⟩ := hm p hp
        rw [e]; exact hH _ (List.mem_map.mpr ⟨q, hq, rfl⟩)) (fun p hp => by
        obtain ⟨q, hq, e⟩ := hm p hp
        rw [e]; exact c.out q hq) (of_decide_eq_true (Mr.SaysE.test c.t 4 rfl))
      exact ⟨G1, [], .ref a, ns, _, rfl, S, ⟨a, _, rfl, hG, Mr.Al.ofSc⟩, Mr.TbR.start, Mr.NoC.nil, true, Mr.law_plain ns hl, fun _ _ _ _ _ _ => rfl⟩
